import PyProof.Rows.All
import Wide.All
import OpenK.AllK
import Wide.FinOn
import PyProof.EqAt
import PyProof.EqKinds
import PyProof.TupleCall
import PyProof.ReprRoads
import HandS.ForMost
import HandS.Evl
import HandS.Defaults
import HandS.IsInst
import HandS.TupAny
import HandS.Style
import HandS.Exc
import HandS.Walk
import HandS.Zip
import HandS.Words
import HandS.HeadHook4
import HandS.ExcField
import HandS.Head2
import KE.KUnpackStar
import HandS.Zip0
import PyProof.Draws
import PyProof.EnumMake
import PyProof.EnumFor
import KE.KDictZip
import HandS.Strs
import HandS.More
import PyProof.TupleOfSeq
import HandS.DictComp
import HandS.WrittenGet
import HandS.Iter
import HandS.ExcInit
import HandS.Lambda
import HandS.Text
import HandS.Codes
import HandS.EndTab
import PySem.Challenge.RW_wakehall_k45_whole_jumps
/-! KW1 -/
set_option Elab.async false
set_option linter.all false
set_option maxRecDepth 100000
set_option maxHeartbeats 1000000
/-! the W layer: readings over data -/
namespace K45
open PySem PySem.Spec PyProof.Rows L2
abbrev Rv := List (Option PyData)
abbrev Ex := Evl.Ex
theorem Ex.refl (H : Hp) : Ex H H := Evl.Ex.refl H
theorem Ex.trans {H H1 H2 : Hp} (a : Ex H H1) (b : Ex H1 H2) : Ex H H2 := Evl.Ex.trans a b
theorem Ex.new {H : Hp} {p : Addr} {o : HO} (h : H p = none) : Ex H (upd H p o) := Evl.Ex.new h
/-- a mode: what may change, slots that hold no data, what is known of the state (a count goes along) -/
structure Md where
  out : List Addr
  keep : List (Nat × V)
  S : Nat → Hp → Prop
  sx : ∀ n H H', Ex H H' → S n H → S n H'
  sd : ∀ n H b, S n H → b ∈ out → (∀ xs, ¬ Rd H b (.lst xs)) ∧ (∀ xs, ¬ Rd H b (.tup xs)) ∧ ∀ bs : List (Str × Bool), H b ≠ some (.dK (bs.map fun p => (Sum.inr p.1, V.bl p.2)))
  su : ∀ n0 H0 n H l xs ys, S n0 H0 → H0 l = none → S n H → H l = some (.lst xs) → S n (upd H l (.lst ys))
  tb : Bool := false
def pureM : Md where
  out := []
  keep := []
  S := fun _ _ => True
  sx := fun _ _ _ _ h => h
  sd := fun _ _ b _ h => absurd h (by simp)
  su := fun _ _ _ _ _ _ _ _ _ _ _ => trivial
/-- what may change is out; by tb tables, too -/
def Xt (m : Md) (H H' : Hp) : Prop := ∀ b o, b ∉ m.out → (m.tb = true → ∀ ps, o ≠ .tbl ps) → H b = some o → H' b = some o
theorem Xt.refl (m : Md) (H : Hp) : Xt m H H := fun _ _ _ _ h => h
theorem Xt.trans {m : Md} {H H1 H2 : Hp} (a : Xt m H H1) (b : Xt m H1 H2) : Xt m H H2 := fun c o n t h => b c o n t (a c o n t h)
theorem Xt.of {m : Md} {H H' : Hp} (e : Ex H H') : Xt m H H' := fun b o _ _ h => e b o h
theorem Xt.pure {H H' : Hp} (x : Xt pureM H H') : Ex H H' := fun b o h => x b o (by simp [pureM]) (by simp [pureM]) h

/-! ### data at a value: a list is one that may be written, a tuple any -/
mutual
inductive Dq (K : PySem.W.Frag) (H : Hp) : V → PyData → Prop
  | non : Dq K H .non .none
  | bl (b : Bool) : Dq K H (.bl b) (.bool b)
  | int (i : Int) : Dq K H (.int i) (.int i)
  | str (x : Str) : Dq K H (.str x) (.str x)
  | lst {a : Addr} {xs : List V} {ds : List PyData} : H a = some (.lst xs) → DqA K H xs ds → Dq K H (.ref a) (.list ds)
  | tup {a : Addr} {xs : List V} {ds : List PyData} : SqT K H a xs → DqA K H xs ds → Dq K H (.ref a) (.tuple ds)
  | dic {a : Addr} {bs : List (Str × Bool)} {es : List (PyData × PyData)} : es = (bs.map fun p => (PyData.str p.1, PyData.bool p.2)) → H a = some (.dK (bs.map fun p => (Sum.inr p.1, V.bl p.2))) → Dq K H (.ref a) (.dict es)
inductive DqA (K : PySem.W.Frag) (H : Hp) : List V → List PyData → Prop
  | nil : DqA K H [] []
  | cons {v : V} {vs : List V} {d : PyData} {ds : List PyData} : Dq K H v d → DqA K H vs ds → DqA K H (v :: vs) (d :: ds)
end
mutual
theorem Dq.dp {K : PySem.W.Frag} {H : Hp} : ∀ (d : PyData) (v : V), d.canLay0 = true → Dq K H v d → Dp K H v d
  | .none, _, _, h => by cases h; exact .non
  | .bool b, _, _, h => by cases h; exact .bl b
  | .int i, _, _, h => by cases h; exact .int i
  | .str x, _, _, h => by cases h; exact .str x
  | .list ds, _, c, h => by
    cases h with
    | lst hs ha => exact .lst (SqL.of hs) (DqA.dp ds _ (by simpa [PyData.canLay0] using c) ha)
  | .tuple ds, _, c, h => by
    cases h with
    | tup hs ha => exact .tup hs (DqA.dp ds _ (by simpa [PyData.canLay0] using c) ha)
  | .dict _, _, c, h => by simp [PyData.canLay0] at c
theorem DqA.dp {K : PySem.W.Frag} {H : Hp} : ∀ (ds : List PyData) (vs : List V), PyData.canLayAll0 ds = true → DqA K H vs ds → DpAll K H vs ds
  | [], _, _, h => by cases h; exact .nil
  | d :: ds, _, c, h => by
    have c2 : d.canLay0 = true ∧ PyData.canLayAll0 ds = true := by simpa [PyData.canLayAll0] using c
    cases h with
    | cons h1 h2 => exact .cons (Dq.dp d _ c2.1 h1) (DqA.dp ds _ c2.2 h2)
end
theorem Dq.dp' {K : PySem.W.Frag} {H : Hp} {d : PyData} {v : V} (h : Dq K H v d) (c : SeqAt.shaped d = true) : Dp K H v d := Dq.dp d v (SeqAt.canLay_of_shaped c) h

/-! ### what data stands where, kept -/
section
variable {K : PySem.W.Frag} {H H' : Hp} {m : Md} {n : Nat}
theorem rd_nt {a : Addr} {u o : HO} (h : Rd H a u) (n : ∀ ps, u ≠ .tbl ps) (e : H a = some o) : ∀ ps, o ≠ .tbl ps := fun ps z => by
  rcases h with h | ⟨v, h⟩
  · rw [e] at h
    exact n ps (by rw [← z]; exact (Option.some.inj h).symm)
  · rw [e] at h
    cases Option.some.inj h
    cases z
theorem rd_keep {a : Addr} {u : HO} (h : Rd H a u) (k : ∀ o, H a = some o → H' a = some o) : Rd H' a u := by
  rcases h with h | ⟨o, h⟩
  · exact .inl (k _ h)
  · exact .inr ⟨o, k _ h⟩
mutual
theorem dp_keep (kl : ∀ a xs, H a = some (.lst xs) → H' a = some (.lst xs)) (kt : ∀ a xs, SqT K H a xs → SqT K H' a xs) (kd : ∀ a (bs : List (Str × Bool)), H a = some (.dK (bs.map fun p => (Sum.inr p.1, V.bl p.2))) → H' a = some (.dK (bs.map fun p => (Sum.inr p.1, V.bl p.2)))) : ∀ (d : PyData) (v : V), Dq K H v d → Dq K H' v d
  | .none, _, h => by cases h; exact .non
  | .bool b, _, h => by cases h; exact .bl b
  | .int i, _, h => by cases h; exact .int i
  | .str x, _, h => by cases h; exact .str x
  | .list ds, _, h => by
    cases h with
    | lst hs ha => exact .lst (kl _ _ hs) (dpAll_keep kl kt kd ds _ ha)
  | .tuple ds, _, h => by
    cases h with
    | tup hs ha => exact .tup (kt _ _ hs) (dpAll_keep kl kt kd ds _ ha)
  | .dict _, _, h => by
    cases h with
    | dic q e => exact .dic q (kd _ _ e)
theorem dpAll_keep (kl : ∀ a xs, H a = some (.lst xs) → H' a = some (.lst xs)) (kt : ∀ a xs, SqT K H a xs → SqT K H' a xs) (kd : ∀ a (bs : List (Str × Bool)), H a = some (.dK (bs.map fun p => (Sum.inr p.1, V.bl p.2))) → H' a = some (.dK (bs.map fun p => (Sum.inr p.1, V.bl p.2)))) : ∀ (ds : List PyData) (vs : List V), DqA K H vs ds → DqA K H' vs ds
  | [], _, h => by cases h; exact .nil
  | d :: ds, _, h => by
    cases h with
    | cons h1 h2 => exact .cons (dp_keep kl kt kd d _ h1) (dpAll_keep kl kt kd ds _ h2)
end
theorem dp_ex {v : V} {d : PyData} (e : Ex H H') (h : Dq K H v d) : Dq K H' v d := dp_keep (fun _ _ h => e _ _ h) (fun _ _ h => Evl.ex_t e h) (fun _ _ h => e _ _ h) d v h
theorem da_ex {vs : List V} {ds : List PyData} (e : Ex H H') (h : DqA K H vs ds) : DqA K H' vs ds := dpAll_keep (fun _ _ h => e _ _ h) (fun _ _ h => Evl.ex_t e h) (fun _ _ h => e _ _ h) ds vs h
theorem xt_l {a : Addr} {xs : List V} (hS : m.S n H) (x : Xt m H H') (h : SqL K H a xs) : SqL K H' a xs := by
  rcases h with h | h
  · refine .inl (rd_keep h fun o e => x a o (fun hb => (m.sd n H a hS hb).1 xs h) (fun _ => rd_nt h (fun _ z => by cases z) e) e)
  · exact .inr h
theorem xt_t {a : Addr} {xs : List V} (hS : m.S n H) (x : Xt m H H') (h : SqT K H a xs) : SqT K H' a xs := by
  rcases h with h | h
  · refine .inl (rd_keep h fun o e => x a o (fun hb => (m.sd n H a hS hb).2.1 xs h) (fun _ => rd_nt h (fun _ z => by cases z) e) e)
  · exact .inr h
theorem xt_m {a : Addr} {xs : List V} (hS : m.S n H) (x : Xt m H H') (h : H a = some (.lst xs)) : H' a = some (.lst xs) := x a _ (fun hb => (m.sd n H a hS hb).1 xs (.inl h)) (fun _ _ z => by cases z) h
theorem xt_d {a : Addr} {bs : List (Str × Bool)} (hS : m.S n H) (x : Xt m H H') (h : H a = some (.dK (bs.map fun p => (Sum.inr p.1, V.bl p.2)))) : H' a = some (.dK (bs.map fun p => (Sum.inr p.1, V.bl p.2))) := x a _ (fun hb => (m.sd n H a hS hb).2.2 bs h) (fun _ _ z => by cases z) h
theorem dp_xt {v : V} {d : PyData} (hS : m.S n H) (x : Xt m H H') (h : Dq K H v d) : Dq K H' v d := dp_keep (fun _ _ h => xt_m hS x h) (fun _ _ h => xt_t hS x h) (fun _ _ h => xt_d hS x h) d v h
theorem da_xt {vs : List V} {ds : List PyData} (hS : m.S n H) (x : Xt m H H') (h : DqA K H vs ds) : DqA K H' vs ds := dpAll_keep (fun _ _ h => xt_m hS x h) (fun _ _ h => xt_t hS x h) (fun _ _ h => xt_d hS x h) ds vs h
theorem da_len : ∀ {vs : List V} {ds : List PyData}, DqA K H vs ds → vs.length = ds.length
  | _, _, .nil => rfl
  | _, _, .cons _ t => congrArg (· + 1) (da_len t)
theorem da_get : ∀ {vs : List V} {ds : List PyData} {i : Nat} {v : V}, DqA K H vs ds → vs[i]? = some v → ∃ d, ds[i]? = some d ∧ Dq K H v d
  | _, _, _, _, .nil, e => by simp at e
  | _, _, 0, _, .cons h _, e => by
    have e2 := Option.some.inj e
    subst e2
    exact ⟨_, rfl, h⟩
  | _, _, i + 1, _, .cons _ t, e => da_get (i := i) t (by simpa using e)
theorem da_at : ∀ {vs : List V} {ds : List PyData} {i : Nat} {d : PyData}, DqA K H vs ds → ds[i]? = some d → ∃ v, vs[i]? = some v ∧ Dq K H v d
  | _, _, _, _, .nil, e => by simp at e
  | _, _, 0, _, .cons h _, e => by
    have e2 := Option.some.inj e
    subst e2
    exact ⟨_, rfl, h⟩
  | _, _, i + 1, _, .cons _ t, e => da_at (i := i) t (by simpa using e)
theorem da_app : ∀ {vs us : List V} {ds es : List PyData}, DqA K H vs ds → DqA K H us es → DqA K H (vs ++ us) (ds ++ es)
  | _, _, _, _, .nil, t => t
  | _, _, _, _, .cons h q, t => .cons h (da_app q t)
theorem da_take : ∀ {vs : List V} {ds : List PyData} (k : Nat), DqA K H vs ds → DqA K H (vs.take k) (ds.take k)
  | _, _, 0, _ => .nil
  | _, _, _ + 1, .nil => .nil
  | _, _, k + 1, .cons h t => .cons h (da_take k t)
theorem da_drop : ∀ {vs : List V} {ds : List PyData} (k : Nat), DqA K H vs ds → DqA K H (vs.drop k) (ds.drop k)
  | _, _, 0, h => h
  | _, _, _ + 1, .nil => .nil
  | _, _, k + 1, .cons _ t => da_drop k t
theorem da_rev : ∀ {vs : List V} {ds : List PyData}, DqA K H vs ds → DqA K H vs.reverse ds.reverse
  | _, _, .nil => .nil
  | _, _, .cons h t => by
    rw [List.reverse_cons, List.reverse_cons]
    exact da_app (da_rev t) (.cons h .nil)
end

/-! ### the state -/
/-- slots hold data -/
structure Rst (K : PySem.W.Frag) (m : Md) (s : L2.St) (H : Hp) (r : Rv) (n : Nat) : Prop where
  dat : ∀ (i : Nat) (d : PyData), r[i]? = some (some d) → ∃ v, s[i]? = some (some v) ∧ Dq K H v d
  len : s.length = r.length
  kp : ∀ p ∈ m.keep, s[p.1]? = some (some p.2)
  st : m.S n H
section
variable {K : PySem.W.Frag} {H H' : Hp} {m : Md} {n n' : Nat} {s : L2.St} {r r' : Rv}
theorem Rst.go (R : Rst K m s H r n) (x : Xt m H H') (h : m.S n' H') : Rst K m s H' r n' :=
  ⟨fun i d e => let ⟨v, h1, h2⟩ := R.dat i d e; ⟨v, h1, dp_xt R.st x h2⟩, R.len, R.kp, h⟩
theorem Rst.ex (R : Rst K m s H r n) (x : Ex H H') : Rst K m s H' r n := R.go (.of x) (m.sx n H H' x R.st)
theorem Rst.set (R : Rst K m s H r n) {i : Nat} {v : V} {d : PyData} (h : Dq K H v d) (hk : ∀ p ∈ m.keep, p.1 ≠ i) : Rst K m (s.set i (some v)) H (r.set i (some d)) n := by
  refine ⟨fun j e q => ?_, by rw [List.length_set, List.length_set, R.len], fun p hp => ?_, R.st⟩
  · by_cases hj : i = j
    · subst hj
      by_cases hl : i < r.length
      · rw [List.getElem?_set_self hl] at q
        have e2 := Option.some.inj (Option.some.inj q)
        subst e2
        exact ⟨v, List.getElem?_set_self (by rw [R.len]; exact hl), h⟩
      · rw [List.getElem?_eq_none (by rw [List.length_set]; omega)] at q
        cases q
    · rw [List.getElem?_set_ne hj] at q
      rw [List.getElem?_set_ne hj]
      exact R.dat j e q
  · rw [List.getElem?_set_ne (Ne.symm (hk p hp))]
    exact R.kp p hp
/-- the value of a slot is forgotten -/
theorem Rst.setN (R : Rst K m s H r n) {i : Nat} (v : Option V) (hk : ∀ p ∈ m.keep, p.1 ≠ i) : Rst K m (s.set i v) H (r.set i none) n := by
  refine ⟨fun j e q => ?_, by rw [List.length_set, List.length_set, R.len], fun p hp => ?_, R.st⟩
  · by_cases hj : i = j
    · subst hj
      by_cases hl : i < r.length
      · rw [List.getElem?_set_self hl] at q
        have e2 := Option.some.inj q
        cases e2
      · rw [List.getElem?_eq_none (by rw [List.length_set]; omega)] at q
        cases q
    · rw [List.getElem?_set_ne hj] at q
      rw [List.getElem?_set_ne hj]
      exact R.dat j e q
  · rw [List.getElem?_set_ne (Ne.symm (hk p hp))]
    exact R.kp p hp
/-- less is known -/
def Le (a b : Rv) : Prop := a.length = b.length ∧ ∀ (i : Nat) (d : PyData), a[i]? = some (some d) → b[i]? = some (some d)
theorem Le.refl (a : Rv) : Le a a := ⟨rfl, fun _ _ h => h⟩
theorem Rst.le (R : Rst K m s H r n) (h : Le r' r) : Rst K m s H r' n := ⟨fun i d e => R.dat i d (h.2 i d e), R.len.trans h.1.symm, R.kp, R.st⟩
@[simp] def wipeR (r : Rv) : List Nat → Rv
  | [] => r
  | v :: vs => (wipeR r vs).set v none
theorem Rst.wipe (R : Rst K m s H r n) : ∀ {vs : List Nat}, (∀ p ∈ m.keep, p.1 ∉ vs) → Rst K m (L2.wipe s vs) H (wipeR r vs) n
  | [], _ => R
  | v :: vs, h => (R.wipe (vs := vs) fun p hp z => h p hp (List.mem_cons_of_mem _ z)).setN none fun p hp z => h p hp (by rw [z]; exact List.mem_cons_self)
end

/-! ### judgements -/
abbrev WE := Rv → Nat → (PyData → Nat → Prop) → Prop
abbrev WT := Rv → Nat → (Bool → Nat → Prop) → Prop
abbrev WA := Rv → Nat → (List PyData → Nat → Prop) → Prop
def tW (K : PySem.W.Frag) (m : Md) (W : WE) : TE := fun s H Q => ∃ r n P, Rst K m s H r n ∧ W r n P ∧ ∀ v H' d n', Xt m H H' → m.S n' H' → Dq K H' v d → P d n' → Q v H'
def tWT (K : PySem.W.Frag) (m : Md) (W : WT) : TT := fun s H Q => ∃ r n P, Rst K m s H r n ∧ W r n P ∧ ∀ b H' n', Xt m H H' → m.S n' H' → P b n' → Q b H'
def tWA (K : PySem.W.Frag) (m : Md) (W : WA) : TA := fun s H Q => ∃ r n P, Rst K m s H r n ∧ W r n P ∧ ∀ vs H' ds n', Xt m H H' → m.S n' H' → DqA K H' vs ds → P ds n' → Q vs H'
abbrev DE (X : Cx) (m : Md) (e : Expr) (W : WE) : Prop := PE X e (tW X.K m W)
abbrev DT (X : Cx) (m : Md) (e : Expr) (W : WT) : Prop := PT X e (tWT X.K m W)
abbrev DW (X : Cx) (m : Md) (e : Expr) (W : WT) : Prop := L2.PW X e (tWT X.K m W)
abbrev DA (X : Cx) (m : Md) (es : List Expr) (W : WA) : Prop := PA X es (tWA X.K m W)
theorem pe_by {X : Cx} {e : Expr} {t t' : TE} (h : PE X e t) (k : ∀ s H Q, t' s H Q → t s H Q) : PE X e t' := ⟨fun pins s st H Q I q => h.run pins s st H Q I (k _ _ _ q)⟩
theorem pt_by {X : Cx} {e : Expr} {t t' : TT} (h : PT X e t) (k : ∀ s H Q, t' s H Q → t s H Q) : PT X e t' := ⟨fun pins s st H Q I q => h.run pins s st H Q I (k _ _ _ q)⟩
theorem pw_by {X : Cx} {e : Expr} {t t' : TT} (h : L2.PW X e t) (k : ∀ s H Q, t' s H Q → t s H Q) : L2.PW X e t' := ⟨fun w pins s st H Q I q => h.run w pins s st H Q I (k _ _ _ q)⟩
theorem pa_by {X : Cx} {e : List Expr} {t t' : TA} (h : PA X e t) (k : ∀ s H Q, t' s H Q → t s H Q) : PA X e t' := ⟨fun p pins s st H Q I q => h.run p pins s st H Q I (k _ _ _ q)⟩

/-! ### names, constants, operators -/
section
variable {X : Cx} {m : Md} {a b c e : Expr} {es : List Expr} {Wa Wb Wc We : WE} {pos : Pos}
theorem de_v (i : Nat) {x : Str} (hN : X.N[i]? = some x := by rfl) (hv : Vis X.env.scope x := by first | exact Or.inl rfl | exact Or.inr (Or.inl rfl) | exact Or.inr (Or.inr rfl)) (hd : (x == ("__debug__" : Str)) = false := by decide)
    (hc : (x == ("__classdict__" : Str)) = false := by decide) : DE X m (.Name x pos) (fun r n P => ∃ d, r[i]? = some (some d) ∧ P d n) :=
  pe_by (pe_var hN hv hd hc) fun s H Q ⟨r, n, P, R, ⟨d, e, p⟩, k⟩ => by
    obtain ⟨v, e1, h⟩ := R.dat i d e
    exact ⟨v, e1, k v H d n (Xt.refl m H) R.st h p⟩
theorem de_c {v : V} {d : PyData} (h : PE X e (tC v)) (hd : ∀ H, Dq X.K H v d) : DE X m e (fun _ n P => P d n) :=
  pe_by h fun s H Q ⟨r, n, P, R, p, k⟩ => k v H d n (Xt.refl m H) R.st (hd H) p
theorem de_i {i j} : DE X m (.Constant (.int i) j pos) (fun _ n P => P (.int i) n) := de_c pe_int fun _ => .int i
theorem de_b {i j} : DE X m (.Constant (.bool i) j pos) (fun _ n P => P (.bool i) n) := de_c pe_bl fun _ => .bl i
theorem de_s {i j} : DE X m (.Constant (.str i) j pos) (fun _ n P => P (.str i) n) := de_c pe_str fun _ => .str i
theorem de_n {j} : DE X m (.Constant .none j pos) (fun _ n P => P .none n) := de_c pe_non fun _ => .non
/-- a module's constant -/
theorem de_g {x : Str} {u : Value} {v : V} {d : PyData} (hg : Gl X x) (hm : X.mg x = some u) (r : RelV v u) (hd : ∀ H, Dq X.K H v d) (hn : (x == ("__debug__" : Str)) = false := by decide) : DE X m (.Name x pos) (fun _ n P => P d n) :=
  de_c (pe_glob hg hm r hn) hd
/-- a two-place operation over data: in, out -/
def OpD (K : PySem.W.Frag) (r : R2) (f : PyData → PyData → Option PyData) (C : PyData → PyData → Prop) : Prop :=
  ∀ H x y a b d (Q : VK), Dq K H x a → Dq K H y b → f a b = some d → C a b → (∀ v H', Ex H H' → Dq K H' v d → Q v H') → r x y H Q
@[simp] def wOp (f : PyData → PyData → Option PyData) (C : PyData → PyData → Prop) (Wa Wb : WE) : WE := fun r n P => Wa r n fun a n1 => Wb r n1 fun b n2 => ∃ d, f a b = some d ∧ C a b ∧ P d n2
theorem w_op {r : R2} {f : PyData → PyData → Option PyData} {C : PyData → PyData → Prop} (h : OpD X.K r f C) {s : L2.St} {H : Hp} {Q : VK} (q : tW X.K m (wOp f C Wa Wb) s H Q) : tOp r (tW X.K m Wa) (tW X.K m Wb) s H Q := by
  obtain ⟨rv, n, P, R, w, k⟩ := q
  refine ⟨rv, n, _, R, w, fun x H1 da n1 x1 s1 h1 w1 => ⟨rv, n1, _, R.go x1 s1, w1, fun y H2 db n2 x2 s2 h2 ⟨d, ed, hc, p⟩ => ?_⟩⟩
  exact h H2 x y da db d Q (dp_xt s1 x2 h1) h2 ed hc fun v H3 e3 h3 => k v H3 d n2 ((x1.trans x2).trans (.of e3)) (m.sx _ _ _ e3 s2) h3 p
theorem de_bin {op : Operator} {r : R2} {f : PyData → PyData → Option PyData} {C : PyData → PyData → Prop} (ho : OpR X (binaryOp op) r) (hr : OpD X.K r f C) (ha : DE X m a Wa) (hb : DE X m b Wb) : DE X m (.BinOp a op b pos) (wOp f C Wa Wb) :=
  pe_by (pe_op ho ha hb) fun s H Q q => w_op hr q
theorem de_cmp {op : CmpOp} {r : R2} {f : PyData → PyData → Option PyData} {C : PyData → PyData → Prop} (ho : OpR X (compareOp op) r) (hr : OpD X.K r f C) (ha : DE X m a Wa) (hb : DE X m b Wb) (hm : behindInMarks op b = false) : DE X m (.Compare a [op] [b] pos) (wOp f C Wa Wb) :=
  pe_by (pe_cmpR ho ha hb hm) fun s H Q q => w_op hr q
theorem de_ix {r : R2} {f : PyData → PyData → Option PyData} {C : PyData → PyData → Prop} (ho : IxR X r) (hr : OpD X.K r f C) (ha : DE X m a Wa) (hb : DE X m b Wb) (hs : PlainIx b) : DE X m (.Subscript a b pos) (wOp f C Wa Wb) :=
  pe_by (pe_ix ho ha hb hs) fun s H Q q => w_op hr q
/-- a value that is a truth, as a test -/
@[simp] def wB (W : WE) : WT := fun r n P => W r n fun d n1 => ∃ k, d = .bool k ∧ P k n1
theorem w_B {s : L2.St} {H : Hp} {Q : Bool → Hp → Prop} (q : tWT X.K m (wB Wa) s H Q) : tB (tW X.K m Wa) s H Q := by
  obtain ⟨rv, n, P, R, w, k⟩ := q
  refine ⟨rv, n, _, R, w, fun v H1 d n1 x1 s1 h1 ⟨b, e, p⟩ => ?_⟩
  subst e
  cases h1
  exact ⟨b, rfl, k b H1 n1 x1 s1 p⟩
theorem dt_v (h : DE X m e We) (he : ∀ whole, isTrue e X.env whole = (do let v ← whole; standAt e.pos; holding [v] (truthy v)) := by intro _; rfl) : DT X m e (wB We) :=
  pt_by (pt_val h he) fun s H Q q => w_B q
theorem dt_cmp {op : CmpOp} {r : R2} {f : PyData → PyData → Option PyData} {C : PyData → PyData → Prop} (ho : OpR X (compareOp op) r) (hr : OpD X.K r f C) (ha : DE X m a Wa) (hb : DE X m b Wb) (hm : behindInMarks op b = false) : DT X m (.Compare a [op] [b] pos) (wB (wOp f C Wa Wb)) :=
  pt_by (pt_cmpR ho ha hb hm) fun s H Q q => by
    obtain ⟨rv, n, P, R, w, k⟩ := q
    refine w_op hr ⟨rv, n, _, R, w, fun v H1 d n1 x1 s1 h1 ⟨b, e, p⟩ => ?_⟩
    subst e
    cases h1
    exact ⟨b, rfl, k b H1 n1 x1 s1 p⟩
/-! and, or, not: tests -/
variable {Ta Tb : WT} {rest : List Expr}
@[simp] def wAnd (Ta Tb : WT) : WT := fun r n P => Ta r n fun c n1 => if c = true then Tb r n1 P else P false n1
@[simp] def wOr (Ta Tb : WT) : WT := fun r n P => Ta r n fun c n1 => if c = true then P true n1 else Tb r n1 P
@[simp] def wNot (Ta : WT) : WT := fun r n P => Ta r n fun c n1 => P (!c) n1
theorem dw_and1 (ha : DT X m a Ta) : DW X m (.BoolOp .And [a] pos) Ta := pw_and1 ha
theorem dw_or1 (ha : DT X m a Ta) : DW X m (.BoolOp .Or [a] pos) Ta := pw_or1 ha
theorem dw_and (ha : DT X m a Ta) (hb : DW X m (.BoolOp .And (b :: rest) pos) Tb) : DW X m (.BoolOp .And (a :: b :: rest) pos) (wAnd Ta Tb) :=
  pw_by (pw_and ha hb) fun s H Q ⟨rv, n, P, R, w, k⟩ => ⟨rv, n, _, R, w, fun c H1 n1 x1 s1 p => by
    cases c with
    | true => exact ⟨rv, n1, P, R.go x1 s1, p, fun b H2 n2 x2 s2 p2 => k b H2 n2 (x1.trans x2) s2 p2⟩
    | false => exact k false H1 n1 x1 s1 p⟩
theorem dw_or (ha : DT X m a Ta) (hb : DW X m (.BoolOp .Or (b :: rest) pos) Tb) : DW X m (.BoolOp .Or (a :: b :: rest) pos) (wOr Ta Tb) :=
  pw_by (pw_or ha hb) fun s H Q ⟨rv, n, P, R, w, k⟩ => ⟨rv, n, _, R, w, fun c H1 n1 x1 s1 p => by
    cases c with
    | true => exact k true H1 n1 x1 s1 p
    | false => exact ⟨rv, n1, P, R.go x1 s1, p, fun b H2 n2 x2 s2 p2 => k b H2 n2 (x1.trans x2) s2 p2⟩⟩
theorem dt_not (ha : DT X m a Ta) : DT X m (.UnaryOp .Not a pos) (wNot Ta) :=
  pt_by (pt_not ha) fun s H Q ⟨rv, n, P, R, w, k⟩ => ⟨rv, n, _, R, w, fun c H1 n1 x1 s1 p => k _ H1 n1 x1 s1 p⟩
/-! and, or, not: truths as values -/
@[simp] def wAndV (Wa Wb : WE) : WE := fun r n P => Wa r n fun d n1 => ∃ c, d = .bool c ∧ if c = true then Wb r n1 P else P (.bool false) n1
@[simp] def wOrV (Wa Wb : WE) : WE := fun r n P => Wa r n fun d n1 => ∃ c, d = .bool c ∧ if c = true then P (.bool true) n1 else Wb r n1 P
@[simp] def wNotV (Wa : WE) : WE := fun r n P => Wa r n fun d n1 => ∃ c, d = .bool c ∧ P (.bool (!c)) n1
theorem de_one {op} (h : DE X m a Wa) : DE X m (.BoolOp op [a] pos) Wa := pe_one h
theorem de_and (ha : DE X m a Wa) (hb : DE X m (.BoolOp .And (b :: rest) pos) Wb) : DE X m (.BoolOp .And (a :: b :: rest) pos) (wAndV Wa Wb) :=
  pe_by (pe_and ha hb) fun s H Q ⟨rv, n, P, R, w, k⟩ => ⟨rv, n, _, R, w, fun v H1 d n1 x1 s1 h1 ⟨c, e, p⟩ => by
    subst e
    cases h1
    refine ⟨c, rfl, ?_⟩
    cases c with
    | true => exact ⟨rv, n1, P, R.go x1 s1, p, fun v H2 d n2 x2 s2 h2 p2 => k v H2 d n2 (x1.trans x2) s2 h2 p2⟩
    | false => exact k _ H1 _ n1 x1 s1 (.bl false) p⟩
theorem de_or (ha : DE X m a Wa) (hb : DE X m (.BoolOp .Or (b :: rest) pos) Wb) : DE X m (.BoolOp .Or (a :: b :: rest) pos) (wOrV Wa Wb) :=
  pe_by (pe_or ha hb) fun s H Q ⟨rv, n, P, R, w, k⟩ => ⟨rv, n, _, R, w, fun v H1 d n1 x1 s1 h1 ⟨c, e, p⟩ => by
    subst e
    cases h1
    refine ⟨c, rfl, ?_⟩
    cases c with
    | true => exact k _ H1 _ n1 x1 s1 (.bl true) p
    | false => exact ⟨rv, n1, P, R.go x1 s1, p, fun v H2 d n2 x2 s2 h2 p2 => k v H2 d n2 (x1.trans x2) s2 h2 p2⟩⟩
theorem de_not (ha : DE X m a Wa) : DE X m (.UnaryOp .Not a pos) (wNotV Wa) :=
  pe_by (pe_not ha) fun s H Q ⟨rv, n, P, R, w, k⟩ => ⟨rv, n, _, R, w, fun v H1 d n1 x1 s1 h1 ⟨c, e, p⟩ => by
    subst e
    cases h1
    exact ⟨c, rfl, k _ H1 _ n1 x1 s1 (.bl _) p⟩⟩
@[simp] def wIf (T : WT) (Wa Wb : WE) : WE := fun r n P => T r n fun c n1 => if c = true then Wa r n1 P else Wb r n1 P
theorem de_if (hc : DT X m c Ta) (ha : DE X m a Wa) (hb : DE X m b Wb) : DE X m (.IfExp c a b pos) (wIf Ta Wa Wb) :=
  pe_by (pe_ifExp hc ha hb) fun s H Q ⟨rv, n, P, R, w, k⟩ => ⟨rv, n, _, R, w, fun c H1 n1 x1 s1 p => by
    cases c with
    | true => exact ⟨rv, n1, P, R.go x1 s1, p, fun v H2 d n2 x2 s2 h2 p2 => k v H2 d n2 (x1.trans x2) s2 h2 p2⟩
    | false => exact ⟨rv, n1, P, R.go x1 s1, p, fun v H2 d n2 x2 s2 h2 p2 => k v H2 d n2 (x1.trans x2) s2 h2 p2⟩⟩
/-- a chain of two comparisons -/
@[simp] def wChain (f f' : PyData → PyData → Option PyData) (C C' : PyData → PyData → Prop) (Wa Wb Wc : WE) : WE := fun r n P => Wa r n fun a n1 => Wb r n1 fun b n2 => ∃ k, f a b = some (.bool k) ∧ C a b ∧
  if k = true then Wc r n2 fun c n3 => ∃ d, f' b c = some d ∧ C' b c ∧ P d n3 else P (.bool false) n2
theorem w_chain {r r' : R2} {f f' : PyData → PyData → Option PyData} {C C' : PyData → PyData → Prop} (hr : OpD X.K r f C) (hr' : OpD X.K r' f' C') {s : L2.St} {H : Hp} {Q : VK} (q : tW X.K m (wChain f f' C C' Wa Wb Wc) s H Q) : tChain r r' (tW X.K m Wa) (tW X.K m Wb) (tW X.K m Wc) s H Q := by
  obtain ⟨rv, n, P, R, w, k⟩ := q
  refine ⟨rv, n, _, R, w, fun x H1 da n1 x1 s1 h1 w1 => ⟨rv, n1, _, R.go x1 s1, w1, fun y H2 db n2 x2 s2 h2 ⟨kk, ek, hc, p⟩ => ?_⟩⟩
  refine hr H2 x y da db _ _ (dp_xt s1 x2 h1) h2 ek hc fun v H3 e3 h3 => ?_
  cases h3
  refine ⟨kk, rfl, ?_⟩
  have s3 := m.sx _ _ _ e3 s2
  have x3 : Xt m H H3 := (x1.trans x2).trans (.of e3)
  cases kk with
  | true =>
    refine ⟨rv, n2, _, R.go x3 s3, p, fun z H4 dc n4 x4 s4 h4 ⟨d, ed, hc', p'⟩ => ?_⟩
    exact hr' H4 y z db dc d Q (dp_xt s3 x4 (dp_ex e3 h2)) h4 ed hc' fun v H5 e5 h5 => k v H5 d n4 ((x3.trans x4).trans (.of e5)) (m.sx _ _ _ e5 s4) h5 p'
  | false => exact k _ H3 _ n2 x3 s3 (.bl false) p
theorem de_chain {op op' : CmpOp} {r r' : R2} {f f' : PyData → PyData → Option PyData} {C C' : PyData → PyData → Prop} (ho : OpR X (compareOp op) r) (hr : OpD X.K r f C) (ho' : OpR X (compareOp op') r') (hr' : OpD X.K r' f' C') (ha : DE X m a Wa) (hb : DE X m b Wb) (hc : DE X m c Wc) (hm : lastMarks [op, op'] [b, c] = false := by with_unfolding_all rfl) :
    DE X m (.Compare a [op, op'] [b, c] pos) (wChain f f' C C' Wa Wb Wc) := pe_by (pe_chain ho ho' ha hb hc hm) fun s H Q q => w_chain hr hr' q
theorem dt_chain {op op' : CmpOp} {r r' : R2} {f f' : PyData → PyData → Option PyData} {C C' : PyData → PyData → Prop} (ho : OpR X (compareOp op) r) (hr : OpD X.K r f C) (ho' : OpR X (compareOp op') r') (hr' : OpD X.K r' f' C') (ha : DE X m a Wa) (hb : DE X m b Wb) (hc : DE X m c Wc) (hm : lastMarks [op, op'] [b, c] = false := by with_unfolding_all rfl) :
    DT X m (.Compare a [op, op'] [b, c] pos) (wB (wChain f f' C C' Wa Wb Wc)) := pt_by (pt_chain ho ho' ha hb hc hm) fun s H Q q => by
  obtain ⟨rv, n, P, R, w, k⟩ := q
  refine w_chain hr hr' ⟨rv, n, _, R, w, fun v H1 d n1 x1 s1 h1 ⟨b, e, p⟩ => ?_⟩
  subst e
  cases h1
  exact ⟨b, rfl, k b H1 n1 x1 s1 p⟩

/-! ### arguments, displays, calls -/
variable {As : WA}
@[simp] def waN : WA := fun _ n P => P [] n
@[simp] def waC (W : WE) (As : WA) : WA := fun r n P => W r n fun d n1 => As r n1 fun ds n2 => P (d :: ds) n2
theorem da_n : DA X m [] waN := pa_by pa_nil fun s H Q ⟨rv, n, P, R, w, k⟩ => k [] H [] n (Xt.refl m H) R.st .nil w
theorem da_c (ha : DE X m e We) (hr : DA X m es As) (hs : starEach (e :: es) X.env = (false, eval e X.env) :: starEach es X.env := by rfl) : DA X m (e :: es) (waC We As) :=
  pa_by (pa_cons ha hr hs) fun s H Q ⟨rv, n, P, R, w, k⟩ => ⟨rv, n, _, R, w, fun v H1 d n1 x1 s1 h1 w1 => ⟨rv, n1, _, R.go x1 s1, w1, fun vs H2 ds n2 x2 s2 h2 p => k _ H2 _ n2 (x1.trans x2) s2 (.cons (dp_xt s1 x2 h1) h2) p⟩⟩
@[simp] def wTup (As : WA) : WE := fun r n P => As r n fun ds n1 => ds.length ≤ 100000 ∧ P (.tuple ds) n1
@[simp] def wLst (As : WA) : WE := fun r n P => As r n fun ds n1 => ds.length ≤ 100000 ∧ P (.list ds) n1
theorem de_tup {x1} (h : DA X m es As) : DE X m (.Tuple es x1 pos) (wTup As) :=
  pe_by (pe_tup h) fun s H Q ⟨rv, n, P, R, w, k⟩ => ⟨rv, n, _, R, w, fun vs H1 ds n1 x1 s1 h1 ⟨hl, p⟩ => ⟨Evl.sz_of (by rw [da_len h1]; exact hl), fun q hq =>
    k _ _ _ n1 (x1.trans (.of (Ex.new hq))) (m.sx _ _ _ (Ex.new hq) s1) (.tup (SqT.of upd_same) (da_ex (Ex.new hq) h1)) p⟩⟩
theorem de_lst (h : DA X m es As) : DE X m (.List es pos) (wLst As) :=
  pe_by (pe_lst h) fun s H Q ⟨rv, n, P, R, w, k⟩ => ⟨rv, n, _, R, w, fun vs H1 ds n1 x1 s1 h1 ⟨hl, p⟩ => ⟨Evl.sz_of (by rw [da_len h1]; exact hl), fun q hq =>
    k _ _ _ n1 (x1.trans (.of (Ex.new hq))) (m.sx _ _ _ (Ex.new hq) s1) (.lst upd_same (da_ex (Ex.new hq) h1)) p⟩⟩
/-- a builtin called with data -/
def CallD (K : PySem.W.Frag) (r : List V → Hp → VK → Prop) (f : List PyData → Option PyData) (C : List PyData → Prop) : Prop :=
  ∀ H xs ds d (Q : VK), DqA K H xs ds → f ds = some d → C ds → (∀ v H', Ex H H' → Dq K H' v d → Q v H') → r xs H Q
@[simp] def wCB (f : List PyData → Option PyData) (C : List PyData → Prop) (As : WA) : WE := fun r n P => As r n fun ds n1 => ∃ d, f ds = some d ∧ C ds ∧ P d n1
theorem w_CB {r : List V → Hp → VK → Prop} {f : List PyData → Option PyData} {C : List PyData → Prop} (hr : CallD X.K r f C) {s : L2.St} {H : Hp} {Q : VK} (q : tW X.K m (wCB f C As) s H Q) : tCB r (tWA X.K m As) s H Q := by
  obtain ⟨rv, n, P, R, w, k⟩ := q
  refine ⟨rv, n, _, R, w, fun vs H1 ds n1 x1 s1 h1 ⟨d, ed, hc, p⟩ => ?_⟩
  exact hr H1 vs ds d Q h1 ed hc fun v H2 e2 h2 => k v H2 d n1 (x1.trans (.of e2)) (m.sx _ _ _ e2 s1) h2 p
theorem de_cb {id : String} {x : Str} {p : Pos} {r : List V → Hp → VK → Prop} {f : List PyData → Option PyData} {C : List PyData → Prop} (hc : CallR X (.builtin id) r) (hr : CallD X.K r f C) (hm : X.mg x = none) (hv : bootBuiltins x = some (.builtin id)) (ha : DA X m (e :: es) As) (hg : Gl X x := by rfl)
    (hn : x ≠ "__name__" := by decide) (hdb : (x == ("__debug__" : Str)) = false := by decide) (he : starEach (e :: es) X.env = (false, eval e X.env) :: starEach es X.env := by rfl) (hpl : (backTo pos (starEach es X.env)).any (·.1) = false := by rfl) :
    DE X m (.Call (.Name x p) (e :: es) [] pos) (wCB f C As) := pe_by (pe_callB hc hg hm hv ha hn hdb he hpl) fun s H Q q => w_CB hr q
theorem de_ct {id : String} {x : Str} {p : Pos} {r : List V → Hp → VK → Prop} {f : List PyData → Option PyData} {C : List PyData → Prop} (hc : CallR X (.type id) r) (hr : CallD X.K r f C) (hm : X.mg x = none) (hv : bootBuiltins x = some (.type id)) (ha : DA X m (e :: es) As) (hg : Gl X x := by rfl)
    (hn : x ≠ "__name__" := by decide) (hdb : (x == ("__debug__" : Str)) = false := by decide) (he : starEach (e :: es) X.env = (false, eval e X.env) :: starEach es X.env := by rfl) (hpl : (backTo pos (starEach es X.env)).any (·.1) = false := by rfl) :
    DE X m (.Call (.Name x p) (e :: es) [] pos) (wCB f C As) := pe_by (pe_callTy hc hg hm hv ha hn hdb he hpl) fun s H Q q => w_CB hr q
end
end K45
/-! KW2 -/
set_option Elab.async false
set_option linter.all false
set_option maxRecDepth 100000
set_option maxHeartbeats 1000000
/-! the W layer: operations over data -/
namespace K45
open PySem PySem.Spec PyProof.Rows L2
section
variable {X : Cx} {K : PySem.W.Frag} {H : Hp}
theorem op_or {f : Value → Value → Sem Value} {r r' : R2} (h : OpR X f r) (h' : OpR X f r') : OpR X f (fun x y H Q => r x y H Q ∨ r' x y H Q) := fun pins s st H x y v u Q I rx ry q => by
  rcases q with q | q
  · exact h pins s st H x y v u Q I rx ry q
  · exact h' pins s st H x y v u Q I rx ry q
theorem call_or {f : Value} {r r' : List V → Hp → VK → Prop} (h : CallR X f r) (h' : CallR X f r') : CallR X f (fun xs H Q => r xs H Q ∨ r' xs H Q) := fun pins s st H xs us Q I rx q => by
  rcases q with q | q
  · exact h pins s st H xs us Q I rx q
  · exact h' pins s st H xs us Q I rx q
/-! ### sums -/
@[simp] def addF : PyData → PyData → Option PyData
  | .int i, .int j => some (.int (i + j))
  | .tuple a, .tuple b => some (.tuple (a ++ b))
  | .list a, .list b => some (.list (a ++ b))
  | .str a, .str b => some (.str (a ++ b))
  | _, _ => none
@[simp] def addC : PyData → PyData → Prop
  | .tuple a, .tuple b => a.length + b.length ≤ 100000
  | .list a, .list b => a.length + b.length ≤ 100000
  | .str a, .str b => a.length + b.length ≤ 100000
  | _, _ => True
def rAddA (K : PySem.W.Frag) : R2 := fun x y H Q => (rI0 (fun i j => .int (i + j)) x y H Q ∨ rCatA K x y H Q) ∨ rCat x y H Q ∨ ∃ i j, x = .str i ∧ y = .str j ∧ i.length + j.length ≤ sizeLine ∧ Q (.str (i ++ j)) H
theorem op_addA : OpR X (binaryOp .Add) (rAddA X.K) := op_or (op_or op_add op_catA) (op_or op_cat op_add_str)
theorem dqa_nil {xs : List V} {ds : List PyData} (h : DqA K H xs ds) : xs = [] ↔ ds = [] := by
  cases h with
  | nil => simp
  | cons a b => simp
theorem od_add : OpD K (rAddA K) addF addC := fun H x y a b d Q hx hy e hc k => by
  cases hx with
  | int i =>
    cases hy with
    | int j => exact .inl (.inl ⟨i, j, rfl, rfl, k _ H (Ex.refl H) (by cases e; exact .int _)⟩)
    | _ => cases e
  | str i =>
    cases hy with
    | str j => exact .inr (.inr ⟨i, j, rfl, rfl, Evl.sz_of hc, k _ H (Ex.refl H) (by cases e; exact .str _)⟩)
    | _ => cases e
  | @lst p xs as hp ha =>
    cases hy with
    | @lst q ys bs hq hb =>
      cases e
      have hc : as.length + bs.length ≤ 100000 := hc
      exact .inr (.inl ⟨p, q, xs, ys, rfl, rfl, hp, hq, Evl.sz_of (by rw [da_len ha, da_len hb]; exact hc), fun z hz => k _ _ (Ex.new hz) (.lst upd_same (da_ex (Ex.new hz) (da_app ha hb)))⟩)
    | _ => cases e
  | @tup p xs as hp ha =>
    cases hy with
    | @tup q ys bs hq hb =>
      cases e
      have hc : as.length + bs.length ≤ 100000 := hc
      refine .inl (.inr ⟨p, q, xs, ys, rfl, rfl, hp, hq, Evl.sz_of (by rw [da_len ha, da_len hb]; exact hc), fun z => ?_, fun _ z => ?_, fun _ _ z hz => ?_⟩)
      · have e1 := (dqa_nil ha).mp z
        subst e1
        exact k _ H (Ex.refl H) (.tup hq hb)
      · have e1 := (dqa_nil hb).mp z
        subst e1
        exact k _ H (Ex.refl H) (by rw [List.append_nil]; exact .tup hp ha)
      · exact k _ _ (Ex.new hz) (.tup (SqT.of upd_same) (da_ex (Ex.new hz) (da_app ha hb)))
    | _ => cases e
  | _ => cases hy <;> cases e
/-! ### numbers -/
@[simp] def intF (g : Int → Int → PyData) : PyData → PyData → Option PyData
  | .int i, .int j => some (g i j)
  | _, _ => none
@[simp] def intC (C : Int → Int → Prop) : PyData → PyData → Prop
  | .int i, .int j => C i j
  | _, _ => True
@[simp] def noC : PyData → PyData → Prop := fun _ _ => True
theorem od_I {C : Int → Int → Prop} {g : Int → Int → V} {g' : Int → Int → PyData} (h : ∀ H i j, Dq K H (g i j) (g' i j)) : OpD K (rI C g) (intF g') (intC C) := fun H x y a b d Q hx hy e hc k => by
  cases hx with
  | int i =>
    cases hy with
    | int j => exact ⟨i, j, rfl, rfl, hc, k _ H (Ex.refl H) (by cases e; exact h H i j)⟩
    | _ => cases e
  | _ => cases hy <;> cases e
theorem od_I0 {g : Int → Int → V} {g' : Int → Int → PyData} (h : ∀ H i j, Dq K H (g i j) (g' i j)) : OpD K (rI0 g) (intF g') noC := fun H x y a b d Q hx hy e hc k => by
  cases hx with
  | int i =>
    cases hy with
    | int j => exact ⟨i, j, rfl, rfl, k _ H (Ex.refl H) (by cases e; exact h H i j)⟩
    | _ => cases e
  | _ => cases hy <;> cases e
abbrev subF := intF fun i j => .int (i - j)
abbrev mulF := intF fun i j => .int (i * j)
abbrev modF := intF fun i j => .int (i.fmod j)
abbrev divF := intF fun i j => .int (i.fdiv j)
abbrev powF := intF fun i j => .int (i ^ j.toNat)
abbrev ltF := intF fun i j => .bool (decide (i < j))
abbrev leF := intF fun i j => .bool (decide (i ≤ j))
abbrev gtF := intF fun i j => .bool (decide (j < i))
abbrev geF := intF fun i j => .bool (decide (j ≤ i))
theorem od_sub : OpD K (rI0 fun i j => .int (i - j)) subF noC := od_I0 fun _ _ _ => .int _
theorem od_mul : OpD K (rI CMul fun i j => .int (i * j)) mulF (intC CMul) := od_I fun _ _ _ => .int _
theorem od_mod : OpD K (rI (fun _ j => j ≠ 0) fun i j => .int (i.fmod j)) modF (intC fun _ j => j ≠ 0) := od_I fun _ _ _ => .int _
theorem od_div : OpD K (rI CDivN fun i j => .int (i.fdiv j)) divF (intC CDivN) := od_I fun _ _ _ => .int _
theorem od_pow : OpD K (rI CPow fun i j => .int (i ^ j.toNat)) powF (intC CPow) := od_I fun _ _ _ => .int _
theorem od_lt : OpD K (rI0 fun i j => .bl (decide (i < j))) ltF noC := od_I0 fun _ _ _ => .bl _
theorem od_le : OpD K (rI0 fun i j => .bl (decide (i ≤ j))) leF noC := od_I0 fun _ _ _ => .bl _
theorem od_gt : OpD K (rI0 fun i j => .bl (decide (j < i))) gtF noC := od_I0 fun _ _ _ => .bl _
theorem od_ge : OpD K (rI0 fun i j => .bl (decide (j ≤ i))) geF noC := od_I0 fun _ _ _ => .bl _
/-! ### ==, != -/
@[simp] def scalD : PyData → PyData → Bool
  | .int _, .int _ => true
  | .str _, .str _ => true
  | .bool _, .bool _ => true
  | _, _ => false
def eqC (a b : PyData) : Prop := scalD a b = true ∨ SeqAt.shaped a = true ∧ SeqAt.shaped b = true
@[simp] def eqF (a b : PyData) : Option PyData := some (.bool (PyData.eqv a b))
@[simp] def neF (a b : PyData) : Option PyData := some (.bool (!PyData.eqv a b))
theorem op_eqA (hu : X.A.units + 64 < cLine) : OpR X (compareOp .Eq) (fun x y H Q => rEq x y H Q ∨ rEqD X.K x y H Q) := op_or op_eq (op_eqD hu)
theorem op_neA (hu : X.A.units + 64 < cLine) : OpR X (compareOp .NotEq) (fun x y H Q => rNe x y H Q ∨ rNeD X.K x y H Q) := op_or op_ne (op_neD hu)
theorem eqv_bool (a b : Bool) : PyData.eqv (.bool a) (.bool b) = (a == b) := rfl
theorem eqv_int (a b : Int) : PyData.eqv (.int a) (.int b) = (a == b) := rfl
theorem eqv_str (a b : Str) : PyData.eqv (.str a) (.str b) = (a == b) := rfl
theorem eqv_tup (a b : List PyData) : PyData.eqv (.tuple a) (.tuple b) = PyData.eqvAll a b := rfl
theorem eqv_lst (a b : List PyData) : PyData.eqv (.list a) (.list b) = PyData.eqvAll a b := rfl
theorem eqvAll_cons (a b : PyData) (c d : List PyData) : PyData.eqvAll (a :: c) (b :: d) = (PyData.eqv a b && PyData.eqvAll c d) := rfl
theorem od_eq : OpD K (fun x y H Q => rEq x y H Q ∨ rEqD K x y H Q) eqF eqC := fun H x y a b d Q hx hy e hc k => by
  cases e
  rcases hc with hs | ⟨sa, sb⟩
  · refine .inl ?_
    cases hx with
    | int i => cases hy with
      | int j => exact ⟨rfl, k _ H (Ex.refl H) (by rw [eqv_int]; have z : decide (V.int i = V.int j) = (i == j) := by simp [Bool.beq_eq_decide_eq]
                                                   rw [z]; exact .bl _)⟩
      | _ => cases hs
    | str i => cases hy with
      | str j => exact ⟨rfl, k _ H (Ex.refl H) (by rw [eqv_str]; have z : decide (V.str i = V.str j) = (i == j) := by simp [Bool.beq_eq_decide_eq]
                                                   rw [z]; exact .bl _)⟩
      | _ => cases hs
    | bl i => cases hy with
      | bl j => exact ⟨rfl, k _ H (Ex.refl H) (by rw [eqv_bool]; have z : decide (V.bl i = V.bl j) = (i == j) := by simp [Bool.beq_eq_decide_eq]
                                                  rw [z]; exact .bl _)⟩
      | _ => cases hs
    | _ => cases hs
  · exact .inr ⟨a, b, hx.dp' sa, hy.dp' sb, sa, sb, k _ H (Ex.refl H) (.bl _)⟩
theorem od_ne : OpD K (fun x y H Q => rNe x y H Q ∨ rNeD K x y H Q) neF eqC := fun H x y a b d Q hx hy e hc k => by
  cases e
  rcases hc with hs | ⟨sa, sb⟩
  · refine .inl ?_
    cases hx with
    | int i => cases hy with
      | int j => exact ⟨rfl, k _ H (Ex.refl H) (by rw [eqv_int]; have z : decide (V.int i = V.int j) = (i == j) := by simp [Bool.beq_eq_decide_eq]
                                                   rw [z]; exact .bl _)⟩
      | _ => cases hs
    | str i => cases hy with
      | str j => exact ⟨rfl, k _ H (Ex.refl H) (by rw [eqv_str]; have z : decide (V.str i = V.str j) = (i == j) := by simp [Bool.beq_eq_decide_eq]
                                                   rw [z]; exact .bl _)⟩
      | _ => cases hs
    | bl i => cases hy with
      | bl j => exact ⟨rfl, k _ H (Ex.refl H) (by rw [eqv_bool]; have z : decide (V.bl i = V.bl j) = (i == j) := by simp [Bool.beq_eq_decide_eq]
                                                  rw [z]; exact .bl _)⟩
      | _ => cases hs
    | _ => cases hs
  · exact .inr ⟨a, b, hx.dp' sa, hy.dp' sb, sa, sb, k _ H (Ex.refl H) (.bl _)⟩
/-! ### is -/
@[simp] def isNF (a b : PyData) : Option PyData := match a, b with
  | .none, .none => some (.bool true)
  | .bool _, .none => some (.bool false)
  | .tuple _, .none => some (.bool false)
  | .list _, .none => some (.bool false)
  | .bool a, .bool b => some (.bool (decide (a = b)))
  | _, _ => none
@[simp] def notNF (a b : PyData) : Option PyData := match a, b with
  | .none, .none => some (.bool false)
  | .bool _, .none => some (.bool true)
  | .tuple _, .none => some (.bool true)
  | .list _, .none => some (.bool true)
  | .bool a, .bool b => some (.bool (!decide (a = b)))
  | _, _ => none
theorem op_isA : OpR X (compareOp .Is) (fun x y H Q => (y = .non ∧ Q (.bl (decide (x = .non))) H) ∨ rIsB x y H Q) := op_or op_isN op_isBl
theorem op_notA : OpR X (compareOp .IsNot) (fun x y H Q => (y = .non ∧ Q (.bl (!decide (x = .non))) H) ∨ rNotB x y H Q) := op_or op_notN op_notBl
theorem od_is : OpD K (fun x y H Q => (y = .non ∧ Q (.bl (decide (x = .non))) H) ∨ rIsB x y H Q) isNF noC := fun H x y a b d Q hx hy e hc k => by
  cases hx with
  | bl i => cases hy with
    | bl j => cases e; exact .inr ⟨i, j, rfl, rfl, k _ H (Ex.refl H) (.bl _)⟩
    | non => cases e; exact .inl ⟨rfl, k _ H (Ex.refl H) (.bl _)⟩
    | _ => cases e
  | non => cases hy with
    | non => cases e; exact .inl ⟨rfl, k _ H (Ex.refl H) (.bl _)⟩
    | _ => cases e
  | tup _ _ => cases hy with
    | non => cases e; exact .inl ⟨rfl, k _ H (Ex.refl H) (.bl _)⟩
    | _ => cases e
  | lst _ _ => cases hy with
    | non => cases e; exact .inl ⟨rfl, k _ H (Ex.refl H) (.bl _)⟩
    | _ => cases e
  | _ => cases hy <;> cases e
theorem od_isnot : OpD K (fun x y H Q => (y = .non ∧ Q (.bl (!decide (x = .non))) H) ∨ rNotB x y H Q) notNF noC := fun H x y a b d Q hx hy e hc k => by
  cases hx with
  | bl i => cases hy with
    | bl j => cases e; exact .inr ⟨i, j, rfl, rfl, k _ H (Ex.refl H) (.bl _)⟩
    | non => cases e; exact .inl ⟨rfl, k _ H (Ex.refl H) (.bl _)⟩
    | _ => cases e
  | non => cases hy with
    | non => cases e; exact .inl ⟨rfl, k _ H (Ex.refl H) (.bl _)⟩
    | _ => cases e
  | tup _ _ => cases hy with
    | non => cases e; exact .inl ⟨rfl, k _ H (Ex.refl H) (.bl _)⟩
    | _ => cases e
  | lst _ _ => cases hy with
    | non => cases e; exact .inl ⟨rfl, k _ H (Ex.refl H) (.bl _)⟩
    | _ => cases e
  | _ => cases hy <;> cases e
/-! ### in -/
@[simp] def flatD : PyData → Bool
  | .none => true
  | .bool _ => true
  | .int _ => true
  | .str _ => true
  | _ => false
@[simp] def inF (neg : Bool) (x c : PyData) : Option PyData := match c with
  | .tuple ds => some (.bool (if neg then !(ds.any fun y => PyData.eqv y x) else ds.any fun y => PyData.eqv y x))
  | .list ds => some (.bool (if neg then !(ds.any fun y => PyData.eqv y x) else ds.any fun y => PyData.eqv y x))
  | .str z => (match x with
    | .str w => (match w.cps.toList with
      | [c] => some (.bool (if neg then !decide (c ∈ z.cps.toList) else decide (c ∈ z.cps.toList)))
      | _ => none)
    | _ => none)
  | _ => none
@[simp] def inC (x c : PyData) : Prop := match c with
  | .tuple ds => flatD x = true ∧ ds.all flatD = true
  | .list ds => flatD x = true ∧ ds.all flatD = true
  | _ => True
theorem flat_of {v : V} {d : PyData} (h : Dq K H v d) (f : flatD d = true) : flatV v = true := by
  cases h with
  | non => rfl
  | bl _ => rfl
  | int _ => rfl
  | str _ => rfl
  | _ => cases f
theorem flats_of : ∀ {vs : List V} {ds : List PyData}, DqA K H vs ds → ds.all flatD = true → vs.all flatV = true
  | _, _, .nil, _ => rfl
  | _, _, .cons h t, f => by
    rw [List.all_cons, Bool.and_eq_true] at f
    rw [List.all_cons, flat_of h f.1, flats_of t f.2]
    rfl
theorem eqV_of {v u : V} {a b : PyData} (h : Dq K H v a) (h' : Dq K H u b) (f : flatD a = true) (f' : flatD b = true) : eqV v u = PyData.eqv a b := by
  cases h with
  | non => cases h' with
    | lst _ _ => cases f'
    | tup _ _ => cases f'
    | _ => rfl
  | bl _ => cases h' with
    | lst _ _ => cases f'
    | tup _ _ => cases f'
    | _ => rfl
  | int _ => cases h' with
    | lst _ _ => cases f'
    | tup _ _ => cases f'
    | _ => rfl
  | str _ => cases h' with
    | lst _ _ => cases f'
    | tup _ _ => cases f'
    | _ => rfl
  | _ => cases f
theorem inV_of {v : V} {a : PyData} (h : Dq K H v a) (f : flatD a = true) : ∀ {vs : List V} {ds : List PyData}, DqA K H vs ds → ds.all flatD = true → inV v vs = ds.any fun y => PyData.eqv y a
  | _, _, .nil, _ => rfl
  | x :: xs, d :: ds, .cons h' t, f' => by
    rw [List.all_cons, Bool.and_eq_true] at f'
    have e := inV_of h f t f'.2
    unfold inV at e ⊢
    rw [List.any_cons, List.any_cons, eqV_of h' h f'.1 f, e]
def rInS (neg : Bool) : R2 := fun x y H Q => ∃ (c : Nat) (z : Str), x = .str ⟨#[c]⟩ ∧ y = .str z ∧ Q (.bl (if neg then !decide (c ∈ z.cps.toList) else decide (c ∈ z.cps.toList))) H
theorem op_inA : OpR X (compareOp .In) (fun x y H Q => rIn X.K false x y H Q ∨ rInS false x y H Q) := op_or op_in_seq op_in_sign
theorem op_notInA : OpR X (compareOp .NotIn) (fun x y H Q => rIn X.K true x y H Q ∨ rInS true x y H Q) := op_or op_notIn_seq op_notIn_sign
theorem od_in (neg : Bool) : OpD K (fun x y H Q => rIn K neg x y H Q ∨ rInS neg x y H Q) (inF neg) inC := fun H x y a b d Q hx hy e hc k => by
  cases hy with
  | @tup p xs ds hp ha =>
    obtain ⟨fa, fb⟩ := hc
    cases e
    refine .inl ⟨p, xs, rfl, .inr hp, flat_of hx fa, flats_of ha fb, k _ H (Ex.refl H) ?_⟩
    rw [inV_of hx fa ha fb]
    exact .bl _
  | @lst p xs ds hp ha =>
    obtain ⟨fa, fb⟩ := hc
    cases e
    refine .inl ⟨p, xs, rfl, .inl (SqL.of hp), flat_of hx fa, flats_of ha fb, k _ H (Ex.refl H) ?_⟩
    rw [inV_of hx fa ha fb]
    exact .bl _
  | str z =>
    cases hx with
    | str w =>
      have e2 : (match w.cps.toList with
        | [c] => some (PyData.bool (if neg then !decide (c ∈ z.cps.toList) else decide (c ∈ z.cps.toList)))
        | _ => none) = some d := e
      obtain ⟨⟨l⟩⟩ := w
      match l, e2 with
      | [c], e2 =>
        cases e2
        exact .inr ⟨c, z, rfl, rfl, k _ H (Ex.refl H) (.bl _)⟩
    | _ => cases e
  | _ => cases e
/-! ### x[i] -/
@[simp] def ixF (a b : PyData) : Option PyData := match a, b with
  | .tuple ds, .int i => atI ds i
  | .list ds, .int i => atI ds i
  | .str z, .int i => (atI z.cps.toList i).map fun c => .str ⟨#[c]⟩
  | _, _ => none
@[simp] def ixC : PyData → PyData → Prop
  | .str z, _ => z.length ≤ 100000
  | _, _ => True
theorem atI_data {xs : List V} {ds : List PyData} {i : Int} {d : PyData} (h : DqA K H xs ds) (e : atI ds i = some d) : ∃ v, atI xs i = some v ∧ Dq K H v d := by
  unfold atI at e ⊢
  rw [da_len h]
  cases q : ixN ds.length i with
  | none =>
    rw [q] at e
    cases e
  | some j =>
    rw [q] at e
    exact da_at (i := j) h e
theorem od_ix : OpD K (rIx K) ixF ixC := fun H x y a b d Q hx hy e hc k => by
  cases hy with
  | int i =>
    cases hx with
    | @tup p xs ds hp ha =>
      obtain ⟨v, e1, h1⟩ := atI_data ha e
      exact .inr (.inl ⟨p, xs, i, v, rfl, rfl, hp, e1, k v H (Ex.refl H) h1⟩)
    | @lst p xs ds hp ha =>
      obtain ⟨v, e1, h1⟩ := atI_data ha e
      exact .inl ⟨p, xs, i, v, rfl, rfl, SqL.of hp, e1, k v H (Ex.refl H) h1⟩
    | str z =>
      have e2 : (atI z.cps.toList i).map (fun c => PyData.str ⟨#[c]⟩) = some d := e
      cases q : atI z.cps.toList i with
      | none =>
        rw [q] at e2
        cases e2
      | some c =>
        rw [q] at e2
        cases e2
        exact .inr (.inr ⟨z, i, c, rfl, rfl, Evl.sz_of hc, q, k _ H (Ex.refl H) (.str _)⟩)
    | _ => cases e
  | _ => cases hx <;> cases e
/-! ### x[i:j] -/
abbrev WO := Rv → Nat → (Option Int → Nat → Prop) → Prop
def tWO (K : PySem.W.Frag) (m : Md) (W : WO) : TO := fun s H Q => ∃ r n P, Rst K m s H r n ∧ W r n P ∧ ∀ o H' n', Xt m H H' → m.S n' H' → P o n' → Q o H'
abbrev DO (X : Cx) (m : Md) (e : Option Expr) (W : WO) : Prop := PO X e (tWO X.K m W)
theorem po_by {e : Option Expr} {t t' : TO} (h : PO X e t) (k : ∀ s H Q, t' s H Q → t s H Q) : PO X e t' := ⟨fun pins s st H Q I q => h.run pins s st H Q I (k _ _ _ q)⟩
variable {m : Md} {a b c e : Expr} {Wa Wb Wc We : WE} {pos p2 : Pos} {lo hi : Option Expr} {Wl Wh : WO}
@[simp] def woN : WO := fun _ n P => P none n
@[simp] def woS (W : WE) : WO := fun r n P => W r n fun d n1 => ∃ i, d = .int i ∧ P (some i) n1
theorem do_n : DO X m none woN := po_by po_none fun s H Q ⟨rv, n, P, R, w, k⟩ => k none H n (Xt.refl m H) R.st w
theorem do_s (h : DE X m e We) : DO X m (some e) (woS We) := po_by (po_some h) fun s H Q ⟨rv, n, P, R, w, k⟩ => ⟨rv, n, _, R, w, fun v H1 d n1 x1 s1 h1 ⟨i, ed, p⟩ => by
  subst ed
  cases h1
  exact ⟨i, rfl, k (some i) H1 n1 x1 s1 p⟩⟩
def cutL {α : Type} (xs : List α) (lo hi : Option Int) : List α := (xs.drop (HT.sIx xs.length 0 lo)).take (HT.sIx xs.length xs.length hi - HT.sIx xs.length 0 lo)
@[simp] def slF (a : PyData) (lo hi : Option Int) : Option PyData := match a with
  | .tuple ds => some (.tuple (cutL ds lo hi))
  | .list ds => some (.list (cutL ds lo hi))
  | .str z => some (.str (cutS z lo hi))
  | _ => none
@[simp] def slC : PyData → Prop
  | .str z => z.length ≤ 100000
  | _ => True
@[simp] def wSl (Wa : WE) (Wl Wh : WO) : WE := fun r n P => Wa r n fun a n1 => Wl r n1 fun l n2 => Wh r n2 fun h n3 => ∃ d, slF a l h = some d ∧ slC a ∧ P d n3
theorem cut_data {xs : List V} {ds : List PyData} {lo hi : Option Int} (h : DqA K H xs ds) : DqA K H (cutV xs lo hi) (cutL ds lo hi) := by
  unfold cutV cutL
  rw [da_len h]
  exact da_take _ (da_drop _ h)
theorem cut_whole {ds : List PyData} {lo hi : Option Int} (h : HT.sIx ds.length 0 lo = 0 ∧ HT.sIx ds.length ds.length hi = ds.length) : cutL ds lo hi = ds := by
  unfold cutL
  rw [h.1, h.2]
  simp
theorem sl_any : SlR X (fun x lo hi H Q => rSlA X.K x lo hi H Q ∨ rSlL X.K x lo hi H Q ∨ rSlS x lo hi H Q) := sl_tupA.or (sl_list.or sl_str)
theorem de_sl (ha : DE X m a Wa) (hl : DO X m lo Wl) (hh : DO X m hi Wh) : DE X m (.Subscript a (.Slice lo hi none p2) pos) (wSl Wa Wl Wh) :=
  pe_by (pe_slice sl_any ha hl hh) fun s H Q ⟨rv, n, P, R, w, k⟩ => by
    refine ⟨rv, n, _, R, w, fun v H1 da n1 x1 s1 h1 w1 => ⟨rv, n1, _, R.go x1 s1, w1, fun l H2 n2 x2 s2 w2 => ⟨rv, n2, _, R.go (x1.trans x2) s2, w2, fun u H3 n3 x3 s3 ⟨d, ed, hc, p⟩ => ?_⟩⟩⟩
    have x13 := (x1.trans x2).trans x3
    have h3 : Dq X.K H3 v da := dp_xt s1 (x2.trans x3) h1
    cases h3 with
    | @tup a xs ds hp hq =>
      cases ed
      refine .inl ⟨a, xs, rfl, hp, fun z => ?_, fun z q hq2 => ?_⟩
      · rw [da_len hq] at z
        rw [cut_whole z] at p
        exact k _ H3 _ n3 x13 s3 (.tup hp hq) p
      · exact k _ _ _ n3 (x13.trans (.of (Ex.new hq2))) (m.sx _ _ _ (Ex.new hq2) s3) (.tup (SqT.of upd_same) (da_ex (Ex.new hq2) (cut_data hq))) p
    | @lst a xs ds hp hq =>
      cases ed
      exact .inr (.inl ⟨a, xs, rfl, SqL.of hp, fun q hq2 => k _ _ _ n3 (x13.trans (.of (Ex.new hq2))) (m.sx _ _ _ (Ex.new hq2) s3) (.lst upd_same (da_ex (Ex.new hq2) (cut_data hq))) p⟩)
    | str z =>
      cases ed
      exact .inr (.inr ⟨z, rfl, Evl.sz_of hc, k _ H3 _ n3 x13 s3 (.str _) p⟩)
    | _ => cases ed
/-! ### builtins -/
@[simp] def lenF : List PyData → Option PyData
  | [.tuple ds] => some (.int (ds.length : Nat))
  | [.list ds] => some (.int (ds.length : Nat))
  | [.str z] => some (.int (z.length : Nat))
  | _ => none
@[simp] def lenC : List PyData → Prop
  | [.str z] => z.length ≤ 100000
  | _ => True
@[simp] def okC : List PyData → Prop := fun _ => True
theorem cd_len : CallD K (fun xs H Q => ∃ x n, xs = [x] ∧ LenV K x H n ∧ Q (.int n) H) lenF lenC := fun H xs ds d Q h e hc k => by
  match xs, ds, h, e with
  | [x], [.tuple es], .cons h .nil, e =>
    cases e
    cases h with
    | @tup a vs _ hp ha => exact ⟨_, vs.length, rfl, .inr ⟨vs, hp, rfl⟩, k _ H (Ex.refl H) (by rw [da_len ha]; exact .int _)⟩
  | [x], [.list es], .cons h .nil, e =>
    cases e
    cases h with
    | @lst a vs _ hp ha => exact ⟨_, vs.length, rfl, .inl ⟨vs, SqL.of hp, rfl⟩, k _ H (Ex.refl H) (by rw [da_len ha]; exact .int _)⟩
  | [x], [.str z], .cons h .nil, e =>
    cases e
    cases h with
    | str _ => exact ⟨_, z.length, rfl, ⟨Evl.sz_of hc, rfl⟩, k _ H (Ex.refl H) (.int _)⟩
  | [], [], .nil, e => cases e
  | x :: y :: vs, d1 :: d2 :: ds, .cons _ (.cons _ _), e =>
    simp [lenF] at e
/-- tuple(x), list(x) -/
@[simp] def tupF : List PyData → Option PyData
  | [.tuple ds] => some (.tuple ds)
  | [.list ds] => some (.tuple ds)
  | _ => none
@[simp] def listF : List PyData → Option PyData
  | [.tuple ds] => some (.list ds)
  | [.list ds] => some (.list ds)
  | _ => none
theorem cd_tuple : CallD K (fun xs H Q => ∃ p ys, xs = [.ref p] ∧ ((SqL K H p ys ∧ ∀ l, H l = none → Q (.ref l) (upd H l (.tup ys))) ∨ (SqT K H p ys ∧ Q (.ref p) H))) tupF okC := fun H xs ds d Q h e hc k => by
  match xs, ds, h, e with
  | [x], [.tuple es], .cons h .nil, e =>
    cases e
    cases h with
    | @tup a vs _ hp ha => exact ⟨a, vs, rfl, .inr ⟨hp, k _ H (Ex.refl H) (.tup hp ha)⟩⟩
  | [x], [.list es], .cons h .nil, e =>
    cases e
    cases h with
    | @lst a vs _ hp ha => exact ⟨a, vs, rfl, .inl ⟨SqL.of hp, fun l hl => k _ _ (Ex.new hl) (.tup (SqT.of upd_same) (da_ex (Ex.new hl) ha))⟩⟩
  | [], [], .nil, e => cases e
  | x :: y :: vs, d1 :: d2 :: ds, .cons _ (.cons _ _), e =>
    simp [tupF] at e
theorem cd_list : CallD K (fun xs H Q => ∃ p ys, xs = [.ref p] ∧ (SqL K H p ys ∨ SqT K H p ys) ∧ ∀ l, H l = none → Q (.ref l) (upd H l (.lst ys))) listF okC := fun H xs ds d Q h e hc k => by
  match xs, ds, h, e with
  | [x], [.tuple es], .cons h .nil, e =>
    cases e
    cases h with
    | @tup a vs _ hp ha => exact ⟨a, vs, rfl, .inr hp, fun l hl => k _ _ (Ex.new hl) (.lst upd_same (da_ex (Ex.new hl) ha))⟩
  | [x], [.list es], .cons h .nil, e =>
    cases e
    cases h with
    | @lst a vs _ hp ha => exact ⟨a, vs, rfl, .inl (SqL.of hp), fun l hl => k _ _ (Ex.new hl) (.lst upd_same (da_ex (Ex.new hl) ha))⟩
  | [], [], .nil, e => cases e
  | x :: y :: vs, d1 :: d2 :: ds, .cons _ (.cons _ _), e =>
    simp [listF] at e
/-- all(x), any(x): x a list of truths -/
@[simp] def boolsOf : List PyData → Option (List Bool)
  | [] => some []
  | .bool b :: r => (boolsOf r).map (b :: ·)
  | _ :: _ => none
@[simp] def allF (any : Bool) : List PyData → Option PyData
  | [.list ds] => (boolsOf ds).map fun bs => .bool (if any then bs.any id else bs.all id)
  | _ => none
theorem bools_map : ∀ bs : List Bool, boolsOf (bs.map PyData.bool) = some bs
  | [] => rfl
  | b :: r => by
    show (boolsOf (r.map PyData.bool)).map (b :: ·) = some (b :: r)
    rw [bools_map r]
    rfl
theorem bools_of : ∀ {ds : List PyData} {bs : List Bool} {vs : List V}, boolsOf ds = some bs → DqA K H vs ds → vs = bs.map V.bl
  | [], bs, vs, e, h => by
    cases h
    cases e
    rfl
  | .bool b :: r, bs, vs, e, h => by
    cases h with
    | cons h1 h2 =>
      cases h1
      cases q : boolsOf r with
      | none =>
        have e2 : (boolsOf r).map (b :: ·) = some bs := e
        rw [q] at e2
        cases e2
      | some l =>
        have e2 : (boolsOf r).map (b :: ·) = some bs := e
        rw [q] at e2
        cases e2
        rw [bools_of q h2]
        rfl
  | .none :: r, bs, vs, e, h => by cases e
  | .int _ :: r, bs, vs, e, h => by cases e
  | .str _ :: r, bs, vs, e, h => by cases e
  | .list _ :: r, bs, vs, e, h => by cases e
  | .tuple _ :: r, bs, vs, e, h => by cases e
  | .dict _ :: r, bs, vs, e, h => by cases e
theorem cd_all (z : Bool) : CallD K (if z then rAny K else rAll K) (allF z) okC := fun H xs ds d Q h e hc k => by
  match xs, ds, h, e with
  | [x], [.list es], .cons h .nil, e =>
    cases q : boolsOf es with
    | none =>
      have e2 : (boolsOf es).map (fun bs => PyData.bool (if z then bs.any id else bs.all id)) = some d := e
      rw [q] at e2
      cases e2
    | some bs =>
      have e2 : (boolsOf es).map (fun bs => PyData.bool (if z then bs.any id else bs.all id)) = some d := e
      rw [q] at e2
      cases e2
      cases h with
      | @lst a vs _ hp ha =>
        have ev := bools_of q ha
        subst ev
        cases z with
        | true => exact ⟨a, bs, rfl, SqL.of hp, k _ H (Ex.refl H) (.bl _)⟩
        | false => exact ⟨a, bs, rfl, SqL.of hp, k _ H (Ex.refl H) (.bl _)⟩
  | [], [], .nil, e => cases e
  | x :: y :: vs, d1 :: d2 :: ds, .cons _ (.cons _ _), e =>
    simp [allF] at e
theorem cr_allA (z : Bool) (hc : X.calm = true) : CallR X (.builtin (if z then "any" else "all")) (if z then rAny X.K else rAll X.K) := by
  cases z with
  | true => exact cr_any hc
  | false => exact cr_all hc
@[simp] def minF : List PyData → Option PyData
  | [.int i, .int j] => some (.int (if j < i then j else i))
  | _ => none
theorem cd_min : CallD K (fun xs H Q => ∃ i j, xs = [.int i, .int j] ∧ Q (.int (if j < i then j else i)) H) minF okC := fun H xs ds d Q h e hc k => by
  unfold minF at e
  split at e
  · rename_i i j
    cases e
    cases h with
    | cons h1 h =>
      cases h with
      | cons h2 h =>
        cases h
        cases h1
        cases h2
        exact ⟨i, j, rfl, k _ H (Ex.refl H) (.int _)⟩
  · cases e
def intOfF : List PyData → Option PyData
  | [.int i] => some (.int i)
  | [.bool k] => some (.int (if k then 1 else 0))
  | _ => none
/-! ### isinstance -/
@[simp] def tyN : PyData → String
  | .none => "NoneType"
  | .bool _ => "bool"
  | .int _ => "int"
  | .str _ => "str"
  | .list _ => "list"
  | .tuple _ => "tuple"
  | .dict _ => "dict"
@[simp] def wIsi (T : String) (We : WE) : WE := fun r n P => We r n fun d n1 => ∃ b, kitB (tyN d) T = some b ∧ P (.bool b) n1
theorem ty_of {v : V} {d : PyData} (h : Dq K H v d) : TyX K H v (.type (tyN d)) := by
  cases h with
  | non => exact .base .non
  | bl b => exact .base (.bl b)
  | int i => exact .base (.int i)
  | str x => exact .base (.str x)
  | lst hp _ => exact .base (.lst hp)
  | tup hp _ =>
    rcases hp with (hp | ⟨o, hp⟩) | ⟨o, its, n, h1, h2, _⟩
    · exact .base (.tup hp)
    · exact .fTuple hp
    · exact .kTuple h1 h2
  | dic q e => exact .base (.dK e)
theorem de_isi {T : String} {x : Str} {p p1 : Pos} (hi : X.mg "isinstance" = none) (hT : X.mg x = none) (hv : bootBuiltins x = some (.type T)) (hc : ClsV (.ty T) (.type T)) (he : DE X m e We) (hg : Gl X "isinstance" := by rfl) (hg2 : Gl X x := by rfl)
    (hn : x ≠ "__name__" := by decide) (hdb : (x == ("__debug__" : Str)) = false := by decide)
    (hs : starEach [e, .Name x p1] X.env = (false, eval e X.env) :: starEach [.Name x p1] X.env := by rfl) (hs2 : starEach [.Name x p1] X.env = (false, eval (.Name x p1) X.env) :: starEach [] X.env := by rfl) (hpl : (backTo pos (starEach [.Name x p1] X.env)).any (·.1) = false := by rfl) :
    DE X m (.Call (.Name "isinstance" p) [e, .Name x p1] [] pos) (wIsi T We) :=
  pe_by (pe_callB call_isi hg hi (by decide +kernel) (pa_cons he (pa_cons (pe_bltn hg2 hT hv (v := .ty T) rfl hn hdb) pa_nil hs2) hs) (by decide) (by decide) hs hpl) fun s H Q ⟨rv, n, P, R, w, k⟩ =>
    ⟨rv, n, _, R, w, fun v H1 d n1 x1 s1 h1 ⟨b, eb, p⟩ => ⟨v, .ty T, .type (tyN d), .type T, b, rfl, hc, ty_of h1, kit_ty eb, k _ H1 _ n1 x1 s1 (.bl b) p⟩⟩
end
end K45
/-! KW3 -/
set_option Elab.async false
set_option linter.all false
set_option maxRecDepth 100000
set_option maxHeartbeats 1000000
/-! the W layer: targets, what is walked, comprehensions, statements, defs -/
namespace K45
open PySem PySem.Spec PyProof.Rows L2
/-! ### data without lists -/
mutual
def tupD : PyData → Bool
  | .list _ => false
  | .dict _ => false
  | .tuple ds => tupDs ds
  | .none => true
  | .bool _ => true
  | .int _ => true
  | .str _ => true
def tupDs : List PyData → Bool
  | [] => true
  | d :: ds => tupD d && tupDs ds
end
theorem tupDs_all : ∀ ds : List PyData, tupDs ds = ds.all tupD
  | [] => by simp [tupDs]
  | d :: ds => by rw [tupDs, List.all_cons, tupDs_all ds]
section
variable {K : PySem.W.Frag} {H H' : Hp}
mutual
theorem dq_tup (kt : ∀ a xs, SqT K H a xs → SqT K H' a xs) : ∀ (d : PyData) (v : V), tupD d = true → Dq K H v d → Dq K H' v d
  | .none, _, _, h => by cases h; exact .non
  | .bool b, _, _, h => by cases h; exact .bl b
  | .int i, _, _, h => by cases h; exact .int i
  | .str x, _, _, h => by cases h; exact .str x
  | .list ds, _, f, h => by simp [tupD] at f
  | .tuple ds, _, f, h => by
    cases h with
    | tup hs ha => exact .tup (kt _ _ hs) (dq_tups kt ds _ (by rw [tupD] at f; exact f) ha)
  | .dict _, _, f, h => by simp [tupD] at f
theorem dq_tups (kt : ∀ a xs, SqT K H a xs → SqT K H' a xs) : ∀ (ds : List PyData) (vs : List V), tupDs ds = true → DqA K H vs ds → DqA K H' vs ds
  | [], _, _, h => by cases h; exact .nil
  | d :: ds, _, f, h => by
    rw [tupDs, Bool.and_eq_true] at f
    cases h with
    | cons h1 h2 => exact .cons (dq_tup kt d _ f.1 h1) (dq_tups kt ds _ f.2 h2)
end
theorem sqt_upd {l : Addr} {xs : List V} {o : HO} (h : H l = some (.lst xs)) {a : Addr} {ys : List V} (q : SqT K H a ys) : SqT K (upd H l o) a ys := by
  rcases q with q | q
  · refine .inl (rd_keep q fun u e => ?_)
    have n : a ≠ l := fun z => by
      rcases q with q | ⟨b, q⟩ <;> rw [z, h] at q <;> cases q
    rw [upd_ne n]
    exact e
  · exact .inr q
theorem dq_upd {l : Addr} {xs : List V} {o : HO} {v : V} {d : PyData} (h : H l = some (.lst xs)) (f : tupD d = true) (q : Dq K H v d) : Dq K (upd H l o) v d := dq_tup (fun _ _ z => sqt_upd h z) d v f q
theorem da_upd {l : Addr} {xs : List V} {o : HO} {vs : List V} {ds : List PyData} (h : H l = some (.lst xs)) (f : tupDs ds = true) (q : DqA K H vs ds) : DqA K (upd H l o) vs ds := dq_tups (fun _ _ z => sqt_upd h z) ds vs f q
end
/-! ### targets -/
abbrev WG := PyData → Rv → (Rv → Prop) → Prop
abbrev WGs := List PyData → Rv → (Rv → Prop) → Prop
def Wiped (sl : List Nat) (s s' : L2.St) : Prop := ∀ vs : List Nat, (∀ i ∈ sl, i ∈ vs) → L2.wipe s' vs = L2.wipe s vs
theorem wipe_get (s : L2.St) (i : Nat) : ∀ vs : List Nat, (L2.wipe s vs)[i]? = if i ∈ vs then s[i]?.map fun _ => none else s[i]?
  | [] => by simp [L2.wipe]
  | v :: vs => by
    unfold L2.wipe
    by_cases h : v = i
    · subst h
      rw [List.getElem?_set, if_pos rfl, if_pos List.mem_cons_self, L2.wipe_length]
      by_cases hl : v < s.length
      · rw [if_pos hl, List.getElem?_eq_getElem hl] <;> rfl
      · rw [if_neg hl, List.getElem?_eq_none (by omega)] <;> rfl
    · rw [List.getElem?_set_ne h, wipe_get s i vs]
      by_cases hm : i ∈ vs
      · rw [if_pos hm, if_pos (List.mem_cons_of_mem _ hm)]
      · rw [if_neg hm, if_neg (by simp [Ne.symm h, hm])]
theorem wipe_idem (s : L2.St) (vs : List Nat) : L2.wipe (L2.wipe s vs) vs = L2.wipe s vs := by
  refine List.ext_getElem? fun j => ?_
  rw [wipe_get, wipe_get]
  by_cases h : j ∈ vs
  · rw [if_pos h, if_pos h]
    cases s[j]? <;> rfl
  · rw [if_neg h, if_neg h]
theorem wiped_set (s : L2.St) (i : Nat) (v : Option V) : Wiped [i] s (s.set i v) := fun vs h => by
  refine List.ext_getElem? fun j => ?_
  rw [wipe_get, wipe_get]
  by_cases hj : j ∈ vs
  · rw [if_pos hj, if_pos hj]
    by_cases e : i = j
    · subst e
      rw [List.getElem?_set, if_pos rfl]
      by_cases hl : i < s.length
      · rw [if_pos hl, List.getElem?_eq_getElem hl] <;> rfl
      · rw [if_neg hl, List.getElem?_eq_none (by omega)]
    · rw [List.getElem?_set_ne e]
  · rw [if_neg hj, if_neg hj, List.getElem?_set_ne (fun z => hj (by rw [← z]; exact h i (by simp)))]
theorem Wiped.trans {a b c : L2.St} {sl tl : List Nat} (h : Wiped sl a b) (k : Wiped tl b c) : Wiped (sl ++ tl) a c := fun vs q =>
  (k vs fun i hi => q i (List.mem_append_right _ hi)).trans (h vs fun i hi => q i (List.mem_append_left _ hi))
theorem Wiped.refl (s : L2.St) : Wiped [] s s := fun _ _ => rfl
def tWG (K : PySem.W.Frag) (m : Md) (sl : List Nat) (W : WG) : TG := fun v s H Q => ∃ r n d P, Rst K m s H r n ∧ Dq K H v d ∧ W d r P ∧ ∀ s' H' r', Ex H H' → Rst K m s' H' r' n → P r' → Wiped sl s s' → Q s' H'
def tWGs (K : PySem.W.Frag) (m : Md) (sl : List Nat) (W : WGs) : TGs := fun vs s H Q => ∃ r n ds P, Rst K m s H r n ∧ DqA K H vs ds ∧ W ds r P ∧ ∀ s' H' r', Ex H H' → Rst K m s' H' r' n → P r' → Wiped sl s s' → Q s' H'
abbrev DG (X : Cx) (m : Md) (e : Expr) (sl : List Nat) (W : WG) : Prop := PG X e (tWG X.K m sl W)
abbrev DGs (X : Cx) (m : Md) (es : List Expr) (sl : List Nat) (W : WGs) : Prop := PGs X es (tWGs X.K m sl W)
theorem pg_by {X : Cx} {e : Expr} {t t' : TG} (h : PG X e t) (k : ∀ v s H Q, t' v s H Q → t v s H Q) : PG X e t' := ⟨fun pins s st H v u Q I r q => h.run pins s st H v u Q I r (k _ _ _ _ q)⟩
theorem pgs_by {X : Cx} {e : List Expr} {t t' : TGs} (h : PGs X e t) (k : ∀ v s H Q, t' v s H Q → t v s H Q) : PGs X e t' := ⟨fun pins s st H v u Q I r q => h.run pins s st H v u Q I r (k _ _ _ _ q)⟩
@[simp] def wgN (i : Nat) : WG := fun d r P => P (r.set i (some d))
@[simp] def wgsN : WGs := fun ds r P => ds = [] ∧ P r
@[simp] def wgsC (W : WG) (Ws : WGs) : WGs := fun ds r P => ∃ d es, ds = d :: es ∧ W d r fun r1 => Ws es r1 P
@[simp] def wgT (n : Nat) (Ws : WGs) : WG := fun d r P => ∃ ds, d = .tuple ds ∧ ds.length = n ∧ Ws ds r P
section
variable {X : Cx} {m : Md} {e : Expr} {es : List Expr} {pos : Pos} {sl tl : List Nat} {Wg : WG} {Ws : WGs}
theorem dg_n (i : Nat) {x : Str} (hN : X.N.Nodup) (hk : ∀ p ∈ m.keep, p.1 ≠ i) (hi : X.N[i]? = some x := by rfl) (hx : Loc X.env.scope x := by first | exact Or.inl rfl | exact Or.inr rfl)
    (hf : X.fn x = true ∨ X.env.scope.names.lookup x = some .local := by first | exact .inl rfl | exact .inr rfl | assumption) : DG X m (.Name x pos) [i] (wgN i) :=
  pg_by (pg_name hN hi hx hf) fun v s H Q ⟨r, n, d, P, R, h, p, k⟩ => k _ H _ (Ex.refl H) (R.set h hk) p (wiped_set s i _)
theorem dgs_n : DGs X m [] [] wgsN := pgs_by pgs_nil fun vs s H Q ⟨r, n, ds, P, R, h, ⟨e, p⟩, k⟩ => by
  subst e
  cases h
  exact ⟨rfl, k s H r (Ex.refl H) R p (Wiped.refl s)⟩
theorem dgs_c (h1 : DG X m e sl Wg) (h2 : DGs X m es tl Ws) (hs : (assignEach (e :: es) X.env).map (·.2) = assign e X.env :: (assignEach es X.env).map (·.2) := by rfl) : DGs X m (e :: es) (sl ++ tl) (wgsC Wg Ws) :=
  pgs_by (pgs_cons h1 h2 hs) fun vs s H Q ⟨r, n, ds, P, R, h, ⟨d, es', ed, w⟩, k⟩ => by
    subst ed
    cases h with
    | @cons v vs _ _ ha hb => exact ⟨v, vs, rfl, r, n, d, _, R, ha, w, fun s1 H1 r1 e1 R1 p1 w1 => ⟨r1, n, es', _, R1, da_ex e1 hb, p1, fun s2 H2 r2 e2 R2 p2 w2 => k s2 H2 r2 (e1.trans e2) R2 p2 (w1.trans w2)⟩⟩
theorem dg_t {k0 n : Nat} (hc : X.calm = true) (h : DGs X m es sl Ws) (hn : (assignEach es X.env).length = n := by rfl) (hst : (assignEach es X.env).findIdx? (·.1) = none := by rfl) : DG X m (.Tuple es k0 pos) sl (wgT n Ws) :=
  pg_by (pg_tup hc h hn hst) fun v s H Q ⟨r, nn, d, P, R, hd, ⟨ds, ed, hl, w⟩, k⟩ => by
    subst ed
    cases hd with
    | @tup a xs _ hp ha => exact ⟨a, xs, rfl, hp, by rw [da_len ha, hl], r, nn, ds, P, R, ha, w, k⟩
end
/-! ### what is walked -/
structure WalkD (K : PySem.W.Frag) (m : Md) (J : It) (G : Hp → Prop) (items : List PyData) : Prop where
  go : ∀ i H, i < items.length → G H → J.go i H
  stop : ∀ H, G H → J.stop items.length H
  yld : ∀ i H v H', i < items.length → G H → J.yld i H v H' → Ex H H' ∧ ∃ d, items[i]? = some d ∧ Dq K H' v d
  keep : ∀ n H H', m.S n H → Xt m H H' → G H → G H'
abbrev WI := Rv → Nat → (List PyData → Nat → Prop) → Prop
def tWI (K : PySem.W.Frag) (m : Md) (W : WI) : TI := fun s H R => ∃ r n P, Rst K m s H r n ∧ W r n P ∧ ∀ J G H' items n', Xt m H H' → m.S n' H' → WalkD K m J G items → G H' → P items n' → R J H'
abbrev DI (X : Cx) (m : Md) (tg e : Expr) (W : WI) : Prop := PI X tg e (tWI X.K m W)
theorem pi_by {X : Cx} {tg e : Expr} {t t' : TI} (h : PI X tg e t) (k : ∀ s H Q, t' s H Q → t s H Q) : PI X tg e t' := ⟨fun pins s st H R I q => h.run pins s st H R I (k _ _ _ q)⟩
theorem pi_or {X : Cx} {tg e : Expr} {t t' : TI} (h : PI X tg e t) (h' : PI X tg e t') : PI X tg e (fun s H R => t s H R ∨ t' s H R) := ⟨fun pins s st H R I q => by
  rcases q with q | q
  · exact h.run pins s st H R I q
  · exact h'.run pins s st H R I q⟩
/-- n written items, none made -/
theorem walkD_same {K : PySem.W.Frag} {m : Md} {J : It} {xs : List V} {ds : List PyData} {G : Hp → Prop} (w : Walk J xs.length G (YAt xs)) (hG : ∀ n H H', m.S n H → Xt m H H' → G H → G H') :
    WalkD K m J (fun H => G H ∧ DqA K H xs ds) ds :=
  ⟨fun i H hi h => w.goes i H (by rw [da_len h.2]; exact hi) h.1, fun H h => by rw [← da_len h.2]; exact w.stops H h.1, fun i H v H' hi h y => by
    obtain ⟨e1, e2⟩ := w.yields i H v H' (by rw [da_len h.2]; exact hi) h.1 y
    subst e1
    obtain ⟨d, ed, hd⟩ := da_get h.2 e2
    exact ⟨Ex.refl _, d, ed, hd⟩, fun n H H' hS x h => ⟨hG n H H' hS x h.1, da_xt hS x h.2⟩⟩
section
variable {X : Cx} {m : Md} {tg e e2 : Expr} {es : List Expr} {We : WE} {As : WA} {pos : Pos}
/-- a tuple; a list -/
@[simp] def wiT (We : WE) : WI := fun r n P => We r n fun d n1 => ∃ ds, d = .tuple ds ∧ P ds n1
@[simp] def wiL (We : WE) : WI := fun r n P => We r n fun d n1 => ∃ ds, d = .list ds ∧ P ds n1
theorem di_t (h : DE X m e We) : DI X m tg e (wiT We) := pi_by (pi_tup h) fun s H R ⟨r, n, P, Rs, w, k⟩ => ⟨r, n, _, Rs, w, fun v H1 d n1 x1 s1 h1 ⟨ds, ed, p⟩ => by
  subst ed
  cases h1 with
  | @tup a xs _ hp ha => exact ⟨a, rfl, ⟨xs, hp⟩, k _ _ H1 ds n1 x1 s1 (walkD_same walk_tup fun n H H' hS x z => xt_t hS x z) ⟨hp, ha⟩ p⟩⟩
theorem di_l (h : DE X m e We) : DI X m tg e (wiL We) := pi_by (pi_list h) fun s H R ⟨r, n, P, Rs, w, k⟩ => ⟨r, n, _, Rs, w, fun v H1 d n1 x1 s1 h1 ⟨ds, ed, p⟩ => by
  subst ed
  cases h1 with
  | @lst a xs _ hp ha => exact ⟨a, rfl, ⟨xs, SqL.of hp⟩, k _ _ H1 ds n1 x1 s1 (walkD_same walk_list fun n H H' hS x z => xt_l hS x z) ⟨SqL.of hp, ha⟩ p⟩⟩
/-- a text's signs -/
def signsD (z : Str) : List PyData := z.cps.toList.map fun c => .str ⟨#[c]⟩
@[simp] def wiS (We : WE) : WI := fun r n P => We r n fun d n1 => ∃ z, d = .str z ∧ P (signsD z) n1
theorem di_s (h : DE X m e We) : DI X m tg e (wiS We) := pi_by (pi_str h) fun s H R ⟨r, n, P, Rs, w, k⟩ => ⟨r, n, _, Rs, w, fun v H1 d n1 x1 s1 h1 ⟨z, ed, p⟩ => by
  subst ed
  cases h1
  refine ⟨z, rfl, k (Its z) (fun _ => True) H1 _ n1 x1 s1 ⟨fun i H hi _ => ?_, fun H _ => ?_, fun i H v H' hi _ y => ?_, fun _ _ _ _ _ _ => trivial⟩ trivial p⟩
  · have hi2 : i < z.cps.size := by simpa [signsD] using hi
    exact walk_str.goes i H hi2 trivial
  · have e : (signsD z).length = z.cps.size := by simp [signsD]
    rw [e]
    exact walk_str.stops H trivial
  · have hi2 : i < z.cps.size := by simpa [signsD] using hi
    obtain ⟨e1, c, ec, ev⟩ := walk_str.yields i H v H' hi2 trivial y
    subst e1
    subst ev
    refine ⟨Ex.refl _, .str ⟨#[c]⟩, ?_, .str _⟩
    unfold signsD
    rw [List.getElem?_map, Array.getElem?_toList, ec]
    rfl⟩
/-- range(n), range(a, b) -/
def rangeD (lo : Int) (n : Nat) : List PyData := (List.range n).map fun (i : Nat) => PyData.int (lo + (i : Int))
theorem walkD_range {K : PySem.W.Frag} {lo : Int} {n : Nat} : WalkD K m (Itr lo n) (fun _ => True) (rangeD lo n) :=
  ⟨fun i H hi _ => by
    have hi2 : i < n := by simpa [rangeD] using hi
    exact walk_range.goes i H hi2 trivial, fun H _ => by
    have e : (rangeD lo n).length = n := by simp [rangeD]
    rw [e]
    exact walk_range.stops H trivial, fun i H v H' hi _ y => by
    have hi2 : i < n := by simpa [rangeD] using hi
    obtain ⟨e1, e2⟩ := walk_range.yields i H v H' hi2 trivial y
    subst e1
    subst e2
    refine ⟨Ex.refl _, .int (lo + (i : Nat)), ?_, .int _⟩
    unfold rangeD
    rw [List.getElem?_map, List.getElem?_range hi2]
    rfl, fun _ _ _ _ _ _ => trivial⟩
@[simp] def wiR (As : WA) : WI := fun r n P => As r n fun ds n1 => ∃ j, ds = [.int j] ∧ (-100000 ≤ j ∧ j ≤ 100000) ∧ P (rangeD 0 j.toNat) n1
theorem di_r {p : Pos} (hm : X.mg "range" = none) (ha : DA X m [e] As) (hg : Gl X "range" := by rfl) (hs : starEach [e] X.env = [(false, eval e X.env)] := by rfl) : DI X m tg (.Call (.Name "range" p) [e] [] pos) (wiR As) :=
  pi_by (pi_range1 hg hm ha hs) fun s H R ⟨r, n, P, Rs, w, k⟩ => ⟨r, n, _, Rs, w, fun vs H1 ds n1 x1 s1 h1 ⟨j, ed, hj, p⟩ => by
    subst ed
    cases h1 with
    | cons a b =>
      cases a
      cases b
      exact ⟨j, rfl, by omega, by omega, k _ _ H1 _ n1 x1 s1 walkD_range trivial p⟩⟩
/-! ### comprehensions -/
@[irreducible] def wLc (Wi : WI) (Wg : WG) (Wt : WT) (We : WE) (vs : List Nat) : WE := fun r n P => Wi r n fun items n1 => items.length ≤ 40000 ∧ ∃ Iv : Nat → List PyData → Nat → Prop, Iv 0 [] n1 ∧
  (∀ i d acc n', items[i]? = some d → Iv i acc n' → Wg d (wipeR r vs) fun r2 => Wt r2 n' fun b n2 => if b = true then We r2 n2 fun e n3 => tupD e = true ∧ Iv (i + 1) (acc ++ [e]) n3 else Iv (i + 1) acc n2) ∧
  ∀ acc n', Iv items.length acc n' → P (.list acc) n'
structure LcI (K : PySem.W.Frag) (m : Md) (H1 : Hp) (D : Addr) (G : Hp → Prop) (Iv : Nat → List PyData → Nat → Prop) (i : Nat) (H' : Hp) : Prop where
  ex : ∃ n' ws acc, m.S n' H' ∧ H' D = some (.lst ws) ∧ DqA K H' ws acc ∧ tupDs acc = true ∧ acc.length ≤ i ∧ Iv i acc n'
  xt : Xt m H1 H'
  g : G H'
theorem tupDs_app (a b : List PyData) : tupDs (a ++ b) = (tupDs a && tupDs b) := by rw [tupDs_all, tupDs_all, tupDs_all, List.all_append]
theorem w_lc {Wi : WI} {Wg : WG} {Wt : WT} {tt : TT} {vs sl : List Nat} (hk : ∀ p ∈ m.keep, p.1 ∉ vs) (hsl : ∀ i ∈ sl, i ∈ vs) (ht : ∀ s H Q, tWT X.K m Wt s H Q → tt s H Q) {s : L2.St} {H : Hp} {Q : VK} (q : tW X.K m (wLc Wi Wg Wt We vs) s H Q) :
    tLc (tWI X.K m Wi) (tWG X.K m sl Wg) tt (tW X.K m We) vs s H Q := by
  obtain ⟨r, n, P, R, w, k⟩ := q
  unfold wLc at w
  refine ⟨r, n, _, R, w, fun J G H1 items n1 x1 s1 wk g1 ⟨hlen, Iv, i0, is, ie⟩ D hD => ?_⟩
  have R1 : Rst X.K m s H1 r n1 := R.go x1 s1
  have walk : Walk J items.length G (fun i H v H' => Ex H H' ∧ ∃ d, items[i]? = some d ∧ Dq X.K H' v d) := ⟨wk.go, wk.stop, wk.yld⟩
  have xD : Xt m H1 (upd H1 D (.lst [])) := .of (Ex.new hD)
  refine lc_it walk (LcI X.K m H1 D G Iv) ⟨⟨n1, [], [], m.sx _ _ _ (Ex.new hD) s1, upd_same, .nil, rfl, Nat.le_refl _, i0⟩, xD, wk.keep n1 H1 _ s1 xD g1⟩ (fun i H' _ p => p.g) ?_ ?_
  · rintro i v H2 H3 hi ⟨⟨n', ws, acc, s2, hd, ha, ft, hl, iv⟩, x2, g2⟩ ⟨e3, d, ed, h3⟩
    have x3 : Xt m H1 H3 := x2.trans (.of e3)
    have s3 := m.sx _ _ _ e3 s2
    have W := is i d acc n' ed iv
    refine ⟨_, n', d, _, (R1.wipe hk).go x3 s3, h3, W, fun s4 H4 r4 e4 R4 w4 wp => ⟨(wp vs hsl).trans (wipe_idem s vs), ?_⟩⟩
    refine ht _ _ _ ⟨r4, n', _, R4, w4, fun b H5 n5 x5 s5 w5 => ?_⟩
    have x15 : Xt m H1 H5 := (x3.trans (.of e4)).trans x5
    have d5 : H5 D = some (.lst ws) := xt_m R4.st x5 (e4 _ _ (e3 _ _ hd))
    have a5 : DqA X.K H5 ws acc := da_xt R4.st x5 (da_ex e4 (da_ex e3 ha))
    cases b with
    | true =>
      refine ⟨r4, n5, _, R4.go x5 s5, w5, fun y H6 e n6 x6 s6 h6 ⟨fe, iv6⟩ => ?_⟩
      have d6 := xt_m s5 x6 d5
      have fa : tupDs (acc ++ [e]) = true := by
        rw [tupDs_app, ft]
        show (true && (tupD e && tupDs [])) = true
        rw [fe]
        simp [tupDs]
      refine ⟨ws, d6, ?_, ⟨n6, ws ++ [y], acc ++ [e], m.su n1 H1 _ _ _ _ _ s1 hD s6 d6, upd_same, ?_, fa, ?_, iv6⟩, ?_, ?_⟩
      · rw [da_len ha]
        exact Evl.sz_lt (by omega)
      · exact da_upd d6 fa (da_app (da_xt s5 x6 a5) (.cons h6 .nil))
      · rw [List.length_append]
        show acc.length + 1 ≤ i + 1
        omega
      · intro b o hb ht e1
        rw [upd_ne (ne_of_none e1 hD)]
        exact (x15.trans x6) b o hb ht e1
      · refine wk.keep n1 H1 _ s1 (fun b o hb ht e1 => ?_) g1
        rw [upd_ne (ne_of_none e1 hD)]
        exact (x15.trans x6) b o hb ht e1
    | false => exact ⟨⟨n5, ws, acc, s5, d5, a5, ft, Nat.le_succ_of_le hl, w5⟩, x15, wk.keep n1 H1 _ s1 x15 g1⟩
  · rintro H2 ⟨⟨n', ws, acc, s2, hd, ha, ft, hl, iv⟩, x2, g2⟩
    exact k _ H2 _ n' (x1.trans x2) s2 (.lst hd ha) (ie acc n' iv)
end
end K45
/-! KW4 -/
set_option Elab.async false
set_option linter.all false
set_option maxRecDepth 100000
set_option maxHeartbeats 1000000
/-! the W layer: comprehensions as expressions, statements, defs -/
namespace K45
open PySem PySem.Spec PyProof.Rows L2
@[simp] def wYes : WT := fun _ n P => P true n
section
variable {X : Cx} {m : Md} {tg iter elt c e : Expr} {scope : Scope} {own : List (Str × Nat)} {pos : Pos} {Wi : WI} {Wg : WG} {Wt : WT} {We : WE} {sl : List Nat}
theorem t_yes {K : PySem.W.Frag} (s : L2.St) (H : Hp) (Q : Bool → Hp → Prop) (q : tWT K m wYes s H Q) : tYes s H Q := by
  obtain ⟨r, n, P, R, w, k⟩ := q
  exact k true H n (Xt.refl m H) R.st w
theorem de_lc0 (own : List (Str × Nat)) (hc : X.calm = true) (hN : X.N.Nodup) (hi : DI X m tg iter Wi) (ok : BlkOk X.N X.env.scope scope own) (hk : ∀ p ∈ m.keep, p.1 ∉ own.map (·.2)) (hsl : ∀ i ∈ sl, i ∈ own.map (·.2))
    (hg : ∀ (s : Shared) (H : Hp) (C : Addr) (cl : List (Str × Addr)) (fp : List Addr), DG (X.blk s H scope (compEnvC scope cl C X.env) fp) m tg sl Wg)
    (he : ∀ (s : Shared) (H : Hp) (C : Addr) (cl : List (Str × Addr)) (fp : List Addr), DE (X.blk s H scope (compEnvC scope cl C X.env) fp) m elt We) (hs : ∀ x, foldedSetIterable iter X.env x = pure x := by intro _; rfl) :
    DE X m (.ListComp elt [⟨tg, iter, [], 0⟩] scope pos) (wLc Wi Wg wYes We (own.map (·.2))) :=
  pe_by (pe_lc hc hN hi ok hg (fun _ _ _ _ _ => pts_nil) he hs) fun s H Q q => w_lc hk hsl t_yes q
theorem de_lc1 (own : List (Str × Nat)) (hc : X.calm = true) (hN : X.N.Nodup) (hi : DI X m tg iter Wi) (ok : BlkOk X.N X.env.scope scope own) (hk : ∀ p ∈ m.keep, p.1 ∉ own.map (·.2)) (hsl : ∀ i ∈ sl, i ∈ own.map (·.2))
    (hg : ∀ (s : Shared) (H : Hp) (C : Addr) (cl : List (Str × Addr)) (fp : List Addr), DG (X.blk s H scope (compEnvC scope cl C X.env) fp) m tg sl Wg)
    (ht : ∀ (s : Shared) (H : Hp) (C : Addr) (cl : List (Str × Addr)) (fp : List Addr), DT (X.blk s H scope (compEnvC scope cl C X.env) fp) m c Wt)
    (he : ∀ (s : Shared) (H : Hp) (C : Addr) (cl : List (Str × Addr)) (fp : List Addr), DE (X.blk s H scope (compEnvC scope cl C X.env) fp) m elt We) (hs : ∀ x, foldedSetIterable iter X.env x = pure x := by intro _; rfl) :
    DE X m (.ListComp elt [⟨tg, iter, [c], 0⟩] scope pos) (wLc Wi Wg Wt We (own.map (·.2))) :=
  pe_by (pe_lc hc hN hi ok hg (fun s H C cl fp => pts_one (ht s H C cl fp)) he hs) fun s H Q q => w_lc hk hsl (fun _ _ _ z => z) q
/-! ### statements -/
structure Outs where
  nx : Rv → Nat → Prop
  rt : PyData → Nat → Prop
  bk : Rv → Nat → Prop := fun _ _ => False
  ct : Rv → Nat → Prop := fun _ _ => False
abbrev WS := Outs → Rv → Nat → Prop
structure Meets (K : PySem.W.Frag) (m : Md) (O : Outs) (D : Ends) (H : Hp) : Prop where
  nx : ∀ s' H' r' n', Xt m H H' → Rst K m s' H' r' n' → O.nx r' n' → D.nx s' H'
  rt : ∀ v H' d n', Xt m H H' → m.S n' H' → Dq K H' v d → O.rt d n' → D.rt v H'
  bk : ∀ s' H' r' n', Xt m H H' → Rst K m s' H' r' n' → O.bk r' n' → D.bk s' H'
  ct : ∀ s' H' r' n', Xt m H H' → Rst K m s' H' r' n' → O.ct r' n' → D.ct s' H'
theorem Meets.go {K : PySem.W.Frag} {O : Outs} {D : Ends} {H H1 : Hp} (M : Meets K m O D H) (x : Xt m H H1) : Meets K m O D H1 :=
  ⟨fun s' H' r' n' y => M.nx s' H' r' n' (x.trans y), fun v H' d n' y => M.rt v H' d n' (x.trans y), fun s' H' r' n' y => M.bk s' H' r' n' (x.trans y), fun s' H' r' n' y => M.ct s' H' r' n' (x.trans y)⟩
def tWS (K : PySem.W.Frag) (m : Md) (W : WS) : TS := fun D s H => ∃ r n O, Rst K m s H r n ∧ W O r n ∧ Meets K m O D H
abbrev DS (X : Cx) (m : Md) (st : Stmt) (W : WS) : Prop := PS X st (tWS X.K m W)
abbrev DSs (X : Cx) (m : Md) (st : List Stmt) (W : WS) : Prop := PSs X st (tWS X.K m W)
theorem ps_by {st : Stmt} {t t' : TS} (h : PS X st t) (k : ∀ D s H, t' D s H → t D s H) : PS X st t' := ⟨fun pins s st H D I q => h.run pins s st H D I (k _ _ _ q)⟩
theorem pss_by {st : List Stmt} {t t' : TS} (h : PSs X st t) (k : ∀ D s H, t' D s H → t D s H) : PSs X st t' := ⟨fun pins s st H D I q => h.run pins s st H D I (k _ _ _ q)⟩
variable {st : Stmt} {a b rest : List Stmt} {Wa Wb Wr : WS} {Wc : WT}
@[simp] def wSeq (Wa Wb : WS) : WS := fun O r n => Wa { O with nx := Wb O } r n
@[simp] def wNx : WS := fun O r n => O.nx r n
theorem dss_n : DSs X m [] wNx := pss_by pss_nil fun D s H ⟨r, n, O, R, w, M⟩ => M.nx s H r n (Xt.refl m H) R w
theorem dss_c (h : DS X m st Wa) (k : DSs X m rest Wb) : DSs X m (st :: rest) (wSeq Wa Wb) := pss_by (pss_cons h k) fun D s H ⟨r, n, O, R, w, M⟩ =>
  ⟨r, n, { O with nx := Wb O }, R, w, ⟨fun s' H' r' n' x R' q => ⟨r', n', O, R', q, M.go x⟩, M.rt, M.bk, M.ct⟩⟩
theorem dss_1 (h : DS X m st Wa) : DSs X m [st] Wa := pss_one h
@[simp] def wIfS (Wc : WT) (Wa Wb : WS) : WS := fun O r n => Wc r n fun c n1 => if c = true then Wa O r n1 else Wb O r n1
theorem ds_if (hc : DT X m c Wc) (ha : DSs X m a Wa) (hb : DSs X m b Wb) : DS X m (.If c a b pos) (wIfS Wc Wa Wb) := ps_by (ps_if hc ha hb) fun D s H ⟨r, n, O, R, w, M⟩ =>
  ⟨r, n, _, R, w, fun c H1 n1 x1 s1 p => by
    cases c with
    | true => exact ⟨r, n1, O, R.go x1 s1, p, M.go x1⟩
    | false => exact ⟨r, n1, O, R.go x1 s1, p, M.go x1⟩⟩
@[simp] def wRet (We : WE) : WS := fun O r n => We r n O.rt
theorem ds_ret (he : DE X m e We) : DS X m (.Return (some e) pos) (wRet We) := ps_by (ps_ret he) fun D s H ⟨r, n, O, R, w, M⟩ => ⟨r, n, O.rt, R, w, fun v H' d n' x s' h p => M.rt v H' d n' x s' h p⟩
@[simp] def wNever : WS := fun _ _ _ => False
theorem ds_never : DS X m st wNever := ps_by ps_never fun D s H ⟨_, _, _, _, w, _⟩ => w.elim
theorem dss_never : DSs X m a wNever := pss_by pss_never fun D s H ⟨_, _, _, _, w, _⟩ => w.elim
@[simp] def wAsg (We : WE) (Wg : WG) : WS := fun O r n => We r n fun d n1 => Wg d r fun r1 => O.nx r1 n1
theorem ds_asg {tg : Expr} (he : DE X m e We) (hg : DG X m tg sl Wg) (hs : swapsWithSole [tg] e pos.line X.env = pure false := by rfl) (hw : swappedStores [tg] e X.env = pure none := by rfl) (h1 : (assignEach [tg] X.env).map (·.2) = [assign tg X.env] := by rfl) : DS X m (.Assign [tg] e pos) (wAsg We Wg) :=
  ps_by (ps_asg he hg hs hw h1) fun D s H ⟨r, n, O, R, w, M⟩ => ⟨r, n, _, R, w, fun v H1 d n1 x1 s1 h1 w1 => ⟨r, n1, d, _, R.go x1 s1, h1, w1, fun s2 H2 r2 e2 R2 p2 _ => M.nx s2 H2 r2 n1 (x1.trans (.of e2)) R2 p2⟩⟩
theorem ds_set (i : Nat) {x : Str} {pos' : Pos} (hN : X.N.Nodup) (hk : ∀ p ∈ m.keep, p.1 ≠ i) (he : DE X m e We) (hi : X.N[i]? = some x := by rfl) (hx : Loc X.env.scope x := by first | exact Or.inl rfl | exact Or.inr rfl)
    (hs : swapsWith e (some (.Name x pos')) pos.line X.env = pure false := by rfl) (hf : X.fn x = true ∨ X.env.scope.names.lookup x = some .local := by first | exact .inl rfl | exact .inr rfl | assumption) : DS X m (.Assign [.Name x pos'] e pos) (wAsg We (wgN i)) :=
  ps_by (ps_set hN hi hx he hs hf) fun D s H ⟨r, n, O, R, w, M⟩ => ⟨r, n, _, R, w, fun v H1 d n1 x1 s1 h1 w1 => M.nx _ H1 _ n1 x1 ((R.go x1 s1).set h1 hk) w1⟩
/-- y = [.. for ..], on one line -/
theorem ds_lc0 (own : List (Str × Nat)) (i : Nat) {y : Str} {py spos : Pos} (hc : X.calm = true) (hN : X.N.Nodup) (hky : ∀ p ∈ m.keep, p.1 ≠ i) (hsw : swapsWith (.ListComp elt [⟨tg, iter, [], 0⟩] scope pos) (some (.Name y py)) spos.line X.env = pure true) (hi : DI X m tg iter Wi) (ok : BlkOk X.N X.env.scope scope own)
    (hk : ∀ p ∈ m.keep, p.1 ∉ own.map (·.2)) (hsl : ∀ i ∈ sl, i ∈ own.map (·.2))
    (hg : ∀ (s : Shared) (H : Hp) (C : Addr) (cl : List (Str × Addr)) (fp : List Addr), DG (X.blk s H scope (compEnvC scope cl C X.env) fp) m tg sl Wg)
    (he : ∀ (s : Shared) (H : Hp) (C : Addr) (cl : List (Str × Addr)) (fp : List Addr), DE (X.blk s H scope (compEnvC scope cl C X.env) fp) m elt We) (hy : X.N[i]? = some y := by rfl) (hyl : X.env.scope.names.lookup y = some .local := by rfl) (hs : ∀ x, foldedSetIterable iter X.env x = pure x := by intro _; rfl) :
    DS X m (.Assign [.Name y py] (.ListComp elt [⟨tg, iter, [], 0⟩] scope pos) spos) (wAsg (wLc Wi Wg wYes We (own.map (·.2))) (wgN i)) :=
  ps_by (ps_setLc hc hN hy hyl hsw hi ok hg (fun _ _ _ _ _ => pts_nil) he hs) fun D s H ⟨r, n, O, R, w, M⟩ => by
    refine w_lc hk hsl t_yes ⟨r, n, _, R, w, fun v H1 d n1 x1 s1 h1 w1 => ?_⟩
    exact M.nx _ H1 _ n1 x1 ((R.go x1 s1).set h1 hky) w1
theorem ds_lc1 (own : List (Str × Nat)) (i : Nat) {y : Str} {py spos : Pos} (hc : X.calm = true) (hN : X.N.Nodup) (hky : ∀ p ∈ m.keep, p.1 ≠ i) (hsw : swapsWith (.ListComp elt [⟨tg, iter, [c], 0⟩] scope pos) (some (.Name y py)) spos.line X.env = pure true) (hi : DI X m tg iter Wi) (ok : BlkOk X.N X.env.scope scope own)
    (hk : ∀ p ∈ m.keep, p.1 ∉ own.map (·.2)) (hsl : ∀ i ∈ sl, i ∈ own.map (·.2))
    (hg : ∀ (s : Shared) (H : Hp) (C : Addr) (cl : List (Str × Addr)) (fp : List Addr), DG (X.blk s H scope (compEnvC scope cl C X.env) fp) m tg sl Wg)
    (ht : ∀ (s : Shared) (H : Hp) (C : Addr) (cl : List (Str × Addr)) (fp : List Addr), DT (X.blk s H scope (compEnvC scope cl C X.env) fp) m c Wt)
    (he : ∀ (s : Shared) (H : Hp) (C : Addr) (cl : List (Str × Addr)) (fp : List Addr), DE (X.blk s H scope (compEnvC scope cl C X.env) fp) m elt We) (hy : X.N[i]? = some y := by rfl) (hyl : X.env.scope.names.lookup y = some .local := by rfl) (hs : ∀ x, foldedSetIterable iter X.env x = pure x := by intro _; rfl) :
    DS X m (.Assign [.Name y py] (.ListComp elt [⟨tg, iter, [c], 0⟩] scope pos) spos) (wAsg (wLc Wi Wg Wt We (own.map (·.2))) (wgN i)) :=
  ps_by (ps_setLc hc hN hy hyl hsw hi ok hg (fun s H C cl fp => pts_one (ht s H C cl fp)) he hs) fun D s H ⟨r, n, O, R, w, M⟩ => by
    refine w_lc hk hsl (fun _ _ _ z => z) ⟨r, n, _, R, w, fun v H1 d n1 x1 s1 h1 w1 => ?_⟩
    exact M.nx _ H1 _ n1 x1 ((R.go x1 s1).set h1 hky) w1
/-- for .. in -/
@[irreducible] def wFor (Wi : WI) (Wg : WG) (Wb : WS) : WS := fun O r n => Wi r n fun items n1 => ∃ Iv : Nat → Rv → Nat → Prop, Iv 0 r n1 ∧
  (∀ i d r1 n1, items[i]? = some d → Iv i r1 n1 → Wg d r1 fun r2 => Wb { nx := fun r3 n3 => ∃ r4, Le r4 r3 ∧ Iv (i + 1) r4 n3, ct := fun r3 n3 => ∃ r4, Le r4 r3 ∧ Iv (i + 1) r4 n3, bk := O.nx, rt := O.rt } r2 n1) ∧
  ∀ r1 n1, Iv items.length r1 n1 → O.nx r1 n1
theorem ds_for {body : List Stmt} (hp : PassesOwn (model X.prog X.w) X.A X.env X.xe) (hc : X.calm = true) (hi : DI X m tg iter Wi) (hg : DG X m tg sl Wg) (hb : DSs X m body Wa) (hs : ∀ x, foldedSetIterable iter X.env x = pure x := by intro _; rfl) : DS X m (.For tg iter body [] pos) (wFor Wi Wg Wa) :=
  ps_by (ps_for hp hc hi hg hb hs) fun D s H ⟨r, n, O, R, w, M⟩ => by
    unfold wFor at w
    refine ⟨r, n, _, R, w, fun J G H1 items n1 x1 s1 wk g1 ⟨Iv, i0, is, ie⟩ => ?_⟩
    have R1 : Rst X.K m s H1 r n1 := R.go x1 s1
    have walk : Walk J items.length G (fun i H v H' => Ex H H' ∧ ∃ d, items[i]? = some d ∧ Dq X.K H' v d) := ⟨wk.go, wk.stop, wk.yld⟩
    refine for_it walk (fun i s' H' => ∃ r' n', Xt m H1 H' ∧ Rst X.K m s' H' r' n' ∧ Iv i r' n') ⟨r, n1, Xt.refl m H1, R1, i0⟩ (fun i s' H' _ ⟨r', n', x', R', _⟩ => wk.keep n1 H1 H' s1 x' g1) ?_ ?_
    · rintro i v s2 H2 H3 hi ⟨r2, n2, x2, R2, iv⟩ ⟨e3, d, ed, h3⟩
      have R3 := R2.ex e3
      have x3 : Xt m H1 H3 := x2.trans (.of e3)
      refine ⟨r2, n2, d, _, R3, h3, is i d r2 n2 ed iv, fun s4 H4 r4 e4 R4 w4 _ => ?_⟩
      have x4 : Xt m H1 H4 := x3.trans (.of e4)
      refine ⟨r4, n2, _, R4, w4, ⟨?_, ?_, ?_, ?_⟩⟩
      · intro s5 H5 r5 n5 x5 R5 ⟨r6, l6, iv6⟩
        exact ⟨r6, n5, x4.trans x5, R5.le l6, iv6⟩
      · intro v5 H5 d5 n5 x5 s5 h5 p5
        exact M.rt v5 H5 d5 n5 (x1.trans (x4.trans x5)) s5 h5 p5
      · intro s5 H5 r5 n5 x5 R5 p5
        exact M.nx s5 H5 r5 n5 (x1.trans (x4.trans x5)) R5 p5
      · intro s5 H5 r5 n5 x5 R5 ⟨r6, l6, iv6⟩
        exact ⟨r6, n5, x4.trans x5, R5.le l6, iv6⟩
    · rintro s2 H2 ⟨r2, n2, x2, R2, iv⟩
      exact M.nx s2 H2 r2 n2 (x1.trans x2) R2 (ie r2 n2 iv)
/-- a, b = e1, e2 -/
@[simp] def wPar (i j : Nat) (As : WA) : WS := fun O r n => As r n fun ds n1 => ∃ a b, ds = [a, b] ∧ O.nx ((r.set i (some a)).set j (some b)) n1
/-- an expression alone -/
@[simp] def wDrop (We : WE) : WS := fun O r n => We r n fun _ n1 => O.nx r n1
theorem ds_expr (he : DE X m e We) (hs : swapsWith e none pos.line X.env = pure false := by rfl) : DS X m (.Expr e pos) (wDrop We) := ps_by (ps_expr he hs) fun D s H ⟨r, n, O, R, w, M⟩ =>
  ⟨r, n, _, R, w, fun v H1 d n1 x1 s1 h1 p => M.nx s H1 r n1 x1 (R.go x1 s1) p⟩
end
/-! ### defs -/
/-- a def of data: what it is given, what it gives -/
def spD (K : PySem.W.Frag) (g : List PyData → PyData → Prop) : Sp := fun vs H Q _ => ∃ ds d, DqA K H vs ds ∧ g ds d ∧ ∀ v H', Ex H H' → Dq K H' v d → Q v H'
/-- a def that draws: its first argument is the drawing's own -/
def spM (K : PySem.W.Frag) (m : Md) (a : V) (g : List PyData → Nat → (PyData → Nat → Prop) → Prop) : Sp := fun vs H Q _ => ∃ us ds n P, vs = a :: us ∧ DqA K H us ds ∧ m.S n H ∧ g ds n P ∧ ∀ v H' d n', Xt m H H' → m.S n' H' → Dq K H' v d → P d n' → Q v H'
/-- a def by its name -/
structure Cal (P : Program) (w : World) (K : PySem.W.Frag) (mg : Str → Option Value) (base : Heap) (k : Nat) (x : Str) (ps : List Str) (sp : Sp) : Prop where
  ok : ∃ f fd, FnOk P w K mg base CX0 k f fd ps sp ∧ mg x = some (.ref f) ∧ PySem.W.keepIn K (.ref f) = true ∧ Binds K fd ps []
abbrev FnP (K : PySem.W.Frag) (x : Str) (st : Stmt) (f : Addr) (fd : FuncData) : Prop := FunD K x x (defArgs st) (defBody st) (defScope st) [] [] f fd
section
variable {P : Program} {w : World} {K : PySem.W.Frag} {mg : Str → Option Value} {base : Heap}
@[simp] def startR (N : List Str) (ds : List PyData) : Rv := ds.map some ++ List.replicate (N.length - ds.length) none
theorem da_some : ∀ {vs : List V} {ds : List PyData} {H : Hp} {i : Nat} {d : PyData}, DqA K H vs ds → ds[i]? = some d → ∃ v, vs[i]? = some v ∧ Dq K H v d := fun h e => da_at h e
theorem start_rst {N : List Str} {vs : List V} {ds : List PyData} {H : Hp} {n : Nat} {m : Md} (h : DqA K H vs ds) (hl : ds.length ≤ N.length) (hs : m.S n H) (hk : m.keep = []) : Rst K m (L2.start N vs) H (startR N ds) n := by
  refine ⟨fun i d e => ?_, ?_, fun p hp => ?_, hs⟩
  · unfold startR at e
    have hlt : i < ds.length := by
      by_cases q : i < ds.length
      · exact q
      · rw [List.getElem?_append_right (by simpa using q)] at e
        have z := List.mem_of_getElem? e
        have z2 := List.eq_of_mem_replicate z
        cases z2
    rw [List.getElem?_append_left (by simpa using hlt), List.getElem?_map, List.getElem?_eq_getElem hlt] at e
    have e2 : ds[i] = d := Option.some.inj (Option.some.inj e)
    obtain ⟨v, h1, h2⟩ := da_at h (List.getElem?_eq_getElem hlt)
    rw [e2] at h2
    refine ⟨v, ?_, h2⟩
    unfold L2.start
    rw [List.getElem?_append_left (by rw [List.length_map, da_len h]; exact hlt), List.getElem?_map, h1] <;> rfl
  · unfold startR L2.start
    rw [List.length_append, List.length_append, List.length_map, List.length_map, List.length_replicate, List.length_replicate, da_len h] <;> rfl
  · rw [hk] at hp
    cases hp
@[simp] def outsD (d : PyData) : Outs := { nx := fun _ _ => d = .none, rt := fun d' _ => d' = d }
theorem okD {x : Str} {st : Stmt} {N ps : List Str} {k : Nat} {g : List PyData → PyData → Prop} {f : Addr} {fd : FuncData} (F : FnP K x st f fd) (S : FnScope N ps (defScope st)) (hm : mg x = some (.ref f)) (hb : Binds K fd ps []) (hl : ∀ ds d, g ds d → ds.length = ps.length) (hN : ps.length ≤ N.length)
    (W : ∀ (cdv : Value) (A : Around) (outer : List Env) (s : Shared) (H : Hp) (E : XK), Room k (A.deeper (envOfC x (defScope st) s.heap.objs.size f cdv)) →
      ∃ Wb, DSs (cxOf CX0 P w K mg base N x (defScope st) f cdv A outer s H E).nox pureM (defBody st) Wb ∧ ∀ ds d, g ds d → Wb (outsD d) (startR N ds) 0) : Cal P w K mg base (k + 1) x ps (spD K g) := by
  refine ⟨f, fd, F.ok S (fun vs H Q E h => ?_) (fun cdv A outer s H vs Q E hr h => ?_), hm, F.kp, hb⟩
  · obtain ⟨ds, d, h1, h2, _⟩ := h
    rw [da_len h1]
    exact hl ds d h2
  · obtain ⟨ds, d, h1, h2, kk⟩ := h
    obtain ⟨Wb, hW, hR⟩ := W cdv A outer s H E hr
    refine ⟨tWS K pureM Wb, hW.nox, startR N ds, 0, outsD d, start_rst h1 (by rw [hl ds d h2]; exact hN) trivial rfl, hR ds d h2, ⟨fun s' H' r' n' y R' q => ?_, fun v H' d' n' y _ hd q => ?_, fun _ _ _ _ _ _ q => q, fun _ _ _ _ _ _ q => q⟩⟩
    · have q : d = .none := q
      subst q
      exact kk .non H' y.pure .non
    · have q : d' = d := q
      subst q
      exact kk v H' y.pure hd
@[simp] def startM (N : List Str) (ds : List PyData) : Rv := none :: (ds.map some ++ List.replicate (N.length - (ds.length + 1)) none)
theorem startM_rst {N : List Str} {a : V} {vs : List V} {ds : List PyData} {H : Hp} {n : Nat} {m : Md} (h : DqA K H vs ds) (hl : ds.length + 1 ≤ N.length) (hs : m.S n H) (hk : m.keep = [(0, a)]) : Rst K m (L2.start N (a :: vs)) H (startM N ds) n := by
  refine ⟨fun i d e => ?_, ?_, fun p hp => ?_, hs⟩
  · unfold startM at e
    cases i with
    | zero =>
      have e2 := Option.some.inj e
      cases e2
    | succ i =>
      have e1 : (ds.map some ++ List.replicate (N.length - (ds.length + 1)) none)[i]? = some (some d) := e
      have hlt : i < ds.length := by
        by_cases q : i < ds.length
        · exact q
        · rw [List.getElem?_append_right (by simpa using q)] at e1
          have z := List.mem_of_getElem? e1
          have z2 := List.eq_of_mem_replicate z
          cases z2
      rw [List.getElem?_append_left (by simpa using hlt), List.getElem?_map, List.getElem?_eq_getElem hlt] at e1
      have e2 : ds[i] = d := Option.some.inj (Option.some.inj e1)
      obtain ⟨v, h1, h2⟩ := da_at h (List.getElem?_eq_getElem hlt)
      rw [e2] at h2
      refine ⟨v, ?_, h2⟩
      show ((vs.map some) ++ List.replicate (N.length - (a :: vs).length) none)[i]? = some (some v)
      rw [List.getElem?_append_left (by rw [List.length_map, da_len h]; exact hlt), List.getElem?_map, h1] <;> rfl
  · unfold startM L2.start
    have e := da_len h
    simp only [List.length_append, List.length_cons, List.length_map, List.length_replicate]
    omega
  · rw [hk] at hp
    cases List.mem_singleton.mp hp
    rfl
theorem okM {x : Str} {st : Stmt} {N ps : List Str} {k : Nat} {m : Md} {a : V} {g : List PyData → Nat → (PyData → Nat → Prop) → Prop} {f : Addr} {fd : FuncData} (F : FnP K x st f fd) (S : FnScope N ps (defScope st)) (hm : mg x = some (.ref f)) (hb : Binds K fd ps []) (hk : m.keep = [(0, a)])
    (hl : ∀ ds n Q, g ds n Q → ds.length + 1 = ps.length) (hN : ps.length ≤ N.length)
    (W : ∀ (cdv : Value) (A : Around) (outer : List Env) (s : Shared) (H : Hp) (E : XK), Room k (A.deeper (envOfC x (defScope st) s.heap.objs.size f cdv)) →
      ∃ Wb, DSs (cxOf CX0 P w K mg base N x (defScope st) f cdv A outer s H E).nox m (defBody st) Wb ∧ ∀ ds n Q, g ds n Q → Wb { nx := fun _ n' => Q .none n', rt := Q } (startM N ds) n) : Cal P w K mg base (k + 1) x ps (spM K m a g) := by
  refine ⟨f, fd, F.ok S (fun vs H Q E h => ?_) (fun cdv A outer s H vs Q E hr h => ?_), hm, F.kp, hb⟩
  · obtain ⟨us, ds, n, Q', e, h1, _, h2, _⟩ := h
    rw [e, List.length_cons, da_len h1]
    exact hl ds n Q' h2
  · obtain ⟨us, ds, n, Q', e, h1, h3, h2, kk⟩ := h
    subst e
    obtain ⟨Wb, hW, hR⟩ := W cdv A outer s H E hr
    refine ⟨tWS K m Wb, hW.nox, startM N ds, n, { nx := fun _ n' => Q' .none n', rt := Q' }, startM_rst h1 (by rw [hl ds n Q' h2]; exact hN) h3 hk, hR ds n Q' h2, ⟨fun s' H' r' n' y R' q => ?_, fun v H' d' n' y s' hd q => ?_, fun _ _ _ _ _ _ q => q, fun _ _ _ _ _ _ q => q⟩⟩
    · exact kk .non H' .none n' y R'.st .non q
    · exact kk v H' d' n' y s' hd q
end
section
variable {X : Cx} {m : Md} {e : Expr} {es : List Expr} {As : WA} {pos p : Pos} {x : Str} {ps : List Str} {k j : Nat}
@[simp] def wCall (g : List PyData → PyData → Prop) (As : WA) : WE := fun r n P => As r n fun ds n1 => ∃ d, g ds d ∧ P d n1
theorem de_call {g : List PyData → PyData → Prop} (C : Cal X.prog X.w X.K X.mg X.base k x ps (spD X.K g)) (hr : Room j X.A) (hk : k ≤ j) (ha : DA X m (e :: es) As) (hg : Gl X x := by rfl) (hdb : (x == ("__debug__" : Str)) = false := by decide)
    (he : starEach (e :: es) X.env = (false, eval e X.env) :: starEach es X.env := by rfl) (hpl : (backTo pos (starEach es X.env)).any (·.1) = false := by rfl) : DE X m (.Call (.Name x p) (e :: es) [] pos) (wCall g As) := by
  obtain ⟨f, fd, F, hm, hkp, hb⟩ := C.ok
  refine pe_by (pe_call F (hr.mono hk) hg hm hkp hb .nil pass0 ha hdb he hpl) fun s H Q ⟨r, n, P, R, w, kk⟩ => ⟨r, n, _, R, w, fun vs H1 ds n1 x1 s1 h1 ⟨d, hgd, p⟩ => ?_⟩
  show spD X.K g (vs ++ []) H1 Q E0
  rw [List.append_nil]
  exact ⟨ds, d, h1, hgd, fun v H2 e2 h2 => kk v H2 d n1 (x1.trans (.of e2)) (m.sx _ _ _ e2 s1) h2 p⟩
/-- a mode within another -/
structure MdLe (m' m : Md) : Prop where
  S : ∀ n H, m.S n H → m'.S n H
  back : ∀ n n' H H', m.S n H → Xt m' H H' → m'.S n' H' → m.S n' H'
  out : ∀ b, b ∈ m'.out → b ∈ m.out
  tb : m'.tb = true → m.tb = true
theorem MdLe.refl (m : Md) : MdLe m m := ⟨fun _ _ h => h, fun _ _ _ _ _ _ h => h, fun _ h => h, fun h => h⟩
@[simp] def wDraw (g : List PyData → Nat → (PyData → Nat → Prop) → Prop) (As : WA) : WE := fun r n P => As r n fun ds n1 => g ds n1 P
theorem de_draw {m' : Md} {a : V} {i : Nat} {y : Str} {p1 : Pos} {g : List PyData → Nat → (PyData → Nat → Prop) → Prop} (C : Cal X.prog X.w X.K X.mg X.base k x ps (spM X.K m' a g)) (L : MdLe m' m) (hr : Room j X.A) (hk : k ≤ j) (ha : DA X m es As) (hi : (i, a) ∈ m.keep)
    (hN : X.N[i]? = some y := by rfl) (hv : Vis X.env.scope y := by first | exact Or.inl rfl | exact Or.inr (Or.inl rfl) | exact Or.inr (Or.inr rfl)) (hd : (y == ("__debug__" : Str)) = false := by decide) (hc : (y == ("__classdict__" : Str)) = false := by decide)
    (hg : Gl X x := by rfl) (hdb : (x == ("__debug__" : Str)) = false := by decide)
    (he : starEach (.Name y p1 :: es) X.env = (false, eval (.Name y p1) X.env) :: starEach es X.env := by rfl) (hpl : (backTo pos (starEach es X.env)).any (·.1) = false := by rfl) : DE X m (.Call (.Name x p) (.Name y p1 :: es) [] pos) (wDraw g As) := by
  obtain ⟨f, fd, F, hm, hkp, hb⟩ := C.ok
  refine pe_by (pe_call F (hr.mono hk) hg hm hkp hb .nil pass0 (pa_cons (pe_var hN hv hd hc) ha he) hdb he hpl) fun s H Q ⟨r, n, P, R, w, kk⟩ => ⟨a, R.kp _ hi, r, n, _, R, w, fun vs H1 ds n1 x1 s1 h1 hgd => ?_⟩
  refine ⟨vs, ds, n1, P, by show (a :: vs) ++ [] = a :: vs; rw [List.append_nil], h1, L.S _ _ s1, hgd, fun v H2 d n2 x2 s2 h2 p2 => kk v H2 d n2 (x1.trans fun b o hb ht e1 => x2 b o (fun z => hb (L.out b z)) (fun q => ht (L.tb q)) e1) (L.back n1 n2 H1 H2 s1 x2 s2) h2 p2⟩
end
/-! ### comprehensions by functions -/
section
variable {items : List PyData} {Wg : WG} {Wt : WT} {We : WE} {vs : List Nat} {r : Rv} {n : Nat} {Q : PyData → Nat → Prop}
theorem take_succ_some {α : Type} : ∀ {l : List α} {i : Nat} {x : α}, l[i]? = some x → l.take (i + 1) = l.take i ++ [x]
  | [], i, x, h => by simp at h
  | a :: l, 0, x, h => by
    have e : a = x := Option.some.inj h
    subst e
    rfl
  | a :: l, i + 1, x, h => by
    have ih := take_succ_some (l := l) (i := i) (x := x) h
    show a :: l.take (i + 1) = a :: l.take i ++ [x]
    rw [ih]
    rfl
theorem lc_map (g : PyData → PyData) (hl : items.length ≤ 40000) (h : ∀ (i : Nat) (d : PyData), items[i]? = some d → ∀ P' : PyData → Nat → Prop, P' (g d) n → Wg d (wipeR r vs) fun r2 => We r2 n P') (ht : ∀ (i : Nat) (d : PyData), items[i]? = some d → tupD (g d) = true) (k : Q (.list (items.map g)) n) :
    items.length ≤ 40000 ∧ ∃ Iv : Nat → List PyData → Nat → Prop, Iv 0 [] n ∧
      (∀ (i : Nat) (d : PyData) (acc : List PyData) (n' : Nat), items[i]? = some d → Iv i acc n' → Wg d (wipeR r vs) fun r2 => wYes r2 n' fun b n2 => if b = true then We r2 n2 fun e n3 => tupD e = true ∧ Iv (i + 1) (acc ++ [e]) n3 else Iv (i + 1) acc n2) ∧ ∀ acc n', Iv items.length acc n' → Q (.list acc) n' := by
  refine ⟨hl, fun i acc n' => acc = (items.take i).map g ∧ n' = n, ⟨rfl, rfl⟩, fun i d acc n' e ⟨e1, e2⟩ => ?_, fun acc n' ⟨e1, e2⟩ => ?_⟩
  · subst e1
    subst e2
    refine h i d e _ ⟨ht i d e, ?_, rfl⟩
    rw [take_succ_some e, List.map_append]
    rfl
  · subst e1
    subst e2
    rw [List.take_length]
    exact k
theorem lc_filter (p : PyData → Bool) (g : PyData → PyData) (hl : items.length ≤ 40000) (h : ∀ (i : Nat) (d : PyData), items[i]? = some d → ∀ P' : PyData → Nat → Prop, ∀ P2 : Nat → Prop, (p d = true → P' (g d) n) → (p d = false → P2 n) → Wg d (wipeR r vs) fun r2 => Wt r2 n fun b n2 => if b = true then We r2 n2 P' else P2 n2) (ht : ∀ (i : Nat) (d : PyData), items[i]? = some d → p d = true → tupD (g d) = true)
    (k : Q (.list ((items.filter p).map g)) n) :
    items.length ≤ 40000 ∧ ∃ Iv : Nat → List PyData → Nat → Prop, Iv 0 [] n ∧
      (∀ (i : Nat) (d : PyData) (acc : List PyData) (n' : Nat), items[i]? = some d → Iv i acc n' → Wg d (wipeR r vs) fun r2 => Wt r2 n' fun b n2 => if b = true then We r2 n2 fun e n3 => tupD e = true ∧ Iv (i + 1) (acc ++ [e]) n3 else Iv (i + 1) acc n2) ∧ ∀ acc n', Iv items.length acc n' → Q (.list acc) n' := by
  refine ⟨hl, fun i acc n' => acc = ((items.take i).filter p).map g ∧ n' = n, ⟨rfl, rfl⟩, fun i d acc n' e ⟨e1, e2⟩ => ?_, fun acc n' ⟨e1, e2⟩ => ?_⟩
  · subst e1
    subst e2
    refine h i d e _ _ (fun hp => ⟨ht i d e hp, ?_, rfl⟩) (fun hp => ⟨?_, rfl⟩)
    · rw [take_succ_some e, List.filter_append, List.map_append]
      simp [hp]
    · rw [take_succ_some e, List.filter_append, List.map_append]
      simp [hp]
  · subst e1
    subst e2
    rw [List.take_length]
    exact k
end
section
variable {Wi : WI} {Wg : WG} {Wt : WT} {We : WE} {vs : List Nat} {r : Rv} {n : Nat} {Q : PyData → Nat → Prop}
theorem wLc_map (items : List PyData) (g : PyData → PyData) (hs : ∀ A : List PyData → Nat → Prop, A items n → Wi r n A) (hl : items.length ≤ 40000) (h : ∀ (i : Nat) (d : PyData), items[i]? = some d → ∀ P' : PyData → Nat → Prop, P' (g d) n → Wg d (wipeR r vs) fun r2 => We r2 n P')
    (ht : ∀ (i : Nat) (d : PyData), items[i]? = some d → tupD (g d) = true) (k : Q (.list (items.map g)) n) : wLc Wi Wg wYes We vs r n Q := by
  unfold wLc
  exact hs _ (lc_map g hl h ht k)
theorem wLc_filter (items : List PyData) (p : PyData → Bool) (g : PyData → PyData) (hs : ∀ A : List PyData → Nat → Prop, A items n → Wi r n A) (hl : items.length ≤ 40000)
    (h : ∀ (i : Nat) (d : PyData), items[i]? = some d → ∀ P' : PyData → Nat → Prop, ∀ P2 : Nat → Prop, (p d = true → P' (g d) n) → (p d = false → P2 n) → Wg d (wipeR r vs) fun r2 => Wt r2 n fun b n2 => if b = true then We r2 n2 P' else P2 n2)
    (ht : ∀ (i : Nat) (d : PyData), items[i]? = some d → p d = true → tupD (g d) = true) (k : Q (.list ((items.filter p).map g)) n) : wLc Wi Wg Wt We vs r n Q := by
  unfold wLc
  exact hs _ (lc_filter p g hl h ht k)
end
@[simp] theorem kit_ii : kitB "int" "int" = some true := by decide +kernel
@[simp] theorem kit_ib : kitB "int" "bool" = some false := by decide +kernel
@[simp] theorem kit_bb : kitB "bool" "bool" = some true := by decide +kernel
@[simp] theorem kit_bi : kitB "bool" "int" = some true := by decide +kernel
@[simp] theorem kit_ss : kitB "str" "str" = some true := by decide +kernel
@[simp] theorem kit_tt : kitB "tuple" "tuple" = some true := by decide +kernel
@[simp] theorem kit_ts : kitB "tuple" "str" = some false := by decide +kernel
@[simp] theorem eqv_ii (a b : Int) : PyData.eqv (.int a) (.int b) = (a == b) := rfl
@[simp] theorem eqv_ss (a b : Str) : PyData.eqv (.str a) (.str b) = (a == b) := rfl
@[simp] theorem eqv_bb (a b : Bool) : PyData.eqv (.bool a) (.bool b) = (a == b) := rfl
@[simp] theorem eqv_tt (a b : List PyData) : PyData.eqv (.tuple a) (.tuple b) = PyData.eqvAll a b := rfl
@[simp] theorem eqv_ll (a b : List PyData) : PyData.eqv (.list a) (.list b) = PyData.eqvAll a b := rfl
@[simp] theorem eqvA_cc (a b : PyData) (c d : List PyData) : PyData.eqvAll (a :: c) (b :: d) = (PyData.eqv a b && PyData.eqvAll c d) := rfl
@[simp] theorem eqvA_nn : PyData.eqvAll [] [] = true := rfl
@[simp] theorem eqvA_nc (b : PyData) (d : List PyData) : PyData.eqvAll [] (b :: d) = false := rfl
@[simp] theorem eqvA_cn (b : PyData) (d : List PyData) : PyData.eqvAll (b :: d) [] = false := rfl
@[simp] theorem tupD_none : tupD .none = true := by simp [tupD]
@[simp] theorem tupD_bool (b : Bool) : tupD (.bool b) = true := by simp [tupD]
@[simp] theorem tupD_int (b : Int) : tupD (.int b) = true := by simp [tupD]
@[simp] theorem tupD_str (b : Str) : tupD (.str b) = true := by simp [tupD]
@[simp] theorem tupD_tup (b : List PyData) : tupD (.tuple b) = b.all tupD := by rw [tupD, tupDs_all]
theorem bools_const (l : List PyData) : boolsOf (l.map fun _ => PyData.bool true) = some (l.map fun _ => true) := by
  induction l with
  | nil => rfl
  | cons a l ih =>
    show (boolsOf (l.map fun _ => PyData.bool true)).map (true :: ·) = _
    rw [ih]
    rfl
theorem all_true (l : List PyData) : allF false [.list (l.map fun _ => .bool true)] = some (.bool true) := by
  show (boolsOf (l.map fun _ => PyData.bool true)).map (fun bs => PyData.bool (bs.all id)) = _
  rw [bools_const]
  simp
theorem ite_b {b : Bool} {A B : Prop} (h1 : b = true → A) (h2 : b = false → B) : if b = true then A else B := by
  cases b with
  | true => exact h1 rfl
  | false => exact h2 rfl
theorem strs_flat (l : List Str) : (l.map PyData.str).all flatD = true := by simp
theorem any_str (l : List Str) (s : Str) : ((l.map PyData.str).any fun y => PyData.eqv y (.str s)) = decide (s ∈ l) := by
  induction l with
  | nil => rfl
  | cons a l ih =>
    rw [List.map_cons, List.any_cons, ih, eqv_ss]
    by_cases h : a = s
    · subst h
      simp
    · have h2 : ¬ s = a := fun z => h z.symm
      have e : (a == s) = false := by simpa using h
      rw [e]
      simp [h2]
theorem strs_at {l : List Str} {i : Nat} {d : PyData} (e : (l.map PyData.str)[i]? = some d) : ∃ s, d = .str s ∧ s ∈ l := by
  rw [List.getElem?_map] at e
  cases q : l[i]? with
  | none =>
    rw [q] at e
    cases e
  | some s =>
    rw [q] at e
    exact ⟨s, (Option.some.inj e).symm, List.mem_of_getElem? q⟩
end K45
/-! KText -/
set_option Elab.async false
set_option linter.all false
set_option maxRecDepth 100000
set_option maxHeartbeats 1000000
/-! the text by places, the names by slots -/
namespace K45
open PySem PySem.Spec PyProof.Rows L2
def top (i : Nat) : Stmt := PySem.Challenge.pw_wakehall_k45_whole_jumps.main.body.getD i (.Pass ⟨0, 0, 0, 0⟩)
abbrev s_is_number : Stmt := top 27
theorem sc_is_number : FnScope ["thing", "least", "most"] ["thing", "least", "most"] (defScope s_is_number) := ⟨rfl, rfl, rfl, by decide +kernel, rfl, by decide +kernel, by decide +kernel⟩
abbrev s_is_name : Stmt := top 28
theorem sc_is_name : FnScope ["thing", "letter"] ["thing"] (defScope s_is_name) := ⟨rfl, rfl, rfl, by decide +kernel, rfl, by decide +kernel, by decide +kernel⟩
abbrev s_is_tuple_of : Stmt := top 29
theorem sc_is_tuple_of : FnScope ["thing", "many"] ["thing", "many"] (defScope s_is_tuple_of) := ⟨rfl, rfl, rfl, by decide +kernel, rfl, by decide +kernel, by decide +kernel⟩
abbrev s_are_up_to : Stmt := top 30
theorem sc_are_up_to : FnScope ["thing", "many"] ["thing", "many"] (defScope s_are_up_to) := ⟨rfl, rfl, rfl, by decide +kernel, rfl, by decide +kernel, by decide +kernel⟩
abbrev s_are_words : Stmt := top 31
theorem sc_are_words : FnScope ["thing", "word"] ["thing"] (defScope s_are_words) := ⟨rfl, rfl, rfl, by decide +kernel, rfl, by decide +kernel, by decide +kernel⟩
abbrev s_is_interest : Stmt := top 32
theorem sc_is_interest : FnScope ["thing", "target", "asked", "mode", "once", "alone"] ["thing"] (defScope s_is_interest) := ⟨rfl, rfl, rfl, by decide +kernel, rfl, by decide +kernel, by decide +kernel⟩
abbrev s_is_entry : Stmt := top 33
theorem sc_is_entry : FnScope ["thing", "asked", "mode", "word"] ["thing"] (defScope s_is_entry) := ⟨rfl, rfl, rfl, by decide +kernel, rfl, by decide +kernel, by decide +kernel⟩
abbrev s_is_pipe : Stmt := top 34
theorem sc_is_pipe : FnScope ["thing"] ["thing"] (defScope s_is_pipe) := ⟨rfl, rfl, rfl, by decide +kernel, rfl, by decide +kernel, by decide +kernel⟩
abbrev s_are_waiting : Stmt := top 35
theorem sc_are_waiting : FnScope ["thing", "one"] ["thing"] (defScope s_are_waiting) := ⟨rfl, rfl, rfl, by decide +kernel, rfl, by decide +kernel, by decide +kernel⟩
abbrev s_targets_of : Stmt := top 36
theorem sc_targets_of : FnScope ["one", "entry"] ["one"] (defScope s_targets_of) := ⟨rfl, rfl, rfl, by decide +kernel, rfl, by decide +kernel, by decide +kernel⟩
abbrev s_is_set : Stmt := top 37
theorem sc_is_set : FnScope ["thing", "entry", "targets", "row", "target"] ["thing"] (defScope s_is_set) := ⟨rfl, rfl, rfl, by decide +kernel, rfl, by decide +kernel, by decide +kernel⟩
abbrev s_waiting_at : Stmt := top 38
theorem sc_waiting_at : FnScope ["one", "waiter", "most"] ["one"] (defScope s_waiting_at) := ⟨rfl, rfl, rfl, by decide +kernel, rfl, by decide +kernel, by decide +kernel⟩
abbrev s_so_words : Stmt := top 39
theorem sc_so_words : FnScope ["hall", "name", "pipes", "sets", "own", "room", "held", "shut", "ready", "word", "one"] ["hall", "name"] (defScope s_so_words) := ⟨rfl, rfl, rfl, by decide +kernel, rfl, by decide +kernel, by decide +kernel⟩
abbrev s_due_words : Stmt := top 40
theorem sc_due_words : FnScope ["hall", "entry", "target", "asked", "mode", "once", "alone", "on", "fresh", "ready", "word"] ["hall", "entry"] (defScope s_due_words) := ⟨rfl, rfl, rfl, by decide +kernel, rfl, by decide +kernel, by decide +kernel⟩
abbrev s_due_targets : Stmt := top 41
theorem sc_due_targets : FnScope ["hall", "one", "entry"] ["hall", "one"] (defScope s_due_targets) := ⟨rfl, rfl, rfl, by decide +kernel, rfl, by decide +kernel, by decide +kernel⟩
abbrev s_below : Stmt := top 42
theorem sc_below : FnScope ["sets", "name", "targets", "one", "found", "left", "target"] ["sets", "name"] (defScope s_below) := ⟨rfl, rfl, rfl, by decide +kernel, rfl, by decide +kernel, by decide +kernel⟩
abbrev s_has_forms : Stmt := top 43
theorem sc_has_forms : FnScope ["pipes", "sets", "names", "waiting", "number", "one"] ["pipes", "sets"] (defScope s_has_forms) := ⟨rfl, rfl, rfl, by decide +kernel, rfl, by decide +kernel, by decide +kernel⟩
abbrev s_need_webs : Stmt := top 44
theorem sc_need_webs : FnScope ["pipes", "sets", "names", "own", "one", "number", "target", "asked", "rest", "on", "fresh"] ["pipes", "sets"] (defScope s_need_webs) := ⟨rfl, rfl, rfl, by decide +kernel, rfl, by decide +kernel, by decide +kernel⟩
abbrev s_need_hall : Stmt := top 45
theorem sc_need_hall : FnScope ["thing", "number", "one"] ["thing"] (defScope s_need_hall) := ⟨rfl, rfl, rfl, by decide +kernel, rfl, by decide +kernel, by decide +kernel⟩
abbrev s_waiters_of : Stmt := top 47
theorem sc_waiters_of : FnScope ["hall", "both", "one", "side", "waiter", "most", "name"] ["hall"] (defScope s_waiters_of) := ⟨rfl, rfl, rfl, by decide +kernel, rfl, by decide +kernel, by decide +kernel⟩
abbrev s_is_deed : Stmt := top 48
theorem sc_is_deed : FnScope ["thing", "word", "name", "rest"] ["thing"] (defScope s_is_deed) := ⟨rfl, rfl, rfl, by decide +kernel, rfl, by decide +kernel, by decide +kernel⟩
abbrev s_is_instruction : Stmt := top 82
theorem sc_is_instruction : FnScope ["thing", "many", "word"] ["thing", "many"] (defScope s_is_instruction) := ⟨rfl, rfl, rfl, by decide +kernel, rfl, by decide +kernel, by decide +kernel⟩
abbrev s_is_task : Stmt := top 83
theorem sc_is_task : FnScope ["thing"] ["thing"] (defScope s_is_task) := ⟨rfl, rfl, rfl, by decide +kernel, rfl, by decide +kernel, by decide +kernel⟩
abbrev s_need_tasks : Stmt := top 84
theorem sc_need_tasks : FnScope ["tasks", "number", "task", "one", "name", "code", "place", "instruction"] ["tasks"] (defScope s_need_tasks) := ⟨rfl, rfl, rfl, by decide +kernel, rfl, by decide +kernel, by decide +kernel⟩
abbrev s_need_program : Stmt := top 85
theorem sc_need_program : FnScope ["thing", "wrong"] ["thing"] (defScope s_need_program) := ⟨rfl, rfl, rfl, by decide +kernel, rfl, by decide +kernel, by decide +kernel⟩
abbrev s_is_telling : Stmt := top 86
theorem sc_is_telling : FnScope ["thing", "one"] ["thing"] (defScope s_is_telling) := ⟨rfl, rfl, rfl, by decide +kernel, rfl, by decide +kernel, by decide +kernel⟩
abbrev s_is_counter : Stmt := top 87
theorem sc_is_counter : FnScope ["thing", "many"] ["thing", "many"] (defScope s_is_counter) := ⟨rfl, rfl, rfl, by decide +kernel, rfl, by decide +kernel, by decide +kernel⟩
abbrev s_is_state_form : Stmt := top 88
theorem sc_is_state_form : FnScope ["program", "thing", "tasks", "one", "task"] ["program", "thing"] (defScope s_is_state_form) := ⟨rfl, rfl, rfl, by decide +kernel, rfl, by decide +kernel, by decide +kernel⟩
abbrev s_need_state : Stmt := top 89
theorem sc_need_state : FnScope ["program", "thing", "wrong", "waiting", "number", "name", "code", "counter", "names", "task"] ["program", "thing"] (defScope s_need_state) := ⟨rfl, rfl, rfl, by decide +kernel, rfl, by decide +kernel, by decide +kernel⟩
abbrev s_where_waits : Stmt := top 90
theorem sc_where_waits : FnScope ["hall", "name", "one", "side", "waiter", "most"] ["hall", "name"] (defScope s_where_waits) := ⟨rfl, rfl, rfl, by decide +kernel, rfl, by decide +kernel, by decide +kernel⟩
abbrev s_goes : Stmt := top 91
theorem sc_goes : FnScope ["program", "state", "number", "name", "code", "where"] ["program", "state", "number"] (defScope s_goes) := ⟨rfl, rfl, rfl, by decide +kernel, rfl, by decide +kernel, by decide +kernel⟩
abbrev s_going : Stmt := top 92
theorem sc_going : FnScope ["program", "state", "number"] ["program", "state"] (defScope s_going) := ⟨rfl, rfl, rfl, by decide +kernel, rfl, by decide +kernel, by decide +kernel⟩
abbrev s_can_go : Stmt := top 93
theorem sc_can_go : FnScope ["program", "state"] ["program", "state"] (defScope s_can_go) := ⟨rfl, rfl, rfl, by decide +kernel, rfl, by decide +kernel, by decide +kernel⟩
abbrev s_went : Stmt := top 99
theorem sc_went : FnScope ["counter", "code", "place", "is_right", "got", "word", "rest", "is_so", "target", "words"] ["counter", "code"] (defScope s_went) := ⟨rfl, rfl, rfl, by decide +kernel, rfl, by decide +kernel, by decide +kernel⟩
abbrev s_stepped : Stmt := top 100
theorem sc_stepped : FnScope ["program", "state", "number", "hall", "counters", "name", "code", "counter", "instruction", "later", "own", "outcome"] ["program", "state", "number"] (defScope s_stepped) := ⟨rfl, rfl, rfl, by decide +kernel, rfl, by decide +kernel, by decide +kernel⟩
abbrev s_need_going : Stmt := top 101
theorem sc_need_going : FnScope ["program", "state", "number"] ["program", "state", "number"] (defScope s_need_going) := ⟨rfl, rfl, rfl, by decide +kernel, rfl, by decide +kernel, by decide +kernel⟩
abbrev s_step : Stmt := top 102
theorem sc_step : FnScope ["program", "state", "number"] ["program", "state", "number"] (defScope s_step) := ⟨rfl, rfl, rfl, by decide +kernel, rfl, by decide +kernel, by decide +kernel⟩
abbrev s_have_ended : Stmt := top 103
theorem sc_have_ended : FnScope ["program", "state", "name", "code", "counter"] ["program", "state"] (defScope s_have_ended) := ⟨rfl, rfl, rfl, by decide +kernel, rfl, by decide +kernel, by decide +kernel⟩
abbrev s_is_ended : Stmt := top 104
theorem sc_is_ended : FnScope ["program", "state"] ["program", "state"] (defScope s_is_ended) := ⟨rfl, rfl, rfl, by decide +kernel, rfl, by decide +kernel, by decide +kernel⟩
abbrev s_stalls : Stmt := top 106
theorem sc_stalls : FnScope ["program", "state", "lost"] ["program", "state", "lost"] (defScope s_stalls) := ⟨rfl, rfl, rfl, by decide +kernel, rfl, by decide +kernel, by decide +kernel⟩
abbrev s_is_stall : Stmt := top 107
theorem sc_is_stall : FnScope ["program", "state", "lost"] ["program", "state", "lost"] (defScope s_is_stall) := ⟨rfl, rfl, rfl, by decide +kernel, rfl, by decide +kernel, by decide +kernel⟩
abbrev s_law_begun : Stmt := top 109
theorem sc_law_begun : FnScope ["_law_script"] ["_law_script"] (defScope s_law_begun) := ⟨rfl, rfl, rfl, by decide +kernel, rfl, by decide +kernel, by decide +kernel⟩
abbrev s_law_next : Stmt := top 110
theorem sc_law_next : FnScope ["_law_m", "_law_many", "_law_found", "_law_k", "_law_cell", "_law_number"] ["_law_m", "_law_many"] (defScope s_law_next) := ⟨rfl, rfl, rfl, by decide +kernel, rfl, by decide +kernel, by decide +kernel⟩
abbrev s_law_of : Stmt := top 111
theorem sc_law_of : FnScope ["_law_m", "_law_some"] ["_law_m", "_law_some"] (defScope s_law_of) := ⟨rfl, rfl, rfl, by decide +kernel, rfl, by decide +kernel, by decide +kernel⟩
abbrev s_law_names : Stmt := top 112
theorem sc_law_names : FnScope ["_law_m", "_law_many", "_law_letters", "_law_own", "_law_way", "_law_first", "_law_k", "_law_base", "_law_rest", "_law_at"] ["_law_m", "_law_many"] (defScope s_law_names) := ⟨rfl, rfl, rfl, by decide +kernel, rfl, by decide +kernel, by decide +kernel⟩
abbrev s_law_so : Stmt := top 113
theorem sc_law_so : FnScope ["_law_pipe", "_law_name", "_law_room", "_law_held", "_law_shut", "_law_found"] ["_law_pipe"] (defScope s_law_so) := ⟨rfl, rfl, rfl, by decide +kernel, rfl, by decide +kernel, by decide +kernel⟩
abbrev s_law_interest : Stmt := top 114
theorem sc_law_interest : FnScope ["_law_m", "_law_target", "_law_is_pipe_name", "_law_some", "_law_asked"] ["_law_m", "_law_target", "_law_is_pipe_name"] (defScope s_law_interest) := ⟨rfl, rfl, rfl, by decide +kernel, rfl, by decide +kernel, by decide +kernel⟩
abbrev s_law_entry : Stmt := top 115
theorem sc_law_entry : FnScope ["_law_m", "_law_interest_here", "_law_fresh", "_law_word"] ["_law_m", "_law_interest_here"] (defScope s_law_entry) := ⟨rfl, rfl, rfl, by decide +kernel, rfl, by decide +kernel, by decide +kernel⟩
abbrev s_law_hall : Stmt := top 116
theorem sc_law_hall : FnScope ["_law_m", "_law_names_here", "_law_pipes", "_law_name", "_law_room", "_law_ready", "_law_pipe", "_law_sets", "_law_found", "_law_row", "_law_target", "_law_interest_here", "_law_on", "_law_fresh", "_law_words", "_law_word"] ["_law_m"] (defScope s_law_hall) := ⟨rfl, rfl, rfl, by decide +kernel, rfl, by decide +kernel, by decide +kernel⟩
abbrev s_law_jump : Stmt := top 117
theorem sc_law_jump : FnScope ["_law_m", "_law_size", "_law_names_here", "_law_way", "_law_to"] ["_law_m", "_law_size", "_law_names_here"] (defScope s_law_jump) := ⟨rfl, rfl, rfl, by decide +kernel, rfl, by decide +kernel, by decide +kernel⟩
abbrev s_law_telling : Stmt := top 118
theorem sc_law_telling : FnScope ["_law_m", "_law_names_here", "_law_some", "_law_k"] ["_law_m", "_law_names_here"] (defScope s_law_telling) := ⟨rfl, rfl, rfl, by decide +kernel, rfl, by decide +kernel, by decide +kernel⟩
abbrev s_law_leads : Stmt := top 119
theorem sc_law_leads : FnScope ["_law_code", "_law_counter", "_law_place", "_law_good", "_law_got", "_law_row", "_law_target", "_law_words"] ["_law_code", "_law_counter"] (defScope s_law_leads) := ⟨rfl, rfl, rfl, by decide +kernel, rfl, by decide +kernel, by decide +kernel⟩
abbrev s_law_cannot : Stmt := top 120
theorem sc_law_cannot : FnScope ["_law_deed", "_law_caught", "e"] ["_law_deed"] (defScope s_law_cannot) := ⟨rfl, rfl, rfl, by decide +kernel, rfl, by decide +kernel, by decide +kernel⟩
abbrev s_law_right : Stmt := top 121
theorem sc_law_right : FnScope ["_law_program", "_law_state", "_law_hall_here", "_law_counters", "_law_ended", "_law_number", "_law_task", "_law_left", "_law_code", "_law_counter", "_law_own", "_law_due"] ["_law_program", "_law_state"] (defScope s_law_right) := ⟨rfl, rfl, rfl, by decide +kernel, rfl, by decide +kernel, by decide +kernel⟩
abbrev s_law : Stmt := top 122
theorem sc_law : FnScope ["_law_script", "_law_m", "_law_k", "_law_hall_here", "_law_tasks", "_law_counters", "_law_names_here", "_law_pipe", "_law_one", "_law_name", "_law_size", "_law_code", "_law_j", "_law_turn", "_law_place", "_law_good"] ["_law_script"] (defScope s_law) := ⟨rfl, rfl, rfl, by decide +kernel, rfl, by decide +kernel, by decide +kernel⟩
/-- a def where its name says -/
def FnAt (K : PySem.W.Frag) (mg : Str → Option Value) (x : Str) (st : Stmt) : Prop := ∃ f fd, FnP K x st f fd ∧ mg x = some (.ref f)
/-- a constant where its name says -/
def KAt (K : PySem.W.Frag) (mg : Str → Option Value) (x : Str) (d : PyData) : Prop := ∃ u v, mg x = some u ∧ RelV v u ∧ ∀ H, Dq K H v d
structure Txt (K : PySem.W.Frag) (mg : Str → Option Value) : Prop where
  f_is_number : FnAt K mg "is_number" s_is_number
  f_is_name : FnAt K mg "is_name" s_is_name
  f_is_tuple_of : FnAt K mg "is_tuple_of" s_is_tuple_of
  f_are_up_to : FnAt K mg "are_up_to" s_are_up_to
  f_are_words : FnAt K mg "are_words" s_are_words
  f_is_interest : FnAt K mg "is_interest" s_is_interest
  f_is_entry : FnAt K mg "is_entry" s_is_entry
  f_is_pipe : FnAt K mg "is_pipe" s_is_pipe
  f_are_waiting : FnAt K mg "are_waiting" s_are_waiting
  f_targets_of : FnAt K mg "targets_of" s_targets_of
  f_is_set : FnAt K mg "is_set" s_is_set
  f_waiting_at : FnAt K mg "waiting_at" s_waiting_at
  f_so_words : FnAt K mg "so_words" s_so_words
  f_due_words : FnAt K mg "due_words" s_due_words
  f_due_targets : FnAt K mg "due_targets" s_due_targets
  f_below : FnAt K mg "below" s_below
  f_has_forms : FnAt K mg "has_forms" s_has_forms
  f_need_webs : FnAt K mg "need_webs" s_need_webs
  f_need_hall : FnAt K mg "need_hall" s_need_hall
  f_waiters_of : FnAt K mg "waiters_of" s_waiters_of
  f_is_deed : FnAt K mg "is_deed" s_is_deed
  f_is_instruction : FnAt K mg "is_instruction" s_is_instruction
  f_is_task : FnAt K mg "is_task" s_is_task
  f_need_tasks : FnAt K mg "need_tasks" s_need_tasks
  f_need_program : FnAt K mg "need_program" s_need_program
  f_is_telling : FnAt K mg "is_telling" s_is_telling
  f_is_counter : FnAt K mg "is_counter" s_is_counter
  f_is_state_form : FnAt K mg "is_state_form" s_is_state_form
  f_need_state : FnAt K mg "need_state" s_need_state
  f_where_waits : FnAt K mg "where_waits" s_where_waits
  f_goes : FnAt K mg "goes" s_goes
  f_going : FnAt K mg "going" s_going
  f_can_go : FnAt K mg "can_go" s_can_go
  f_went : FnAt K mg "went" s_went
  f_stepped : FnAt K mg "stepped" s_stepped
  f_need_going : FnAt K mg "need_going" s_need_going
  f_step : FnAt K mg "step" s_step
  f_have_ended : FnAt K mg "have_ended" s_have_ended
  f_is_ended : FnAt K mg "is_ended" s_is_ended
  f_stalls : FnAt K mg "stalls" s_stalls
  f_law_begun : FnAt K mg "_law_begun" s_law_begun
  f_law_next : FnAt K mg "_law_next" s_law_next
  f_law_of : FnAt K mg "_law_of" s_law_of
  f_law_names : FnAt K mg "_law_names" s_law_names
  f_law_so : FnAt K mg "_law_so" s_law_so
  f_law_interest : FnAt K mg "_law_interest" s_law_interest
  f_law_entry : FnAt K mg "_law_entry" s_law_entry
  f_law_hall : FnAt K mg "_law_hall" s_law_hall
  f_law_jump : FnAt K mg "_law_jump" s_law_jump
  f_law_telling : FnAt K mg "_law_telling" s_law_telling
  f_law_leads : FnAt K mg "_law_leads" s_law_leads
  f_law_cannot : FnAt K mg "_law_cannot" s_law_cannot
  f_law_right : FnAt K mg "_law_right" s_law_right
  f_law : FnAt K mg "law" s_law
  k_SMALL : KAt K mg "SMALL" (.str "abcdefghijklmnopqrstuvwxyz")
  k_MOST_LETTERS : KAt K mg "MOST_LETTERS" (.int 8)
  k_WORDS : KAt K mg "WORDS" (.tuple [.str "in", .str "out", .str "gone"])
  k_LEVEL : KAt K mg "LEVEL" (.str "level")
  k_EDGE : KAt K mg "EDGE" (.str "edge")
  k_MOST_ROOM : KAt K mg "MOST_ROOM" (.int 9)
  k_MOST_ENTRIES : KAt K mg "MOST_ENTRIES" (.int 6)
  k_MOST_WAITERS : KAt K mg "MOST_WAITERS" (.int 6)
  k_MOST_PIPES : KAt K mg "MOST_PIPES" (.int 4)
  k_MOST_SETS : KAt K mg "MOST_SETS" (.int 4)
  k_MOST_TASKS : KAt K mg "MOST_TASKS" (.int 4)
  k_MOST_INSTRUCTIONS : KAt K mg "MOST_INSTRUCTIONS" (.int 12)
  k_DEED_WORDS : KAt K mg "DEED_WORDS" (.tuple [.str "put", .str "take", .str "shut", .str "add", .str "change", .str "arm", .str "drop"])
  n_all : mg "all" = none
  n_any : mg "any" = none
  n_bool : mg "bool" = none
  n_dict : mg "dict" = none
  n_enumerate : mg "enumerate" = none
  n_int : mg "int" = none
  n_isinstance : mg "isinstance" = none
  n_len : mg "len" = none
  n_list : mg "list" = none
  n_min : mg "min" = none
  n_range : mg "range" = none
  n_repr : mg "repr" = none
  n_set : mg "set" = none
  n_sorted : mg "sorted" = none
  n_str : mg "str" = none
  n_tuple : mg "tuple" = none
  n_zip : mg "zip" = none
theorem de_k {X : Cx} {m : Md} {x : Str} {d : PyData} {pos : Pos} (c : KAt X.K X.mg x d) (hg : Gl X x := by rfl) (hn : (x == ("__debug__" : Str)) = false := by decide) : DE X m (.Name x pos) (fun _ n P => P d n) := by
  obtain ⟨u, v, h1, h2, h3⟩ := c
  exact de_g hg h1 h2 h3 hn
theorem cls_int : ClsV (.ty "int") (.type "int") := by first | exact .ty _ | exact rfl | constructor
theorem cls_str : ClsV (.ty "str") (.type "str") := by first | exact .ty _ | exact rfl | constructor
theorem cls_bool : ClsV (.ty "bool") (.type "bool") := by first | exact .ty _ | exact rfl | constructor
theorem cls_tuple : ClsV (.ty "tuple") (.type "tuple") := by first | exact .ty _ | exact rfl | constructor
end K45
/-! KX0 -/
set_option Elab.async false
set_option linter.all false
set_option maxRecDepth 100000
set_option maxHeartbeats 1000000
/-! the suite of a class -/
namespace K45
open PySem PySem.Spec PyProof.Rows L2
def suiteOf : Stmt → List Stmt
  | .ClassDef _ _ _ b _ _ _ _ _ _ _ => b
  | _ => []
abbrev s_cginit : Stmt := (suiteOf (top 14)).getD 0 (.Pass ⟨0, 0, 0, 0⟩)
end K45
/-! KE2 -/
set_option Elab.async false
set_option linter.all false
set_option maxRecDepth 100000
set_option maxHeartbeats 4000000
/-! what the head looks at: data, written tables, an own class; the hook over written addresses -/
namespace K45
open PySem PySem.Spec PyProof.Rows L2
def headFn : List He.DefD := [⟨("is_number", none), "is_number", "is_number", defArgs s_is_number, defBody s_is_number, defScope s_is_number, [], []⟩,
  ⟨("is_name", none), "is_name", "is_name", defArgs s_is_name, defBody s_is_name, defScope s_is_name, [], []⟩,
  ⟨("is_tuple_of", none), "is_tuple_of", "is_tuple_of", defArgs s_is_tuple_of, defBody s_is_tuple_of, defScope s_is_tuple_of, [], []⟩,
  ⟨("are_up_to", none), "are_up_to", "are_up_to", defArgs s_are_up_to, defBody s_are_up_to, defScope s_are_up_to, [], []⟩,
  ⟨("are_words", none), "are_words", "are_words", defArgs s_are_words, defBody s_are_words, defScope s_are_words, [], []⟩,
  ⟨("is_interest", none), "is_interest", "is_interest", defArgs s_is_interest, defBody s_is_interest, defScope s_is_interest, [], []⟩,
  ⟨("is_entry", none), "is_entry", "is_entry", defArgs s_is_entry, defBody s_is_entry, defScope s_is_entry, [], []⟩,
  ⟨("is_pipe", none), "is_pipe", "is_pipe", defArgs s_is_pipe, defBody s_is_pipe, defScope s_is_pipe, [], []⟩,
  ⟨("are_waiting", none), "are_waiting", "are_waiting", defArgs s_are_waiting, defBody s_are_waiting, defScope s_are_waiting, [], []⟩,
  ⟨("targets_of", none), "targets_of", "targets_of", defArgs s_targets_of, defBody s_targets_of, defScope s_targets_of, [], []⟩,
  ⟨("is_set", none), "is_set", "is_set", defArgs s_is_set, defBody s_is_set, defScope s_is_set, [], []⟩,
  ⟨("waiting_at", none), "waiting_at", "waiting_at", defArgs s_waiting_at, defBody s_waiting_at, defScope s_waiting_at, [], []⟩,
  ⟨("so_words", none), "so_words", "so_words", defArgs s_so_words, defBody s_so_words, defScope s_so_words, [], []⟩,
  ⟨("due_words", none), "due_words", "due_words", defArgs s_due_words, defBody s_due_words, defScope s_due_words, [], []⟩,
  ⟨("due_targets", none), "due_targets", "due_targets", defArgs s_due_targets, defBody s_due_targets, defScope s_due_targets, [], []⟩,
  ⟨("below", none), "below", "below", defArgs s_below, defBody s_below, defScope s_below, [], []⟩,
  ⟨("has_forms", none), "has_forms", "has_forms", defArgs s_has_forms, defBody s_has_forms, defScope s_has_forms, [], []⟩,
  ⟨("need_webs", none), "need_webs", "need_webs", defArgs s_need_webs, defBody s_need_webs, defScope s_need_webs, [], []⟩,
  ⟨("need_hall", none), "need_hall", "need_hall", defArgs s_need_hall, defBody s_need_hall, defScope s_need_hall, [], []⟩,
  ⟨("waiters_of", none), "waiters_of", "waiters_of", defArgs s_waiters_of, defBody s_waiters_of, defScope s_waiters_of, [], []⟩,
  ⟨("is_deed", none), "is_deed", "is_deed", defArgs s_is_deed, defBody s_is_deed, defScope s_is_deed, [], []⟩,
  ⟨("is_instruction", none), "is_instruction", "is_instruction", defArgs s_is_instruction, defBody s_is_instruction, defScope s_is_instruction, [], []⟩,
  ⟨("is_task", none), "is_task", "is_task", defArgs s_is_task, defBody s_is_task, defScope s_is_task, [], []⟩,
  ⟨("need_tasks", none), "need_tasks", "need_tasks", defArgs s_need_tasks, defBody s_need_tasks, defScope s_need_tasks, [], []⟩,
  ⟨("need_program", none), "need_program", "need_program", defArgs s_need_program, defBody s_need_program, defScope s_need_program, [], []⟩,
  ⟨("is_telling", none), "is_telling", "is_telling", defArgs s_is_telling, defBody s_is_telling, defScope s_is_telling, [], []⟩,
  ⟨("is_counter", none), "is_counter", "is_counter", defArgs s_is_counter, defBody s_is_counter, defScope s_is_counter, [], []⟩,
  ⟨("is_state_form", none), "is_state_form", "is_state_form", defArgs s_is_state_form, defBody s_is_state_form, defScope s_is_state_form, [], []⟩,
  ⟨("need_state", none), "need_state", "need_state", defArgs s_need_state, defBody s_need_state, defScope s_need_state, [], []⟩,
  ⟨("where_waits", none), "where_waits", "where_waits", defArgs s_where_waits, defBody s_where_waits, defScope s_where_waits, [], []⟩,
  ⟨("goes", none), "goes", "goes", defArgs s_goes, defBody s_goes, defScope s_goes, [], []⟩,
  ⟨("going", none), "going", "going", defArgs s_going, defBody s_going, defScope s_going, [], []⟩,
  ⟨("can_go", none), "can_go", "can_go", defArgs s_can_go, defBody s_can_go, defScope s_can_go, [], []⟩,
  ⟨("went", none), "went", "went", defArgs s_went, defBody s_went, defScope s_went, [], []⟩,
  ⟨("stepped", none), "stepped", "stepped", defArgs s_stepped, defBody s_stepped, defScope s_stepped, [], []⟩,
  ⟨("need_going", none), "need_going", "need_going", defArgs s_need_going, defBody s_need_going, defScope s_need_going, [], []⟩,
  ⟨("step", none), "step", "step", defArgs s_step, defBody s_step, defScope s_step, [], []⟩,
  ⟨("have_ended", none), "have_ended", "have_ended", defArgs s_have_ended, defBody s_have_ended, defScope s_have_ended, [], []⟩,
  ⟨("is_ended", none), "is_ended", "is_ended", defArgs s_is_ended, defBody s_is_ended, defScope s_is_ended, [], []⟩,
  ⟨("stalls", none), "stalls", "stalls", defArgs s_stalls, defBody s_stalls, defScope s_stalls, [], []⟩,
  ⟨("is_stall", none), "is_stall", "is_stall", defArgs s_is_stall, defBody s_is_stall, defScope s_is_stall, [], [("lost", .bl false)]⟩,
  ⟨("_law_begun", none), "_law_begun", "_law_begun", defArgs s_law_begun, defBody s_law_begun, defScope s_law_begun, [], []⟩,
  ⟨("_law_next", none), "_law_next", "_law_next", defArgs s_law_next, defBody s_law_next, defScope s_law_next, [], []⟩,
  ⟨("_law_of", none), "_law_of", "_law_of", defArgs s_law_of, defBody s_law_of, defScope s_law_of, [], []⟩,
  ⟨("_law_names", none), "_law_names", "_law_names", defArgs s_law_names, defBody s_law_names, defScope s_law_names, [], []⟩,
  ⟨("_law_so", none), "_law_so", "_law_so", defArgs s_law_so, defBody s_law_so, defScope s_law_so, [], []⟩,
  ⟨("_law_interest", none), "_law_interest", "_law_interest", defArgs s_law_interest, defBody s_law_interest, defScope s_law_interest, [], []⟩,
  ⟨("_law_entry", none), "_law_entry", "_law_entry", defArgs s_law_entry, defBody s_law_entry, defScope s_law_entry, [], []⟩,
  ⟨("_law_hall", none), "_law_hall", "_law_hall", defArgs s_law_hall, defBody s_law_hall, defScope s_law_hall, [], []⟩,
  ⟨("_law_jump", none), "_law_jump", "_law_jump", defArgs s_law_jump, defBody s_law_jump, defScope s_law_jump, [], []⟩,
  ⟨("_law_telling", none), "_law_telling", "_law_telling", defArgs s_law_telling, defBody s_law_telling, defScope s_law_telling, [], []⟩,
  ⟨("_law_leads", none), "_law_leads", "_law_leads", defArgs s_law_leads, defBody s_law_leads, defScope s_law_leads, [], []⟩,
  ⟨("_law_cannot", none), "_law_cannot", "_law_cannot", defArgs s_law_cannot, defBody s_law_cannot, defScope s_law_cannot, [], []⟩,
  ⟨("_law_right", none), "_law_right", "_law_right", defArgs s_law_right, defBody s_law_right, defScope s_law_right, [], []⟩,
  ⟨("law", none), "law", "law", defArgs s_law, defBody s_law, defScope s_law, [], []⟩,
  ⟨("CannotGo", some "__init__"), "__init__", "CannotGo.__init__", defArgs s_cginit, defBody s_cginit, defScope s_cginit, [], []⟩]
def headFa : List He.Fa := [.glo "is_number", .glo "is_name", .glo "is_tuple_of", .glo "are_up_to", .glo "are_words", .glo "is_interest", .glo "is_entry", .glo "is_pipe", .glo "are_waiting", .glo "targets_of", .glo "is_set", .glo "waiting_at", .glo "so_words", .glo "due_words", .glo "due_targets", .glo "below", .glo "has_forms", .glo "need_webs", .glo "need_hall", .glo "waiters_of", .glo "is_deed", .glo "is_instruction", .glo "is_task", .glo "need_tasks", .glo "need_program", .glo "is_telling", .glo "is_counter", .glo "is_state_form", .glo "need_state", .glo "where_waits", .glo "goes", .glo "going", .glo "can_go", .glo "went", .glo "stepped", .glo "need_going", .glo "step", .glo "have_ended", .glo "is_ended", .glo "stalls", .glo "is_stall", .glo "_law_begun", .glo "_law_next", .glo "_law_of", .glo "_law_names", .glo "_law_so", .glo "_law_interest", .glo "_law_entry", .glo "_law_hall", .glo "_law_jump", .glo "_law_telling", .glo "_law_leads", .glo "_law_cannot", .glo "_law_right", .glo "law", .glo "CannotGo", .glo "WORDS", .glo "DEED_WORDS", .glo "DEEDS", .glo "LENGTHS", .free "all", .free "any", .free "bool", .free "dict", .free "enumerate", .free "int", .free "isinstance", .free "len", .free "list", .free "min", .free "range", .free "repr", .free "set", .free "sorted", .free "str", .free "tuple", .free "zip", .free "RuntimeError", .int "MOST_LETTERS" 8, .int "MOST_ROOM" 9, .int "MOST_ENTRIES" 6, .int "MOST_WAITERS" 6, .int "MOST_PIPES" 4, .int "MOST_SETS" 4, .int "MOST_TASKS" 4, .int "MOST_INSTRUCTIONS" 12, .str "SMALL" "abcdefghijklmnopqrstuvwxyz", .str "LEVEL" "level", .str "EDGE" "edge", .exm "CannotGo" "CannotGo" true, .noat "CannotGo" "number"]
def kvs_DEEDS : List (Str × Int) := [("put", 3), ("take", 3), ("shut", 2), ("add", 3), ("change", 3), ("arm", 3), ("drop", 3), ("wait", 4), ("look", 2), ("leave", 2)]
def kvs_LENGTHS : List (Str × Int) := [("drain", 2), ("wait", 3), ("jump", 2), ("unless", 2), ("told", 4), ("stop", 1)]
def headTs : List He.Tab := [(fun K => He.ga K "DEEDS", kvs_DEEDS.map (·.1)), (fun K => He.ga K "LENGTHS", kvs_LENGTHS.map (·.1))]
def headTf : List He.Defn := [("_law_right", none)]
def headAs : List Addr := [mainGlobals, 273, 274, 276, 277, 281, 282, 288, 289, 293, 294, 300, 301, 307, 308, 312, 313, 319, 320, 324, 325, 331, 332, 336, 337, 341, 342, 346, 347, 351, 352, 356, 357, 361, 362, 366, 367, 371, 372, 378, 379, 383, 384, 390, 391, 402, 403, 409, 410, 540, 541, 547, 548, 554, 555, 559, 560, 566, 567, 571, 572, 578, 579, 583, 584, 588, 589, 593, 594, 600, 601, 605, 606, 612, 613, 645, 646, 652, 653, 659, 660, 666, 667, 671, 672, 678, 679, 690, 691, 692, 698, 699, 705, 706, 712, 713, 719, 720, 724, 725, 731, 732, 738, 739, 743, 744, 748, 749, 755, 756, 760, 761, 767, 768, 774, 775, 779, 780, 784, 785]
/-- a written dict: its keys are these texts, its values these numbers -/
def entB (e : DictEntry) : Option (Str × Int) := match e.key, e.val with
  | .str k _, .int i _ => some (k, i)
  | _, _ => none
def numB (K : PySem.W.Frag) (a : Addr) (kvs : List (Str × Int)) : Bool := match K.lookup a with
  | some ⟨_, _, .dict es _, _⟩ => decide (es.toList.map entB = kvs.map some)
  | _ => false
theorem ents_at : ∀ {l : List DictEntry} {kvs : List (Str × Int)}, l.map entB = kvs.map some → ∀ k : Str, l.any (·.refKey) = false ∧ ((kvs.lookup k = none ∧ l.find? (·.key.isStr k) = none) ∨ ∃ i t e, kvs.lookup k = some i ∧ l.find? (·.key.isStr k) = some e ∧ e.val = .int i t)
  | [], [], _, k => ⟨rfl, .inl ⟨rfl, rfl⟩⟩
  | [], _ :: _, h, _ => by cases h
  | _ :: _, [], h, _ => by cases h
  | e :: l, p :: kvs, h, k => by
    rw [List.map_cons, List.map_cons] at h
    obtain ⟨h1, h2⟩ := List.cons.inj h
    obtain ⟨a, b⟩ := ents_at h2 k
    obtain ⟨pk, pv⟩ := p
    cases ek : e.key with
    | str x t0 =>
      cases ev : e.val with
      | int i t1 =>
        unfold entB at h1
        rw [ek, ev] at h1
        cases h1
        refine ⟨?_, ?_⟩
        · rw [List.any_cons, a, Bool.or_false]
          unfold DictEntry.refKey
          rw [ek]
        · rw [List.find?_cons, List.lookup_cons, ek]
          by_cases z : k = pk
          · subst z
            have e1 : Value.isStr (.str k t0) k = true := by simp [Value.isStr]
            rw [e1]
            exact .inr ⟨pv, t1, e, by simp, rfl, ev⟩
          · have e1 : Value.isStr (.str pk t0) k = false := by
              have z2 : ¬ pk = k := fun y => z y.symm
              simp [Value.isStr, z2]
            have e2 : (k == pk) = false := by simpa using z
            rw [e1, e2]
            exact b
      | _ =>
        unfold entB at h1
        rw [ek, ev] at h1
        cases h1
    | _ =>
      unfold entB at h1
      rw [ek] at h1
      cases h1
theorem numB_ok {K : PySem.W.Frag} {a : Addr} {kvs : List (Str × Int)} (h : numB K a kvs = true) (k : Str) : ∃ t, PySem.W.nsIn K a k = some ((kvs.lookup k).map fun j => Value.int j t) := by
  unfold numB at h
  split at h
  · rename_i oc od es n sl ho
    have h2 := of_decide_eq_true h
    obtain ⟨h3, h4⟩ := ents_at h2 k
    unfold PySem.W.nsIn
    rw [ho]
    rcases h4 with ⟨e1, e2⟩ | ⟨i, t, e, e1, e2, e3⟩
    · refine ⟨0, ?_⟩
      rw [e1]
      dsimp only
      rw [e2]
      dsimp only
      rw [h3]
      rfl
    · refine ⟨t, ?_⟩
      rw [e1]
      dsimp only
      rw [e2]
      dsimp only
      rw [e3]
      rfl
  · cases h
/-- the class CannotGo, as it is written -/
def cgB (K : PySem.W.Frag) (C : Addr) : Bool := match K.lookup C with
  | some ⟨.type t, _, .cls cd, sl⟩ => (match cd.mro, sl.toList with
    | [.ref C', .type a, .type b, .type c, .type d], [_, _, _, _, some (.builtin n), _] => decide (t = "type") && (decide (C' = C) && (decide (a = "RuntimeError") && (decide (b = "Exception") && (decide (c = "BaseException") && (decide (d = "object") && (decide (n = "RuntimeError.__new__") && (cd.hasDict && !cd.hasDel)))))))
    | _, _ => false)
  | _ => false
theorem cgB_ok {K : PySem.W.Frag} {C : Addr} (h : cgB K C = true) : ∃ nm q N bs sn sub ab col dd k0 k1 k2 k3 k5, K.lookup C = some (excClassObj nm q C N bs [.type "RuntimeError", .type "Exception", .type "BaseException", .type "object"] true sn sub ab col dd k0 k1 k2 k3 k5 "RuntimeError.__new__") := by
  unfold cgB at h
  split at h
  · rename_i t dd cd sl ho
    split at h
    · rename_i C' a b c d k0 k1 k2 k3 n k5 hm hs
      simp only [Bool.and_eq_true, decide_eq_true_eq, Bool.not_eq_true'] at h
      obtain ⟨rfl, rfl, rfl, rfl, rfl, rfl, rfl, hd, hdel⟩ := h
      obtain ⟨nm, bs, mro, ns, qn, hdc, sn, sub, ab, col, del⟩ := cd
      dsimp only at hm hd hdel
      subst hm hd hdel
      have hsl : sl = #[k0, k1, k2, k3, some (.builtin "RuntimeError.__new__"), k5] := by
        obtain ⟨l⟩ := sl
        simp only at hs
        rw [hs]
      subst hsl
      exact ⟨nm, qn, ns, bs, sn, sub, ab, col, dd, k0, k1, k2, k3, k5, ho⟩
    · cases h
  · cases h
def rtInitB (K : PySem.W.Frag) : Bool := match PySem.W.findCls K (.type "RuntimeError") (.type "type") "__init__" with
  | some (.val (.builtin n)) => decide (n = "RuntimeError.__init__")
  | _ => false
theorem rtInitB_ok {K : PySem.W.Frag} (h : rtInitB K = true) : PySem.W.findCls K (.type "RuntimeError") (.type "type") "__init__" = some (.val (.builtin "RuntimeError.__init__")) := by
  unfold rtInitB at h
  split at h
  · rename_i n e
    rw [e, of_decide_eq_true h]
  · cases h
def headEx (K : PySem.W.Frag) : Bool :=
  (He.tupB K "WORDS" [.str "in", .str "out", .str "gone"] && (He.tupB K "DEED_WORDS" [.str "put", .str "take", .str "shut", .str "add", .str "change", .str "arm", .str "drop"] && (numB K (He.ga K "DEEDS") kvs_DEEDS && (numB K (He.ga K "LENGTHS") kvs_LENGTHS && (cgB K (He.ga K "CannotGo") && (xfB K (He.ga K "CannotGo") && (PySem.W.keepIn K (.ref (He.ga K "CannotGo")) && (decide (PySem.W.findIn K (.ref (He.ga K "CannotGo")) "__setattr__" = some (some (.builtin "object.__setattr__"))) && (decide (PySem.W.subIn K (.ref (He.ga K "CannotGo")) (.type "BaseException") = some true) && (decide (PySem.W.typeIn K (.ref (He.ga K "CannotGo")) = some (.type "type")) && (decide (PySem.W.findIn K (.ref (He.ga K "CannotGo")) "__init__" = some (some (.ref (He.ma K (He.ga K "CannotGo") "__init__")))) && (decide (PySem.W.typeIn K (.ref (He.ma K (He.ga K "CannotGo") "__init__")) = some (.type "function")) && rtInitB K))))))))))))
/-! the hook -/
def obsK (g : Addr → Option Obj) : He.AlX := (He.obsT headFa headFn headTs (He.frT g headAs), headEx (He.frT g headAs) && He.tabsB g headTf (He.frT g headAs))
theorem saysK {w : World} {h : Heap} (e : obsK h.get? = He.valX headFn headTs w) : He.SaysX headFa headFn headTs headTf headEx w h (He.frT h.get? headAs) := by
  have e1 : He.obsT headFa headFn headTs (He.frT h.get? headAs) = He.valT headFn headTs w := congrArg Prod.fst e
  have e2 : (headEx (He.frT h.get? headAs) && He.tabsB h.get? headTf (He.frT h.get? headAs)) = true := congrArg Prod.snd e
  rw [Bool.and_eq_true] at e2
  have each : ∀ p ∈ headTf, PySem.W.codeHdIn (He.frT h.get? headAs) (He.cT (He.frT h.get? headAs) p).1 (He.cT (He.frT h.get? headAs) p).2 = true ∧ ∃ o, h.get? (He.cT (He.frT h.get? headAs) p).2 = some o ∧ He.emptyTab o = true := fun p hp => by
    have z := List.all_eq_true.mp e2.2 p hp
    rw [Bool.and_eq_true] at z
    refine ⟨z.1, ?_⟩
    have z2 := z.2
    split at z2
    · rename_i o q
      exact ⟨o, q, z2⟩
    · cases z2
  refine ⟨e1, e2.1, fun p hp => (each p hp).1, fun p hp => ?_, fun p hp => ?_⟩
  · obtain ⟨_, o, q, z⟩ := each p hp
    exact He.frT_none q z
  · obtain ⟨_, o, q, z⟩ := each p hp
    rw [q, He.emptyTab_eq z]
def hookK : PySem.W.Hook where
  α := He.AlX
  obs := fun s => obsK s.heap.get?
  val := fun w => He.valX headFn headTs w
  says := fun w h => ∃ K : PySem.W.Frag, K.In h ∧ He.SaysX headFa headFn headTs headTf headEx w h K
  of := fun _ _ e => ⟨_, He.frT_in, saysK e⟩
  keeps := fun _ _ _ ⟨K, hK, c⟩ k => ⟨K, PySem.W.Frag.In.keeps hK k, c.t, c.more, c.hd, c.out, fun p hp => k _ _ (c.empty p hp)⟩
end K45
/-! KE3 -/
set_option Elab.async false
set_option linter.all false
set_option maxRecDepth 100000
set_option maxHeartbeats 0
/-! the head: the row, the names beside the law -/
namespace K45
open PySem PySem.W PySem.Calls PyProof.Rows
abbrev R45 : OpenRow := OpenLaw.row PySem.Challenge.rw_wakehall_k45_whole_jumps
abbrev qv45 : Program := view R45.prog [122]
def loose0 : List PySem.Str := ["BadHall", "BadDeed", "BadQuestion", "NoSuch", "Lacks", "NotWoken", "Full", "IsShut", "Twice", "Ring", "Busy", "BadProgram", "BadState", "CannotGo", "SMALL", "MOST_LETTERS", "WORDS", "LEVEL", "EDGE", "MOST_ROOM"]
def loose1 : List PySem.Str := ["MOST_ENTRIES", "MOST_WAITERS", "MOST_PIPES", "MOST_SETS", "DEEDS", "is_number", "is_name", "is_tuple_of", "are_up_to", "are_words", "is_interest", "is_entry", "is_pipe", "are_waiting", "targets_of", "is_set", "waiting_at", "so_words", "due_words", "due_targets"]
def loose2 : List PySem.Str := ["below", "has_forms", "need_webs", "need_hall", "row_called", "waiters_of", "is_deed", "settled_row", "own_settled", "told_entry", "told_at", "own_telling", "IN", "CHANGED", "with_row", "hit_entry", "hit_up", "called_by", "woken_by", "behind_hits"]
def loose3 : List PySem.Str := ["pipe_turned", "pipe_done", "entry_at", "need_asked", "need_new", "entry_put", "entry_done", "waited", "waited_deeds", "wait_done", "waiter_done", "DOINGS", "deed_done", "MOST_TASKS", "MOST_INSTRUCTIONS", "DEED_WORDS", "LENGTHS", "is_instruction", "is_task", "need_tasks"]
def loose4 : List PySem.Str := ["need_program", "is_telling", "is_counter", "is_state_form", "need_state", "where_waits", "goes", "going", "can_go", "tried", "deed_of", "waited_programs", "did", "went", "stepped", "need_going", "step", "have_ended", "is_ended", "is_missed"]
def loose5 : List PySem.Str := ["stalls", "is_stall", "_law_begun", "_law_next", "_law_of", "_law_names", "_law_so", "_law_interest", "_law_entry", "_law_hall", "_law_jump", "_law_telling", "_law_leads", "_law_cannot", "_law_right"]
def loose45 : List PySem.Str := loose0 ++ loose1 ++ loose2 ++ loose3 ++ loose4 ++ loose5
def ob45 (s : SharedT) : He.AlX := obsK (HandSHeadRun.getT s)
theorem ob45_eq (s : SharedT) : ob45 s = hookK.obs s.abs := by
  have e : HandSHeadRun.getT s = s.abs.heap.get? := funext (HandSHeadRun.getT_eq s)
  unfold ob45
  rw [e]
  rfl
/-- a part of what is told of the top's end -/
def Part {α : Type} (f : SharedT → α) (v : World → α) (w : World) : Prop := ∀ os : OsState, (HandSHeadRun.endF (HandSHeadRun.stepQ (HandSHeadRun.denQ HandSHeadRun.tabQ) R45.prog w) 6400 R45.prog w os).map f = some (v w)
theorem parts_run {w : World} (h1 : Part (fun s => HandSHeadRun.looksF R45.prog (boot_heap w.params) s.abs) (fun _ => true) w)
    (h2 : Part (fun s => HandSHeadRun.seenQ qv45 loose45 (importedModules R45.prog.main.body) (fun s => xlAt qv45 [] s && recOk R45.toRowW.records s) s.abs) (fun _ => openGood qv45 loose45) w) (h3 : Part ob45 (fun w => He.valX headFn headTs w) w) :
    HandSHeadRun.RunEq R45 qv45 hookK ob45 6400 loose45 w := fun os => by
  have a := h1 os
  have b := h2 os
  have c := h3 os
  cases e : HandSHeadRun.endF (HandSHeadRun.stepQ (HandSHeadRun.denQ HandSHeadRun.tabQ) R45.prog w) 6400 R45.prog w os with
  | none =>
    rw [e] at a
    cases a
  | some s =>
    rw [e] at a b c
    have a2 := Option.some.inj a
    have b2 := Option.some.inj b
    have c2 := Option.some.inj c
    exact congrArg some (Prod.ext a2 (Prod.ext b2 c2))
end K45
/-! KE4 -/
set_option Elab.async false
set_option linter.all false
set_option maxRecDepth 100000
set_option maxHeartbeats 0
namespace K45
open PySem PySem.W PySem.Calls PyProof.Rows
theorem run45f (w : World) : HandSHeadRun.RunEq R45 qv45 hookK ob45 6400 loose45 (w.withFollow "special-get-raises" false) := by
  intro os
  kernel_rfl
end K45
/-! KE5 -/
set_option Elab.async false
set_option linter.all false
set_option maxRecDepth 100000
set_option maxHeartbeats 0
namespace K45
open PySem PySem.W PySem.Calls PyProof.Rows
theorem run45t (w : World) : HandSHeadRun.RunEq R45 qv45 hookK ob45 6400 loose45 (w.withFollow "special-get-raises" true) := by
  intro os
  kernel_rfl
end K45
/-! KA1 -/
set_option Elab.async false
set_option linter.all false
set_option maxRecDepth 100000
set_option maxHeartbeats 2000000
namespace K45
open PySem PySem.Spec PyProof.Rows L2
@[simp] def gNumber (ds : List PyData) (d : PyData) : Prop := ∃ n l m : Int, ds = [.int n, .int l, .int m] ∧ d = .bool (decide (l ≤ n) && decide (n ≤ m))
@[simp] def gTupleOf (ds : List PyData) (d : PyData) : Prop := ∃ (xs : List PyData) (n : Int), ds = [.tuple xs, .int n] ∧ d = .bool ((xs.length : Int) == n)
@[simp] def gUpTo (ds : List PyData) (d : PyData) : Prop := ∃ (xs : List PyData) (n : Int), ds = [.tuple xs, .int n] ∧ d = .bool (decide ((xs.length : Int) ≤ n))
/-- a name: 1 to 8 letters -/
structure NameOk (s : Str) : Prop where
  lo : 1 ≤ s.length
  hi : s.length ≤ 8
  az : ∀ c ∈ s.cps.toList, 97 ≤ c ∧ c ≤ 122
def gName (ds : List PyData) (d : PyData) : Prop := ∃ s, ds = [.str s] ∧ NameOk s ∧ d = .bool true
theorem az_mem {c : Nat} (h : 97 ≤ c ∧ c ≤ 122) : c ∈ ("abcdefghijklmnopqrstuvwxyz" : Str).cps.toList := by
  have key : ∀ c : Nat, c < 123 → 97 ≤ c → c ∈ ("abcdefghijklmnopqrstuvwxyz" : Str).cps.toList := by decide +kernel
  exact key c (by omega) h.1
section
variable {P : Program} {w : World} {K : PySem.W.Frag} {mg : Str → Option Value} {base : Heap}
theorem ok_is_number (T : Txt K mg) : Cal P w K mg base 1 "is_number" ["thing", "least", "most"] (spD K gNumber) := by
  obtain ⟨f, fd, F, hm⟩ := T.f_is_number
  refine okD F sc_is_number hm (F.bindsN fun _ _ _ _ _ _ us hl => match us, hl with | [_, _, _], _ => rfl) ?_ (by decide) (fun cdv A outer s H E hr => ?_)
  · rintro ds d ⟨n, l, m, rfl, _⟩
    rfl
  have hu := hr.units
  refine ⟨_, (dss_1 (ds_ret (de_and (de_isi T.n_isinstance T.n_int (by decide +kernel) cls_int (de_v 0)) (de_and (de_not (de_isi T.n_isinstance T.n_bool (by decide +kernel) cls_bool (de_v 0))) (de_one (de_chain op_le od_le op_le od_le (de_v 1) (de_v 0) (de_v 2))))))), ?_⟩
  rintro ds d ⟨n, l, m, rfl, rfl⟩
  refine ⟨_, rfl, true, by simp, true, rfl, ?_⟩
  simp
  by_cases h : l ≤ n
  · simp [h]
  · simp [h]
    omega
theorem ok_is_tuple_of (T : Txt K mg) : Cal P w K mg base 1 "is_tuple_of" ["thing", "many"] (spD K gTupleOf) := by
  obtain ⟨f, fd, F, hm⟩ := T.f_is_tuple_of
  refine okD F sc_is_tuple_of hm (F.bindsN fun _ _ _ _ _ _ us hl => match us, hl with | [_, _], _ => rfl) ?_ (by decide) (fun cdv A outer s H E hr => ?_)
  · rintro ds d ⟨xs, n, rfl, _⟩
    rfl
  have hu := hr.units
  refine ⟨_, (dss_1 (ds_ret (de_and (de_isi T.n_isinstance T.n_tuple (by decide +kernel) cls_tuple (de_v 0)) (de_one (de_cmp (op_eqA hu) od_eq (de_cb call_len cd_len T.n_len (by decide +kernel) (da_c (de_v 0) da_n)) (de_v 1) (nomark _)))))), ?_⟩
  rintro ds d ⟨xs, n, rfl, rfl⟩
  simp [eqC]
theorem ok_are_up_to (T : Txt K mg) : Cal P w K mg base 1 "are_up_to" ["thing", "many"] (spD K gUpTo) := by
  obtain ⟨f, fd, F, hm⟩ := T.f_are_up_to
  refine okD F sc_are_up_to hm (F.bindsN fun _ _ _ _ _ _ us hl => match us, hl with | [_, _], _ => rfl) ?_ (by decide) (fun cdv A outer s H E hr => ?_)
  · rintro ds d ⟨xs, n, rfl, _⟩
    rfl
  have hu := hr.units
  refine ⟨_, (dss_1 (ds_ret (de_and (de_isi T.n_isinstance T.n_tuple (by decide +kernel) cls_tuple (de_v 0)) (de_one (de_cmp op_le od_le (de_cb call_len cd_len T.n_len (by decide +kernel) (da_c (de_v 0) da_n)) (de_v 1) (nomark _)))))), ?_⟩
  rintro ds d ⟨xs, n, rfl, rfl⟩
  simp
theorem ok_is_name (T : Txt K mg) : Cal P w K mg base 1 "is_name" ["thing"] (spD K gName) := by
  obtain ⟨f, fd, F, hm⟩ := T.f_is_name
  refine okD F sc_is_name hm (F.bindsN fun _ _ _ _ _ _ us hl => match us, hl with | [_], _ => rfl) ?_ (by decide) (fun cdv A outer s H E hr => ?_)
  · rintro ds d ⟨s, rfl, _, _⟩
    rfl
  have hu := hr.units
  refine ⟨_, (dss_c (ds_if (L2.PW.pt (dw_or (dt_not (dt_v (de_isi T.n_isinstance T.n_str (by decide +kernel) cls_str (de_v 0)))) (dw_or1 (dt_not (dt_chain op_le od_le op_le od_le de_i (de_cb call_len cd_len T.n_len (by decide +kernel) (da_c (de_v 0) da_n)) (de_k T.k_MOST_LETTERS)))))) (dss_1 (ds_ret de_b)) dss_n)
      (dss_1 (ds_ret (de_cb (cr_allA false rfl) (cd_all false) T.n_all (by decide +kernel) (da_c (de_lc0 (m := pureM) [("letter", 1)] rfl sc_is_name.nd (di_s (de_v 0)) (blkOk_by (N := ["thing", "letter"]) (sc := defScope s_is_name) (by decide +kernel)) (by intro p hp; cases hp) (by decide) (fun _ _ _ _ _ => (dg_n 1 sc_is_name.nd (by intro p hp; cases hp))) (fun _ _ _ _ _ => (de_cmp op_inA (od_in false) (de_v 1) (de_k T.k_SMALL) (by rfl)))) da_n))))), ?_⟩
  rintro ds d ⟨s, rfl, h, rfl⟩
  have h1 := h.lo
  have h2 := h.hi
  simp
  refine ⟨by omega, by omega, by omega, wLc_map (signsD s) (fun _ => .bool true) (fun A a => ⟨_, rfl, _, rfl, a⟩) ?_ ?_ ?_ (all_true _)⟩
  · rw [show (signsD s).length = s.length by simp [signsD, Str.length]]
    omega
  · intro i d e P' p
    obtain ⟨c, hc, rfl⟩ : ∃ c, c ∈ s.cps.toList ∧ d = .str ⟨#[c]⟩ := by
      obtain ⟨c, h1, h2⟩ := List.mem_map.mp (List.mem_of_getElem? e)
      exact ⟨c, h1, h2.symm⟩
    have hm := az_mem (h.az c hc)
    refine ⟨_, rfl, .bool true, ?_, trivial, p⟩
    show some (PyData.bool (decide (c ∈ ("abcdefghijklmnopqrstuvwxyz" : Str).cps.toList))) = _
    rw [decide_eq_true hm]
  · intro i d e
    simp
end
end K45
/-! KA2 -/
set_option Elab.async false
set_option linter.all false
set_option maxRecDepth 100000
set_option maxHeartbeats 2000000
namespace K45
open PySem PySem.Spec PyProof.Rows L2
/-! ### words, interests, entries, pipes, sets, halls -/
structure Ws where
  i : Bool
  o : Bool
  g : Bool
  deriving DecidableEq
def Ws.l (w : Ws) : List Str := (if w.i then [("in" : Str)] else []) ++ ((if w.o then [("out" : Str)] else []) ++ (if w.g then [("gone" : Str)] else []))
def Ws.d (w : Ws) : PyData := .tuple (w.l.map .str)
def Ws.any (w : Ws) : Bool := w.i || w.o || w.g
def Ws.and (a b : Ws) : Ws := ⟨a.i && b.i, a.o && b.o, a.g && b.g⟩
def Ws.no : Ws := ⟨false, false, false⟩
structure Interest where
  target : Str
  asked : Ws
  edge : Bool
  once : Bool
  alone : Bool
def modeS (e : Bool) : Str := if e then "edge" else "level"
def Interest.d (i : Interest) : PyData := .tuple [.str i.target, i.asked.d, .str (modeS i.edge), .bool i.once, .bool i.alone]
structure Interest.Ok (i : Interest) : Prop where
  name : NameOk i.target
  any : i.asked.any = true
structure Entry where
  i : Interest
  on : Bool
  fresh : Ws
def Entry.d (e : Entry) : PyData := .tuple [e.i.d, .bool e.on, e.fresh.d]
structure Entry.Ok (e : Entry) : Prop where
  i : e.i.Ok
  sub : e.fresh.and e.i.asked = e.fresh
  lev : e.i.edge = false → e.fresh = Ws.no
structure Pipe where
  name : Str
  room : Int
  held : Int
  shut : Bool
def Pipe.d (p : Pipe) : PyData := .tuple [.str p.name, .int p.room, .int p.held, .bool p.shut]
structure Pipe.Ok (p : Pipe) : Prop where
  name : NameOk p.name
  r1 : 1 ≤ p.room
  r9 : p.room ≤ 9
  h0 : 0 ≤ p.held
  hr : p.held ≤ p.room
def gWords (ds : List PyData) (d : PyData) : Prop := ∃ w : Ws, ds = [w.d] ∧ d = .bool true
def gInterest (ds : List PyData) (d : PyData) : Prop := ∃ i : Interest, ds = [i.d] ∧ i.Ok ∧ d = .bool true
def gEntry (ds : List PyData) (d : PyData) : Prop := ∃ e : Entry, ds = [e.d] ∧ e.Ok ∧ d = .bool true
def gPipe (ds : List PyData) (d : PyData) : Prop := ∃ p : Pipe, ds = [p.d] ∧ p.Ok ∧ d = .bool true
theorem wordsD (w : Ws) : ∃ l : List Str, w.d = .tuple (l.map .str) ∧ l.length ≤ 3 ∧ l = w.l := ⟨_, rfl, by obtain ⟨a, b, c⟩ := w; cases a <;> cases b <;> cases c <;> decide, rfl⟩
section
variable {P : Program} {w : World} {K : PySem.W.Frag} {mg : Str → Option Value} {base : Heap}
theorem ok_are_words (T : Txt K mg) (C_are_up_to : Cal P w K mg base 1 "are_up_to" ["thing", "many"] (spD K gUpTo)) : Cal P w K mg base 2 "are_words" ["thing"] (spD K gWords) := by
  obtain ⟨f, fd, F, hm⟩ := T.f_are_words
  refine okD F sc_are_words hm (F.bindsN fun _ _ _ _ _ _ us hl => match us, hl with | [_], _ => rfl) ?_ (by decide) (fun cdv A outer s H E hr => ?_)
  · rintro ds d ⟨w, rfl, _⟩
    rfl
  have hu := hr.units
  refine ⟨_, (dss_c (ds_if (L2.PW.pt (dw_or (dt_not (dt_v (de_call C_are_up_to hr (by decide) (da_c (de_v 0) (da_c (de_cb call_len cd_len T.n_len (by decide +kernel) (da_c (de_k T.k_WORDS) da_n)) da_n))))) (dw_or1 (dt_not (dt_v (de_cb (cr_allA false rfl) (cd_all false) T.n_all (by decide +kernel) (da_c (de_lc0 (m := pureM) [("word", 1)] rfl sc_are_words.nd (di_t (de_v 0)) (blkOk_by (N := ["thing", "word"]) (sc := defScope s_are_words) (by decide +kernel)) (by intro p hp; cases hp) (by decide) (fun _ _ _ _ _ => (dg_n 1 sc_are_words.nd (by intro p hp; cases hp))) (fun _ _ _ _ _ => (de_isi T.n_isinstance T.n_str (by decide +kernel) cls_str (de_v 1)))) da_n))))))) (dss_1 (ds_ret de_b)) dss_n)
      (dss_1 (ds_ret (de_cmp (op_eqA hu) od_eq (de_v 0) (de_ct call_tuple_of cd_tuple T.n_tuple (by decide +kernel) (da_c (de_lc1 (m := pureM) [("word", 1)] rfl sc_are_words.nd (di_t (de_k T.k_WORDS)) (blkOk_by (N := ["thing", "word"]) (sc := defScope s_are_words) (by decide +kernel)) (by intro p hp; cases hp) (by decide) (fun _ _ _ _ _ => (dg_n 1 sc_are_words.nd (by intro p hp; cases hp))) (fun _ _ _ _ _ => (dt_cmp op_inA (od_in false) (de_v 1) (de_v 0) (by rfl))) (fun _ _ _ _ _ => (de_v 1))) da_n)) (nomark _))))), ?_⟩
  rintro ds d ⟨w, rfl, rfl⟩
  obtain ⟨a, b, c⟩ := w
  have hl : (Ws.l ⟨a, b, c⟩).length ≤ 3 := by cases a <;> cases b <;> cases c <;> decide
  simp [Ws.d]
  refine ⟨_, ⟨_, _, ⟨rfl, rfl⟩, rfl⟩, by simp; omega, ?_⟩
  refine wLc_map ((Ws.l ⟨a, b, c⟩).map .str) (fun _ => .bool true) (fun A q => ⟨_, rfl, _, rfl, q⟩) (by simp; omega) (fun i d e P' p => ?_) (fun i d e => by simp) ⟨_, all_true _, rfl, ?_⟩
  · obtain ⟨s, rfl, _⟩ := strs_at e
    exact ⟨_, rfl, true, kit_ss, p⟩
  refine wLc_filter [.str "in", .str "out", .str "gone"] (fun d => ((Ws.l ⟨a, b, c⟩).map PyData.str).any fun y => PyData.eqv y d) id (fun A q => ⟨_, rfl, q⟩) (by decide) (fun i d e P' P2 h1 h2 => ?_) (fun i d e _ => ?_) ?_
  · refine ⟨_, rfl, _, rfl, _, rfl, ⟨?_, strs_flat _⟩, _, rfl, ite_b (fun z => ⟨_, rfl, h1 z⟩) h2⟩
    obtain ⟨s, rfl, _⟩ := strs_at (l := ["in", "out", "gone"]) e
    rfl
  · obtain ⟨s, rfl, _⟩ := strs_at (l := ["in", "out", "gone"]) e
    simp
  cases a <;> cases b <;> cases c <;> exact ⟨_, rfl, .inr ⟨by decide +kernel, by decide +kernel⟩, by decide +kernel⟩
end
end K45
/-! KA3 -/
set_option Elab.async false
set_option linter.all false
set_option maxRecDepth 100000
set_option maxHeartbeats 2000000
namespace K45
open PySem PySem.Spec PyProof.Rows L2
theorem ws_shaped (w : Ws) : SeqAt.shaped w.d = true := by
  obtain ⟨a, b, c⟩ := w
  cases a <;> cases b <;> cases c <;> decide +kernel
theorem ws_nil (w : Ws) : PyData.eqv w.d (.tuple []) = !w.any := by
  obtain ⟨a, b, c⟩ := w
  cases a <;> cases b <;> cases c <;> decide +kernel
theorem nil_shaped : SeqAt.shaped (.tuple []) = true := by decide +kernel
theorem mode_in (e : Bool) : ([PyData.str "level", PyData.str "edge"].any fun y => PyData.eqv y (.str (modeS e))) = true := by
  cases e <;> decide +kernel
theorem ws_len (w : Ws) : w.l.length ≤ 3 := by
  obtain ⟨a, b, c⟩ := w
  cases a <;> cases b <;> cases c <;> decide
theorem ws_mem {w : Ws} {z : Str} : z ∈ w.l ↔ (w.i = true ∧ z = "in") ∨ (w.o = true ∧ z = "out") ∨ (w.g = true ∧ z = "gone") := by
  obtain ⟨a, b, c⟩ := w
  cases a <;> cases b <;> cases c <;> simp [Ws.l]
theorem ws_sub {a b : Ws} (h : a.and b = a) : ∀ z, z ∈ a.l → z ∈ b.l := by
  intro z hz
  obtain ⟨a1, a2, a3⟩ := a
  obtain ⟨b1, b2, b3⟩ := b
  rw [ws_mem] at hz ⊢
  have e1 : (a1 && b1) = a1 := congrArg Ws.i h
  have e2 : (a2 && b2) = a2 := congrArg Ws.o h
  have e3 : (a3 && b3) = a3 := congrArg Ws.g h
  rcases hz with ⟨q, e⟩ | ⟨q, e⟩ | ⟨q, e⟩
  · have q : a1 = true := q
    rw [q] at e1
    exact .inl ⟨by simpa using e1, e⟩
  · have q : a2 = true := q
    rw [q] at e2
    exact .inr (.inl ⟨by simpa using e2, e⟩)
  · have q : a3 = true := q
    rw [q] at e3
    exact .inr (.inr ⟨by simpa using e3, e⟩)
theorem num_true {n l m : Int} (h1 : l ≤ n) (h2 : n ≤ m) : PyData.bool true = .bool (decide (l ≤ n) && decide (n ≤ m)) := by simp [h1, h2]
def gWaiting (ds : List PyData) (d : PyData) : Prop := ds = [.tuple []] ∧ d = .bool true
section
variable {P : Program} {w : World} {K : PySem.W.Frag} {mg : Str → Option Value} {base : Heap}
theorem ok_is_interest (T : Txt K mg) (C_is_tuple_of : Cal P w K mg base 1 "is_tuple_of" ["thing", "many"] (spD K gTupleOf)) (C_are_words : Cal P w K mg base 2 "are_words" ["thing"] (spD K gWords)) (C_is_name : Cal P w K mg base 1 "is_name" ["thing"] (spD K gName)) : Cal P w K mg base 3 "is_interest" ["thing"] (spD K gInterest) := by
  obtain ⟨f, fd, F, hm⟩ := T.f_is_interest
  refine okD F sc_is_interest hm (F.bindsN fun _ _ _ _ _ _ us hl => match us, hl with | [_], _ => rfl) ?_ (by decide) (fun cdv A outer s H E hr => ?_)
  · rintro ds d ⟨w, rfl, _⟩
    rfl
  have hu := hr.units
  refine ⟨_, (dss_c (ds_if (dt_not (dt_v (de_call C_is_tuple_of hr (by decide) (da_c (de_v 0) (da_c de_i da_n))))) (dss_1 (ds_ret de_b)) dss_n)
      (dss_c (ds_asg (de_v 0) (dg_t rfl (dgs_c (dg_n 1 sc_is_interest.nd (by intro p hp; cases hp)) (dgs_c (dg_n 2 sc_is_interest.nd (by intro p hp; cases hp)) (dgs_c (dg_n 3 sc_is_interest.nd (by intro p hp; cases hp)) (dgs_c (dg_n 4 sc_is_interest.nd (by intro p hp; cases hp)) (dgs_c (dg_n 5 sc_is_interest.nd (by intro p hp; cases hp)) dgs_n)))))))
      (dss_c (ds_if (L2.PW.pt (dw_or (dt_not (dt_v (de_call C_is_name hr (by decide) (da_c (de_v 1) da_n)))) (dw_or (dt_not (dt_v (de_call C_are_words hr (by decide) (da_c (de_v 2) da_n)))) (dw_or1 (dt_cmp (op_eqA hu) od_eq (de_v 2) (de_tup da_n) (nomark _)))))) (dss_1 (ds_ret de_b)) dss_n)
      (dss_1 (ds_ret (de_and (de_isi T.n_isinstance T.n_str (by decide +kernel) cls_str (de_v 3)) (de_and (de_cmp op_inA (od_in false) (de_v 3) (de_tup (da_c (de_k T.k_LEVEL) (da_c (de_k T.k_EDGE) da_n))) (by rfl)) (de_and (de_isi T.n_isinstance T.n_bool (by decide +kernel) cls_bool (de_v 4)) (de_one (de_isi T.n_isinstance T.n_bool (by decide +kernel) cls_bool (de_v 5))))))))))), ?_⟩
  rintro ds d ⟨i, rfl, h, rfl⟩
  refine ⟨_, rfl, _, ⟨_, 5, rfl, rfl⟩, true, rfl, ?_⟩
  refine ⟨_, rfl, _, rfl, rfl, _, _, rfl, _, _, rfl, _, _, rfl, _, _, rfl, _, _, rfl, rfl, ?_⟩
  refine ⟨_, rfl, .bool true, ⟨_, rfl, h.name, rfl⟩, true, rfl, ?_⟩
  refine ⟨_, rfl, .bool true, ⟨i.asked, rfl, rfl⟩, true, rfl, ?_⟩
  refine ⟨_, rfl, by simp, _, rfl, .inr ⟨ws_shaped _, nil_shaped⟩, _, rfl, ?_⟩
  rw [ws_nil, h.any]
  refine ⟨_, rfl, true, kit_ss, true, rfl, ?_⟩
  refine ⟨_, rfl, by simp, _, rfl, ⟨rfl, rfl⟩, true, ?_, ?_⟩
  · exact congrArg PyData.bool (mode_in i.edge)
  exact ⟨_, rfl, true, kit_bb, true, rfl, _, rfl, true, kit_bb, rfl⟩
theorem ok_is_entry (T : Txt K mg) (C_is_interest : Cal P w K mg base 3 "is_interest" ["thing"] (spD K gInterest)) (C_is_tuple_of : Cal P w K mg base 1 "is_tuple_of" ["thing", "many"] (spD K gTupleOf)) (C_are_words : Cal P w K mg base 2 "are_words" ["thing"] (spD K gWords)) : Cal P w K mg base 4 "is_entry" ["thing"] (spD K gEntry) := by
  obtain ⟨f, fd, F, hm⟩ := T.f_is_entry
  refine okD F sc_is_entry hm (F.bindsN fun _ _ _ _ _ _ us hl => match us, hl with | [_], _ => rfl) ?_ (by decide) (fun cdv A outer s H E hr => ?_)
  · rintro ds d ⟨w, rfl, _⟩
    rfl
  have hu := hr.units
  refine ⟨_, (dss_c (ds_if (L2.PW.pt (dw_or (dt_not (dt_v (de_call C_is_tuple_of hr (by decide) (da_c (de_v 0) (da_c de_i da_n))))) (dw_or (dt_not (dt_v (de_call C_is_interest hr (by decide) (da_c (de_ix ix_seq od_ix (de_v 0) de_i (fun _ _ => rfl)) da_n)))) (dw_or1 (dt_not (dt_v (de_isi T.n_isinstance T.n_bool (by decide +kernel) cls_bool (de_ix ix_seq od_ix (de_v 0) de_i (fun _ _ => rfl))))))))) (dss_1 (ds_ret de_b)) dss_n)
      (dss_c (ds_asg (de_sl (de_ix ix_seq od_ix (de_v 0) de_i (fun _ _ => rfl)) (do_s de_i) (do_s de_i)) (dg_t rfl (dgs_c (dg_n 1 sc_is_entry.nd (by intro p hp; cases hp)) (dgs_c (dg_n 2 sc_is_entry.nd (by intro p hp; cases hp)) dgs_n))))
      (dss_c (ds_if (dt_not (dt_v (de_call C_are_words hr (by decide) (da_c (de_ix ix_seq od_ix (de_v 0) de_i (fun _ _ => rfl)) da_n)))) (dss_1 (ds_ret de_b)) dss_n)
      (dss_1 (ds_ret (de_or (de_cmp (op_eqA hu) od_eq (de_ix ix_seq od_ix (de_v 0) de_i (fun _ _ => rfl)) (de_tup da_n) (nomark _)) (de_one (de_and (de_cmp (op_eqA hu) od_eq (de_v 2) (de_k T.k_EDGE) (nomark _)) (de_one (de_cb (cr_allA false rfl) (cd_all false) T.n_all (by decide +kernel) (da_c (de_lc0 (m := pureM) [("word", 3)] rfl sc_is_entry.nd (di_t (de_ix ix_seq od_ix (de_v 0) de_i (fun _ _ => rfl))) (blkOk_by (N := ["thing", "asked", "mode", "word"]) (sc := defScope s_is_entry) (by decide +kernel)) (by intro p hp; cases hp) (by decide) (fun _ _ _ _ _ => (dg_n 3 sc_is_entry.nd (by intro p hp; cases hp))) (fun _ _ _ _ _ => (de_cmp op_inA (od_in false) (de_v 3) (de_v 1) (by rfl)))) da_n))))))))))), ?_⟩
  rintro ds d ⟨e, rfl, h, rfl⟩
  refine ⟨_, rfl, _, ⟨_, 3, rfl, rfl⟩, true, rfl, ?_⟩
  refine ⟨_, rfl, _, rfl, trivial, .bool true, ⟨e.i, rfl, h.i, rfl⟩, true, rfl, ?_⟩
  refine ⟨_, rfl, _, rfl, trivial, true, kit_bb, true, rfl, ?_⟩
  refine ⟨_, rfl, _, rfl, trivial, _, rfl, _, rfl, _, rfl, trivial, _, rfl, rfl, _, _, rfl, _, _, rfl, rfl, ?_⟩
  refine ⟨_, rfl, _, rfl, trivial, .bool true, ⟨e.fresh, rfl, rfl⟩, true, rfl, ?_⟩
  refine ⟨_, rfl, _, rfl, trivial, by simp, _, rfl, .inr ⟨ws_shaped _, nil_shaped⟩, _, rfl, ?_⟩
  rw [ws_nil]
  cases hf : e.fresh.any with
  | false => rfl
  | true =>
    have he : e.i.edge = true := by
      cases q : e.i.edge with
      | true => rfl
      | false =>
        rw [h.lev q] at hf
        cases hf
    refine ⟨_, rfl, _, rfl, .inl rfl, true, ?_, ?_⟩
    · show PyData.bool (PyData.eqv (.str (modeS e.i.edge)) (.str "edge")) = .bool true
      rw [he]
      exact congrArg PyData.bool (by decide +kernel)
    refine iteT ?_
    show wLc _ _ _ _ _ _ _ _
    refine wLc_map (e.fresh.l.map .str) (fun _ => .bool true) (fun A q => ⟨_, rfl, _, rfl, trivial, _, rfl, q⟩) (by rw [List.length_map]; exact Nat.le_trans (ws_len _) (by decide)) (fun i d q P' p => ?_) (fun i d _ => by simp) ⟨_, all_true _, trivial, rfl⟩
    obtain ⟨z, rfl, hz⟩ := strs_at q
    refine ⟨_, rfl, _, rfl, .bool true, ?_, ⟨rfl, strs_flat _⟩, p⟩
    refine congrArg (fun b => some (PyData.bool b)) ((any_str _ _).trans (decide_eq_true ?_))
    exact ws_sub h.sub z hz
theorem ok_is_pipe (T : Txt K mg) (C_is_number : Cal P w K mg base 1 "is_number" ["thing", "least", "most"] (spD K gNumber)) (C_is_name : Cal P w K mg base 1 "is_name" ["thing"] (spD K gName)) (C_is_tuple_of : Cal P w K mg base 1 "is_tuple_of" ["thing", "many"] (spD K gTupleOf)) : Cal P w K mg base 2 "is_pipe" ["thing"] (spD K gPipe) := by
  obtain ⟨f, fd, F, hm⟩ := T.f_is_pipe
  refine okD F sc_is_pipe hm (F.bindsN fun _ _ _ _ _ _ us hl => match us, hl with | [_], _ => rfl) ?_ (by decide) (fun cdv A outer s H E hr => ?_)
  · rintro ds d ⟨w, rfl, _⟩
    rfl
  have hu := hr.units
  refine ⟨_, (dss_c (ds_if (L2.PW.pt (dw_or (dt_not (dt_v (de_call C_is_tuple_of hr (by decide) (da_c (de_v 0) (da_c de_i da_n))))) (dw_or (dt_not (dt_v (de_call C_is_name hr (by decide) (da_c (de_ix ix_seq od_ix (de_v 0) de_i (fun _ _ => rfl)) da_n)))) (dw_or1 (dt_not (dt_v (de_call C_is_number hr (by decide) (da_c (de_ix ix_seq od_ix (de_v 0) de_i (fun _ _ => rfl)) (da_c de_i (da_c (de_k T.k_MOST_ROOM) da_n)))))))))) (dss_1 (ds_ret de_b)) dss_n)
      (dss_1 (ds_ret (de_and (de_call C_is_number hr (by decide) (da_c (de_ix ix_seq od_ix (de_v 0) de_i (fun _ _ => rfl)) (da_c de_i (da_c (de_ix ix_seq od_ix (de_v 0) de_i (fun _ _ => rfl)) da_n)))) (de_one (de_isi T.n_isinstance T.n_bool (by decide +kernel) cls_bool (de_ix ix_seq od_ix (de_v 0) de_i (fun _ _ => rfl)))))))), ?_⟩
  rintro ds d ⟨p, rfl, h, rfl⟩
  refine ⟨_, rfl, _, ⟨_, 4, rfl, rfl⟩, true, rfl, ?_⟩
  refine ⟨_, rfl, _, rfl, trivial, .bool true, ⟨_, rfl, h.name, rfl⟩, true, rfl, ?_⟩
  refine ⟨_, rfl, _, rfl, trivial, .bool true, ⟨_, _, _, rfl, num_true h.r1 h.r9⟩, true, rfl, ?_⟩
  refine ⟨_, rfl, _, rfl, trivial, _, rfl, _, rfl, trivial, .bool true, ⟨_, _, _, rfl, num_true h.h0 h.hr⟩, true, rfl, ?_⟩
  exact ⟨_, rfl, _, rfl, trivial, true, kit_bb, rfl⟩
theorem ok_are_waiting (T : Txt K mg) (C_are_up_to : Cal P w K mg base 1 "are_up_to" ["thing", "many"] (spD K gUpTo)) (C_is_number : Cal P w K mg base 1 "is_number" ["thing", "least", "most"] (spD K gNumber)) (C_is_name : Cal P w K mg base 1 "is_name" ["thing"] (spD K gName)) (C_is_tuple_of : Cal P w K mg base 1 "is_tuple_of" ["thing", "many"] (spD K gTupleOf)) : Cal P w K mg base 2 "are_waiting" ["thing"] (spD K gWaiting) := by
  obtain ⟨f, fd, F, hm⟩ := T.f_are_waiting
  refine okD F sc_are_waiting hm (F.bindsN fun _ _ _ _ _ _ us hl => match us, hl with | [_], _ => rfl) ?_ (by decide) (fun cdv A outer s H E hr => ?_)
  · rintro ds d ⟨rfl, _⟩
    rfl
  have hu := hr.units
  refine ⟨_, (dss_c (ds_if (dt_not (dt_v (de_call C_are_up_to hr (by decide) (da_c (de_v 0) (da_c (de_k T.k_MOST_WAITERS) da_n))))) (dss_1 (ds_ret de_b)) dss_n)
      (dss_1 (ds_ret (de_cb (cr_allA false rfl) (cd_all false) T.n_all (by decide +kernel) (da_c (de_lc0 (m := pureM) [("one", 1)] rfl sc_are_waiting.nd (di_t (de_v 0)) (blkOk_by (N := ["thing", "one"]) (sc := defScope s_are_waiting) (by decide +kernel)) (by intro p hp; cases hp) (by decide) (fun _ _ _ _ _ => (dg_n 1 sc_are_waiting.nd (by intro p hp; cases hp))) (fun _ _ _ _ _ => (de_and (de_call C_is_tuple_of hr (by decide) (da_c (de_v 1) (da_c de_i da_n))) (de_and (de_call C_is_name hr (by decide) (da_c (de_ix ix_seq od_ix (de_v 1) de_i (fun _ _ => rfl)) da_n)) (de_one (de_call C_is_number hr (by decide) (da_c (de_ix ix_seq od_ix (de_v 1) de_i (fun _ _ => rfl)) (da_c de_i (da_c (de_k T.k_MOST_ENTRIES) da_n))))))))) da_n))))), ?_⟩
  rintro ds d ⟨rfl, rfl⟩
  refine ⟨_, rfl, _, ⟨_, 6, rfl, rfl⟩, true, rfl, ?_⟩
  refine iteF ?_
  show wLc _ _ _ _ _ _ _ _
  refine wLc_map [] (fun _ => .bool true) (fun A q => ⟨_, rfl, _, rfl, q⟩) (by decide) (fun i d q P' p => ?_) (fun i d _ => by simp) ⟨_, all_true _, trivial, rfl⟩
  simp at q
end
end K45
/-! KB1 -/
set_option Elab.async false
set_option linter.all false
set_option maxRecDepth 100000
set_option maxHeartbeats 1000000
/-! a star at a target's end -/
namespace K45
open PySem PySem.Spec PyProof.Rows L2 PySem.W
section
variable {prog : Program} {w : World} {A : Around} {E : Value → Shared → Prop} {s : Shared}
theorem star_end {l : Addr} {its : Array Value} {i : Nat} {Q : List Value → Shared → Prop} (ht : IsTup s.heap l its) (hh : A.handled = none) (hi : i ≤ its.size) (hz : its.size ≤ 10000)
    (h : ∀ h' tk D, (∀ b o, s.heap.get? b = some o → h'.get? b = some o) → s.heap.get? D = none → h'.get? D = some { cls := .type "list", data := .seq (its.toList.drop i).toArray } → Q (its.toList.take i ++ [.ref D]) { s with heap := h', toks := tk }) :
    wpAny (model prog w) A (unpackItems (.ref l) (i + 1) (some i)) Q E s := by
  have sl : sizeLine = 16777216 := sizeLine_eq
  have lt : l < s.heap.objs.size := let ⟨_, q, _⟩ := ht; Heap.lt_size q
  have ne : l ≠ s.heap.objs.size := Nat.ne_of_lt lt
  unfold unpackItems
  refine wpAny_bind (by
    unfold notIterableAtAll
    refine wpAny_bind (wpAny_specialOf ht.typeIs slot_tuple_iter.lookup (wpAny_pure ?_))
    simp only [Bool.false_eq_true, if_false]
    refine wpAny_bind (wpAny_holding (iter_tuple ht (wpAny_bind (wpAny_holding (draw_tuple ne i 0 _ _ ⟨_, Heap.get?_push_size _ rfl, rfl, rfl⟩ (ht.push _) (by omega) fun g1 it1 sb1 => ?_)))))
    have ht1 : IsTup g1 l its := (ht.push _).extBut sb1.extBut ne
    rw [Nat.zero_add] at it1
    obtain ⟨o1, e1, _⟩ := id it1
    obtain ⟨o2, e2, _⟩ := id ht1
    have len : (its.toList.take i).length = i := by
      rw [List.length_take, Array.length_toList]
      omega
    have rlen : (its.toList.drop i).length = its.size - i := by rw [List.length_drop, Array.length_toList]
    rw [List.drop_zero, if_neg (by rw [len]; exact Nat.lt_irrefl i)]
    refine wpAny_bind (wpAny_holding (kun_collect (s := { s with heap := g1 }) (T := "tuple_iterator") (.inr (.inr (.inr rfl))) (Walks.tuple (A := A.in1) hh s.heap.objs.size l ne its) (fun _ _ st => st.1.typeIs) (k := i) hi ⟨it1, ht1⟩
      (Heap.lt_size e1) (Heap.lt_size e2) (fun g2 tk kp => ?_) (by omega)))
    show wpAny _ _ (if (its.toList.drop i).length < i + 1 - 1 - i then _ else _) _ _ _
    rw [if_neg (by omega)]
    show wpAny _ _ (newList ((its.toList.drop i).take ((its.toList.drop i).length - (i + 1 - 1 - i))) >>= fun d => pure (its.toList.take i ++ [d] ++ (its.toList.drop i).drop ((its.toList.drop i).length - (i + 1 - 1 - i)))) _ _ _
    have z : i + 1 - 1 - i = 0 := by omega
    have z2 : (its.toList.drop i).take ((its.toList.drop i).length - 0) = its.toList.drop i := by rw [Nat.sub_zero, List.take_length]
    have z3 : (its.toList.drop i).drop ((its.toList.drop i).length - 0) = [] := by rw [Nat.sub_zero, List.drop_length]
    rw [z, z2, z3]
    refine wpAny_bind (wpAny_newList (wpAny_pure ?_))
    rw [List.append_nil]
    have old : ∀ b o, s.heap.get? b = some o → g2.get? b = some o := fun b o e => by
      have nb : b ≠ s.heap.objs.size := Nat.ne_of_lt (Heap.lt_size e)
      exact kp b o nb (sb1.extBut b o nb (Heap.get?_push_of_some _ e))
    refine h _ tk _ (fun b o e => Heap.get?_push_of_some _ (old b o e)) ?_ (Heap.get?_push_size _ rfl)
    show s.heap.get? g2.objs.size = none
    cases q : s.heap.get? g2.objs.size with
    | none => rfl
    | some o => exact absurd (Heap.lt_size (old _ o q)) (Nat.lt_irrefl _))
end
section
variable {X : Cx} {pins : List (Addr × Obj)} {st : L2.St} {H : Hp} {s : Shared} {h' : Heap} {a : Addr} {o : HO}
theorem obj_there {P : Program} {w : World} (x : ObjOk P w H h' a o) : ∃ u, h'.get? a = some u := by
  cases o with
  | lst xs => obtain ⟨_, _, _, _, e⟩ := x; exact ⟨_, e⟩
  | tup xs => obtain ⟨_, _, _, _, e, _⟩ := x; exact ⟨_, e⟩
  | dK kvs => obtain ⟨_, _, _, _, o, _, _, e, _⟩ := x; exact ⟨_, e⟩
  | dT kvs => obtain ⟨_, _, _, _, o, _, _, e, _⟩ := x; exact ⟨_, e⟩
  | set S n => obtain ⟨o, _, _, _, e, _⟩ := x; exact ⟨_, e⟩
  | ins C dx fs => obtain ⟨_, _, _, e, _⟩ := x; exact ⟨_, e⟩
  | own y => obtain ⟨_, e⟩ := x; exact ⟨_, e⟩
  | xd fs => obtain ⟨_, ⟨_, _, _, e, _⟩, _⟩ := x; exact ⟨_, e⟩
  | rng lo hi => obtain ⟨_, _, _, e⟩ := x; exact ⟨_, e⟩
  | frz ob u => obtain ⟨e, _⟩ := x; exact ⟨_, e⟩
  | tbl ps => exact ⟨_, x⟩
  | met f y => exact ⟨_, x⟩
  | ext p => obtain ⟨_, e, _⟩ := x; exact e
/-- a new object at a place that held nothing -/
theorem inv_laid0 {t' : Nat} (I : Inv X pins st H s) (k : ∀ b u, s.heap.get? b = some u → h'.get? b = some u) (hn : s.heap.get? a = none) (new : ObjOk X.prog X.w (upd H a o) h' a o) : Inv X pins st (upd H a o) { s with heap := h', toks := t' } := by
  have hH : H a = none := by
    cases q : H a with
    | none => rfl
    | some u =>
      obtain ⟨v, e⟩ := obj_there (I.hok a u q)
      rw [hn] at e
      cases e
  have na : ∀ {b : Addr} {u : Obj}, s.heap.get? b = some u → b ≠ a := fun {b u} e z => by
    rw [z, hn] at e
    cases e
  refine I.un (t' := t') (H' := upd H a o)
    { keep := fun b u e _ _ _ => k b u e
      slot := fun b u e _ _ _ => ⟨u.slots, k b u e⟩
      free := fun b u e n _ => by rw [upd_ne (na e)]; exact n
      there := fun b u e _ => ⟨u, k b u e⟩
      tups := fun b xs q => by rw [upd_ne (ne_of_none q hH)]; exact q
      frzs := fun b ob u q => by rw [upd_ne (ne_of_none q hH)]; exact q
      tbls := fun b ps q => ⟨#[], by rw [upd_ne (ne_of_none q hH), q]; simp⟩ } fun b u q => ?_
  by_cases hb : b = a
  · subst hb
    rw [upd_same] at q
    cases q
    exact new
  · rw [upd_ne hb] at q
    exact (I.hok b u q).stay (fun c v _ e => k c v e) (fun c e => by rw [upd_ne (ne_of_none e hH)]; exact e) (fun c xs e => by rw [upd_ne (ne_of_none e hH)]; exact e)
end
/-! a, b, *c = a tuple -/
section
variable {X : Cx} {m : Md} {e : Expr} {es : List Expr} {pos p1 : Pos} {sl tl : List Nat} {Wg : WG} {Ws : WGs} {k0 i : Nat}
theorem pgs_star {t : TG} (h1 : PG X e t) : PGs X [.Starred e p1] (gCons t gNil) := by
  refine ⟨fun pins s st H vs us Q I r h => ?_⟩
  obtain ⟨v, vr, e1, h⟩ := h
  subst e1
  cases r with
  | cons r rr =>
    have hs : (assignEach [.Starred e p1] X.env).map (·.2) = [assign e X.env] := rfl
    rw [hs]
    refine assignInOrder_cons (thn (h1.run pins s st H _ _ _ I r h) fun _ s1 ⟨s2, H1, I1, e2, q1⟩ => ?_)
    subst e2
    cases rr
    exact assignInOrder_nil ⟨s2, H1, I1, q1⟩
/-- the last one's value is a new list of what is left -/
def gStar (K : PySem.W.Frag) (i : Nat) (t : TGs) : TG := fun v st H Q => ∃ a xs, v = .ref a ∧ SqT K H a xs ∧ i ≤ xs.length ∧ xs.length ≤ 10000 ∧ ∀ D, H D = none → t (xs.take i ++ [.ref D]) st (upd H D (.lst (xs.drop i))) Q
theorem pg_star {t : TGs} (hc : X.calm = true) (h : PGs X es t) (hn : (assignEach es X.env).length = i + 1) (hst : (assignEach es X.env).findIdx? (·.1) = some i) : PG X (.Tuple es k0 pos) (gStar X.K i t) := by
  refine ⟨fun pins s st H v u Q I r hw => ?_⟩
  obtain ⟨a, xs, e1, hq, hi, hz, hw⟩ := hw
  subst e1
  cases r
  obtain ⟨its, rv, ht, _⟩ := I.tuple hq
  have len := rv.length
  rw [assign_Tuple]
  refine wpAny_bind (wpAny_standAt ?_)
  unfold unpack
  rw [hn, hst]
  refine wpAny_bind (wpAny_holding (star_end ht (I.ok.hd hc) (by simp; omega) (by simp; omega) fun h' tk D kp hD eD => ?_))
  have rd : Vals (xs.drop i) (its.drop i) := rv.drop i
  have I1 : Inv X pins st (upd H D (.lst (xs.drop i))) { s with heap := h', toks := tk } := inv_laid0 I kp hD ⟨by rw [List.length_drop]; exact Evl.sz_of (by omega), its.drop i, 0, rd, by simpa using eD⟩
  have hH : H D = none := by
    cases q : H D with
    | none => rfl
    | some u =>
      obtain ⟨v, e⟩ := obj_there (I.hok D u q)
      rw [hD] at e
      cases e
  have rr : Vals (xs.take i ++ [.ref D]) (its.take i ++ [.ref D]) := (rv.take i).append (.cons rfl .nil)
  exact h.run pins _ st _ _ _ Q I1 (by simpa using rr) (hw D hH)
def wgsS (W : WG) : WGs := fun ds r P => ∃ d, ds = [d] ∧ W d r P
@[simp] def wgStar (i : Nat) (Ws : WGs) : WG := fun d r P => ∃ ds, d = .tuple ds ∧ i ≤ ds.length ∧ ds.length ≤ 10000 ∧ Ws (ds.take i ++ [.list (ds.drop i)]) r P
theorem dgs_star (h1 : DG X m e sl Wg) : DGs X m [.Starred e p1] sl (wgsC Wg wgsN) := pgs_by (pgs_star h1) fun vs s H Q ⟨r, n, ds, P, R, h, ⟨d, es', ed, w⟩, k⟩ => by
  subst ed
  cases h with
  | @cons v vs _ _ ha hb =>
    refine ⟨v, vs, rfl, r, n, d, _, R, ha, w, fun s1 H1 r1 e1 R1 ⟨p0, p1⟩ w1 => ?_⟩
    subst p0
    cases hb
    exact ⟨rfl, k s1 H1 r1 e1 R1 p1 w1⟩
theorem dg_star (hc : X.calm = true) (h : DGs X m es sl Ws) (hn : (assignEach es X.env).length = i + 1 := by rfl) (hst : (assignEach es X.env).findIdx? (·.1) = some i := by rfl) : DG X m (.Tuple es k0 pos) sl (wgStar i Ws) :=
  pg_by (pg_star hc h hn hst) fun v s H Q ⟨r, nn, d, P, R, hd, ⟨ds, ed, hi, hl, w⟩, k⟩ => by
    subst ed
    cases hd with
    | @tup a xs _ hp ha =>
      have len := da_len ha
      refine ⟨a, xs, rfl, hp, by omega, by omega, fun D hD => ⟨r, nn, _, P, R.ex (Ex.new hD), ?_, w, fun s' H' r' e' R' p' w' => k s' H' r' ((Ex.new hD).trans e') R' p' w'⟩⟩
      exact da_ex (Ex.new hD) (da_take i ha) |> fun z => da_app z (.cons (.lst upd_same (da_ex (Ex.new hD) (da_drop i ha))) .nil)
end
end K45
/-! KB2 -/
set_option Elab.async false
set_option linter.all false
set_option maxRecDepth 100000
set_option maxHeartbeats 2000000
/-! enumerate of a tuple, of a zip, of an empty dict -/
namespace K45
open PySem PySem.Spec PyProof.Rows L2
open Builtin Builtin.Str
abbrev enumO (it : Addr) : Obj := { cls := .type "enumerate", data := .fields #[.none, .bool false, .ref it, rawInt 0, .none, .none] }
def ItersTo (v : Value) (s : Shared) (it : Addr) (h1 : Heap) : Prop := ∀ (prog : Program) (w : World) (A : Around) (E : Value → Shared → Prop) (Q : Value → Shared → Prop), Q (.ref it) { s with heap := h1 } → wpAny (model prog w) A (pyIter v) Q E s
theorem enum_made (v : Value) : PySem.Meets (Builtin.«enumerate.__new__» ⟨[.type "enumerate", v], []⟩) (fun _ R s => ∃ it h1, ItersTo v s it h1 ∧ R (.ok (.ret (.ref h1.objs.size))) { s with heap := h1.push (enumO it) }) :=
  .of_wp fun prog w A R s hs => by
    obtain ⟨hp, g, d, tk, os⟩ := s
    obtain ⟨it, h1, hI, hR⟩ := hs
    have hsub := sub_enumerate
    have hJ : ∀ (A : Around) (E : Value → Shared → Prop) (Q : Value → Shared → Prop), Q (.ref it) ⟨h1, g, d, tk, os⟩ → wpAny (model prog w) A (pyIter v) Q E ⟨hp, g, d, tk, os⟩ := fun A E Q q => hI prog w A E Q q
    clear hI
    generalize hPI : pyIter = PI at hJ
    unfold Builtin.«enumerate.__new__»
    rw [hPI]
    wp_walk
    refine wpAny_stack_any fun st => wpAny_pure ?_
    split
    · rename_i c _ _ _ _ _
      cases (c == Value.type "enumerate")
      · wp_walk
        refine hJ _ _ _ ?_
        wp_walk
        exact ⟨_, rfl, hR⟩
      · wp_walk
        refine hJ _ _ _ ?_
        wp_walk
        exact ⟨_, rfl, hR⟩
    · wp_walk
      refine hJ _ _ _ ?_
      wp_walk
      exact ⟨_, rfl, hR⟩
section
variable {prog : Program} {w : World} {A : Around} {E : Value → Shared → Prop} {s : Shared}
theorem call_enum {v : Value} {it : Addr} {h1 : Heap} {Q : Value → Shared → Prop} (hI : ItersTo v s it h1)
    (h : ∀ h', IsEnum h' h1.objs.size it 0 .none → (∀ b o, h1.get? b = some o → h'.get? b = some o) → Q (.ref h1.objs.size) { s with heap := h' }) : wpAny (model prog w) A (call (.type "enumerate") [v]) Q E s := by
  refine callType_new F.called_enumerate (by decide) (F.typeCall_enumerate_1 _) (F.newCall_enumerate_1 _) (fun obj => F.args_object_init_2 obj _) F.entry_enumerate_new (enum_made v) ⟨it, h1, hI, ?_⟩
  have he : IsEnum (h1.push (enumO it)) h1.objs.size it 0 .none := Heap.get?_push_size _ rfl
  exact ⟨⟨_, he, rfl⟩, h _ he fun b o x => Heap.get?_push_of_some _ x⟩
abbrev pairO (i : Nat) (t : Tok) (x : Value) : Obj := { cls := .type "tuple", data := .seq #[.int i t, x] }
theorem enum_item {e it : Addr} {i : Nat} {old : Value} {Q : Option Value → Shared → Prop} (he : IsEnum s.heap e it i old)
    (hn : ∀ E', wpAny (model prog w) A.in1 (SmallTypes.nextOf (.ref it)) (fun x s1 => IsEnum s1.heap e it i old ∧ ∀ h', IsEnumOut h' e it ((i : Int) + 1) x s1.heap.objs.size → h'.get? s1.heap.objs.size = some (pairO i s1.toks x) →
      (∀ b o, b ≠ e → s1.heap.get? b = some o → h'.get? b = some o) → Q (some (.ref s1.heap.objs.size)) { s1 with heap := h', toks := s1.toks + 1 }) E' s) : wpAny (model prog w) A (pyNext (.ref e)) Q E s := by
  have hT : s.TypeIs (.ref e) "enumerate" := ⟨_, he, rfl⟩
  unfold pyNext
  refine wpAny_bind (wpAny_attempt (wpAny_callSpecial?_slot (name := Str.ofString "__next__") hT F.slot_enumerate_next (wpAny_call_entry F.slot_enumerate_next hT F.entry_enumerate_next ?_ (F.args_enumerate_next_1 _))))
  show wpAny _ _ (field (.ref e) 2 >>= _) _ _ _
  refine wpAny_bind (wpAny_field he rfl (x := .ref it) rfl (wpAny_bind ?_))
  refine wpAny_mono (hn _) (fun x s1 ⟨he1, q⟩ => ?_) fun _ _ z => z
  obtain ⟨hp, g, d, tk, os⟩ := s1
  show wpAny _ _ (field (.ref e) 3 >>= _) _ _ _
  refine wpAny_bind (wpAny_field he1 rfl (x := rawInt i) rfl ?_)
  show wpAny _ _ (field (.ref e) 4 >>= _) _ _ _
  refine wpAny_bind (wpAny_field he1 rfl (x := .none) rfl ?_)
  show wpAny _ _ (mkInt i >>= _) _ _ _
  refine wpAny_bind (wpAny_mkInt ?_)
  show wpAny _ _ (setField (.ref e) 3 (rawInt ((i : Int) + 1)) >>= _) _ _ ⟨hp, g, d, tk + 1, os⟩
  refine wpAny_bind (wpAny_setField_rec he1 (by simp) fun h2 he2 k2 => ?_)
  have k2 : Heap.SameBut e hp h2 := k2
  have he2 : IsEnum h2 e it ((i : Int) + 1) old := he2
  show wpAny _ _ (setField (.ref e) 4 .none >>= _) _ _ ⟨h2, g, d, tk + 1, os⟩
  refine wpAny_bind (wpAny_setField_rec he2 (by simp) fun h3 he3 k3 => ?_)
  have k3 : Heap.SameBut e h2 h3 := k3
  have he3 : IsEnum h3 e it ((i : Int) + 1) old := he3
  show wpAny _ _ (newTuple [.int i tk, x] >>= _) _ _ ⟨h3, g, d, tk + 1, os⟩
  have sz : h3.objs.size = hp.objs.size := k3.1.trans k2.1
  have el : hp.objs.size ≠ e := Nat.ne_of_gt (Heap.lt_size he1)
  have he4 : IsEnum (h3.push (pairO i tk x)) e it ((i : Int) + 1) old := Heap.get?_push_of_some _ he3
  have new4 : (h3.push (pairO i tk x)).get? hp.objs.size = some (pairO i tk x) := by
    rw [← sz]
    exact Heap.get?_push_size _ rfl
  have k4 : ∀ b o, b ≠ e → hp.get? b = some o → (h3.push (pairO i tk x)).get? b = some o := fun b o nb q0 => Heap.get?_push_of_some _ (k3.extBut b o nb (k2.extBut b o nb q0))
  refine wpAny_bind (wpAny_newTuple ?_)
  show wpAny _ _ (SmallTypes.ownedTupleIsFree (.ref e) >>= _) _ _ ⟨h3.push (pairO i tk x), g, d, tk + 1, os⟩
  generalize h3.push (pairO i tk x) = h4 at he4 new4 k4
  rw [sz]
  refine wpAny_bind ?_
  unfold SmallTypes.ownedTupleIsFree
  refine wpAny_bind (wpAny_field he4 rfl (x := .none) rfl (wpAny_pure ?_))
  simp only [if_true]
  refine wpAny_bind (wpAny_rule (wpAny_bind (wpAny_field he4 rfl (x := old) rfl (wpAny_bind (wpAny_setField_rec he4 (by simp) fun h5 he5 k5 => ?_)))))
  have k5 : Heap.SameBut e h4 h5 := k5
  have he5 : IsEnum h5 e it ((i : Int) + 1) x := he5
  show wpAny _ _ (SmallTypes.ownedTupleHandOut (.ref e) (.ref hp.objs.size) >>= _) _ _ ⟨h5, g, d, tk + 1, os⟩
  refine wpAny_bind ?_
  unfold SmallTypes.ownedTupleHandOut
  refine wpAny_bind (wpAny_setField_rec he5 (by simp) fun h6 he6 k6 => ?_)
  have k6 : Heap.SameBut e h5 h6 := k6
  have he6 : IsEnumOut h6 e it ((i : Int) + 1) x hp.objs.size := he6
  refine wpAny_setField_rec he6 (by simp) fun h7 he7 k7 => ?_
  have k7 : Heap.SameBut e h6 h7 := k7
  have he7 : IsEnumOut h7 e it ((i : Int) + 1) x hp.objs.size := he7
  have up : ∀ b o, b ≠ e → h4.get? b = some o → h7.get? b = some o := fun b o nb q0 => k7.extBut b o nb (k6.extBut b o nb (k5.extBut b o nb q0))
  exact wpAny_bind (wpAny_letGo (wpAny_pure ⟨_, rfl, wpAny_pure (q h7 he7 (up _ _ el new4) fun b o nb q0 => up b o nb (k4 b o nb q0))⟩))
theorem enum_over {e it : Addr} {i : Nat} {old : Value} {Q : Option Value → Shared → Prop} (he : IsEnum s.heap e it i old)
    (hn : ∀ (E' Q' : Value → Shared → Prop), (∀ h' x, (∃ o, h'.get? x = some o ∧ o.cls = .type "StopIteration") → Q none { s with heap := h' } → E' (.ref x) { s with heap := h' }) → wpAny (model prog w) A.in1 (SmallTypes.nextOf (.ref it)) Q' E' s) : wpAny (model prog w) A (pyNext (.ref e)) Q E s := by
  have hT : s.TypeIs (.ref e) "enumerate" := ⟨_, he, rfl⟩
  unfold pyNext
  refine wpAny_bind (wpAny_attempt (wpAny_callSpecial?_slot (name := Str.ofString "__next__") hT F.slot_enumerate_next (wpAny_call_entry F.slot_enumerate_next hT F.entry_enumerate_next ?_ (F.args_enumerate_next_1 _))))
  show wpAny _ _ (field (.ref e) 2 >>= _) _ _ _
  refine wpAny_bind (wpAny_field he rfl (x := .ref it) rfl (wpAny_bind (hn _ _ fun h' x ⟨o, ho, hc⟩ q => ?_)))
  exact wpAny_bind (wpAny_isInstance (T := "StopIteration") (b := true) ⟨o, ho, hc⟩ isSubtype_stop (wpAny_pure q))
end
end K45
/-! KB3 -/
set_option Elab.async false
set_option linter.all false
set_option maxRecDepth 100000
set_option maxHeartbeats 2000000
/-! a zip of two tuples whose own tuple may still be out -/
namespace K45
open PySem PySem.Spec PyProof.Rows L2
open Builtin
abbrev zipO (f0 f : Value) (TI TO : Addr) : Obj := { cls := .type "zip", dict := none, data := .fields #[f0, f, .bool false, .ref TI, .ref TO], slots := #[] }
def OutTag (f0 f : Value) : Prop := (f0 = .none ∨ ∃ T : Addr, f0 = rawInt T) ∧ ∃ b, f = .bool b
def ZipAt (h : Heap) (z TI TO : Addr) : Prop := ∃ f0 f, OutTag f0 f ∧ h.get? z = some (zipO f0 f TI TO)
section
variable {prog : Program} {w : World} {A : Around} {E : Value → Shared → Prop} {s : Shared} {z TI TO i1 i2 l1 l2 : Addr} {k : Nat} {xs ys : Array Value} {x y a b : Value}
theorem zip_free {Q : Bool → Shared → Prop} (hz : ZipAt s.heap z TI TO) (h : ∀ c h1, ZipAt h1 z TI TO → Heap.SameBut z s.heap h1 → Q c { s with heap := h1 }) : wpAny (model prog w) A (SmallTypes.ownedTupleIsFree (.ref z)) Q E s := by
  obtain ⟨f0, f, ⟨t0, c, rfl⟩, hz⟩ := hz
  unfold SmallTypes.ownedTupleIsFree
  refine wpAny_bind (wpAny_field hz rfl (x := f0) rfl ?_)
  rcases t0 with rfl | ⟨T, rfl⟩
  · exact wpAny_pure (h _ _ ⟨_, _, ⟨.inl rfl, c, rfl⟩, hz⟩ (Heap.SameBut.refl _ _))
  show wpAny _ _ (loadIfAlive ((T : Int).toNat) >>= _) _ _ _
  have al : ∀ {R : Option Obj → Shared → Prop}, R (s.heap.get? T) s → wpAny (model prog w) A (loadIfAlive T) R E s := fun r => fun _ _ _ => r
  rw [Int.toNat_natCast]
  refine wpAny_bind (al ?_)
  cases s.heap.get? T with
  | none => exact wpAny_pure (h _ _ ⟨_, _, ⟨.inr ⟨T, rfl⟩, c, rfl⟩, hz⟩ (Heap.SameBut.refl _ _))
  | some o =>
    simp only [Option.isNone_some, Bool.false_eq_true, if_false]
    refine wpAny_bind (wpAny_field hz rfl (x := .bool c) rfl ?_)
    cases c with
    | true =>
      rw [if_neg (show ¬ ((Value.bool true != Value.bool true) = true) from Bool.false_ne_true)]
      exact wpAny_pure (h _ _ ⟨_, _, ⟨.inr ⟨T, rfl⟩, true, rfl⟩, hz⟩ (Heap.SameBut.refl _ _))
    | false =>
      rw [if_pos (show (Value.bool false != Value.bool true) = true from rfl)]
      exact wpAny_bind (wpAny_setField_rec hz (by simp) fun h1 hz1 k1 => wpAny_pure (h _ _ ⟨_, _, ⟨.inr ⟨T, rfl⟩, true, rfl⟩, hz1⟩ k1))
theorem zip_item {Q : Value → Shared → Prop} (D : ZipApart z TI TO i1 i2 l1 l2) (hz : ZipAt s.heap z TI TO) (hTI : IsPair s.heap TI (.ref i1) (.ref i2)) (hTO : IsPair s.heap TO a b)
    (h1 : s.heap.IsTupleIter i1 l1 k) (h2 : s.heap.IsTupleIter i2 l2 k) (hl1 : s.heap.IsTuple l1 xs) (hl2 : s.heap.IsTuple l2 ys) (hx : xs[k]? = some x) (hy : ys[k]? = some y)
    (hQ : ∀ h', ZipAt h' z TI TO → (∃ a b, IsPair h' TO a b) → h'.IsTupleIter i1 l1 (k + 1) → h'.IsTupleIter i2 l2 (k + 1) → IsPair h' s.heap.objs.size x y →
      (∀ c o, c ≠ z → c ≠ TO → c ≠ i1 → c ≠ i2 → s.heap.get? c = some o → h'.get? c = some o) → Q (.ref s.heap.objs.size) { s with heap := h' }) :
    wpAny (model prog w) A (SmallTypes.nextOf (.ref z)) Q E s := by
  have hT : s.TypeIs (.ref z) "zip" := let ⟨_, _, _, q⟩ := hz; ⟨_, q, rfl⟩
  unfold SmallTypes.nextOf
  refine wpAny_bind (wpAny_callSpecial?_slot (name := Str.ofString "__next__") hT F.slot_zip_next (wpAny_call_entry F.slot_zip_next hT F.entry_zip_next ?_ (F.args_zip_next_1 _)))
  obtain ⟨f0, f, tg, hz0⟩ := id hz
  show wpAny _ _ (field (.ref z) 2 >>= _) _ _ _
  refine wpAny_bind (wpAny_field hz0 rfl (x := .bool false) rfl ?_)
  show wpAny _ _ (field (.ref z) 3 >>= _) _ _ _
  refine wpAny_bind (wpAny_field hz0 rfl (x := .ref TI) rfl (wpAny_bind (wpAny_seqItems hTI rfl ?_)))
  show wpAny _ _ (SmallTypes.ownedTupleIsFree (.ref z) >>= _) _ _ _
  refine wpAny_bind (zip_free hz fun c g1 hz1 e1 => ?_)
  have pTO1 : IsPair g1 TO a b := e1.extBut _ _ D.TOz hTO
  have j1 : g1.IsTupleIter i1 l1 k := h1.extBut e1.extBut D.i1z
  have j2 : g1.IsTupleIter i2 l2 k := h2.extBut e1.extBut D.i2z
  have t1 : g1.IsTuple l1 xs := hl1.extBut e1.extBut D.l1z
  have t2 : g1.IsTuple l2 ys := hl2.extBut e1.extBut D.l2z
  obtain ⟨f1, f2, tg1, hz1⟩ := hz1
  cases c with
  | true =>
    simp only [if_true]
    refine wpAny_bind (wpAny_rule (wpAny_bind (wpAny_field hz1 rfl (x := .ref TO) rfl (wpAny_bind (wpAny_setField_rec hz1 (by simp) fun g2 hz2 e2 => wpAny_bind ?_)))))
    have e2 : Heap.SameBut z g1 g2 := e2
    simp only [List.zipIdx_cons, List.zipIdx_nil, List.forIn_cons, List.forIn_nil]
    refine wpAny_bind (wpAny_bind (wpAny_onRaise ?_))
    show wpAny _ _ (SmallTypes.nextOf (.ref i1) >>= _) _ _ _
    refine wpAny_bind (RZ.nextOf_tuple_item (j1.extBut e2.extBut D.i1z) (t1.extBut e2.extBut D.l1z) hx fun g3 n1 e3 => wpAny_pure ?_)
    have p3 : IsPair g3 TO a b := e3.extBut _ _ D.TOi1 (e2.extBut _ _ D.TOz pTO1)
    refine wpAny_bind (wpAny_seqItems p3 rfl (wpAny_bind (wpAny_updateSeq_pair p3 fun g4 p4 e4 => wpAny_bind (wpAny_letGo (wpAny_pure ?_)))))
    have p4 : IsPair g4 TO x b := p4
    refine wpAny_bind (wpAny_bind (wpAny_onRaise ?_))
    show wpAny _ _ (SmallTypes.nextOf (.ref i2) >>= _) _ _ _
    refine wpAny_bind (RZ.nextOf_tuple_item (((j2.extBut e2.extBut D.i2z).extBut e3.extBut D.i12.symm).extBut e4.extBut D.TOi2.symm) (((t2.extBut e2.extBut D.l2z).extBut e3.extBut D.l2i1).extBut e4.extBut D.l2TO) hy fun g5 n2 e5 => wpAny_pure ?_)
    have p5 : IsPair g5 TO x b := e5.extBut _ _ D.TOi2 p4
    refine wpAny_bind (wpAny_seqItems p5 rfl (wpAny_bind (wpAny_updateSeq_pair p5 fun g6 p6 e6 => wpAny_bind (wpAny_letGo (wpAny_pure (wpAny_pure ?_))))))
    have p6 : IsPair g6 TO x y := p6
    have sz : g6.objs.size = s.heap.objs.size := by rw [e6.1, e5.1, e4.1, e3.1, e2.1, e1.1]
    have hz6 := e6.extBut _ _ D.TOz.symm (e5.extBut _ _ D.i2z.symm (e4.extBut _ _ D.TOz.symm (e3.extBut _ _ D.i1z.symm hz2)))
    have n1' : g6.IsTupleIter i1 l1 (k + 1) := ((n1.extBut e4.extBut D.TOi1.symm).extBut e5.extBut D.i12).extBut e6.extBut D.TOi1.symm
    have n2' : g6.IsTupleIter i2 l2 (k + 1) := n2.extBut e6.extBut D.TOi2.symm
    have kp : ∀ c o, c ≠ z → c ≠ TO → c ≠ i1 → c ≠ i2 → s.heap.get? c = some o → g6.get? c = some o := fun c o c1 c2 c3 c4 q =>
      e6.extBut _ _ c2 (e5.extBut _ _ c4 (e4.extBut _ _ c2 (e3.extBut _ _ c3 (e2.extBut _ _ c1 (e1.extBut _ _ c1 q)))))
    refine wpAny_bind (wpAny_seqItems p6 rfl (wpAny_bind (wpAny_newTuple ?_)))
    show wpAny _ _ (SmallTypes.ownedTupleHandOut (.ref z) (.ref g6.objs.size) >>= _) _ _ _
    refine wpAny_bind ?_
    unfold SmallTypes.ownedTupleHandOut
    have hz7 := Heap.get?_push_of_some { cls := .type "tuple", data := .seq #[x, y] } hz6
    have zl : g6.objs.size ≠ z := Nat.ne_of_gt (Heap.lt_size hz6)
    refine wpAny_bind (wpAny_setField_rec hz7 (by simp) fun g8 hz8 e8 => wpAny_setField_rec hz8 (by simp) fun g9 hz9 e9 => ?_)
    have up : ∀ c o, c ≠ z → g6.get? c = some o → g9.get? c = some o := fun c o c1 q => e9.extBut _ _ c1 (e8.extBut _ _ c1 (Heap.get?_push_of_some _ q))
    have new : IsPair g9 g6.objs.size x y := e9.extBut _ _ zl (e8.extBut _ _ zl (Heap.get?_push_size _ rfl))
    refine wpAny_pure ⟨_, rfl, wpAny_pure ?_⟩
    show Q (.ref g6.objs.size) _
    rw [sz] at new hz9 ⊢
    exact hQ g9 ⟨_, _, ⟨.inr ⟨_, rfl⟩, false, rfl⟩, hz9⟩ ⟨_, _, up _ _ D.TOz p6⟩ (n1'.at fun o q => up _ o D.i1z q) (n2'.at fun o q => up _ o D.i2z q) new fun c o c1 c2 c3 c4 q => up c o c1 (kp c o c1 c2 c3 c4 q)
  | false =>
    simp only [Bool.false_eq_true, if_false]
    refine wpAny_bind ?_
    rw [← Array.forIn_toList]
    simp only [List.forIn_cons, List.forIn_nil]
    refine wpAny_bind (wpAny_bind (wpAny_holding ?_))
    show wpAny _ _ (SmallTypes.nextOf (.ref i1) >>= _) _ _ _
    refine wpAny_bind (RZ.nextOf_tuple_item (s := { s with heap := g1 }) j1 t1 hx fun g3 n1 e3 => wpAny_pure (wpAny_pure (wpAny_bind (wpAny_bind (wpAny_holding ?_)))))
    show wpAny _ _ (SmallTypes.nextOf (.ref i2) >>= _) _ _ _
    refine wpAny_bind (RZ.nextOf_tuple_item (s := { s with heap := g3 }) (j2.extBut e3.extBut D.i12.symm) (t2.extBut e3.extBut D.l2i1) hy fun g5 n2 e5 => wpAny_pure (wpAny_pure (wpAny_pure ?_)))
    show wpAny _ _ (newTuple [x, y] >>= _) _ _ _
    refine wpAny_bind (wpAny_newTuple (wpAny_pure ⟨_, rfl, wpAny_pure ?_⟩))
    have sz : g5.objs.size = s.heap.objs.size := by rw [e5.1, e3.1, e1.1]
    have hz6 := e5.extBut _ _ D.i2z.symm (e3.extBut _ _ D.i1z.symm hz1)
    have kp : ∀ c o, c ≠ z → c ≠ i1 → c ≠ i2 → s.heap.get? c = some o → g5.get? c = some o := fun c o c1 c3 c4 q => e5.extBut _ _ c4 (e3.extBut _ _ c3 (e1.extBut _ _ c1 q))
    have n1' : g5.IsTupleIter i1 l1 (k + 1) := n1.extBut e5.extBut D.i12
    have new : IsPair (g5.push { cls := .type "tuple", data := .seq #[x, y] }) g5.objs.size x y := Heap.get?_push_size _ rfl
    show Q (.ref g5.objs.size) _
    rw [sz] at new ⊢
    exact hQ _ ⟨_, _, tg1, Heap.get?_push_of_some _ hz6⟩ ⟨_, _, Heap.get?_push_of_some _ (kp _ _ D.TOz D.TOi1 D.TOi2 hTO)⟩ (n1'.at fun o q => Heap.get?_push_of_some _ q) (n2.at fun o q => Heap.get?_push_of_some _ q) new fun c o c1 c2 c3 c4 q => Heap.get?_push_of_some _ (kp c o c1 c3 c4 q)
theorem zip_over {Q : Value → Shared → Prop} (hh : A.handled = none) (D : ZipApart z TI TO i1 i2 l1 l2) (hz : ZipAt s.heap z TI TO) (hTI : IsPair s.heap TI (.ref i1) (.ref i2)) (hTO : IsPair s.heap TO a b)
    (h1 : s.heap.IsTupleIter i1 l1 k) (hl1 : s.heap.IsTuple l1 xs) (hx : xs[k]? = none)
    (hE : ∀ h' e, (∀ c o, c ≠ z → c ≠ i1 → s.heap.get? c = some o → h'.get? c = some o) → (∃ o, h'.get? e = some o ∧ o.cls = .type "StopIteration") → E (.ref e) { s with heap := h' }) :
    wpAny (model prog w) A (SmallTypes.nextOf (.ref z)) Q E s := by
  have hT : s.TypeIs (.ref z) "zip" := let ⟨_, _, _, q⟩ := hz; ⟨_, q, rfl⟩
  unfold SmallTypes.nextOf
  refine wpAny_bind (wpAny_callSpecial?_slot (name := Str.ofString "__next__") hT F.slot_zip_next (wpAny_call_entry F.slot_zip_next hT F.entry_zip_next ?_ (F.args_zip_next_1 _)))
  obtain ⟨f0, f, tg, hz0⟩ := id hz
  show wpAny _ _ (field (.ref z) 2 >>= _) _ _ _
  refine wpAny_bind (wpAny_field hz0 rfl (x := .bool false) rfl ?_)
  show wpAny _ _ (field (.ref z) 3 >>= _) _ _ _
  refine wpAny_bind (wpAny_field hz0 rfl (x := .ref TI) rfl (wpAny_bind (wpAny_seqItems hTI rfl ?_)))
  show wpAny _ _ (SmallTypes.ownedTupleIsFree (.ref z) >>= _) _ _ _
  refine wpAny_bind (zip_free hz fun c g1 hz1 e1 => ?_)
  have j1 : g1.IsTupleIter i1 l1 k := h1.extBut e1.extBut D.i1z
  have t1 : g1.IsTuple l1 xs := hl1.extBut e1.extBut D.l1z
  obtain ⟨f1, f2, tg1, hz1⟩ := hz1
  cases c with
  | true =>
    simp only [if_true]
    refine wpAny_bind (wpAny_rule (wpAny_bind (wpAny_field hz1 rfl (x := .ref TO) rfl (wpAny_bind (wpAny_setField_rec hz1 (by simp) fun g2 hz2 e2 => wpAny_bind ?_)))))
    have e2 : Heap.SameBut z g1 g2 := e2
    simp only [List.zipIdx_cons, List.zipIdx_nil, List.forIn_cons, List.forIn_nil]
    refine wpAny_bind (wpAny_bind (wpAny_onRaise ?_))
    show wpAny _ _ (SmallTypes.nextOf (.ref i1) >>= _) _ _ _
    refine wpAny_bind (RZ.nextOf_tuple_end hh (j1.extBut e2.extBut D.i1z) (t1.extBut e2.extBut D.l1z) hx fun g3 e e3 he => ?_)
    have hz3 := e3 _ _ D.i1z.symm hz2
    obtain ⟨oe, hoe, hce⟩ := he
    have ne : e ≠ z := fun q => by
      rw [q, hz3] at hoe
      cases hoe
      simp at hce
    exact wpAny_setField_rec hz3 (by simp) fun g4 _ e4 => hE g4 e (fun c o c1 c2 q => e4.extBut _ _ c1 (e3 _ _ c2 (e2.extBut _ _ c1 (e1.extBut _ _ c1 q)))) ⟨oe, e4.extBut _ _ ne hoe, hce⟩
  | false =>
    simp only [Bool.false_eq_true, if_false]
    refine wpAny_bind ?_
    rw [← Array.forIn_toList]
    simp only [List.forIn_cons, List.forIn_nil]
    refine wpAny_bind (wpAny_bind (wpAny_holding ?_))
    show wpAny _ _ (SmallTypes.nextOf (.ref i1) >>= _) _ _ _
    exact wpAny_bind (RZ.nextOf_tuple_end (s := { s with heap := g1 }) hh j1 t1 hx fun g3 e e3 he => hE g3 e (fun c o c1 c2 q => e3 _ _ c2 (e1.extBut _ _ c1 q)) he)
end
end K45
/-! KB4 -/
set_option Elab.async false
set_option linter.all false
set_option maxRecDepth 100000
set_option maxHeartbeats 2000000
/-! enumerate(tuple), enumerate(zip(tuple, tuple)), zip(tuple, tuple), enumerate({}) -/
namespace K45
open PySem PySem.Spec PyProof.Rows L2
open Builtin
def ItEn (K : PySem.W.Frag) (a : Addr) : It where
  go := fun i H => ∃ xs x, SqT K H a xs ∧ xs[i]? = some x
  yld := fun i H v H' => ∃ T x, v = .ref T ∧ H T = none ∧ H' = upd H T (.tup [.int (i : Nat), x]) ∧ ∀ xs, SqT K H a xs → xs[i]? = some x
  stop := fun i H => ∃ xs, SqT K H a xs ∧ xs.length ≤ i
theorem new_pair {X : Cx} {H : Hp} {h : Heap} {T : Addr} {i : Nat} {t : Tok} {u : Value} {x : V} (r : RelV x u) (e : h.get? T = some (pairO i t u)) : ObjOk X.prog X.w (upd H T (.tup [.int (i : Nat), x])) h T (.tup [.int (i : Nat), x]) :=
  ⟨by show 2 ≤ sizeLine; decide, [.int i t, u], .cons ⟨_, rfl⟩ (.cons r .nil), ⟨_, e, rfl, _, rfl⟩⟩
theorem fp_upd {X : Cx} {pins : List (Addr × Obj)} {H : Hp} {b T : Addr} {o : HO} (h : FpOk X pins H b) (n : b ≠ T) : FpOk X pins (upd H T o) b := ⟨by rw [upd_ne n]; exact h.1, h.2⟩
theorem turn_en {P : Program} {w : World} {K : PySem.W.Frag} {elts : List Expr} {kk : Nat} {tpos : Pos} (a e it : Addr) :
    Turn P w K (.Tuple elts kk tpos) (ItEn K a) [e, it] e (fun i h => (∃ old, IsEnum h e it ((i : Nat) : Int) old) ∧ h.IsTupleIter it a i ∧ e ≠ it) where
  mem := List.mem_cons_self
  obj := fun i h ⟨⟨old, he⟩, ⟨o, ho, _, hd⟩, _⟩ b hb => by
    rcases List.mem_cons.mp hb with rfl | hb
    · exact ⟨_, he, fun v q => nomatch q⟩
    · cases List.mem_singleton.mp hb
      exact ⟨o, ho, fun v q => by rw [hd] at q; cases q⟩
  keep := fun i h h' ⟨⟨old, he⟩, hi, hne⟩ k => ⟨⟨old, k e List.mem_cons_self _ he⟩, hi.at fun o q => k it (List.mem_cons_of_mem _ List.mem_cons_self) o q, hne⟩
  item := fun X hP hw hK hc i pins s σ H E I hf ⟨⟨old, he⟩, hit, hne⟩ ⟨xs, x, hq, hx⟩ => by
    subst hP hw hK
    obtain ⟨its, rv, p, _⟩ := I.tuple hq
    obtain ⟨u, hu, ru⟩ := rv.get hx
    have el : e < s.heap.objs.size := Heap.lt_size he
    have il : it < s.heap.objs.size := by
      obtain ⟨_, q, _⟩ := hit
      exact Heap.lt_size q
    refine enum_item he fun E' => RZ.nextOf_tuple_item hit (show s.heap.IsTuple a its.toArray from p) (x := u) (by simpa using hu) fun h1 n1 e1 => ?_
    refine ⟨(e1.2 e hne).trans he, fun h2 he2 hT2 k2 => ⟨_, rfl, ?_⟩⟩
    rw [e1.1] at he2 hT2 ⊢
    refine wpAny_letOwnedTupleGo_enum (s := { s with heap := h2, toks := s.toks + 1 }) he2 fun h3 he3 e3 => ?_
    have new : h3.get? s.heap.objs.size = some (pairO i s.toks u) := (e3.2 _ (Nat.ne_of_gt el)).trans hT2
    have I1 := I.turnedNew (t' := s.toks + 1) (h' := h3) (ch := [e, it]) (fun b o hb q => (e3.2 b (fun z => hb (by simp [z]))).trans (k2 b o (fun z => hb (by simp [z])) ((e1.2 b (fun z => hb (by simp [z]))).trans q))) hf (Nat.le_refl _) (new_pair ru new)
    refine ⟨.ref s.heap.objs.size, _, I1, rfl, ⟨_, x, rfl, I.hok.fresh (Nat.le_refl _), rfl, fun ys hy => by rw [I.tuple_inj hy hq]; exact hx⟩, ⟨⟨u, ?_⟩, ?_, hne⟩, fun b hb => ?_⟩
    · rw [show ((i + 1 : Nat) : Int) = (i : Int) + 1 by omega]
      exact he3
    · exact n1.at fun o q => (e3.2 it (Ne.symm hne)).trans (k2 it o (Ne.symm hne) q)
    · have lt : b < s.heap.objs.size := by
        rcases List.mem_cons.mp hb with rfl | hb
        · exact el
        · cases List.mem_singleton.mp hb
          exact il
      rw [upd_ne (Nat.ne_of_lt lt)]
      exact (hf b hb).1
  done := fun X hP hw hK hc i pins s σ H E I hf ⟨⟨old, he⟩, hit, hne⟩ ⟨xs, hq, hx⟩ => by
    subst hP hw hK
    obtain ⟨its, rv, p, _⟩ := I.tuple hq
    have hl := rv.length
    obtain ⟨f0, f1, f2, f3, f4, f5⟩ := hf it (by simp)
    refine enum_over he fun E' Q' q => RZ.nextOf_tuple_end (I.ok.hd hc) hit (show s.heap.IsTuple a its.toArray from p) (by simp; omega) fun h1 x e1 hx => q h1 x hx ⟨rfl, ?_⟩
    exact I.turned (t' := s.toks) (fun b o hb z => e1 b o hb z) f0 f1 f3 f4 f5
  self := fun A i s Q E ⟨⟨_, he⟩, _⟩ h => wpAny_pyIter_enum he h
section
variable {X : Cx} {e e2 : Expr} {ta : TA} {te : TE} {p p2 pos pos2 tpos : Pos} {elts : List Expr} {kk : Nat}
theorem boot_enum : bootBuiltins "enumerate" = some (.type "enumerate") := by decide +kernel
theorem iters_tup {s : Shared} {a : Addr} {its : Array Value} (h : s.heap.IsTuple a its) : ItersTo (.ref a) s s.heap.objs.size (s.heap.push { cls := .type "tuple_iterator", data := .fields #[.ref a, .int 0 0] }) := fun prog w A E Q q => wpAny_pyIter_tuple h q
def iEn (K : PySem.W.Frag) (ta : TA) : TI := fun σ H R => ta σ H fun vs H1 => ∃ a xs, vs = [.ref a] ∧ SqT K H1 a xs ∧ R (ItEn K a) H1
theorem pi_en (hg : Gl X "enumerate") (hm : X.mg "enumerate" = none) (ha : PA X [e] ta) (hs : starEach [e] X.env = [(false, eval e X.env)] := by rfl) : PI X (.Tuple elts kk tpos) (.Call (.Name "enumerate" p) [e] [] pos) (iEn X.K ta) := by
  refine ⟨fun pins s σ H R I h => Call_ (ld_blt I hg hm boot_enum (PyProof.Rows.callWith_type1 (thn (ha.run pos pins s σ H _ I h) fun us s1 ⟨vs, H1, I1, r1, a, xs, ex, hq, q⟩ => ?_) hs rfl))⟩
  subst ex
  cases r1 with
  | cons r rr =>
    cases rr
    cases r
    obtain ⟨its, rv, p', _⟩ := I1.tuple hq
    have ht : s1.heap.IsTuple a its.toArray := p'
    refine call_enum (iters_tup ht) fun h' he k => wpAny_pyIter_enum he ?_
    have sz : (s1.heap.push { cls := .type "tuple_iterator", data := .fields #[.ref a, .int 0 0] }).objs.size = s1.heap.objs.size + 1 := Heap.size_push ..
    have kp : ∀ b o, s1.heap.get? b = some o → h'.get? b = some o := fun b o z => k b o (Heap.get?_push_of_some _ z)
    have I2 : Inv X pins σ H1 { s1 with heap := h' } := I1.kept (t' := s1.toks) kp
    rw [sz] at he ⊢
    refine ⟨s1.heap.objs.size + 1, [s1.heap.objs.size + 1, s1.heap.objs.size], _, _, H1, rfl, I2, turn_en a (s1.heap.objs.size + 1) s1.heap.objs.size, ⟨⟨.none, he⟩, ⟨_, k _ _ (Heap.get?_push_size _ rfl), rfl, rfl⟩, Nat.succ_ne_self _⟩, fun b hb => ?_, q⟩
    have hle : s1.heap.objs.size ≤ b := by
      rcases List.mem_cons.mp hb with rfl | hb
      · exact Nat.le_succ _
      · cases List.mem_singleton.mp hb
        exact Nat.le_refl _
    exact I1.fpOk hle (I1.hok.fresh hle)
end
/-! enumerate(zip(t, t)) -/
def ItEz (K : PySem.W.Frag) (a b : Addr) : It where
  go := fun i H => ∃ xs ys x y, SqT K H a xs ∧ SqT K H b ys ∧ xs[i]? = some x ∧ ys[i]? = some y
  yld := fun i H v H' => ∃ T U x y, v = .ref U ∧ H T = none ∧ upd H T (.tup [x, y]) U = none ∧ H' = upd (upd H T (.tup [x, y])) U (.tup [.int (i : Nat), .ref T]) ∧ (∀ xs, SqT K H a xs → xs[i]? = some x) ∧ ∀ ys, SqT K H b ys → ys[i]? = some y
  stop := fun i H => ∃ xs, SqT K H a xs ∧ xs.length ≤ i
abbrev EzSt (a b e z TI TO i1 i2 : Addr) (i : Nat) (h : Heap) : Prop := (∃ old, IsEnum h e z ((i : Nat) : Int) old) ∧ ZipAt h z TI TO ∧ IsPair h TI (.ref i1) (.ref i2) ∧ (∃ x y, IsPair h TO x y) ∧ h.IsTupleIter i1 a i ∧ h.IsTupleIter i2 b i
theorem turn_ez {P : Program} {w : World} {K : PySem.W.Frag} {elts : List Expr} {kk : Nat} {tpos : Pos} {a b e z TI TO i1 i2 : Addr} (D : ZipApart z TI TO i1 i2 a b) (ne : e ∉ [z, TI, TO, i1, i2]) :
    Turn P w K (.Tuple elts kk tpos) (ItEz K a b) [e, z, TI, TO, i1, i2] e (EzSt a b e z TI TO i1 i2) where
  mem := List.mem_cons_self
  obj := fun i h ⟨⟨old, he⟩, ⟨_, _, _, hz⟩, hTI, ⟨x, y, hTO⟩, ⟨o1, q1, _, d1⟩, ⟨o2, q2, _, d2⟩⟩ c hc => by
    have hc : c = e ∨ c = z ∨ c = TI ∨ c = TO ∨ c = i1 ∨ c = i2 := by simpa using hc
    rcases hc with rfl | rfl | rfl | rfl | rfl | rfl
    · exact ⟨_, he, fun v q => nomatch q⟩
    · exact ⟨_, hz, fun v q => nomatch q⟩
    · exact ⟨_, hTI, fun v q => nomatch q⟩
    · exact ⟨_, hTO, fun v q => nomatch q⟩
    · exact ⟨o1, q1, fun v q => by rw [d1] at q; cases q⟩
    · exact ⟨o2, q2, fun v q => by rw [d2] at q; cases q⟩
  keep := fun i h h' ⟨⟨old, he⟩, ⟨f0, f, tg, hz⟩, hTI, ⟨x, y, hTO⟩, h1, h2⟩ k =>
    ⟨⟨old, k e (by simp) _ he⟩, ⟨f0, f, tg, k z (by simp) _ hz⟩, k TI (by simp) _ hTI, ⟨x, y, k TO (by simp) _ hTO⟩, h1.at fun o q => k i1 (by simp) o q, h2.at fun o q => k i2 (by simp) o q⟩
  item := fun X hP hw hK hc i pins s σ H E I hf ⟨⟨old, he⟩, hz, hTI, ⟨x0, y0, hTO⟩, h1, h2⟩ ⟨xs, ys, x, y, hqx, hqy, hx, hy⟩ => by
    subst hP hw hK
    obtain ⟨its, rv, p, _⟩ := I.tuple hqx
    obtain ⟨its2, rv2, p2, _⟩ := I.tuple hqy
    obtain ⟨u, hu, ru⟩ := rv.get hx
    obtain ⟨u2, hu2, ru2⟩ := rv2.get hy
    simp only [List.mem_cons, List.not_mem_nil, or_false, not_or] at ne
    have el : e < s.heap.objs.size := Heap.lt_size he
    refine enum_item he fun E' => zip_item (A := X.A.in1) D hz hTI hTO h1 h2 (show s.heap.IsTuple a its.toArray from p) (show s.heap.IsTuple b its2.toArray from p2) (x := u) (y := u2) (by simpa using hu) (by simpa using hu2) fun g1 gz gTO g1i g2i gT k1 => ?_
    refine ⟨k1 _ _ ne.1 ne.2.2.1 ne.2.2.2.1 ne.2.2.2.2 he, fun g2 he2 hT2 k2 => ⟨_, rfl, ?_⟩⟩
    refine wpAny_letOwnedTupleGo_enum (s := { s with heap := g2, toks := s.toks + 1 }) he2 fun g3 he3 e3 => ?_
    have I1 : Inv X pins σ (upd H s.heap.objs.size (.tup [x, y])) { s with heap := g1 } := I.turnedNew (t' := s.toks) (ch := [e, z, TI, TO, i1, i2]) (fun c o hb q => k1 c o (fun j => hb (by simp [j])) (fun j => hb (by simp [j])) (fun j => hb (by simp [j])) (fun j => hb (by simp [j])) q) hf (Nat.le_refl _)
      ⟨by show 2 ≤ sizeLine; decide, [u, u2], .cons ru (.cons ru2 .nil), ⟨_, gT, rfl, _, rfl⟩⟩
    have l1 : s.heap.objs.size < g1.objs.size := Heap.lt_size gT
    have lt : ∀ c ∈ [e, z, TI, TO, i1, i2], c < s.heap.objs.size := fun c hc => by
      have hc : c = e ∨ c = z ∨ c = TI ∨ c = TO ∨ c = i1 ∨ c = i2 := by simpa using hc
      rcases hc with rfl | rfl | rfl | rfl | rfl | rfl
      · exact el
      · exact let ⟨_, _, _, q⟩ := hz; Heap.lt_size q
      · exact Heap.lt_size hTI
      · exact Heap.lt_size hTO
      · exact let ⟨_, q, _⟩ := h1; Heap.lt_size q
      · exact let ⟨_, q, _⟩ := h2; Heap.lt_size q
    have el1 : g1.objs.size ≠ e := Nat.ne_of_gt (Nat.lt_trans el l1)
    have new : g3.get? g1.objs.size = some (pairO i s.toks (.ref s.heap.objs.size)) := (e3.2 _ el1).trans hT2
    have I2 := I1.turnedNew (t' := s.toks + 1) (h' := g3) (ch := [e]) (fun c o hb q => (e3.2 c (fun j => hb (by simp [j]))).trans (k2 c o (fun j => hb (by simp [j])) q)) (fun c hc => by
      cases List.mem_singleton.mp hc
      exact fp_upd (hf _ (by simp)) (Nat.ne_of_lt el)) (Nat.le_refl _) (new_pair (x := .ref s.heap.objs.size) rfl new)
    have up : ∀ c o, c ≠ e → g1.get? c = some o → g3.get? c = some o := fun c o nc q => (e3.2 c nc).trans (k2 c o nc q)
    obtain ⟨f0, f, tg, gz⟩ := gz
    obtain ⟨x1, y1, gTO⟩ := gTO
    refine ⟨.ref g1.objs.size, _, I2, rfl, ⟨s.heap.objs.size, g1.objs.size, x, y, rfl, I.hok.fresh (Nat.le_refl _), I1.hok.fresh (Nat.le_refl _), rfl, fun l hl => by rw [I.tuple_inj hl hqx]; exact hx, fun l hl => by rw [I.tuple_inj hl hqy]; exact hy⟩, ⟨⟨.ref s.heap.objs.size, ?_⟩, ⟨f0, f, tg, ?_⟩, ?_, ⟨x1, y1, ?_⟩, ?_, ?_⟩, fun c hc => ?_⟩
    · rw [show ((i + 1 : Nat) : Int) = (i : Int) + 1 by omega]
      exact he3
    · exact up _ _ (Ne.symm ne.1) gz
    · exact up _ _ (Ne.symm ne.2.1) (k1 _ _ D.TIz D.TITO D.TIi1 D.TIi2 hTI)
    · exact up _ _ (Ne.symm ne.2.2.1) gTO
    · exact g1i.at fun o q => up _ o (Ne.symm ne.2.2.2.1) q
    · exact g2i.at fun o q => up _ o (Ne.symm ne.2.2.2.2) q
    · have l := lt c hc
      rw [upd_ne (Nat.ne_of_lt (Nat.lt_trans l l1)), upd_ne (Nat.ne_of_lt l)]
      exact (hf c hc).1
  done := fun X hP hw hK hc i pins s σ H E I hf ⟨⟨old, he⟩, hz, hTI, ⟨x0, y0, hTO⟩, h1, h2⟩ ⟨xs, hqx, hx⟩ => by
    subst hP hw hK
    obtain ⟨its, rv, p, _⟩ := I.tuple hqx
    have hl := rv.length
    refine enum_over he fun E' Q' q => zip_over (A := X.A.in1) (I.ok.hd hc) D hz hTI hTO h1 (show s.heap.IsTuple a its.toArray from p) (by simp; omega) fun g1 x k1 hx => q g1 x hx ⟨rfl, ?_⟩
    exact I.turnedL (t' := s.toks) (ch := [e, z, TI, TO, i1, i2]) (fun c o hb z => k1 c o (fun j => hb (by simp [j])) (fun j => hb (by simp [j])) z) hf
  self := fun A i s Q E ⟨⟨_, he⟩, _⟩ h => wpAny_pyIter_enum he h
section
variable {X : Cx} {e e2 : Expr} {ta : TA} {te : TE} {p p2 pos pos2 tpos : Pos} {elts : List Expr} {kk : Nat}
def iEz (K : PySem.W.Frag) (ta : TA) : TI := fun σ H R => ta σ H fun vs H1 => ∃ a b xs ys, vs = [.ref a, .ref b] ∧ SqT K H1 a xs ∧ SqT K H1 b ys ∧ R (ItEz K a b) H1
theorem iters_zip {s : Shared} {z TI TO : Addr} (h : IsZip s.heap z TI TO .none) : ItersTo (.ref z) s z s.heap := fun prog w A E Q q => wpAny_pyIter_zip h q
theorem pi_ez (hg : Gl X "enumerate") (hm : X.mg "enumerate" = none) (hg2 : Gl X "zip") (hm2 : X.mg "zip" = none) (ha : PA X [e, e2] ta)
    (hs : starEach [.Call (.Name "zip" p2) [e, e2] [] pos2] X.env = (false, eval (.Call (.Name "zip" p2) [e, e2] [] pos2) X.env) :: starEach [] X.env := by rfl) (hs2 : starEach [e, e2] X.env = (false, eval e X.env) :: starEach [e2] X.env := by rfl) (hpl : (backTo pos2 (starEach [e2] X.env)).any (·.1) = false := by rfl) :
    PI X (.Tuple elts kk tpos) (.Call (.Name "enumerate" p) [.Call (.Name "zip" p2) [e, e2] [] pos2] [] pos) (iEz X.K ta) := by
  refine ⟨fun pins s σ H R I h => Call_ (ld_blt I hg hm boot_enum (PyProof.Rows.callWith_type1 (PyProof.Rows.args_cons ?_ hs) hs rfl))⟩
  refine Call_ (ld_blt I hg2 hm2 PyProof.Rows.boot_zip (PyProof.Rows.callWith_type1 (thn (ha.run pos2 pins s σ H _ I h) fun us s1 ⟨vs, H1, I1, r1, a, b, xs, ys, ex, hqx, hqy, q⟩ => ?_) hs2 hpl))
  subst ex
  cases r1 with
  | cons r rr =>
    cases rr with
    | cons r' rr =>
      cases rr
      cases r
      cases r'
      obtain ⟨its, rv, p1, _⟩ := I1.tuple hqx
      obtain ⟨its2, rv2, p2, _⟩ := I1.tuple hqy
      refine RZ.call_zipT (show s1.heap.IsTuple a its.toArray from p1) (show s1.heap.IsTuple b its2.toArray from p2) fun h1 hz hTI hTO j1 j2 hsz k1 => PyProof.Rows.args_nil ?_
      refine call_enum (s := { s1 with heap := h1 }) (iters_zip hz) fun h' he k => wpAny_pyIter_enum he ?_
      have kp : ∀ b o, s1.heap.get? b = some o → h'.get? b = some o := fun b o z => k b o (k1 b o z)
      have I2 : Inv X pins σ H1 { s1 with heap := h' } := I1.kept (t' := s1.toks) kp
      obtain ⟨o1, q1, _⟩ := id p1
      obtain ⟨o2, q2, _⟩ := id p2
      have sz : h1.objs.size = s1.heap.objs.size + 5 := hsz
      rw [sz] at he ⊢
      refine ⟨_, [s1.heap.objs.size + 5, s1.heap.objs.size + 4, s1.heap.objs.size + 2, s1.heap.objs.size + 3, s1.heap.objs.size, s1.heap.objs.size + 1], _, _, H1, rfl, I2, turn_ez (PySem.W.ktu_apart s1.heap.objs.size a b (Heap.lt_size q1) (Heap.lt_size q2)) (by simp), ⟨⟨.none, he⟩, ⟨_, _, ⟨.inl rfl, false, rfl⟩, k _ _ hz⟩, k _ _ hTI, ⟨_, _, k _ _ hTO⟩, j1.at fun o q => k _ o q, j2.at fun o q => k _ o q⟩, fun c hc => ?_, q⟩
      have hle : s1.heap.objs.size ≤ c := by
        have hc : c = s1.heap.objs.size + 5 ∨ c = s1.heap.objs.size + 4 ∨ c = s1.heap.objs.size + 2 ∨ c = s1.heap.objs.size + 3 ∨ c = s1.heap.objs.size ∨ c = s1.heap.objs.size + 1 := by simpa using hc
        rcases hc with rfl | rfl | rfl | rfl | rfl | rfl
        all_goals first | exact Nat.le_add_right _ _ | exact Nat.le_refl _
      exact I1.fpOk hle (I1.hok.fresh hle)
end
end K45
/-! KB5 -/
set_option Elab.async false
set_option linter.all false
set_option maxRecDepth 100000
set_option maxHeartbeats 2000000
namespace K45
open PySem PySem.Spec PyProof.Rows L2
/-- (0, d), (1, e), .. -/
def enumD (ds : List PyData) : List PyData := ds.zipIdx.map fun p => .tuple [.int (p.2 : Nat), p.1]
def zipD (ds es : List PyData) : List PyData := (ds.zip es).map fun p => .tuple [p.1, p.2]
theorem enumD_len (ds : List PyData) : (enumD ds).length = ds.length := by simp [enumD]
theorem enumD_at {ds : List PyData} {i : Nat} {d : PyData} (h : ds[i]? = some d) : (enumD ds)[i]? = some (.tuple [.int (i : Nat), d]) := by
  unfold enumD
  rw [List.getElem?_map, List.getElem?_zipIdx, h]
  simp
theorem zipD_at {ds es : List PyData} {i : Nat} {d e : PyData} (h : ds[i]? = some d) (k : es[i]? = some e) : (zipD ds es)[i]? = some (.tuple [d, e]) := by
  unfold zipD
  have q : (ds.zip es)[i]? = some (d, e) := List.getElem?_zip_eq_some.mpr ⟨h, k⟩
  rw [List.getElem?_map, q] <;> rfl
theorem zipD_len (ds es : List PyData) (h : ds.length = es.length) : (zipD ds es).length = ds.length := by simp [zipD, h]
section
variable {K : PySem.W.Frag} {m : Md} {a b : Addr} {xs ys : List V} {ds es : List PyData}
theorem sq_at {H : Hp} (h : DqA K H xs ds) {i : Nat} (hi : i < ds.length) : ∃ x, xs[i]? = some x ∧ Dq K H x ds[i] := by
  obtain ⟨v, h1, h2⟩ := da_at h (List.getElem?_eq_getElem hi)
  exact ⟨v, h1, h2⟩
theorem pair_dq {H : Hp} {T : Addr} {x y : V} {d e : PyData} (hT : H T = none) (h1 : Dq K H x d) (h2 : Dq K H y e) : Dq K (upd H T (.tup [x, y])) (.ref T) (.tuple [d, e]) :=
  .tup (SqT.of upd_same) (.cons (dp_ex (Ex.new hT) h1) (.cons (dp_ex (Ex.new hT) h2) .nil))
theorem walkD_en : WalkD K m (ItEn K a) (fun H => SqT K H a xs ∧ DqA K H xs ds) (enumD ds) where
  go := fun i H hi h => by
    rw [enumD_len] at hi
    obtain ⟨x, hx, _⟩ := sq_at h.2 hi
    exact ⟨xs, x, h.1, hx⟩
  stop := fun H h => ⟨xs, h.1, by rw [enumD_len, da_len h.2]; exact Nat.le_refl _⟩
  yld := fun i H v H' hi h ⟨T, x, ev, hT, eH, hx⟩ => by
    subst ev eH
    rw [enumD_len] at hi
    obtain ⟨d, ed, hd⟩ := da_get h.2 (hx xs h.1)
    exact ⟨Ex.new hT, _, enumD_at ed, pair_dq hT (.int _) hd⟩
  keep := fun n H H' hS x h => ⟨xt_t hS x h.1, da_xt hS x h.2⟩
theorem walkD_zt (hl : ds.length = es.length) : WalkD K m (RZ.ItzT K a b) (fun H => (SqT K H a xs ∧ DqA K H xs ds) ∧ SqT K H b ys ∧ DqA K H ys es) (zipD ds es) where
  go := fun i H hi h => by
    rw [zipD_len _ _ hl] at hi
    obtain ⟨x, hx, _⟩ := sq_at h.1.2 hi
    obtain ⟨y, hy, _⟩ := sq_at h.2.2 (hl ▸ hi)
    exact ⟨xs, ys, x, y, h.1.1, h.2.1, hx, hy⟩
  stop := fun H h => ⟨xs, ys, h.1.1, h.2.1, .inl (by rw [zipD_len _ _ hl, da_len h.1.2]; exact Nat.le_refl _)⟩
  yld := fun i H v H' hi h ⟨T, x, y, ev, hT, eH, hx, hy⟩ => by
    subst ev eH
    obtain ⟨d, ed, hd⟩ := da_get h.1.2 (hx xs h.1.1)
    obtain ⟨e, ee, he⟩ := da_get h.2.2 (hy ys h.2.1)
    exact ⟨Ex.new hT, _, zipD_at ed ee, pair_dq hT hd he⟩
  keep := fun n H H' hS x h => ⟨⟨xt_t hS x h.1.1, da_xt hS x h.1.2⟩, xt_t hS x h.2.1, da_xt hS x h.2.2⟩
theorem walkD_ez (hl : ds.length = es.length) : WalkD K m (ItEz K a b) (fun H => (SqT K H a xs ∧ DqA K H xs ds) ∧ SqT K H b ys ∧ DqA K H ys es) (enumD (zipD ds es)) where
  go := fun i H hi h => by
    rw [enumD_len, zipD_len _ _ hl] at hi
    obtain ⟨x, hx, _⟩ := sq_at h.1.2 hi
    obtain ⟨y, hy, _⟩ := sq_at h.2.2 (hl ▸ hi)
    exact ⟨xs, ys, x, y, h.1.1, h.2.1, hx, hy⟩
  stop := fun H h => ⟨xs, h.1.1, by rw [enumD_len, zipD_len _ _ hl, da_len h.1.2]; exact Nat.le_refl _⟩
  yld := fun i H v H' hi h ⟨T, U, x, y, ev, hT, hU, eH, hx, hy⟩ => by
    subst ev eH
    obtain ⟨d, ed, hd⟩ := da_get h.1.2 (hx xs h.1.1)
    obtain ⟨e, ee, he⟩ := da_get h.2.2 (hy ys h.2.1)
    exact ⟨(Ex.new hT).trans (Ex.new hU), _, enumD_at (zipD_at ed ee), pair_dq hU (.int _) (pair_dq hT hd he)⟩
  keep := fun n H H' hS x h => ⟨⟨xt_t hS x h.1.1, da_xt hS x h.1.2⟩, xt_t hS x h.2.1, da_xt hS x h.2.2⟩
end
section
variable {X : Cx} {m : Md} {e e2 : Expr} {As : WA} {p p2 pos pos2 tpos : Pos} {elts : List Expr} {kk : Nat}
@[simp] def wiEn (As : WA) : WI := fun r n P => As r n fun ds n1 => ∃ es, ds = [.tuple es] ∧ P (enumD es) n1
@[simp] def wiZt (As : WA) : WI := fun r n P => As r n fun ds n1 => ∃ es fs, ds = [.tuple es, .tuple fs] ∧ es.length = fs.length ∧ P (zipD es fs) n1
@[simp] def wiEz (As : WA) : WI := fun r n P => As r n fun ds n1 => ∃ es fs, ds = [.tuple es, .tuple fs] ∧ es.length = fs.length ∧ P (enumD (zipD es fs)) n1
theorem di_en (hm : X.mg "enumerate" = none) (ha : DA X m [e] As) (hg : Gl X "enumerate" := by rfl) (hs : starEach [e] X.env = [(false, eval e X.env)] := by rfl) : DI X m (.Tuple elts kk tpos) (.Call (.Name "enumerate" p) [e] [] pos) (wiEn As) :=
  pi_by (pi_en hg hm ha hs) fun s H R ⟨r, n, P, Rs, w, k⟩ => ⟨r, n, _, Rs, w, fun vs H1 ds n1 x1 s1 h1 ⟨es, ed, q⟩ => by
    subst ed
    cases h1 with
    | cons a b =>
      cases b
      cases a with
      | @tup a xs _ hp ha => exact ⟨a, xs, rfl, hp, k _ _ H1 _ n1 x1 s1 walkD_en ⟨hp, ha⟩ q⟩⟩
theorem di_zt (hm : X.mg "zip" = none) (ha : DA X m [e, e2] As) (hg : Gl X "zip" := by rfl) (hs : starEach [e, e2] X.env = (false, eval e X.env) :: starEach [e2] X.env := by rfl) (hpl : (backTo pos (starEach [e2] X.env)).any (·.1) = false := by rfl) : DI X m (.Tuple elts kk tpos) (.Call (.Name "zip" p) [e, e2] [] pos) (wiZt As) :=
  pi_by (RZ.pi_zipA hg hm ha hs hpl) fun s H R ⟨r, n, P, Rs, w, k⟩ => ⟨r, n, _, Rs, w, fun vs H1 ds n1 x1 s1 h1 ⟨es, fs, ed, hl, q⟩ => by
    subst ed
    cases h1 with
    | cons a b =>
      cases b with
      | cons b c =>
        cases c
        cases a with
        | @tup a xs _ hp ha =>
          cases b with
          | @tup b ys _ hq hb => exact ⟨a, b, xs, ys, rfl, .inr ⟨hp, hq, k _ _ H1 _ n1 x1 s1 (walkD_zt hl) ⟨⟨hp, ha⟩, hq, hb⟩ q⟩⟩⟩
theorem di_ez (hm : X.mg "enumerate" = none) (hm2 : X.mg "zip" = none) (ha : DA X m [e, e2] As) (hg : Gl X "enumerate" := by rfl) (hg2 : Gl X "zip" := by rfl)
    (hs : starEach [.Call (.Name "zip" p2) [e, e2] [] pos2] X.env = (false, eval (.Call (.Name "zip" p2) [e, e2] [] pos2) X.env) :: starEach [] X.env := by rfl) (hs2 : starEach [e, e2] X.env = (false, eval e X.env) :: starEach [e2] X.env := by rfl) (hpl : (backTo pos2 (starEach [e2] X.env)).any (·.1) = false := by rfl) :
    DI X m (.Tuple elts kk tpos) (.Call (.Name "enumerate" p) [.Call (.Name "zip" p2) [e, e2] [] pos2] [] pos) (wiEz As) :=
  pi_by (pi_ez hg hm hg2 hm2 ha hs hs2 hpl) fun s H R ⟨r, n, P, Rs, w, k⟩ => ⟨r, n, _, Rs, w, fun vs H1 ds n1 x1 s1 h1 ⟨es, fs, ed, hl, q⟩ => by
    subst ed
    cases h1 with
    | cons a b =>
      cases b with
      | cons b c =>
        cases c
        cases a with
        | @tup a xs _ hp ha =>
          cases b with
          | @tup b ys _ hq hb => exact ⟨a, b, xs, ys, rfl, hp, hq, k _ _ H1 _ n1 x1 s1 (walkD_ez hl) ⟨⟨hp, ha⟩, hq, hb⟩ q⟩⟩
end
end K45
/-! KB6 -/
set_option Elab.async false
set_option linter.all false
set_option maxRecDepth 100000
set_option maxHeartbeats 4000000
/-! len(set(texts)), the texts unlike -/
namespace K45
open PySem PySem.Spec PyProof.Rows L2
section
variable {prog : Program} {w : World} {A : Around} {R : Result → Shared → Prop} {I : Addr} {fp wr : List Addr} {G : Array GenState → Array GenState → Prop} {n : Nat} {P : Nat → Value → Prop} {St : Nat → Shared → Prop}
abbrev HasFirst (prog : Program) (w : World) (h : Heap) (S : Addr) (xs : List Str) (i : Nat) : Prop := h.SetOf (PySem.strKind prog w) S (fun k' => decide (k' ∈ xs.take i)) i
theorem take_in {xs : List Str} {i : Nat} {x k : Str} (h : xs[i]? = some x) : (decide (k ∈ xs.take i) || decide (k = x)) = decide (k ∈ xs.take (i + 1)) := by
  rw [take_succ_some h]
  by_cases a : k ∈ xs.take i <;> by_cases b : k = x <;> simp [a, b]
theorem take_not {xs : List Str} (nd : xs.Nodup) {i : Nat} {x : Str} (h : xs[i]? = some x) : x ∉ xs.take i := fun hm => by
  obtain ⟨j, hj⟩ := List.mem_iff_getElem?.mp hm
  rw [List.getElem?_take] at hj
  by_cases lt : j < i
  · rw [if_pos lt] at hj
    obtain ⟨l1, e1⟩ := List.getElem?_eq_some_iff.mp hj
    obtain ⟨l2, e2⟩ := List.getElem?_eq_some_iff.mp h
    exact absurd (e1.trans e2.symm) (List.pairwise_iff_getElem.mp nd j i l1 l2 lt)
  · rw [if_neg lt] at hj
    cases hj
theorem texts_in (W : WalksS prog w A.in1 I fp wr G n P St) (S : Addr) (hSf : S ∉ fp) (xs : List Str) (hsz : xs.length = n) (nd : xs.Nodup) (hn : n + 1 < scanBound) (hval : ∀ i v, P i v → ∃ x t, xs[i]? = some x ∧ v = .str x t) : ∀ (k i : Nat) (s : Shared), n - i = k → i ≤ n → St i s → HasFirst prog w s.heap S xs i →
    (∀ s', Moved (S :: wr) G s s' → HasFirst prog w s'.heap S xs n → R (.ok (.ret .none)) s') → codeAny (model prog w) A (.builtin "set.update.loop" ⟨[.ref S, .ref I], []⟩) R s := by
  have hSw : S ∉ wr := fun h => hSf (W.sub _ h)
  have wider : ∀ b ∈ wr, b ∈ S :: wr := fun b hb => List.mem_cons_of_mem _ hb
  have stays : ∀ {i : Nat} {s s' : Shared}, Moved wr G s s' → HasFirst prog w s.heap S xs i → HasFirst prog w s'.heap S xs i := fun hm hS => by
    obtain ⟨o, es, ep, t, ho, more⟩ := hS
    exact ⟨o, es, ep, t, hm.heap S _ hSw ho, more⟩
  intro k
  induction k with
  | zero =>
    intro i s hk hi hst hS hR
    obtain rfl : i = n := by omega
    refine codeAny_builtin PyProof.Rows.F.entry_set_update_loop ?_
    rw [Around.under_plainId PyProof.Rows.F.plain_set_update_loop _]
    show wpAny _ A.in1 (pyNext (.ref I) >>= _) _ _ s
    refine wpAny_bind (W.done s _ _ hst fun s' hm => ?_)
    show wpAny _ A.in1 (ret Value.none) _ _ s'
    exact wpAny_pure (hR s' (hm.mono wider) (stays hm hS))
  | succ k ih =>
    intro i s hk hi hst hS hR
    have lt : i < n := by omega
    refine codeAny_builtin PyProof.Rows.F.entry_set_update_loop ?_
    rw [Around.under_plainId PyProof.Rows.F.plain_set_update_loop _]
    show wpAny _ A.in1 (pyNext (.ref I) >>= _) _ _ s
    refine wpAny_bind (W.item i s _ _ lt hst fun v s' hP hst' hm => ?_)
    obtain ⟨x, t, hx, rfl⟩ := hval i v hP
    have hS' := stays hm hS
    show wpAny _ A.in1 (holding [Value.str x t] (setAdd S (.str x t)) >>= _) _ _ s'
    refine wpAny_bind (wpAny_holding ?_)
    unfold setAdd
    refine wpAny_holding (wpAny_bind ((PySem.strKind prog w).pyHash (k := x) (strKind_is _ _ _ _) ?_))
    refine wpAny_setAddHashed_of (knd := PySem.strKind prog w) (s := { s' with toks := s'.toks + 1 }) (strKind_is _ _ _ _) rfl hS' (by omega) fun h' sb hS2 => ?_
    have hS3 : HasFirst prog w h' S xs (i + 1) := by
      refine SetOf_congr hS2 (fun k' => take_in hx) ?_
      have no : decide (x ∈ xs.take i) = false := decide_eq_false (take_not nd hx)
      rw [no]
      rfl
    refine wpAny_pure ⟨plainId_quiet PyProof.Rows.F.plain_set_update_loop _, ih (i + 1) _ (by omega) lt (W.frame _ s' _ _ hst' (Nat.le_succ _) fun b hb o e => ?_) hS3 fun s'' hm'' hS'' => hR s'' (Moved.trans W.gtrans ((hm.mono wider).then_heap (Nat.le_succ _) fun b o hb e => ?_) hm'') hS''⟩
    · exact (sb.2 b fun q => hSf (q ▸ hb)).trans e
    · exact (sb.2 b fun q => hb (q ▸ List.mem_cons_self)).trans e
end
/-! set(a list or a tuple of texts) -/
abbrev setO (led : Bool) : Obj := { cls := .type "set", dict := none, data := .set #[] 0 (.fresh 0 0 led) }
/-- what set(..) needs of its source -/
structure Src (prog : Program) (w : World) (T : String) (l : Addr) (its : Array Value) : Prop where
  s1 : isSubtype (.type T) (.type "set") = pure false
  s2 : isSubtype (.type T) (.type "frozenset") = pure false
  s3 : (Value.type T == Value.type "dict") = false
  go : ∀ (h : Heap) (o : Obj) (n : Nat), h.get? l = some o → o.cls = .type T → o.data = .seq its n → ∃ io : Obj, ∃ St : Nat → Shared → Prop, (∀ (A : Around) (E Q : Value → Shared → Prop) (s : Shared), s.heap = h → Q (.ref h.objs.size) { s with heap := h.push io } → wpAny (model prog w) A (pyIter (.ref l)) Q E s) ∧
    (∀ A : Around, A.handled = none → ∃ G, WalksS prog w A h.objs.size [h.objs.size, l] [h.objs.size] G its.size (fun i v => its[i]? = some v) St ∧ ∀ a b, G a b → b = a) ∧ ∀ s : Shared, s.heap = h.push io → St 0 s
theorem src_list {prog : Program} {w : World} {l : Addr} {its : Array Value} : Src prog w "list" l its where
  s1 := PySem.F.sub_list_set
  s2 := PySem.F.sub_list_frozenset
  s3 := by decide
  go := fun h o n ho hc hd => by
    have hl : h.IsList l its := ⟨o, ho, hc, n, hd⟩
    have ne : l ≠ h.objs.size := Nat.ne_of_lt (Heap.lt_size ho)
    refine ⟨_, _, fun A E Q s e q => wpAny_pyIter_list (by rw [e]; exact hl) (by rw [e]; exact q), fun A hh => ⟨_, (Walks.list hh _ l ne its).toS, fun a b q => q⟩, fun s e => ?_⟩
    rw [e]
    exact ⟨⟨_, Heap.get?_push_size _ rfl, rfl, rfl⟩, hl.push _⟩
theorem src_tup {prog : Program} {w : World} {l : Addr} {its : Array Value} : Src prog w "tuple" l its where
  s1 := PySem.F.sub_tuple_set
  s2 := PySem.F.sub_tuple_frozenset
  s3 := by decide
  go := fun h o n ho hc hd => by
    have hl : h.IsTuple l its := ⟨o, ho, hc, n, hd⟩
    have ne : l ≠ h.objs.size := Nat.ne_of_lt (Heap.lt_size ho)
    refine ⟨_, _, fun A E Q s e q => wpAny_pyIter_tuple (by rw [e]; exact hl) (by rw [e]; exact q), fun A hh => ⟨_, (Walks.tuple hh _ l ne its).toS, fun a b q => q⟩, fun s e => ?_⟩
    rw [e]
    exact ⟨⟨_, Heap.get?_push_size _ rfl, rfl, rfl⟩, hl.push _⟩
section
variable {prog : Program} {w : World} {A : Around} {E : Value → Shared → Prop} {s : Shared}
theorem call_set_src {T : String} {l : Addr} {its : Array Value} {xs : List Str} {o : Obj} {c : Nat} {Q : Value → Shared → Prop} (X : Src prog w T l its) (hh : A.handled = none) (ho : s.heap.get? l = some o) (hoc : o.cls = .type T) (hod : o.data = .seq its c) (hi : PyProof.Rows.StrsAre its.toList xs) (nd : xs.Nodup) (hn : xs.length + 1 < scanBound)
    (h : ∀ (h' : Heap) (tk : Nat), HasFirst prog w h' s.heap.objs.size xs its.size → (∀ b o, b < s.heap.objs.size → s.heap.get? b = some o → h'.get? b = some o) → Q (.ref s.heap.objs.size) { s with heap := h', toks := tk }) : wpAny (model prog w) A (call (.type "set") [.ref l]) Q E s := by
  obtain ⟨c0, tl, hmro⟩ := PySem.F.called_set.mro
  have made := PySem.F.called_set.made
  have sub := PySem.F.called_set.sub
  have nt := PySem.F.called_set.notType
  have cc := PySem.F.called_set.canCreate
  have tc := PySem.F.typeCall_set_1 (.ref l)
  have sz : xs.length = its.size := by rw [← StrsAre.len_eq hi, Array.length_toList]
  refine wpAny_call (codeAny_of_tree ?_)
  show wpAny _ _ (callAny (.type "set") _) _ _ _
  refine wpAny_pure ⟨Code.quiet_builtin _ (by decide +kernel), codeAny_builtin PySem.F.entry_type_call ?_⟩
  rw [Around.under_plain (weight_type_call_type "set" [.ref l] []) rfl]
  repeat (any_goals (first | assumption | wp_step))
  refine codeAny_mono (code_set_new_1 (.ref l) (E := E) (Q₁ := fun obj g => ∃ led : Bool, obj = .ref s.heap.objs.size ∧ g = { s with heap := s.heap.push (setO led) }) fun led => ⟨led, rfl, rfl⟩) fun r g hr => ?_
  match r, hr with
  | .error e, hr => exact hr
  | .ok (.ret obj), hr =>
    obtain ⟨led, rfl, rfl⟩ := hr
    have hS : (s.heap.push (setO led)).get? s.heap.objs.size = some (setO led) := Heap.get?_push_size _ rfl
    have isS : Shared.TypeIs { s with heap := s.heap.push (setO led) } (.ref s.heap.objs.size) "set" := ⟨_, hS, rfl⟩
    have li := PySem.F.called_set.init.lookup
    have bi := PySem.F.called_set.init.bind (.ref s.heap.objs.size)
    repeat (any_goals (first | assumption | wp_step))
    refine codeAny_mono (codeAny_call_builtin (R := wants (fun r g2 => r = .none ∧ ∃ h' tk, g2 = { s with heap := h', toks := tk } ∧ HasFirst prog w h' s.heap.objs.size xs its.size ∧ ∀ b o, b < s.heap.objs.size → s.heap.get? b = some o → h'.get? b = some o) E)
      PySem.F.called_set.init.plain PySem.F.entry_set_init (check_set_init_1 isS ?_)) fun r2 g2 hr2 => ?_
    · obtain ⟨ocls, odict, odata, oslots⟩ := o
      simp only at hoc hod
      subst hoc hod
      have hl := Heap.get?_push_of_some (setO led) ho
      have b1 := X.s1
      have b2 := X.s2
      have b3 := X.s3
      obtain ⟨io, St, iter, W, st0⟩ := X.go _ _ _ hl rfl rfl
      unfold Builtin.«set.__init__» noKeywords Builtin.Frozenset.updateFrom
      generalize hPI : pyIter = PI
      wp_walk
      subst hPI
      refine iter _ _ _ _ rfl (wpAny_bind (wpAny_runValue ?_))
      obtain ⟨G, W, hG⟩ := W A.in1.in1.in1 (by simp [hh])
      have below : l < s.heap.objs.size := Heap.lt_size ho
      have sz1 : (s.heap.push (setO led)).objs.size = s.heap.objs.size + 1 := Heap.size_push ..
      have off : s.heap.objs.size ∉ [(s.heap.push (setO led)).objs.size, l] := by
        rw [sz1]
        simp only [List.mem_cons, List.not_mem_nil, or_false, not_or]
        exact ⟨Nat.ne_of_lt (Nat.lt_succ_self _), Nat.ne_of_gt below⟩
      have val : ∀ (i : Nat) (v : Value), its[i]? = some v → ∃ x t, xs[i]? = some x ∧ v = .str x t := fun i v hv => by
        obtain ⟨t, e⟩ := SS.strs_at hi i v (by rw [Array.getElem?_toList]; exact hv)
        have lt : i < xs.length := by
          rw [sz]
          exact (Array.getElem?_eq_some_iff.mp hv).1
        refine ⟨xs[i], t, List.getElem?_eq_getElem lt, ?_⟩
        rw [e, List.getD_eq_getElem?_getD, List.getElem?_eq_getElem lt]
        rfl
      refine texts_in W s.heap.objs.size off xs sz nd (by rw [← sz]; exact hn) val (its.size - 0) 0 _ (by omega) (Nat.zero_le _) (st0 _ rfl) ?_ ?_
      · exact SetOf_congr ((PyProof.Rows.setObjOf_fresh (knd := PySem.strKind prog w) led).setOf (Heap.get?_push_of_some io hS) (by unfold scanBound; omega)) (fun _ => by simp) rfl
      · intro s' hm hS'
        obtain ⟨h', g', d', tk', os'⟩ := s'
        obtain rfl : g' = s.gens := hG _ _ hm.gens
        obtain rfl : d' = s.drawn := hm.drawn
        obtain rfl : os' = s.os := hm.os
        show wpAny _ _ _ _ _ _
        refine wpAny_pure ?_
        show wpAny _ _ (ret Value.none) _ _ _
        refine wpAny_pure ⟨rfl, h', tk', rfl, hS', fun b o hb e => ?_⟩
        refine hm.heap b o ?_ (Heap.get?_push_of_some _ (Heap.get?_push_of_some _ e))
        simp only [List.mem_cons, List.not_mem_nil, or_false, not_or]
        rw [sz1]
        exact ⟨Nat.ne_of_lt hb, Nat.ne_of_lt (Nat.lt_succ_of_lt hb)⟩
    · match r2, hr2 with
      | .error e, hr2 => exact hr2
      | .ok (.ret r), hr2 =>
        obtain ⟨rfl, h', tk, rfl, hS', hk'⟩ := hr2
        repeat (any_goals (first | assumption | wp_step))
        exact h _ _ hS' hk'
end
section
variable {X : Cx} {m : Md} {a : Expr} {We : WE} {p p2 q pos : Pos}
def tLs (K : PySem.W.Frag) (ta : TE) : TE := fun σ H Q => ta σ H fun x H1 => ∃ l, ∃ xs : List Str, x = .ref l ∧ (SqL K H1 l (xs.map V.str) ∨ SqT K H1 l (xs.map V.str)) ∧ xs.Nodup ∧ xs.length ≤ 1000 ∧ Q (.int (xs.length : Nat)) H1
theorem pe_ls {ta : TE} (hc : X.calm = true) (hg : Gl X "len") (hm : X.mg "len" = none) (hg2 : Gl X "set") (hm2 : X.mg "set" = none) (ha : PE X a ta) (na : starEach [a] X.env = (false, eval a X.env) :: starEach [] X.env := by rfl) : PE X (.Call (.Name "len" p) [.Call (.Name "set" p2) [a] [] q] [] pos) (tLs X.K ta) := by
  refine ⟨fun pins s σ H Q I h => ?_⟩
  refine Call_ (ld_blt I hg hm boot_len (PyProof.Rows.callWith_builtin1 (PyProof.Rows.args_cons (Call_ (ld_blt I hg2 hm2 boot_set ?_)) rfl) rfl rfl))
  refine PyProof.Rows.callWith_type1 (PyProof.Rows.args_cons (thn (ha.run pins s σ H _ I h) fun v s1 ⟨x, H1, I1, r1, l, xs, ex, hq, nd, hl, q1⟩ => PyProof.Rows.args_nil ?_) na) na rfl
  subst ex
  cases r1
  have ends : ∀ (its : List Value), Vals (xs.map V.str) its → ∀ (h' : Heap) (tk : Nat), HasFirst X.prog X.w h' s1.heap.objs.size xs its.toArray.size → (∀ b o, b < s1.heap.objs.size → s1.heap.get? b = some o → h'.get? b = some o) →
      wpAny (model X.prog X.w) X.A (spliced (backTo pos (starEach [] X.env))) (fun vs g => wpAny (model X.prog X.w) X.A (call (.builtin "len") (Value.ref s1.heap.objs.size :: vs)) (EP X pins σ Q) X.xe g) X.xe { s1 with heap := h', toks := tk } := fun its r h' tk hS hk => by
    refine PyProof.Rows.args_nil ?_
    have len : its.toArray.size = xs.length := by rw [List.size_toArray, ← r.length, List.length_map]
    rw [len] at hS
    obtain ⟨o, es, ep, t, ho, hex, hd, _, _, _, hf, hn⟩ := hS
    have I2 : Inv X pins σ H1 { s1 with heap := h', toks := tk } := I1.kept fun b o e => hk b o (Heap.lt_size e) e
    exact call_len_set ho hex hd hf (by rw [hn] <;> omega) ⟨.int xs.length, H1, I2.tok _, ⟨_, by rw [hn]⟩, q1⟩
  have room : xs.length + 1 < scanBound := by
    unfold scanBound
    omega
  rcases hq with hq | hq
  · obtain ⟨its, r, pl, _⟩ := I1.list hq
    obtain ⟨o, ho, hc1, n, hd⟩ := pl.isList
    exact call_set_src src_list (I1.ok.hd hc) ho hc1 hd (by simpa using strsAre_of r) nd room fun h' tk hS hk => ends its r h' tk hS hk
  · obtain ⟨its, r, pl, _⟩ := I1.tuple hq
    obtain ⟨o, ho, hc1, n, hd⟩ := pl
    exact call_set_src src_tup (I1.ok.hd hc) ho hc1 hd (by simpa using strsAre_of r) nd room fun h' tk hS hk => ends its r h' tk hS hk
theorem da_strs {K : PySem.W.Frag} {H : Hp} : ∀ {zs : List Str} {xs : List V}, DqA K H xs (zs.map PyData.str) → xs = zs.map V.str
  | [], _, h => by cases h; rfl
  | z :: zs, _, h => by
    cases h with
    | cons a b =>
      cases a
      rw [da_strs b]
      rfl
@[simp] def wLs (We : WE) : WE := fun r n P => We r n fun d n1 => ∃ zs : List Str, (d = .list (zs.map .str) ∨ d = .tuple (zs.map .str)) ∧ zs.Nodup ∧ zs.length ≤ 1000 ∧ P (.int (zs.length : Nat)) n1
theorem de_ls (hc : X.calm = true) (hm : X.mg "len" = none) (hm2 : X.mg "set" = none) (ha : DE X m a We) (hg : Gl X "len" := by rfl) (hg2 : Gl X "set" := by rfl) (na : starEach [a] X.env = (false, eval a X.env) :: starEach [] X.env := by rfl) : DE X m (.Call (.Name "len" p) [.Call (.Name "set" p2) [a] [] q] [] pos) (wLs We) :=
  pe_by (pe_ls hc hg hm hg2 hm2 ha na) fun s H Q ⟨r, n, P, R, w, k⟩ => ⟨r, n, _, R, w, fun v H1 d n1 x1 s1 h1 ⟨zs, ed, nd, hl, q⟩ => by
    rcases ed with rfl | rfl
    · cases h1 with
      | lst hp ha =>
        have e := da_strs ha
        subst e
        exact ⟨_, zs, rfl, .inl (SqL.of hp), nd, hl, k _ H1 _ n1 x1 s1 (.int _) q⟩
    · cases h1 with
      | tup hp ha =>
        have e := da_strs ha
        subst e
        exact ⟨_, zs, rfl, .inr hp, nd, hl, k _ H1 _ n1 x1 s1 (.int _) q⟩⟩
end
end K45
/-! KB7 -/
set_option Elab.async false
set_option linter.all false
set_option maxRecDepth 100000
set_option maxHeartbeats 4000000
/-! sorted(a tuple or a list of texts) -/
namespace K45
open PySem PySem.Spec PyProof.Rows L2
theorem rising_all : ∀ (l : List Str) (p : Str), risingS p l = true → (∀ x ∈ l, p.cps.toList ≤ x.cps.toList) ∧ l.Pairwise fun a b => a.cps.toList ≤ b.cps.toList
  | [], p, _ => ⟨fun x h => (by cases h), .nil⟩
  | x :: r, p, h => by
    have h : (!ltCps x.cps.toList p.cps.toList && risingS x r) = true := h
    rw [Bool.and_eq_true, ltCps_eq] at h
    obtain ⟨a, b⟩ := rising_all r x h.2
    have px : p.cps.toList ≤ x.cps.toList := by
      have q : ¬ x.cps.toList < p.cps.toList := by simpa using h.1
      exact List.not_lt.mp q
    refine ⟨fun y hy => ?_, .cons a b⟩
    rcases List.mem_cons.mp hy with rfl | hy
    · exact px
    · exact List.le_trans px (a y hy)
theorem sorted_one {xs ys : List Str} (p : xs.Perm ys) (hx : sortedS xs = true) (hy : sortedS ys = true) : xs = ys := by
  have pw : ∀ {l : List Str}, sortedS l = true → l.Pairwise fun a b => a.cps.toList ≤ b.cps.toList := fun {l} h => by
    cases l with
    | nil => exact .nil
    | cons x r =>
      obtain ⟨a, b⟩ := rising_all r x h
      exact .cons a b
  refine p.eq_of_pairwise (fun a b _ _ h1 h2 => ?_) (pw hx) (pw hy)
  have e := List.le_antisymm h1 h2
  obtain ⟨a⟩ := a
  obtain ⟨b⟩ := b
  have e : a.toList = b.toList := e
  rw [Array.toList_inj.mp e]
section
variable {X : Cx} {m : Md} {a : Expr} {We : WE} {p pos : Pos}
def rSrtT (K : PySem.W.Frag) : List V → Hp → VK → Prop := fun vs H Q => ∃ (a : Addr) (xs : List Str), vs = [V.ref a] ∧ SqT K H a (xs.map V.str) ∧ xs.length < 64 ∧ ∀ (ys : List Str) (p : Addr), ys.Perm xs → sortedS ys = true → H p = none → Q (.ref p) (upd H p (.lst (ys.map V.str)))
theorem cr_srtT : CallR X (.builtin "sorted") (rSrtT X.K) := by
  intro pins s σ H vs us Q I r h
  obtain ⟨a, xs, rfl, hs, h64, q⟩ := h
  obtain ⟨its, rv, ⟨o, ho, hc, n, hd⟩, hz⟩ := I.tuple hs
  rw [Vals.ref1 r]
  have hS : StrsAre its xs := strsAre_of rv
  have len : its.length = xs.length := by rw [← rv.length, List.length_map]
  refine Calls.call_function_entry PyProof.Rows.kind_sorted PyProof.Rows.plain_sorted PyProof.Rows.entry_sorted (PyProof.Rows.args_sorted1 _) ?_
  unfold Builtin.«sorted»
  refine wpAny_bind (m := checkCount "sorted" 1 1 _) (wpAny_pure (wpAny_bind (wpAny_collect_seq a (.inr rfl) ho hc hd (fun h' hk => ?_) (by rw [sizeLine_eq]; simp; omega))))
  have I1 : Inv X pins σ H { s with heap := h' } := I.kept (t' := s.toks) hk
  refine wpAny_bind (wpAny_newList ?_ (by simp; rw [sizeLine_eq]; omega))
  have hoL : (h'.push (seqObj "list" its.toArray 0)).get? h'.objs.size = some (seqObj "list" its.toArray 0) := Heap.get?_push_size _ rfl
  show wpAny _ _ _ _ _ { s with heap := h'.push (seqObj "list" its.toArray 0) }
  refine wpAny_bind (wpAny_holding (wpAny_call_entry PyProof.Rows.slot_list_sort ⟨_, hoL, rfl⟩ PyProof.Rows.entry_list_sort (list_sort_treeK strKind_oneLt (s := { s with heap := h'.push (seqObj "list" its.toArray 0) }) hoL hS.keysOf
    (fun v1 v2 rest e => keyKind_strs (by rw [← e]; exact hS)) (by rw [len]; exact h64) fun st' hp hsr => ⟨_, rfl, ?_⟩) (PyProof.Rows.args_list_sort _)))
  obtain ⟨ys, g1, g2, g3⟩ := sorted_out_str hS hp hsr
  obtain ⟨e', he'⟩ := PyProof.Rows.sortedHeap_at (vs := its) (out := (arrOf st').map (·.2)) hoL
  have lys : (ys.map V.str).length ≤ sizeLine := by
    rw [List.length_map, g2.length_eq, sizeLine_eq]
    omega
  refine wpAny_pure ⟨_, rfl, .ref h'.objs.size, upd H h'.objs.size (.lst (ys.map V.str)), I1.laid (t' := s.toks) (fun b u e => ?_) (Nat.le_refl _) (show ObjOk X.prog X.w _ _ _ (.lst (ys.map V.str)) from ⟨lys, ((arrOf st').map (·.2)).toList, e', vals_of_strs g1, by rw [Array.toArray_toList]; exact he'⟩), rfl, q ys _ g2 g3 (I1.hok.fresh (Nat.le_refl _))⟩
  have below : b < h'.objs.size := Heap.lt_size e
  exact (PyProof.Rows.sortedHeap_old (Nat.ne_of_lt below) (by rw [size_push']; exact Nat.lt_succ_of_lt below)).trans (Heap.get?_push_of_some _ e)
def tSrt (K : PySem.W.Frag) (te : TE) : TE := fun σ H Q => te σ H fun x H1 => ∃ l, ∃ xs : List Str, x = .ref l ∧ (SqL K H1 l (xs.map V.str) ∨ SqT K H1 l (xs.map V.str)) ∧ xs.length < 64 ∧ ∀ (ys : List Str) (p : Addr), ys.Perm xs → sortedS ys = true → H1 p = none → Q (.ref p) (upd H1 p (.lst (ys.map V.str)))
theorem strs_da {K : PySem.W.Frag} {H : Hp} : ∀ (zs : List Str), DqA K H (zs.map V.str) (zs.map PyData.str)
  | [] => .nil
  | z :: zs => .cons (.str z) (strs_da zs)
@[simp] def wSrt (We : WE) : WE := fun r n P => We r n fun d n1 => ∃ zs : List Str, (d = .list (zs.map .str) ∨ d = .tuple (zs.map .str)) ∧ zs.length < 64 ∧ ∀ ys : List Str, ys.Perm zs → sortedS ys = true → P (.list (ys.map .str)) n1
theorem cr_srt : CallR X (.builtin "sorted") (fun vs H Q => rSortedS X.K vs H Q ∨ rSrtT X.K vs H Q) := by
  intro pins s σ H vs us Q I r h
  rcases h with h | h
  · exact cr_sortedS pins s σ H vs us Q I r h
  · exact cr_srtT pins s σ H vs us Q I r h
theorem de_srt (hm : X.mg "sorted" = none) (ha : DE X m a We) (hg : Gl X "sorted" := by rfl) (na : starEach [a] X.env = (false, eval a X.env) :: starEach [] X.env := by rfl) (hpl : (backTo pos (starEach [] X.env)).any (·.1) = false := by rfl) : DE X m (.Call (.Name "sorted" p) [a] [] pos) (wSrt We) :=
  pe_by (pe_callB cr_srt hg hm (by decide +kernel) (pa_cons ha pa_nil na) (by decide) (by decide) na hpl) fun s H Q ⟨r, n, P, R, w, k⟩ => ⟨r, n, _, R, w, fun v H1 d n1 x1 s1 h1 ⟨zs, ed, hl, q⟩ => by
    have fin : ∀ (ys : List Str) (p : Addr), ys.Perm zs → sortedS ys = true → H1 p = none → Q (.ref p) (upd H1 p (.lst (ys.map V.str))) := fun ys p h1 h2 h3 => k _ _ _ n1 (x1.trans (.of (Ex.new h3))) (m.sx _ _ _ (Ex.new h3) s1) (.lst upd_same (strs_da ys)) (q ys h1 h2)
    rcases ed with rfl | rfl
    · cases h1 with
      | @lst a xs _ hp ha =>
        have e := da_strs ha
        subst e
        exact .inl ⟨a, zs, rfl, SqL.of hp, hl, fin⟩
    · cases h1 with
      | @tup a xs _ hp ha =>
        have e := da_strs ha
        subst e
        exact .inr ⟨a, zs, rfl, hp, hl, fin⟩⟩
end
theorem eqv_strs (l : List Str) : PyData.eqvAll (l.map PyData.str) (l.map PyData.str) = true := by
  induction l with
  | nil => rfl
  | cons a l ih =>
    rw [List.map_cons, eqvA_cc, ih, eqv_ss]
    simp
end K45
/-! KB8 -/
set_option Elab.async false
set_option linter.all false
set_option maxRecDepth 100000
set_option maxHeartbeats 4000000
/-! dicts of truths; a written dict's get; enumerate({}) -/
namespace K45
open PySem PySem.Spec PyProof.Rows L2
abbrev kvB (bs : List (Str × Bool)) : List (Key × V) := bs.map fun p => (Sum.inr p.1, V.bl p.2)
abbrev dcB (bs : List (Str × Bool)) : List (PyData × PyData) := bs.map fun p => (PyData.str p.1, PyData.bool p.2)
theorem dcB_inj : ∀ {a b : List (Str × Bool)}, dcB a = dcB b → a = b
  | [], [], _ => rfl
  | [], _ :: _, h => by cases h
  | _ :: _, [], h => by cases h
  | (x, u) :: a, (y, v) :: b, h => by
    have h := List.cons.inj h
    have e := Prod.mk.inj h.1
    cases e.1
    cases e.2
    rw [dcB_inj h.2]
theorem dic_of {K : PySem.W.Frag} {H : Hp} {v : V} {bs : List (Str × Bool)} (h : Dq K H v (.dict (dcB bs))) : ∃ a, v = .ref a ∧ H a = some (.dK (kvB bs)) := by
  generalize q : PyData.dict (dcB bs) = d at h
  cases h with
  | @dic a bs' es e1 e2 =>
    have z := PyData.dict.inj q
    rw [e1] at z
    exact ⟨a, rfl, by rw [dcB_inj z]; exact e2⟩
  | _ => cases q
section
variable {X : Cx} {m : Md} {e o i f e1 e2 e3 : Expr} {We Wo Wi W1 W2 W3 Wf : WE} {As : WA} {p p2 pos pos2 tpos apos cpos k1 k2 k3 : Pos} {elts : List Expr} {kk j1 j2 j3 : Nat}
theorem de_dct0 : DE X m (.Dict [] [] pos) (fun _ n P => P (.dict []) n) := pe_by pe_dnewK fun s H Q ⟨r, n, P, R, w, k⟩ q hq => k _ _ _ n (.of (Ex.new hq)) (m.sx _ _ _ (Ex.new hq) R.st) (.dic (bs := []) rfl upd_same) w
/-- {'a': .., 'b': .., 'c': ..} -/
@[simp] def wDct3 (a b c : Str) (W1 W2 W3 : WE) : WE := fun r n P => W1 r n fun d1 n1 => W2 r n1 fun d2 n2 => W3 r n2 fun d3 n3 => ∃ x y z, d1 = .bool x ∧ d2 = .bool y ∧ d3 = .bool z ∧ P (.dict (dcB [(a, x), (b, y), (c, z)])) n3
theorem de_dct3 {a b c : Str} (h1 : DE X pureM e1 W1) (h2 : DE X pureM e2 W2) (h3 : DE X pureM e3 W3) (hm : ∀ x y z, mergeK [] (kvB [(a, x), (b, y), (c, z)]) = kvB [(a, x), (b, y), (c, z)] := by intro _ _ _; rfl) :
    DE X pureM (.Dict [some (.Constant (.str a) j1 k1), some (.Constant (.str b) j2 k2), some (.Constant (.str c) j3 k3)] [e1, e2, e3] pos) (wDct3 a b c W1 W2 W3) :=
  pe_by (pe_disp (pps_cons pe_str h1 (pps_cons pe_str h2 (pps_cons pe_str h3 pps_nil))) (by rfl) (by rfl) (by simp) (by show 3 ≤ 15; decide)) fun s H Q ⟨r, n, P, R, w, k⟩ p hp => by
    have e0 : Ex H (upd H p (.dK [])) := Ex.new hp
    refine ⟨r, n, _, R.ex e0, w, fun v1 H1 d1 n1 x1 s1 q1 w1 => ⟨r, n1, _, (R.ex e0).go x1 s1, w1, fun v2 H2 d2 n2 x2 s2 q2 w2 => ⟨r, n2, _, ((R.ex e0).go x1 s1).go x2 s2, w2, fun v3 H3 d3 n3 x3 s3 q3 w3 => ?_⟩⟩⟩
    obtain ⟨x, y, z, rfl, rfl, rfl, w4⟩ := w3
    cases q1
    cases q2
    cases q3
    have at3 : H3 p = some (.dK []) := x3.pure _ _ (x2.pure _ _ (x1.pure _ _ upd_same))
    refine ⟨at3, kvB [(a, x), (b, y), (c, z)], rfl, by show 3 ≤ 15; decide, ?_⟩
    have xx : Ex H (upd H3 p (.dK (mergeK [] (kvB [(a, x), (b, y), (c, z)])))) := fun u o e => by
      have ne : u ≠ p := fun j => by
        rw [j, hp] at e
        cases e
      rw [upd_ne ne]
      exact x3.pure _ _ (x2.pure _ _ (x1.pure _ _ (e0 _ _ e)))
    rw [hm] at xx ⊢
    exact k _ _ _ n3 (.of xx) trivial (.dic rfl upd_same) w4
@[simp] def wDIx (Wo Wi : WE) : WE := fun r n P => Wo r n fun d n1 => Wi r n1 fun k n2 => ∃ bs z b, d = .dict (dcB bs) ∧ k = .str z ∧ valV (kvB bs) (Sum.inr z) = some (.bl b) ∧ P (.bool b) n2
theorem de_dix (hu : X.A.units + 1 < cLine) (ho : DE X m o Wo) (hi : DE X m i Wi) (hs : NoSl i := by intro _ _; rfl) : DE X m (.Subscript o i pos) (wDIx Wo Wi) :=
  pe_by (pe_dget hu ho hi hs) fun s H Q ⟨r, n, P, R, w, k⟩ => ⟨r, n, _, R, w, fun v1 H1 d1 n1 x1 s1 q1 w1 => ⟨r, n1, _, R.go x1 s1, w1, fun v2 H2 d2 n2 x2 s2 q2 ⟨bs, z, b, ed, ek, ev, p⟩ => by
    subst ed ek
    obtain ⟨a, ea, ha⟩ := dic_of (dp_xt s1 x2 q1)
    cases q2
    exact ⟨a, .bl b, ea, .inl ⟨_, .inr z, .inl ha, rfl, ev.symm⟩, k _ H2 _ n2 (x1.trans x2) s2 (.bl b) p⟩⟩⟩
@[simp] def wDIn0 (Wi Wo : WE) : WT := fun r n P => Wi r n fun k n1 => Wo r n1 fun d n2 => (∃ z, k = .str z) ∧ d = .dict [] ∧ P false n2
theorem dt_din0 (hu : X.A.units + 1 < cLine) (hi : DE X m i Wi) (ho : DE X m o Wo) (hb : behindInMarks .In o = false := by rfl) : DT X m (.Compare i [.In] [o] pos) (wDIn0 Wi Wo) :=
  pt_by (pt_cmp (pc_din hu hi ho) hb) fun s H Q ⟨r, n, P, R, w, k⟩ => ⟨r, n, _, R, w, fun v1 H1 d1 n1 x1 s1 q1 w1 => ⟨r, n1, _, R.go x1 s1, w1, fun v2 H2 d2 n2 x2 s2 q2 ⟨⟨z, ek⟩, ed, p⟩ => by
    subst ek ed
    obtain ⟨a, ea, ha⟩ := dic_of (bs := []) q2
    cases q1
    exact ⟨a, none, ea, .inl ⟨[], .inr z, .inl ha, rfl, rfl⟩, false, rfl, k _ H2 n2 (x1.trans x2) s2 p⟩⟩⟩
def neD0 (a b : PyData) : Option PyData := match a, b with
  | .dict [], .dict [] => some (.bool false)
  | _, _ => none
theorem od_neD0 {K : PySem.W.Frag} : OpD K rNeDA neD0 (fun _ _ => True) := fun H x y a b d Q hx hy e _ k => by
  unfold neD0 at e
  split at e
  · cases e
    obtain ⟨u, rfl, hu⟩ := dic_of (bs := []) hx
    obtain ⟨v, rfl, hv⟩ := dic_of (bs := []) hy
    exact ⟨u, v, [], [], rfl, rfl, hu, hv, rfl, by simp, k _ H (Ex.refl H) (.bl false)⟩
  · cases e
/-! get of a written dict -/
def tKGet (K : PySem.W.Frag) (a : Addr) (ty tx : TE) : TE := fun σ H Q => ty σ H fun y H2 => tx σ H2 fun z H3 => ∃ k r, y = .str k ∧ PySem.W.nsIn K a k = some r ∧ ((r = none ∧ Q z H3) ∨ ∃ u v, r = some u ∧ RelV v u ∧ Q v H3)
theorem pe_kget {ty tx : TE} {a : Addr} {es : Array DictEntry} {nn : Nat} (D : KDict X.K X.w a es nn) (ho : PE X o (tC (.ref a))) (he : PE X e ty) (hf : PE X f tx) (M : M2 X o "get" apos e f cpos) : PE X (.Call (.Attribute o "get" apos) [e, f] [] cpos) (tKGet X.K a ty tx) := by
  refine ⟨fun pins s σ H Q I h => ?_⟩
  refine wpAny_Call_method M.base M.few M.line PySem.F.plainAttrs_dict PySem.F.slot_dict_get PySem.F.type_dict_get (thn (ho.run pins s σ H (fun x H1 => x = .ref a ∧ tKGet X.K a ty tx σ H1 Q) I ⟨rfl, h⟩) fun u s1 ⟨x, H1, I1, rx, ex, q1⟩ => ?_)
  subst ex
  obtain rfl : u = Value.ref a := rx
  have mo := PySem.W.mapOf_K (prog := X.prog) I1.kIn D.at_ D.lit
  refine ⟨mo.typeIs, mo.noDict, ?_⟩
  rw [M.trees]
  refine Calls.callWith_builtin rfl (Calls.evalArgs_plain (Calls.spliced_cons (thn (he.run pins s1 σ H1 _ I1 q1) fun iv s2 ⟨y, H2, I2, ry, q2⟩ => Calls.spliced_cons (thn (hf.run pins s2 σ H2 _ I2 q2) fun fv s3 ⟨z, H3, I3, rz, k, r, ey, hr, q3⟩ => Calls.spliced_nil ?_))))
  subst ey
  obtain ⟨t, rfl⟩ := (show ∃ t, iv = Value.str k t from ry)
  have mo3 := PySem.W.mapOf_K (prog := X.prog) (w := X.w) I3.kIn D.at_ D.lit
  refine call_meetsIn PySem.F.slot_dict_get mo3.typeIs PySem.F.entry_dict_get (PySem.F.args_dict_get_3 _ _ _) (meets_dict_get_default (strKind X.prog X.w) a (strKind_is X.prog X.w k t) D.low fv) ⟨_, mo3, ?_⟩
  rw [PySem.W.find_K D.at_ hr]
  rcases q3 with ⟨rfl, q3⟩ | ⟨u, v, rfl, rv, q3⟩
  · exact ⟨z, H3, I3.tok _, rz, q3⟩
  · exact ⟨v, H3, I3.tok _, rv, q3⟩
/-- a written dict of numbers: what it holds -/
structure KNum (K : PySem.W.Frag) (w : World) (mg : Str → Option Value) (x : Str) (g : Str → Option Int) : Prop where
  ok : ∃ a es n, mg x = some (.ref a) ∧ KDict K w a es n ∧ ∀ k, PySem.W.nsIn K a k = some ((g k).map fun j => Value.int j 0) ∨ ∃ t, PySem.W.nsIn K a k = some ((g k).map fun j => Value.int j t)
@[simp] def wKGet (g : Str → Option Int) (Wi Wf : WE) : WE := fun r n P => Wi r n fun d n1 => Wf r n1 fun f n2 => ∃ k, d = .str k ∧ P (match g k with | some j => .int j | none => f) n2
theorem de_kget {x : Str} {g : Str → Option Int} (D : KNum X.K X.w X.mg x g) (he : DE X m e Wi) (hf : DE X m f Wf) (M : M2 X (.Name x p) "get" apos e f cpos) (hg : Gl X x := by rfl) (hn : (x == ("__debug__" : Str)) = false := by decide) : DE X m (.Call (.Attribute (.Name x p) "get" apos) [e, f] [] cpos) (wKGet g Wi Wf) := by
  obtain ⟨a, es, nn, hm, kd, hat⟩ := D.ok
  refine pe_by (pe_kget kd (pe_glob hg hm (v := .ref a) rfl hn) he hf M) fun s H Q ⟨r, n, P, R, w, k⟩ => ⟨r, n, _, R, w, fun v1 H1 d1 n1 x1 s1 q1 w1 => ⟨r, n1, _, R.go x1 s1, w1, fun v2 H2 d2 n2 x2 s2 q2 ⟨z, ed, p⟩ => ?_⟩⟩
  subst ed
  cases q1
  have ht : ∃ t, PySem.W.nsIn X.K a z = some ((g z).map fun j => Value.int j t) := by
    rcases hat z with h | h
    · exact ⟨0, h⟩
    · exact h
  obtain ⟨t, ht⟩ := ht
  refine ⟨z, _, rfl, ht, ?_⟩
  cases q : g z with
  | none =>
    rw [q] at p
    exact .inl ⟨rfl, k _ H2 _ n2 (x1.trans x2) s2 q2 p⟩
  | some j =>
    rw [q] at p
    exact .inr ⟨_, .int j, rfl, ⟨t, rfl⟩, k _ H2 _ n2 (x1.trans x2) s2 (.int j) p⟩
end
end K45
/-! KB9 -/
set_option Elab.async false
set_option linter.all false
set_option maxRecDepth 100000
set_option maxHeartbeats 4000000
/-! for .. in enumerate({}): no turn at all -/
namespace K45
open PySem PySem.Spec PyProof.Rows L2
open Builtin
section
variable {prog : Program} {w : World} {A : Around} {E : Value → Shared → Prop} {s : Shared}
theorem key_over {it d : Addr} {ep : Nat} {od : Obj} {es : Array DictEntry} {Q : Value → Shared → Prop} (hh : A.handled = none) (hit : s.heap.IsKeyIter it d 0 0 ep) (hod : s.heap.get? d = some od) (hdd : od.data = .dict es ep) (hsz : es.size = 0)
    (hE : ∀ h' e, Heap.ExtBut it s.heap h' → (∃ o, h'.get? e = some o ∧ o.cls = .type "StopIteration") → E (.ref e) { s with heap := h' }) : wpAny (model prog w) A (SmallTypes.nextOf (.ref it)) Q E s := by
  obtain ⟨o, ho, hc, hd⟩ := id hit
  unfold SmallTypes.nextOf
  refine wpAny_bind (wpAny_callSpecial?_slot (name := Str.ofString "__next__") hit.typeIs F.slot_dict_keyiterator_next (wpAny_call_entry F.slot_dict_keyiterator_next hit.typeIs F.entry_dict_keyiterator_next ?_ (F.args_dict_keyiterator_next_1 _)))
  refine wpAny_bind (wpAny_pure (wpAny_bind (wpAny_bind ?_)))
  first | refine wpAny_bind (wpAny_typeNameOfWhole_keyiter hit.typeIs (wpAny_pure (wpAny_bind (wpAny_fieldsOf ho hd ?_)))) | refine wpAny_bind (wpAny_typeNameOf_keyiter hit.typeIs (wpAny_pure (wpAny_bind (wpAny_fieldsOf ho hd ?_))))
  have own : Builtin.Dict_items.ownsTuple "dict_keyiterator" = false := by decide
  simp only [own, Bool.false_eq_true, if_false]
  show wpAny _ _ (if (Value.ref d == Value.none) = true then _ else _) _ _ s
  rw [if_neg (show ¬ ((Value.ref d == Value.none) = true) from Bool.false_ne_true)]
  refine wpAny_bind (wpAny_pure (wpAny_bind (wpAny_dictEntries hod hdd ?_)))
  rw [if_neg (by rw [hsz]; simp)]
  refine wpAny_bind (wpAny_pure (wpAny_bind (wpAny_dictEpoch hod hdd ?_)))
  rw [if_neg (by simp)]
  refine wpAny_pure ?_
  have none0 : es[0]? = none := by simp [hsz]
  simp only [show ¬ ((0 : Int) < 0) from by omega, if_false, Int.toNat_natCast, none0, Int.cast_ofNat_Int, Int.toNat_zero]
  refine wpAny_bind ?_
  first | refine wpAny_bind (wpAny_typeNameOfWhole_keyiter hit.typeIs (wpAny_pure ?_)) | refine wpAny_bind (wpAny_typeNameOf_keyiter hit.typeIs (wpAny_pure ?_))
  show wpAny _ _ (setField (.ref it) 0 .none >>= _) _ _ s
  refine wpAny_bind (wpAny_setField ho hd (by simp) ?_)
  show wpAny _ _ (newExc (.type "StopIteration") [] >>= _) _ _ _
  refine wpAny_bind ?_
  simp only [newExc, newTuple]
  refine wpAny_bind (wpAny_newObj_type (wpAny_bind (m := firstArgMember _ _) (wpAny_of_eq (a := Value.none) (by first | rfl | (simp only [firstArgMember]; rfl)) (wpAny_newObj_type ?_ (by size_fits)))) (by size_fits))
  simp only [raiseNew]
  refine wpAny_bind (wpAny_handled ?_)
  rw [show A.in1.handled = none from hh]
  refine wpAny_bind (wpAny_pure (wpAny_throw ?_))
  exact hE _ _ (((Heap.SameBut.update ..).extBut.push _).push _) ⟨_, Heap.get?_push_size _ rfl, rfl⟩
end
def ItEd (d : Addr) (o : Obj) : It where
  go := fun _ _ => False
  yld := fun _ _ _ _ => False
  stop := fun i H => i = 0 ∧ H d = some (.frz o (.dK []))
abbrev EdSt (d e it : Addr) (o : Obj) (i : Nat) (h : Heap) : Prop := (∃ old, IsEnum h e it ((i : Nat) : Int) old) ∧ ∃ es ep, h.IsKeyIter it d 0 0 ep ∧ o.data = .dict es ep ∧ es.size = 0
theorem turn_ed {P : Program} {w : World} {K : PySem.W.Frag} {elts : List Expr} {kk : Nat} {tpos : Pos} {d e it : Addr} {o : Obj} : Turn P w K (.Tuple elts kk tpos) (ItEd d o) [e, it] e (EdSt d e it o) where
  mem := List.mem_cons_self
  obj := fun i h ⟨⟨old, he⟩, _, _, ⟨oi, ho, _, hd⟩, _⟩ b hb => by
    rcases List.mem_cons.mp hb with rfl | hb
    · exact ⟨_, he, fun v q => nomatch q⟩
    · cases List.mem_singleton.mp hb
      exact ⟨oi, ho, fun v q => by rw [hd] at q; cases q⟩
  keep := fun i h h' ⟨⟨old, he⟩, es, ep, hi, more⟩ k => ⟨⟨old, k e List.mem_cons_self _ he⟩, es, ep, hi.at fun o q => k it (List.mem_cons_of_mem _ List.mem_cons_self) o q, more⟩
  item := fun _ _ _ _ _ _ _ _ _ _ _ _ _ _ h => h.elim
  done := fun X hP hw hK hc i pins s σ H E I hf ⟨⟨old, he⟩, es, ep, hit, hod, hsz⟩ ⟨_, hd⟩ => by
    subst hP hw hK
    obtain ⟨_, hgd, _⟩ := I.frzK hd
    obtain ⟨f0, f1, f2, f3, f4, f5⟩ := hf it (by simp)
    refine enum_over he fun E' Q' q => key_over (I.ok.hd hc) hit hgd hod hsz fun h1 x e1 hx => q h1 x hx ⟨rfl, ?_⟩
    exact I.turned (t' := s.toks) (fun b o hb z => e1 b o hb z) f0 f1 f3 f4 f5
  self := fun A i s Q E ⟨⟨_, he⟩, _⟩ h => wpAny_pyIter_enum he h
section
variable {X : Cx} {m : Md} {e : Expr} {ta : TA} {p pos tpos spos xp : Pos} {elts : List Expr} {kk : Nat} {body : List Stmt}
def iEd (ta : TA) : TI := fun σ H R => ta σ H fun vs H1 => ∃ d o, vs = [.ref d] ∧ H1 d = some (.frz o (.dK [])) ∧ R (ItEd d o) H1
theorem pi_ed (hg : Gl X "enumerate") (hm : X.mg "enumerate" = none) (ha : PA X [e] ta) (hs : starEach [e] X.env = [(false, eval e X.env)] := by rfl) : PI X (.Tuple elts kk tpos) (.Call (.Name "enumerate" p) [e] [] pos) (iEd ta) := by
  refine ⟨fun pins s σ H R I h => Call_ (ld_blt I hg hm boot_enum (PyProof.Rows.callWith_type1 (thn (ha.run pos pins s σ H _ I h) fun us s1 ⟨vs, H1, I1, r1, d, o, ex, hd, q⟩ => ?_) hs rfl))⟩
  subst ex
  cases r1 with
  | cons r rr =>
    cases rr
    cases r
    obtain ⟨hlow, hgd, hx, es, ep, vs, hdt, hsz, kv, hm2⟩ := I1.frzK hd
    have its : ItersTo (.ref d) s1 s1.heap.objs.size (s1.heap.push { cls := .type "dict_keyiterator", data := .fields #[.ref d, .int 0 0, .int es.size 0, .int ep 0] }) := fun prog w A E Q q => iter_keys hlow hgd hx hdt q
    refine call_enum its fun h' he k => wpAny_pyIter_enum he ?_
    have sz : (s1.heap.push { cls := .type "dict_keyiterator", data := .fields #[.ref d, .int 0 0, .int es.size 0, .int ep 0] }).objs.size = s1.heap.objs.size + 1 := Heap.size_push ..
    have kp : ∀ b o, s1.heap.get? b = some o → h'.get? b = some o := fun b o z => k b o (Heap.get?_push_of_some _ z)
    have I2 : Inv X pins σ H1 { s1 with heap := h' } := I1.kept (t' := s1.toks) kp
    have h0 : es.size = 0 := hsz
    have at1 := k _ _ (Heap.get?_push_size (o := { cls := .type "dict_keyiterator", data := .fields #[.ref d, .int 0 0, .int es.size 0, .int ep 0] }) s1.heap rfl)
    rw [sz] at he ⊢
    rw [h0] at at1
    refine ⟨s1.heap.objs.size + 1, [s1.heap.objs.size + 1, s1.heap.objs.size], _, _, H1, rfl, I2, turn_ed, ⟨⟨.none, he⟩, es, ep, ⟨_, at1, rfl, rfl⟩, hdt, h0⟩, fun b hb => ?_, q⟩
    have hle : s1.heap.objs.size ≤ b := by
      rcases List.mem_cons.mp hb with rfl | hb
      · exact Nat.le_succ _
      · cases List.mem_singleton.mp hb
        exact Nat.le_refl _
    exact I1.fpOk hle (I1.hok.fresh hle)
theorem pg_never {e : Expr} : PG X e (fun _ _ _ _ => False) := ⟨fun _ _ _ _ _ _ _ _ _ h => h.elim⟩
@[simp] def wEd (i : Nat) : WS := fun O r n => r[i]? = some (some (.dict [])) ∧ O.nx r n
theorem ds_ed (i : Nat) {x : Str} (hp : PassesOwn (model X.prog X.w) X.A X.env X.xe) (hc : X.calm = true) (hm : X.mg "enumerate" = none) (hN : X.N[i]? = some x := by rfl) (hv : Vis X.env.scope x := by first | exact Or.inl rfl | exact Or.inr (Or.inl rfl) | exact Or.inr (Or.inr rfl)) (hd : (x == ("__debug__" : Str)) = false := by decide)
    (hcd : (x == ("__classdict__" : Str)) = false := by decide) (hg : Gl X "enumerate" := by rfl) (hs : starEach [.Name x xp] X.env = [(false, eval (.Name x xp) X.env)] := by rfl) (hf : ∀ v, foldedSetIterable (.Call (.Name "enumerate" p) [.Name x xp] [] pos) X.env v = pure v := by intro _; rfl) :
    DS X m (.For (.Tuple elts kk tpos) (.Call (.Name "enumerate" p) [.Name x xp] [] pos) body [] spos) (wEd i) := by
  refine ps_by (ps_lock (ps_for hp hc (pi_ed hg hm (pa_cons (pe_var hN hv hd hcd) pa_nil hs) hs) pg_never pss_never hf)) fun D s H ⟨r, n, O, R, ⟨hr, w⟩, M⟩ => ?_
  obtain ⟨v, e1, h⟩ := R.dat i _ hr
  obtain ⟨d, rfl, hd⟩ := dic_of (bs := []) h
  have hd : H d = some (.dK []) := hd
  refine ⟨d, .dK [], hd, trivial, fun od => ⟨.ref d, e1, d, od, rfl, upd_same, ?_⟩⟩
  have back : Ex H (upd (upd H d (.frz od (.dK []))) d (.dK [])) := fun b o e => by
    by_cases hb : b = d
    · subst hb
      rw [upd_same]
      exact hd.symm.trans e
    · rw [upd_ne hb, upd_ne hb]
      exact e
  have wk : Walk (ItEd d od) 0 (fun H' => H' d = some (.frz od (.dK []))) (fun _ _ _ _ => False) := ⟨fun _ _ h _ => absurd h (Nat.not_lt_zero _), fun H' h => ⟨rfl, h⟩, fun _ _ _ _ h _ _ => absurd h (Nat.not_lt_zero _)⟩
  refine for_it (g := fun _ _ _ _ => False) (tb := tNever) (D := ⟨fun σ' H' => H' d = some (.frz od (.dK [])) ∧ D.nx σ' (upd H' d (.dK [])), fun v H' => H' d = some (.frz od (.dK [])) ∧ D.rt v (upd H' d (.dK [])), fun σ' H' => H' d = some (.frz od (.dK [])) ∧ D.bk σ' (upd H' d (.dK [])), fun σ' H' => H' d = some (.frz od (.dK [])) ∧ D.ct σ' (upd H' d (.dK []))⟩) wk
    (fun _ s' H' => s' = s ∧ H' = upd H d (.frz od (.dK []))) ⟨rfl, rfl⟩ (fun _ _ _ _ h => by rw [h.2]; exact upd_same) (fun _ _ _ _ _ h => absurd h (Nat.not_lt_zero _)) (fun s' H' h => ?_)
  obtain ⟨rfl, rfl⟩ := h
  exact ⟨upd_same, M.nx _ _ r n (.of back) (R.ex back) w⟩
end
end K45
/-! KB10 -/
set_option Elab.async false
set_option linter.all false
set_option maxRecDepth 100000
set_option maxHeartbeats 4000000
/-! loops by their turns -/
namespace K45
open PySem PySem.Spec PyProof.Rows L2
theorem le_same {a b : Rv} (x : Option PyData) (h : Le a b) : Le (x :: a) (x :: b) := ⟨congrArg (· + 1) h.1, fun i d e => by
  cases i with
  | zero => exact e
  | succ i => exact h.2 i d e⟩
theorem le_none {a b : Rv} (x : Option PyData) (h : Le a b) : Le (none :: a) (x :: b) := ⟨congrArg (· + 1) h.1, fun i d e => by
  cases i with
  | zero => cases e
  | succ i => exact h.2 i d e⟩
theorem w_for {Wi : WI} {Wg : WG} {Wb : WS} {O : Outs} {r : Rv} {n : Nat} (items : List PyData) (Iv : Nat → Rv → Nat → Prop) (hs : ∀ A : List PyData → Nat → Prop, A items n → Wi r n A) (h0 : Iv 0 r n)
    (step : ∀ (i : Nat) (d : PyData) (r1 : Rv) (n1 : Nat), items[i]? = some d → Iv i r1 n1 → Wg d r1 fun r2 => Wb { nx := fun r3 n3 => ∃ r4, Le r4 r3 ∧ Iv (i + 1) r4 n3, ct := fun r3 n3 => ∃ r4, Le r4 r3 ∧ Iv (i + 1) r4 n3, bk := O.nx, rt := O.rt } r2 n1)
    (fin : ∀ r1 n1, Iv items.length r1 n1 → O.nx r1 n1) : wFor Wi Wg Wb O r n := by
  unfold wFor
  exact hs _ ⟨Iv, h0, step, fin⟩
/-- turns that keep what is known, each told apart by its place -/
theorem w_for0 {Wi : WI} {Wg : WG} {Wb : WS} {O : Outs} {r : Rv} {n : Nat} (items : List PyData) (Pv : Nat → Prop) (hs : ∀ A : List PyData → Nat → Prop, A items n → Wi r n A) (h0 : Pv 0)
    (step : ∀ (i : Nat) (d : PyData), items[i]? = some d → Pv i → Wg d r fun r2 => Wb { nx := fun r3 n3 => ∃ r4, Le r4 r3 ∧ (r4 = r ∧ n3 = n ∧ Pv (i + 1)), ct := fun r3 n3 => ∃ r4, Le r4 r3 ∧ (r4 = r ∧ n3 = n ∧ Pv (i + 1)), bk := O.nx, rt := O.rt } r2 n)
    (fin : Pv items.length → O.nx r n) : wFor Wi Wg Wb O r n :=
  w_for items (fun i r1 n1 => r1 = r ∧ n1 = n ∧ Pv i) hs ⟨rfl, rfl, h0⟩ (fun i d r1 n1 e ⟨e1, e2, p⟩ => by
    subst e1 e2
    exact step i d e p) fun r1 n1 ⟨e1, e2, p⟩ => by
    subst e1 e2
    exact fin p
theorem orv {c e : Bool} {B : Prop} {P : PyData → Nat → Prop} {n : Nat} (hB : P (.bool e) n → B) (h : P (.bool (c || e)) n) : if c = true then P (.bool true) n else B := by
  cases c with
  | true => exact h
  | false =>
    rw [if_neg Bool.false_ne_true]
    exact hB h
theorem andv {c e : Bool} {B : Prop} {P : PyData → Nat → Prop} {n : Nat} (hB : P (.bool e) n → B) (h : P (.bool (c && e)) n) : if c = true then B else P (.bool false) n := by
  cases c with
  | true =>
    rw [if_pos rfl]
    exact hB h
  | false => exact h
/-- an expression that gives d and draws nothing -/
abbrev Gives (W : WE) (r : Rv) (n : Nat) (d : PyData) : Prop := ∀ A : PyData → Nat → Prop, A d n → W r n A
theorem g_or {Wa Wb : WE} {r : Rv} {n : Nat} {c e : Bool} (ha : Gives Wa r n (.bool c)) (hb : Gives Wb r n (.bool e)) : Gives (wOrV Wa Wb) r n (.bool (c || e)) := fun A q => ha _ ⟨c, rfl, orv (hb A) q⟩
theorem g_and {Wa Wb : WE} {r : Rv} {n : Nat} {c e : Bool} (ha : Gives Wa r n (.bool c)) (hb : Gives Wb r n (.bool e)) : Gives (wAndV Wa Wb) r n (.bool (c && e)) := fun A q => ha _ ⟨c, rfl, andv (hb A) q⟩
theorem g_dct3 {a b c : Str} {W1 W2 W3 : WE} {r : Rv} {n : Nat} {x y z : Bool} (h1 : Gives W1 r n (.bool x)) (h2 : Gives W2 r n (.bool y)) (h3 : Gives W3 r n (.bool z)) : Gives (wDct3 a b c W1 W2 W3) r n (.dict (dcB [(a, x), (b, y), (c, z)])) :=
  fun A q => h1 _ (h2 _ (h3 _ ⟨x, y, z, rfl, rfl, rfl, q⟩))
theorem g_map {Wi : WI} {Wg : WG} {We : WE} {vs : List Nat} {r : Rv} {n : Nat} (items : List PyData) (g : PyData → PyData) (hs : ∀ A : List PyData → Nat → Prop, A items n → Wi r n A) (hl : items.length ≤ 40000) (h : ∀ (i : Nat) (d : PyData), items[i]? = some d → ∀ P' : PyData → Nat → Prop, P' (g d) n → Wg d (wipeR r vs) fun r2 => We r2 n P')
    (ht : ∀ (i : Nat) (d : PyData), items[i]? = some d → tupD (g d) = true) : Gives (wLc Wi Wg wYes We vs) r n (.list (items.map g)) := fun A q => wLc_map items g hs hl h ht q
theorem map_at {α β : Type} {f : α → β} {l : List α} {i : Nat} {d : β} (e : (l.map f)[i]? = some d) : ∃ a, l[i]? = some a ∧ a ∈ l ∧ d = f a := by
  rw [List.getElem?_map] at e
  cases q : l[i]? with
  | none =>
    rw [q] at e
    cases e
  | some s =>
    rw [q] at e
    exact ⟨s, rfl, List.mem_of_getElem? q, (Option.some.inj e).symm⟩
/-- a comprehension over what f makes of l -/
theorem g_mapF {α : Type} {Wi : WI} {Wg : WG} {We : WE} {vs : List Nat} {r : Rv} {n : Nat} (l : List α) (f g : α → PyData) (hs : ∀ A : List PyData → Nat → Prop, A (l.map f) n → Wi r n A) (hl : l.length ≤ 40000) (h : ∀ a ∈ l, ∀ P' : PyData → Nat → Prop, P' (g a) n → Wg (f a) (wipeR r vs) fun r2 => We r2 n P')
    (ht : ∀ a ∈ l, tupD (g a) = true) : Gives (wLc Wi Wg wYes We vs) r n (.list (l.map g)) := fun A q => by
  unfold wLc
  refine hs _ ⟨by rw [List.length_map]; exact hl, fun i acc n' => acc = (l.take i).map g ∧ n' = n, ⟨rfl, rfl⟩, fun i d acc n' e ⟨e1, e2⟩ => ?_, fun acc n' ⟨e1, e2⟩ => ?_⟩
  · subst e1 e2
    obtain ⟨a, ha, hm, rfl⟩ := map_at e
    refine h a hm _ ⟨ht a hm, ?_, rfl⟩
    rw [take_succ_some ha, List.map_append]
    rfl
  · subst e1 e2
    rw [List.length_map, List.take_length]
    exact q
theorem g_filtF {α : Type} {Wi : WI} {Wg : WG} {Wt : WT} {We : WE} {vs : List Nat} {r : Rv} {n : Nat} (l : List α) (f g : α → PyData) (p : α → Bool) (hs : ∀ A : List PyData → Nat → Prop, A (l.map f) n → Wi r n A) (hl : l.length ≤ 40000)
    (h : ∀ a ∈ l, ∀ P' : PyData → Nat → Prop, ∀ P2 : Nat → Prop, (p a = true → P' (g a) n) → (p a = false → P2 n) → Wg (f a) (wipeR r vs) fun r2 => Wt r2 n fun b n2 => if b = true then We r2 n2 P' else P2 n2)
    (ht : ∀ a ∈ l, p a = true → tupD (g a) = true) : Gives (wLc Wi Wg Wt We vs) r n (.list ((l.filter p).map g)) := fun A q => by
  unfold wLc
  refine hs _ ⟨by rw [List.length_map]; exact hl, fun i acc n' => acc = ((l.take i).filter p).map g ∧ n' = n, ⟨rfl, rfl⟩, fun i d acc n' e ⟨e1, e2⟩ => ?_, fun acc n' ⟨e1, e2⟩ => ?_⟩
  · subst e1 e2
    obtain ⟨a, ha, hm, rfl⟩ := map_at e
    refine h a hm _ _ (fun hp => ⟨ht a hm hp, ?_, rfl⟩) (fun hp => ⟨?_, rfl⟩)
    · rw [take_succ_some ha, List.filter_append, List.map_append]
      simp [hp]
    · rw [take_succ_some ha, List.filter_append, List.map_append]
      simp [hp]
  · subst e1 e2
    rw [List.length_map, List.take_length]
    exact q
theorem any_of {α : Type} (l : List α) (f : α → Bool) : allF true [.list (l.map fun a => .bool (f a))] = some (.bool (l.any f)) := by
  have h : boolsOf (l.map fun a => PyData.bool (f a)) = some (l.map f) := by
    induction l with
    | nil => rfl
    | cons a l ih =>
      show (boolsOf (l.map fun a => PyData.bool (f a))).map (f a :: ·) = _
      rw [ih]
      rfl
  show (boolsOf (l.map fun a => PyData.bool (f a))).map (fun bs => PyData.bool (bs.any id)) = _
  rw [h]
  simp [Function.comp_def]
theorem all_of {α : Type} (l : List α) (f : α → Bool) : allF false [.list (l.map fun a => .bool (f a))] = some (.bool (l.all f)) := by
  have h : boolsOf (l.map fun a => PyData.bool (f a)) = some (l.map f) := by
    induction l with
    | nil => rfl
    | cons a l ih =>
      show (boolsOf (l.map fun a => PyData.bool (f a))).map (f a :: ·) = _
      rw [ih]
      rfl
  show (boolsOf (l.map fun a => PyData.bool (f a))).map (fun bs => PyData.bool (bs.all id)) = _
  rw [h]
  simp [Function.comp_def]
theorem g_cb1 {f : List PyData → Option PyData} {C : List PyData → Prop} {We : WE} {r : Rv} {n : Nat} {d d' : PyData} (h : Gives We r n d) (hf : f [d] = some d') (hc : C [d]) : Gives (wCB f C (waC We waN)) r n d' := fun A q => h _ ⟨d', hf, hc, q⟩
theorem g_op {f : PyData → PyData → Option PyData} {C : PyData → PyData → Prop} {Wa Wb : WE} {r : Rv} {n : Nat} {a b d : PyData} (ha : Gives Wa r n a) (hb : Gives Wb r n b) (hf : f a b = some d) (hc : C a b) : Gives (wOp f C Wa Wb) r n d := fun A q => ha _ (hb _ ⟨d, hf, hc, q⟩)
theorem g_call1 {g : List PyData → PyData → Prop} {We : WE} {r : Rv} {n : Nat} {a d : PyData} (ha : Gives We r n a) (hg : g [a] d) : Gives (wCall g (waC We waN)) r n d := fun A q => ha _ ⟨d, hg, q⟩
theorem g_v {r : Rv} {n i : Nat} {d : PyData} (h : r[i]? = some (some d)) : Gives (fun r n P => ∃ d, r[i]? = some (some d) ∧ P d n) r n d := fun A q => ⟨d, h, q⟩
end K45
/-! KA4 -/
set_option Elab.async false
set_option linter.all false
set_option maxRecDepth 100000
set_option maxHeartbeats 2000000
namespace K45
open PySem PySem.Spec PyProof.Rows L2
structure SetD where
  name : Str
  es : List Entry
  row : List Str
def SetD.d (s : SetD) : PyData := .tuple [.str s.name, .tuple (s.es.map Entry.d), .tuple (s.row.map .str), .tuple [], .tuple []]
def SetD.tg (s : SetD) : List Str := s.es.map fun e => e.i.target
structure SetD.Ok (s : SetD) : Prop where
  name : NameOk s.name
  few : s.es.length ≤ 6
  es : ∀ e ∈ s.es, e.Ok
  nd : s.tg.Nodup
  rnd : s.row.Nodup
  sub : ∀ x ∈ s.row, x ∈ s.tg
structure Hall where
  pipes : List Pipe
  sets : List SetD
def Hall.d (h : Hall) : PyData := .tuple [.tuple (h.pipes.map Pipe.d), .tuple (h.sets.map SetD.d)]
theorem SetD.Ok.rfew {s : SetD} (h : s.Ok) : s.row.length ≤ 6 := by
  have a := List.Nodup.length_le_of_subset h.rnd h.sub
  have b : s.tg.length = s.es.length := by simp [SetD.tg]
  have c := h.few
  omega
theorem NameOk.ok {x : Str} (h : NameOk x) : PyData.strOk x = true := by
  unfold PyData.strOk
  rw [← Array.all_toList, List.all_eq_true]
  intro c hc
  have := h.az c hc
  exact decide_eq_true (by omega)
theorem strs_lay : ∀ (l : List Str), (∀ x ∈ l, NameOk x) → PyData.canLayAll0 (l.map .str) = true ∧ PyData.depthAll (l.map .str) = 0
  | [], _ => ⟨rfl, rfl⟩
  | x :: l, h => by
    obtain ⟨a, b⟩ := strs_lay l fun y hy => h y (List.mem_cons_of_mem _ hy)
    constructor
    · simp [PyData.canLayAll0, PyData.canLay0, a, (h x List.mem_cons_self).ok]
    · simp [PyData.depthAll, PyData.depth, b]
theorem strs_shaped {l : List Str} (h : ∀ x ∈ l, NameOk x) : SeqAt.shaped (.tuple (l.map .str)) = true := by
  obtain ⟨a, b⟩ := strs_lay l h
  unfold SeqAt.shaped
  simp [PyData.canLay0, PyData.depth, a, b]
theorem strs_shapedL {l : List Str} (h : ∀ x ∈ l, NameOk x) : SeqAt.shaped (.list (l.map .str)) = true := by
  obtain ⟨a, b⟩ := strs_lay l h
  unfold SeqAt.shaped
  simp [PyData.canLay0, PyData.depth, a, b]
theorem strs_nil (l : List Str) : PyData.eqv (.tuple (l.map .str)) (.tuple []) = l.isEmpty := by
  cases l <;> rfl
def gTargets (ds : List PyData) (d : PyData) : Prop := ∃ s : SetD, ds = [s.d] ∧ s.es.length ≤ 6 ∧ d = .list (s.tg.map .str)
def gSet (ds : List PyData) (d : PyData) : Prop := ∃ s : SetD, ds = [s.d] ∧ s.Ok ∧ d = .bool true
def gWaitAt (ds : List PyData) (d : PyData) : Prop := ∃ s : SetD, ds = [s.d] ∧ d = .list []
section
variable {P : Program} {w : World} {K : PySem.W.Frag} {mg : Str → Option Value} {base : Heap}
theorem ok_targets_of (T : Txt K mg) : Cal P w K mg base 1 "targets_of" ["one"] (spD K gTargets) := by
  obtain ⟨f, fd, F, hm⟩ := T.f_targets_of
  refine okD F sc_targets_of hm (F.bindsN fun _ _ _ _ _ _ us hl => match us, hl with | [_], _ => rfl) ?_ (by decide) (fun cdv A outer s H E hr => ?_)
  · rintro ds d ⟨s, rfl, _⟩
    rfl
  have hu := hr.units
  refine ⟨_, (dss_1 (ds_ret (de_lc0 (m := pureM) [("entry", 1)] rfl sc_targets_of.nd (di_t (de_ix ix_seq od_ix (de_v 0) de_i (fun _ _ => rfl))) (blkOk_by (N := ["one", "entry"]) (sc := defScope s_targets_of) (by decide +kernel)) (by intro p hp; cases hp) (by decide) (fun _ _ _ _ _ => (dg_n 1 sc_targets_of.nd (by intro p hp; cases hp))) (fun _ _ _ _ _ => (de_ix ix_seq od_ix (de_ix ix_seq od_ix (de_v 1) de_i (fun _ _ => rfl)) de_i (fun _ _ => rfl)))))), ?_⟩
  rintro ds d ⟨s, rfl, hs, rfl⟩
  show wLc _ _ _ _ _ _ _ _
  refine wLc_map (s.es.map Entry.d) (fun d => match d with | .tuple (.tuple (t :: _) :: _) => t | _ => .none) (fun A q => ⟨_, rfl, _, rfl, trivial, _, rfl, q⟩) (by rw [List.length_map]; omega) (fun i d q P' p => ?_) (fun i d q => ?_) ?_
  · obtain ⟨e, _, _, rfl⟩ := map_at q
    exact ⟨_, rfl, _, rfl, trivial, _, rfl, trivial, p⟩
  · obtain ⟨e, _, _, rfl⟩ := map_at q
    rfl
  · show PyData.list _ = PyData.list _
    unfold SetD.tg
    rw [List.map_map, List.map_map]
    rfl
theorem ok_is_set (T : Txt K mg) (C_are_up_to : Cal P w K mg base 1 "are_up_to" ["thing", "many"] (spD K gUpTo)) (C_is_name : Cal P w K mg base 1 "is_name" ["thing"] (spD K gName)) (C_is_tuple_of : Cal P w K mg base 1 "is_tuple_of" ["thing", "many"] (spD K gTupleOf)) (C_are_waiting : Cal P w K mg base 2 "are_waiting" ["thing"] (spD K gWaiting)) (C_is_entry : Cal P w K mg base 4 "is_entry" ["thing"] (spD K gEntry)) (C_targets_of : Cal P w K mg base 1 "targets_of" ["one"] (spD K gTargets)) : Cal P w K mg base 5 "is_set" ["thing"] (spD K gSet) := by
  obtain ⟨f, fd, F, hm⟩ := T.f_is_set
  refine okD F sc_is_set hm (F.bindsN fun _ _ _ _ _ _ us hl => match us, hl with | [_], _ => rfl) ?_ (by decide) (fun cdv A outer s H E hr => ?_)
  · rintro ds d ⟨s, rfl, _⟩
    rfl
  have hu := hr.units
  refine ⟨_, (dss_c (ds_if (L2.PW.pt (dw_or (dt_not (dt_v (de_call C_is_tuple_of hr (by decide) (da_c (de_v 0) (da_c de_i da_n))))) (dw_or (dt_not (dt_v (de_call C_is_name hr (by decide) (da_c (de_ix ix_seq od_ix (de_v 0) de_i (fun _ _ => rfl)) da_n)))) (dw_or1 (dt_not (dt_v (de_call C_are_up_to hr (by decide) (da_c (de_ix ix_seq od_ix (de_v 0) de_i (fun _ _ => rfl)) (da_c (de_k T.k_MOST_ENTRIES) da_n))))))))) (dss_1 (ds_ret de_b)) dss_n)
      (dss_c (ds_if (L2.PW.pt (dw_or (dt_not (dt_v (de_cb (cr_allA false rfl) (cd_all false) T.n_all (by decide +kernel) (da_c (de_lc0 (m := pureM) [("entry", 1)] rfl sc_is_set.nd (di_t (de_ix ix_seq od_ix (de_v 0) de_i (fun _ _ => rfl))) (blkOk_by (N := ["thing", "entry", "targets", "row", "target"]) (sc := defScope s_is_set) (by decide +kernel)) (by intro p hp; cases hp) (by decide) (fun _ _ _ _ _ => (dg_n 1 sc_is_set.nd (by intro p hp; cases hp))) (fun _ _ _ _ _ => (de_call C_is_entry hr (by decide) (da_c (de_v 1) da_n)))) da_n)))) (dw_or (dt_not (dt_v (de_call C_are_waiting hr (by decide) (da_c (de_ix ix_seq od_ix (de_v 0) de_i (fun _ _ => rfl)) da_n)))) (dw_or1 (dt_not (dt_v (de_call C_are_waiting hr (by decide) (da_c (de_ix ix_seq od_ix (de_v 0) de_i (fun _ _ => rfl)) da_n)))))))) (dss_1 (ds_ret de_b)) dss_n)
      (dss_c (ds_set 2 sc_is_set.nd (by intro p hp; cases hp) (de_call C_targets_of hr (by decide) (da_c (de_v 0) da_n)))
      (dss_c (ds_if (L2.PW.pt (dw_or (dt_cmp op_lt od_lt (de_ls rfl T.n_len T.n_set (de_v 2)) (de_cb call_len cd_len T.n_len (by decide +kernel) (da_c (de_v 2) da_n)) (nomark _)) (dw_or1 (dt_not (dt_v (de_call C_are_up_to hr (by decide) (da_c (de_ix ix_seq od_ix (de_v 0) de_i (fun _ _ => rfl)) (da_c (de_k T.k_MOST_ENTRIES) da_n)))))))) (dss_1 (ds_ret de_b)) dss_n)
      (dss_c (ds_set 3 sc_is_set.nd (by intro p hp; cases hp) (de_ix ix_seq od_ix (de_v 0) de_i (fun _ _ => rfl)))
      (dss_1 (ds_ret (de_and (de_cb (cr_allA false rfl) (cd_all false) T.n_all (by decide +kernel) (da_c (de_lc0 (m := pureM) [("target", 4)] rfl sc_is_set.nd (di_t (de_v 3)) (blkOk_by (N := ["thing", "entry", "targets", "row", "target"]) (sc := defScope s_is_set) (by decide +kernel)) (by intro p hp; cases hp) (by decide) (fun _ _ _ _ _ => (dg_n 4 sc_is_set.nd (by intro p hp; cases hp))) (fun _ _ _ _ _ => (de_and (de_isi T.n_isinstance T.n_str (by decide +kernel) cls_str (de_v 4)) (de_one (de_cmp op_inA (od_in false) (de_v 4) (de_v 2) (by rfl)))))) da_n)) (de_one (de_cmp (op_eqA hu) od_eq (de_ls rfl T.n_len T.n_set (de_v 3)) (de_cb call_len cd_len T.n_len (by decide +kernel) (da_c (de_v 3) da_n)) (nomark _))))))))))), ?_⟩
  rintro ds d ⟨s, rfl, h, rfl⟩
  have hes : (s.es.map Entry.d).length ≤ 40000 := by
    have := h.few
    rw [List.length_map]
    omega
  have hrow : (s.row.map PyData.str).length ≤ 40000 := by
    have := h.rfew
    rw [List.length_map]
    omega
  have htg : s.tg.length = s.es.length := by simp [SetD.tg]
  refine ⟨_, rfl, _, ⟨_, 5, rfl, rfl⟩, true, rfl, ?_⟩
  refine ⟨_, rfl, _, rfl, trivial, .bool true, ⟨_, rfl, h.name, rfl⟩, true, rfl, ?_⟩
  refine ⟨_, rfl, _, rfl, trivial, _, ⟨_, 6, rfl, rfl⟩, true, ?_, ?_⟩
  · have := h.few
    simp
    omega
  refine iteF ?_
  show wLc _ _ _ _ _ _ _ _
  refine wLc_map (s.es.map Entry.d) (fun _ => .bool true) (fun A q => ⟨_, rfl, _, rfl, trivial, _, rfl, q⟩) hes (fun i d q P' p => ?_) (fun i d _ => by simp) ⟨_, all_true _, trivial, true, rfl, ?_⟩
  · obtain ⟨e, _, he, rfl⟩ := map_at q
    exact ⟨_, rfl, .bool true, ⟨e, rfl, h.es e he, rfl⟩, p⟩
  refine ⟨_, rfl, _, rfl, trivial, .bool true, ⟨rfl, rfl⟩, true, rfl, ?_⟩
  refine ⟨_, rfl, _, rfl, trivial, .bool true, ⟨rfl, rfl⟩, true, rfl, ?_⟩
  refine iteF ?_
  refine ⟨_, rfl, _, ⟨s, rfl, h.few, rfl⟩, ?_⟩
  refine ⟨_, rfl, s.tg, .inl rfl, h.nd, by have := h.few; omega, _, rfl, _, rfl, trivial, _, rfl, trivial, false, ?_, ?_⟩
  · simp
  refine iteF ?_
  refine ⟨_, rfl, _, rfl, trivial, _, ⟨_, 6, rfl, rfl⟩, true, ?_, ?_⟩
  · have := h.rfew
    simp
    omega
  refine iteF ?_
  refine ⟨_, rfl, _, rfl, trivial, ?_⟩
  show wLc _ _ _ _ _ _ _ _
  refine wLc_map (s.row.map .str) (fun _ => .bool true) (fun A q => ⟨_, rfl, _, rfl, q⟩) hrow (fun i d q P' p => ?_) (fun i d _ => by simp) ⟨_, all_true _, trivial, true, rfl, ?_⟩
  · obtain ⟨z, rfl, hz⟩ := strs_at q
    refine ⟨_, rfl, true, kit_ss, true, rfl, ?_⟩
    refine ⟨_, rfl, _, rfl, .bool true, ?_, ⟨rfl, strs_flat _⟩, p⟩
    exact congrArg (fun b => some (PyData.bool b)) ((any_str _ _).trans (decide_eq_true (h.sub z hz)))
  refine ⟨_, rfl, s.row, .inr rfl, h.rnd, by have := h.rfew; omega, _, rfl, _, rfl, trivial, _, rfl, .inl rfl, ?_⟩
  show PyData.bool _ = PyData.bool true
  simp
theorem ok_waiting_at (T : Txt K mg) : Cal P w K mg base 1 "waiting_at" ["one"] (spD K gWaitAt) := by
  obtain ⟨f, fd, F, hm⟩ := T.f_waiting_at
  refine okD F sc_waiting_at hm (F.bindsN fun _ _ _ _ _ _ us hl => match us, hl with | [_], _ => rfl) ?_ (by decide) (fun cdv A outer s H E hr => ?_)
  · rintro ds d ⟨s, rfl, _⟩
    rfl
  have hu := hr.units
  refine ⟨_, (dss_1 (ds_ret (de_lc0 (m := pureM) [("waiter", 1), ("most", 2)] rfl sc_waiting_at.nd (di_t (de_bin op_addA od_add (de_ix ix_seq od_ix (de_v 0) de_i (fun _ _ => rfl)) (de_ix ix_seq od_ix (de_v 0) de_i (fun _ _ => rfl)))) (blkOk_by (N := ["one", "waiter", "most"]) (sc := defScope s_waiting_at) (by decide +kernel)) (by intro p hp; cases hp) (by decide) (fun _ _ _ _ _ => (dg_t (n := 2) rfl (dgs_c (dg_n 1 sc_waiting_at.nd (by intro p hp; cases hp)) (dgs_c (dg_n 2 sc_waiting_at.nd (by intro p hp; cases hp)) dgs_n)))) (fun _ _ _ _ _ => (de_v 1))))), ?_⟩
  rintro ds d ⟨s, rfl, rfl⟩
  show wLc _ _ _ _ _ _ _ _
  exact wLc_map [] id (fun A q => ⟨_, rfl, _, rfl, trivial, _, rfl, _, rfl, trivial, _, rfl, by simp, _, rfl, q⟩) (by decide) (fun i d q P' p => by simp at q) (fun i d q => by simp at q) rfl
end
/-! what is so -/
def pipeW (p : Pipe) : Ws := ⟨decide (0 < p.held) || p.shut, decide (p.held < p.room) && !p.shut, p.shut⟩
def soW (h : Hall) (n : Str) : Ws := match h.pipes.find? fun p => p.name == n with
  | some p => pipeW p
  | none => ⟨h.sets.any fun s => s.name == n && !s.row.isEmpty, false, false⟩
def dueW (h : Hall) (e : Entry) : Ws := (soW h e.i.target).and e.i.asked
def dueB (h : Hall) (e : Entry) : Bool := e.on && (if e.i.edge then ((dueW h e).and e.fresh).any else (dueW h e).any)
def dueT (h : Hall) (s : SetD) : List Str := (s.es.filter fun e => dueB h e).map fun e => e.i.target
structure Hall.Few (h : Hall) : Prop where
  p : h.pipes.length ≤ 4
  s : h.sets.length ≤ 4
  r : ∀ s ∈ h.sets, ∀ x ∈ s.row, NameOk x
theorem find_at {α : Type} {f : α → Bool} : ∀ {l : List α} {i : Nat} {x : α}, l[i]? = some x → (∀ y ∈ l.take i, f y = false) → f x = true → l.find? f = some x
  | [], i, x, h, _, _ => by simp at h
  | a :: l, 0, x, h, _, hx => by
    have e : a = x := Option.some.inj h
    subst e
    rw [List.find?_cons, hx]
  | a :: l, i + 1, x, h, hb, hx => by
    have ha : f a = false := hb a (by simp)
    rw [List.find?_cons, ha]
    exact find_at (l := l) (i := i) h (fun y hy => hb y (by simp [hy])) hx
theorem ws_val (a b c : Bool) {z : Str} (hz : z = "in" ∨ z = "out" ∨ z = "gone") : valV (kvB [("in", a), ("out", b), ("gone", c)]) (Sum.inr z) = some (.bl ((Ws.mk a b c).l.contains z)) := by
  rcases hz with rfl | rfl | rfl <;> cases a <;> cases b <;> cases c <;> rfl
theorem ws_filter (w : Ws) (f : PyData → Bool) (h : ∀ z, f (.str z) = w.l.contains z) : ([.str "in", .str "out", .str "gone"].filter f).map id = w.l.map PyData.str := by
  have e : [PyData.str "in", PyData.str "out", PyData.str "gone"] = (["in", "out", "gone"] : List Str).map PyData.str := rfl
  rw [e, List.filter_map, List.map_id]
  refine congrArg (List.map PyData.str) ?_
  have g : (f ∘ PyData.str) = fun z => w.l.contains z := funext h
  rw [g]
  obtain ⟨a, b, c⟩ := w
  cases a <;> cases b <;> cases c <;> decide +kernel
def gSo (ds : List PyData) (d : PyData) : Prop := ∃ (h : Hall) (n : Str), ds = [h.d, .str n] ∧ h.Few ∧ d = (soW h n).d
def gDue (ds : List PyData) (d : PyData) : Prop := ∃ (h : Hall) (e : Entry), ds = [h.d, e.d] ∧ h.Few ∧ d = .tuple [(dueW h e).d, .bool (dueB h e)]
def gDueT (ds : List PyData) (d : PyData) : Prop := ∃ (h : Hall) (s : SetD), ds = [h.d, s.d] ∧ h.Few ∧ s.es.length ≤ 6 ∧ d = .list ((dueT h s).map .str)
section
variable {P : Program} {w : World} {K : PySem.W.Frag} {mg : Str → Option Value} {base : Heap}
theorem ok_so_words (T : Txt K mg) : Cal P w K mg base 1 "so_words" ["hall", "name"] (spD K gSo) := by
  obtain ⟨f, fd, F, hm⟩ := T.f_so_words
  refine okD F sc_so_words hm (F.bindsN fun _ _ _ _ _ _ us hl => match us, hl with | [_, _], _ => rfl) ?_ (by decide) (fun cdv A outer s H E hr => ?_)
  · rintro ds d ⟨h, n, rfl, _⟩
    rfl
  have hu := hr.units
  have hu1 := Nat.lt_of_le_of_lt (Nat.add_le_add_left (by decide : 1 ≤ 64) _) hu
  have hu0 := Nat.lt_of_le_of_lt (Nat.le_add_right _ 1) hu1
  refine ⟨_, (dss_c (ds_asg (de_v 0) (dg_t (n := 2) rfl (dgs_c (dg_n 2 sc_so_words.nd (by intro p hp; cases hp)) (dgs_c (dg_n 3 sc_so_words.nd (by intro p hp; cases hp)) dgs_n))))
      (dss_c (ds_for PassesOwn.never rfl (di_t (de_v 2)) (dg_t (n := 4) rfl (dgs_c (dg_n 4 sc_so_words.nd (by intro p hp; cases hp)) (dgs_c (dg_n 5 sc_so_words.nd (by intro p hp; cases hp)) (dgs_c (dg_n 6 sc_so_words.nd (by intro p hp; cases hp)) (dgs_c (dg_n 7 sc_so_words.nd (by intro p hp; cases hp)) dgs_n))))) (dss_1 (ds_if (dt_cmp (op_eqA hu) od_eq (de_v 4) (de_v 1) (nomark _)) (dss_c (ds_set 8 sc_so_words.nd (by intro p hp; cases hp) (de_dct3 (de_or (de_cmp op_gt od_gt (de_v 6) de_i (nomark _)) (de_one (de_v 7))) (de_and (de_cmp op_lt od_lt (de_v 6) (de_v 5) (nomark _)) (de_one (de_not (de_v 7)))) (de_v 7)))
      (dss_1 (ds_ret (de_ct call_tuple_of cd_tuple T.n_tuple (by decide +kernel) (da_c (de_lc1 (m := pureM) [("word", 9)] rfl sc_so_words.nd (di_t (de_k T.k_WORDS)) (blkOk_by (N := ["hall", "name", "pipes", "sets", "own", "room", "held", "shut", "ready", "word", "one"]) (sc := defScope s_so_words) (by decide +kernel)) (by intro p hp; cases hp) (by decide) (fun _ _ _ _ _ => (dg_n 9 sc_so_words.nd (by intro p hp; cases hp))) (fun _ _ _ _ _ => (dt_v (de_dix hu1 (de_v 8) (de_v 9)))) (fun _ _ _ _ _ => (de_v 9))) da_n))))) dss_n)))
      (dss_1 (ds_ret (de_if (dt_v (de_cb (cr_allA true rfl) (cd_all true) T.n_any (by decide +kernel) (da_c (de_lc0 (m := pureM) [("one", 10)] rfl sc_so_words.nd (di_t (de_v 3)) (blkOk_by (N := ["hall", "name", "pipes", "sets", "own", "room", "held", "shut", "ready", "word", "one"]) (sc := defScope s_so_words) (by decide +kernel)) (by intro p hp; cases hp) (by decide) (fun _ _ _ _ _ => (dg_n 10 sc_so_words.nd (by intro p hp; cases hp))) (fun _ _ _ _ _ => (de_and (de_cmp (op_eqA hu) od_eq (de_ix ix_seq od_ix (de_v 10) de_i (fun _ _ => rfl)) (de_v 1) (nomark _)) (de_one (de_cmp (op_neA hu) od_ne (de_ix ix_seq od_ix (de_v 10) de_i (fun _ _ => rfl)) (de_tup da_n) (nomark _)))))) da_n))) (de_tup (da_c de_s da_n)) (de_tup da_n)))))), ?_⟩
  rintro ds d ⟨h, n, rfl, few, rfl⟩
  refine ⟨_, rfl, _, rfl, rfl, _, _, rfl, _, _, rfl, rfl, ?_⟩
  refine w_for0 (h.pipes.map Pipe.d) (fun i => ∀ p ∈ h.pipes.take i, (p.name == n) = false) (fun A q => ⟨_, rfl, _, rfl, q⟩) (by simp) (fun i d q pv => ?_) (fun pv => ?_)
  · obtain ⟨p, hp, hm, rfl⟩ := map_at q
    refine ⟨_, rfl, rfl, _, _, rfl, _, _, rfl, _, _, rfl, _, _, rfl, rfl, ?_⟩
    refine ⟨_, rfl, _, rfl, _, rfl, .inl rfl, _, rfl, ?_⟩
    show if (p.name == n) = true then _ else _
    refine ite_b (fun hn => ?_) (fun hn => ?_)
    · have hf : soW h n = pipeW p := by
        unfold soW
        rw [find_at hp pv hn]
      dsimp only [wSeq, wAsg]
      refine g_dct3 (x := decide (0 < p.held) || p.shut) (y := decide (p.held < p.room) && !p.shut) (z := p.shut) (g_or (fun A q => ⟨_, rfl, _, rfl, trivial, q⟩) fun A q => ⟨_, rfl, q⟩) (g_and (fun A q => ⟨_, rfl, _, rfl, _, rfl, trivial, q⟩) fun A q => ⟨_, rfl, _, rfl, q⟩) (fun A q => ⟨_, rfl, q⟩) _ ?_
      dsimp only [wRet, wCB, waC, wgN, waN]
      refine wLc_filter [.str "in", .str "out", .str "gone"] (fun d => match d with | .str z => ((pipeW p).l.contains z) | _ => false) id (fun A q => ⟨_, rfl, q⟩) (by decide) (fun i d q P' P2 h1 h2 => ?_) (fun i d q _ => ?_) ?_
      · obtain ⟨z, rfl, hz⟩ := strs_at (l := ["in", "out", "gone"]) q
        refine ⟨_, rfl, _, rfl, _, z, (pipeW p).l.contains z, rfl, rfl, ?_, _, rfl, ite_b (fun z => ⟨_, rfl, h1 z⟩) h2⟩
        simp only [List.mem_cons, List.not_mem_nil, or_false] at hz
        exact ws_val _ _ _ hz
      · obtain ⟨z, rfl, hz⟩ := strs_at (l := ["in", "out", "gone"]) q
        simp
      · rw [hf]
        refine ⟨_, rfl, trivial, ?_⟩
        show PyData.tuple _ = (pipeW p).d
        exact congrArg PyData.tuple (ws_filter (pipeW p) _ fun z => rfl)
    · refine ⟨_, le_same _ (le_same _ (le_same _ (le_same _ (le_none _ (le_none _ (le_none _ (le_none _ (le_same _ (le_same _ (le_same _ (Le.refl _))))))))))), rfl, rfl, fun p' hp' => ?_⟩
      rw [take_succ_some hp, List.mem_append] at hp'
      rcases hp' with hp' | hp'
      · exact pv p' hp'
      · rw [List.mem_singleton.mp hp']
        exact hn
  · have hf : soW h n = ⟨h.sets.any fun s => s.name == n && !s.row.isEmpty, false, false⟩ := by
      unfold soW
      have z : h.pipes.find? (fun p => p.name == n) = none := List.find?_eq_none.mpr fun p hp => by
        have q := pv p (by simpa using hp)
        simp [q]
      rw [z]
    dsimp only [wRet, wIf, wB, wCB, waC, waN]
    refine g_mapF h.sets SetD.d (fun s => .bool (s.name == n && !s.row.isEmpty)) (fun A q => ⟨_, rfl, _, rfl, q⟩) (by have := few.s; omega) (fun s hs P' q => ?_) (fun s hs => by simp) _ ⟨_, any_of _ _, trivial, _, rfl, ?_⟩
    · refine g_and (c := s.name == n) (e := !s.row.isEmpty) (fun A q => ⟨_, rfl, _, rfl, trivial, _, rfl, _, rfl, .inl rfl, q⟩) (fun A q => ⟨_, rfl, _, rfl, trivial, by simp, _, rfl, .inr ⟨?_, nil_shaped⟩, ?_⟩) _ q
      · exact strs_shaped (few.r s hs)
      · show A (.bool (!PyData.eqv (.tuple (s.row.map .str)) (.tuple []))) 0
        rw [strs_nil]
        exact q
    · rw [hf]
      cases h.sets.any fun s => s.name == n && !s.row.isEmpty with
      | true => exact ⟨by simp, rfl⟩
      | false => exact ⟨by simp, rfl⟩
theorem ws_and (a b : Ws) (p : Str → Bool) (h : ∀ z, p z = b.l.contains z) : a.l.filter p = (a.and b).l := by
  have e : p = fun z => b.l.contains z := funext h
  subst e
  obtain ⟨a1, a2, a3⟩ := a
  obtain ⟨b1, b2, b3⟩ := b
  cases a1 <;> cases a2 <;> cases a3 <;> cases b1 <;> cases b2 <;> cases b3 <;> decide +kernel
theorem ws_anyin (a b : Ws) : (a.l.any fun z => b.l.contains z) = (a.and b).any := by
  obtain ⟨a1, a2, a3⟩ := a
  obtain ⟨b1, b2, b3⟩ := b
  cases a1 <;> cases a2 <;> cases a3 <;> cases b1 <;> cases b2 <;> cases b3 <;> decide +kernel
theorem any_str' (l : List Str) (s : Str) : ((l.map PyData.str).any fun y => PyData.eqv y (.str s)) = l.contains s := by
  rw [any_str, List.contains_eq_mem]
theorem mode_level (e : Bool) : PyData.eqv (.str (modeS e)) (.str "level") = !e := by
  cases e <;> decide +kernel
theorem ok_due_words (T : Txt K mg) (C_so_words : Cal P w K mg base 1 "so_words" ["hall", "name"] (spD K gSo)) : Cal P w K mg base 2 "due_words" ["hall", "entry"] (spD K gDue) := by
  obtain ⟨f, fd, F, hm⟩ := T.f_due_words
  refine okD F sc_due_words hm (F.bindsN fun _ _ _ _ _ _ us hl => match us, hl with | [_, _], _ => rfl) ?_ (by decide) (fun cdv A outer s H E hr => ?_)
  · rintro ds d ⟨h, n, rfl, _⟩
    rfl
  have hu := hr.units
  refine ⟨_, (dss_c (ds_asg (de_v 1) (dg_t (n := 3) rfl (dgs_c (dg_t (n := 5) rfl (dgs_c (dg_n 2 sc_due_words.nd (by intro p hp; cases hp)) (dgs_c (dg_n 3 sc_due_words.nd (by intro p hp; cases hp)) (dgs_c (dg_n 4 sc_due_words.nd (by intro p hp; cases hp)) (dgs_c (dg_n 5 sc_due_words.nd (by intro p hp; cases hp)) (dgs_c (dg_n 6 sc_due_words.nd (by intro p hp; cases hp)) dgs_n)))))) (dgs_c (dg_n 7 sc_due_words.nd (by intro p hp; cases hp)) (dgs_c (dg_n 8 sc_due_words.nd (by intro p hp; cases hp)) dgs_n)))))
      (dss_c (ds_set 9 sc_due_words.nd (by intro p hp; cases hp) (de_ct call_tuple_of cd_tuple T.n_tuple (by decide +kernel) (da_c (de_lc1 (m := pureM) [("word", 10)] rfl sc_due_words.nd (di_t (de_call C_so_words hr (by decide) (da_c (de_v 0) (da_c (de_v 2) da_n)))) (blkOk_by (N := ["hall", "entry", "target", "asked", "mode", "once", "alone", "on", "fresh", "ready", "word"]) (sc := defScope s_due_words) (by decide +kernel)) (by intro p hp; cases hp) (by decide) (fun _ _ _ _ _ => (dg_n 10 sc_due_words.nd (by intro p hp; cases hp))) (fun _ _ _ _ _ => (dt_cmp op_inA (od_in false) (de_v 10) (de_v 3) (by rfl))) (fun _ _ _ _ _ => (de_v 10))) da_n)))
      (dss_c (ds_if (dt_cmp (op_eqA hu) od_eq (de_v 4) (de_k T.k_LEVEL) (nomark _)) (dss_1 (ds_ret (de_tup (da_c (de_v 9) (da_c (de_and (de_v 7) (de_one (de_cmp (op_neA hu) od_ne (de_v 9) (de_tup da_n) (nomark _)))) da_n))))) dss_n)
      (dss_1 (ds_ret (de_tup (da_c (de_v 9) (da_c (de_and (de_v 7) (de_one (de_cb (cr_allA true rfl) (cd_all true) T.n_any (by decide +kernel) (da_c (de_lc0 (m := pureM) [("word", 10)] rfl sc_due_words.nd (di_t (de_v 9)) (blkOk_by (N := ["hall", "entry", "target", "asked", "mode", "once", "alone", "on", "fresh", "ready", "word"]) (sc := defScope s_due_words) (by decide +kernel)) (by intro p hp; cases hp) (by decide) (fun _ _ _ _ _ => (dg_n 10 sc_due_words.nd (by intro p hp; cases hp))) (fun _ _ _ _ _ => (de_cmp op_inA (od_in false) (de_v 10) (de_v 8) (by rfl)))) da_n)))) da_n)))))))), ?_⟩
  rintro ds d ⟨h, e, rfl, few, rfl⟩
  have hw := ws_len (soW h e.i.target)
  have hw2 := ws_len (dueW h e)
  refine ⟨_, rfl, _, rfl, rfl, _, _, rfl, ⟨_, rfl, rfl, _, _, rfl, _, _, rfl, _, _, rfl, _, _, rfl, _, _, rfl, rfl, ?_⟩⟩
  refine ⟨_, _, rfl, _, _, rfl, rfl, ?_⟩
  dsimp only [wSeq, wAsg, wCB, waC, waN]
  refine g_filtF (soW h e.i.target).l .str .str (fun z => e.i.asked.l.contains z) (fun A q => ⟨_, rfl, _, rfl, _, ⟨h, _, rfl, few, rfl⟩, _, rfl, q⟩) (by omega) (fun z hz P' P2 h1 h2 => ?_) (fun z hz _ => by simp) _ ?_
  · refine ⟨_, rfl, _, rfl, _, rfl, ⟨rfl, strs_flat _⟩, _, rfl, ?_⟩
    simp only [Bool.false_eq_true, if_false]
    rw [any_str']
    exact ite_b (fun z => ⟨_, rfl, h1 z⟩) h2
  refine ⟨_, rfl, trivial, ?_⟩
  rw [ws_and (soW h e.i.target) e.i.asked _ (fun _ => rfl)]
  refine ⟨_, rfl, _, rfl, .inl rfl, _, rfl, ?_⟩
  rw [mode_level]
  refine ite_b (fun hl => ?_) (fun hl => ?_)
  · have he : e.i.edge = false := by simpa using hl
    refine ⟨_, rfl, ?_⟩
    refine g_and (c := e.on) (e := (dueW h e).any) (fun A q => ⟨_, rfl, q⟩) (fun A q => ⟨_, rfl, by simp, _, rfl, .inr ⟨ws_shaped _, nil_shaped⟩, ?_⟩) _ ⟨by simp, ?_⟩
    · show PyData.tuple _ = PyData.tuple _
      unfold dueB
      rw [he]
      rfl
    · rw [show (PyData.tuple (((soW h e.i.target).and e.i.asked).l.map .str)) = (dueW h e).d from rfl, ws_nil, Bool.not_not]
      exact q
  · have he : e.i.edge = true := by simpa using hl
    refine ⟨_, rfl, ?_⟩
    refine g_and (c := e.on) (e := ((dueW h e).and e.fresh).any) (fun A q => ⟨_, rfl, q⟩) (g_cb1 (g_mapF (dueW h e).l .str (fun z => .bool (e.fresh.l.contains z)) (fun A q => ⟨_, rfl, _, rfl, q⟩) (by omega) (fun z hz P' q => ?_) (fun z hz => by simp)) ((any_of _ _).trans ?_) trivial) _ ⟨by simp, ?_⟩
    · refine ⟨_, rfl, _, rfl, _, rfl, ⟨rfl, strs_flat _⟩, ?_⟩
      simp only [Bool.false_eq_true, if_false]
      rw [any_str']
      exact q
    · rw [ws_anyin]
    · show PyData.tuple _ = PyData.tuple _
      unfold dueB
      rw [he]
      rfl
theorem ok_due_targets (T : Txt K mg) (C_due_words : Cal P w K mg base 2 "due_words" ["hall", "entry"] (spD K gDue)) : Cal P w K mg base 3 "due_targets" ["hall", "one"] (spD K gDueT) := by
  obtain ⟨f, fd, F, hm⟩ := T.f_due_targets
  refine okD F sc_due_targets hm (F.bindsN fun _ _ _ _ _ _ us hl => match us, hl with | [_, _], _ => rfl) ?_ (by decide) (fun cdv A outer s H E hr => ?_)
  · rintro ds d ⟨h, n, rfl, _⟩
    rfl
  have hu := hr.units
  refine ⟨_, (dss_1 (ds_ret (de_lc1 (m := pureM) [("entry", 2)] rfl sc_due_targets.nd (di_t (de_ix ix_seq od_ix (de_v 1) de_i (fun _ _ => rfl))) (blkOk_by (N := ["hall", "one", "entry"]) (sc := defScope s_due_targets) (by decide +kernel)) (by intro p hp; cases hp) (by decide) (fun _ _ _ _ _ => (dg_n 2 sc_due_targets.nd (by intro p hp; cases hp))) (fun _ _ _ _ _ => (dt_v (de_ix ix_seq od_ix (de_call C_due_words hr (by decide) (da_c (de_v 0) (da_c (de_v 2) da_n))) de_i (fun _ _ => rfl)))) (fun _ _ _ _ _ => (de_ix ix_seq od_ix (de_ix ix_seq od_ix (de_v 2) de_i (fun _ _ => rfl)) de_i (fun _ _ => rfl)))))), ?_⟩
  rintro ds d ⟨h, s, rfl, few, hs, rfl⟩
  refine g_filtF s.es Entry.d (fun e => .str e.i.target) (fun e => dueB h e) (fun A q => ⟨_, rfl, _, rfl, trivial, _, rfl, q⟩) (by omega) (fun e he P' P2 h1 h2 => ?_) (fun z hz _ => by simp) _ ?_
  · refine ⟨_, rfl, _, rfl, _, ⟨h, e, rfl, few, rfl⟩, _, rfl, trivial, _, rfl, ite_b (fun z => ⟨_, rfl, _, rfl, trivial, _, rfl, trivial, h1 z⟩) h2⟩
  · show PyData.list _ = PyData.list _
    unfold dueT
    rw [List.map_map]
    rfl
end
end K45
/-! KB11 -/
set_option Elab.async false
set_option linter.all false
set_option maxRecDepth 100000
set_option maxHeartbeats 4000000
/-! readings with addresses: lists that are written -/
namespace K45
open PySem PySem.Spec PyProof.Rows L2
section
variable {X : Cx}
theorem ps_ex {ι : Sort _} {st : Stmt} {t : ι → TS} (h : ∀ i, PS X st (t i)) : PS X st (fun D σ H => ∃ i, t i D σ H) := ⟨fun pins s σ H D I ⟨i, q⟩ => (h i).run pins s σ H D I q⟩
theorem pss_ex {ι : Sort _} {st : List Stmt} {t : ι → TS} (h : ∀ i, PSs X st (t i)) : PSs X st (fun D σ H => ∃ i, t i D σ H) := ⟨fun pins s σ H D I ⟨i, q⟩ => (h i).run pins s σ H D I q⟩
theorem pe_ex {ι : Sort _} {e : Expr} {t : ι → TE} (h : ∀ i, PE X e (t i)) : PE X e (fun σ H Q => ∃ i, t i σ H Q) := ⟨fun pins s σ H Q I ⟨i, q⟩ => (h i).run pins s σ H Q I q⟩
theorem pt_ex {ι : Sort _} {e : Expr} {t : ι → TT} (h : ∀ i, PT X e (t i)) : PT X e (fun σ H Q => ∃ i, t i σ H Q) := ⟨fun pins s σ H Q I ⟨i, q⟩ => (h i).run pins s σ H Q I q⟩
theorem pg_ex {ι : Sort _} {e : Expr} {t : ι → TG} (h : ∀ i, PG X e (t i)) : PG X e (fun v σ H Q => ∃ i, t i v σ H Q) := ⟨fun pins s σ H v u Q I r ⟨i, q⟩ => (h i).run pins s σ H v u Q I r q⟩
theorem pi_ex {ι : Sort _} {tg e : Expr} {t : ι → TI} (h : ∀ i, PI X tg e (t i)) : PI X tg e (fun σ H R => ∃ i, t i σ H R) := ⟨fun pins s σ H R I ⟨i, q⟩ => (h i).run pins s σ H R I q⟩
end
section
variable {P : Program} {w : World} {K : PySem.W.Frag} {mg : Str → Option Value} {base : Heap}
/-- a def of data by any reading -/
theorem okT {x : Str} {st : Stmt} {N ps : List Str} {k : Nat} {g : List PyData → PyData → Prop} {f : Addr} {fd : FuncData} (F : FnP K x st f fd) (S : FnScope N ps (defScope st)) (hm : mg x = some (.ref f)) (hb : Binds K fd ps []) (hl : ∀ ds d, g ds d → ds.length = ps.length)
    (W : ∀ (cdv : Value) (A : Around) (outer : List Env) (s : Shared) (H : Hp) (E : XK), Room k (A.deeper (envOfC x (defScope st) s.heap.objs.size f cdv)) →
      ∃ t, PSs (cxOf CX0 P w K mg base N x (defScope st) f cdv A outer s H E).nox (defBody st) t ∧ ∀ (vs : List V) (ds : List PyData) (d : PyData) (H0 : Hp) (Q : VK), DqA K H0 vs ds → g ds d → (∀ v H', Ex H0 H' → Dq K H' v d → Q v H') → t { nx := fun _ H' => Q .non H', rt := Q } (start N vs) H0) : Cal P w K mg base (k + 1) x ps (spD K g) := by
  refine ⟨f, fd, F.ok S (fun vs H Q E h => ?_) (fun cdv A outer s H vs Q E hr h => ?_), hm, F.kp, hb⟩
  · obtain ⟨ds, d, h1, h2, _⟩ := h
    rw [da_len h1]
    exact hl ds d h2
  · obtain ⟨ds, d, h1, h2, kk⟩ := h
    obtain ⟨t, ht, hR⟩ := W cdv A outer s H E hr
    exact ⟨t, ht.nox, hR vs ds d H Q h1 h2 kk⟩
end
/-- slots that hold an address fast -/
def mK (kp : List (Nat × V)) : Md where
  out := []
  keep := kp
  S := fun _ _ => True
  sx := fun _ _ _ _ h => h
  sd := fun _ _ b _ h => absurd h (by simp)
  su := fun _ _ _ _ _ _ _ _ _ _ _ => trivial
theorem Xt.mk {kp : List (Nat × V)} {H H' : Hp} (x : Xt (mK kp) H H') : Ex H H' := fun b o h => x b o (by simp [mK]) (by simp [mK]) h
/-- numbers and pairs of a tuple, walked -/
theorem walk_en {K : PySem.W.Frag} {a : Addr} {xs : List V} : Walk (ItEn K a) xs.length (fun H => SqT K H a xs) (fun i H v H' => ∃ T x, v = .ref T ∧ H T = none ∧ H' = upd H T (.tup [.int (i : Nat), x]) ∧ xs[i]? = some x) where
  goes := fun i H hi h => ⟨xs, xs[i], h, List.getElem?_eq_getElem hi⟩
  stops := fun H h => ⟨xs, h, Nat.le_refl _⟩
  yields := fun i H v H' hi h ⟨T, x, e1, e2, e3, k⟩ => ⟨T, x, e1, e2, e3, k xs h⟩
theorem seq_i {t u : TS} {D : Ends} {σ : L2.St} {H : Hp} (h : t { D with nx := u D } σ H) : tSeq t u D σ H := h
theorem for_en {K : PySem.W.Frag} {ta : TA} {g : TG} {tb : TS} {D : Ends} {σ : L2.St} {H : Hp} {a : Addr} {xs : List V} (src : ∀ Q : List V → Hp → Prop, Q [.ref a] H → ta σ H Q) (Pv : Nat → L2.St → Hp → Prop) (h0 : Pv 0 σ H) (hG : ∀ i σ H, Pv i σ H → SqT K H a xs)
    (step : ∀ i x T σ H, xs[i]? = some x → H T = none → Pv i σ H → g (.ref T) σ (upd H T (.tup [.int (i : Nat), x])) fun σ2 H2 => tb { D with nx := Pv (i + 1), ct := Pv (i + 1), bk := D.nx } σ2 H2) (fin : ∀ σ H, Pv xs.length σ H → D.nx σ H) : tFor (iEn K ta) g tb D σ H :=
  src _ ⟨a, xs, rfl, hG 0 σ H h0, for_it walk_en Pv h0 (fun i σ H _ => hG i σ H) (fun i v σ H H' hi p y => by
    obtain ⟨T, x, rfl, hT, rfl, hx⟩ := y
    exact step i x T σ H hx hT p) fin⟩
theorem meet1 {K : PySem.W.Frag} {kp : List (Nat × V)} {D : Ends} {H : Hp} {r : Rv} (h : ∀ σ' H' n', Ex H H' → Rst K (mK kp) σ' H' r n' → D.nx σ' H') : Meets K (mK kp) { nx := fun r' _ => r' = r, rt := fun _ _ => False } D H :=
  ⟨fun σ' H' r' n' x R e => by
    have e : r' = r := e
    subst e
    exact h σ' H' n' (fun b o q => x b o (by simp [mK]) (by simp [mK]) q) R, fun _ _ _ _ _ _ _ z => z.elim, fun _ _ _ _ _ _ z => z.elim, fun _ _ _ _ _ _ z => z.elim⟩
/-- xs.append(e) -/
theorem app_i {K : PySem.W.Frag} {te : TE} {D : Ends} {σ : L2.St} {H : Hp} {a : Addr} {i : Nat} {xs : List V} (hs : σ[i]? = some (some (.ref a))) (ha : H a = some (.lst xs)) (hl : xs.length < 100000) (d : PyData) (he : ∀ Q : VK, (∀ v H', Ex H H' → Dq K H' v d → Q v H') → te σ H Q)
    (k : ∀ v H', Ex H H' → Dq K H' v d → D.nx σ (upd H' a (.lst (xs ++ [v])))) : tDrop (tBM K "list" rAppend (tVar i) (tCons te tNil)) D σ H :=
  ⟨_, hs, .inl ⟨rfl, xs, SqL.of ha⟩, he _ fun v H' x hd => ⟨a, xs, v, rfl, rfl, x _ _ ha, Evl.sz_lt hl, k v H' x hd⟩⟩
theorem upd_again {H : Hp} {a : Addr} {o : HO} (h : H a = some o) : upd H a o = H := funext fun b => by
  by_cases q : b = a
  · subst q
    rw [upd_same, h]
  · rw [upd_ne q]
/-- xs.extend([]) of an empty list -/
theorem ext0_i {K : PySem.W.Frag} {te : TE} {D : Ends} {σ : L2.St} {H : Hp} {a : Addr} {i : Nat} (hs : σ[i]? = some (some (.ref a))) (ha : H a = some (.lst [])) (he : ∀ Q : VK, (∀ v H', Ex H H' → Dq K H' v (.list []) → Q v H') → te σ H Q)
    (k : ∀ H', Ex H H' → D.nx σ H') : tDrop (tBM K "list" rExtend (tVar i) (tCons te tNil)) D σ H :=
  ⟨_, hs, .inl ⟨rfl, [], SqL.of ha⟩, he _ fun v H' x hd => by
    cases hd with
    | @lst b ys _ hb hn =>
      cases hn
      refine ⟨a, b, [], [], rfl, rfl, x _ _ ha, hb, Nat.zero_le _, ?_⟩
      show D.nx σ (upd H' a (.lst []))
      rw [upd_again (x _ _ ha)]
      exact k H' x⟩
theorem str_of {K : PySem.W.Frag} {H : Hp} {v : V} {z : Str} (h : Dq K H v (.str z)) : v = .str z := by
  cases h
  rfl
/-- an expression's data in a mode of slots held fast -/
theorem tw_mk {K : PySem.W.Frag} {kp : List (Nat × V)} {W : WE} {σ : L2.St} {H : Hp} {r : Rv} {n : Nat} {d : PyData} {Q : VK} (R : Rst K (mK kp) σ H r n) (w : Gives W r n d) (k : ∀ v H', Ex H H' → Dq K H' v d → Q v H') : tW K (mK kp) W σ H Q :=
  ⟨r, n, fun d' _ => d' = d, R, w _ rfl, fun v H' d' n' x _ hd e => by
    have e : d' = d := e
    subst e
    exact k v H' x.mk hd⟩
theorem ex_upd {H0 H : Hp} {a : Addr} {o : HO} (e : Ex H0 H) (h : H0 a = none) : Ex H0 (upd H a o) := fun b u hb => by
  rw [upd_ne (ne_of_none hb h)]
  exact e b u hb
end K45
/-! KC1 -/
set_option Elab.async false
set_option linter.all false
set_option maxRecDepth 100000
set_option maxHeartbeats 2000000
namespace K45
open PySem PySem.Spec PyProof.Rows L2
def gForms (ds : List PyData) (d : PyData) : Prop := ∃ h : Hall, ds = [.tuple (h.pipes.map Pipe.d), .tuple (h.sets.map SetD.d)] ∧ h.Few ∧ (∀ p ∈ h.pipes, p.Ok) ∧ (∀ s ∈ h.sets, s.Ok) ∧ (h.pipes.map Pipe.name ++ h.sets.map SetD.name).Nodup ∧ d = .list ((h.pipes.map Pipe.name ++ h.sets.map SetD.name).map .str)
abbrev kp4 (ap as a b : Addr) : List (Nat × V) := [(0, .ref ap), (1, .ref as), (2, .ref a), (3, .ref b)]
abbrev r6 (h : Hall) (ns : List Str) (x y : Option PyData) : Rv := [some (.tuple (h.pipes.map Pipe.d)), some (.tuple (h.sets.map SetD.d)), some (.list (ns.map .str)), some (.list []), x, y]
abbrev A4 := Addr × Addr × Addr × Addr
abbrev mK4 (q : A4) : Md := mK (kp4 q.1 q.2.1 q.2.2.1 q.2.2.2)
theorem mK4_ne {q : A4} {i : Nat} (h : 4 ≤ i) : ∀ p ∈ (mK4 q).keep, p.1 ≠ i := fun p hp => by
  have hp : p ∈ kp4 q.1 q.2.1 q.2.2.1 q.2.2.2 := hp
  simp only [kp4, List.mem_cons, List.not_mem_nil, or_false] at hp
  rcases hp with rfl | rfl | rfl | rfl <;> simp <;> omega
structure HF (H0 : Hp) (ap as a b : Addr) (ns : List Str) (σ : L2.St) (H : Hp) : Prop where
  len : σ.length = 6
  kp : ∀ p ∈ kp4 ap as a b, σ[p.1]? = some (some p.2)
  ha : H a = some (.lst (ns.map V.str))
  hb : H b = some (.lst [])
  ab : a ≠ b
  fa : H0 a = none
  fb : H0 b = none
  ex : Ex H0 H
theorem HF.rst {K : PySem.W.Frag} {H0 H : Hp} {ap as a b : Addr} {ns : List Str} {σ : L2.St} {d0 d1 : PyData} (h : HF H0 ap as a b ns σ H) (h0 : Dq K H0 (.ref ap) d0) (h1 : Dq K H0 (.ref as) d1) :
    Rst K (mK (kp4 ap as a b)) σ H [some d0, some d1, some (.list (ns.map .str)), some (.list []), none, none] 0 := by
  refine ⟨fun i d e => ?_, h.len, h.kp, trivial⟩
  match i, e with
  | 0, e =>
    cases Option.some.inj (Option.some.inj e)
    exact ⟨_, h.kp (0, .ref ap) (by simp), dp_ex h.ex h0⟩
  | 1, e =>
    cases Option.some.inj (Option.some.inj e)
    exact ⟨_, h.kp (1, .ref as) (by simp), dp_ex h.ex h1⟩
  | 2, e =>
    cases Option.some.inj (Option.some.inj e)
    exact ⟨_, h.kp (2, .ref a) (by simp), .lst h.ha (strs_da ns)⟩
  | 3, e =>
    cases Option.some.inj (Option.some.inj e)
    exact ⟨_, h.kp (3, .ref b) (by simp), .lst h.hb .nil⟩
  | 4, e => cases Option.some.inj e
  | 5, e => cases Option.some.inj e
  | i + 6, e => cases e
theorem HF.go {K : PySem.W.Frag} {H0 H H' : Hp} {ap as a b : Addr} {ns : List Str} {σ σ' : L2.St} {r : Rv} {n : Nat} (h : HF H0 ap as a b ns σ H) (x : Ex H H') (R : Rst K (mK (kp4 ap as a b)) σ' H' r n) (hr : r.length = 6) : HF H0 ap as a b ns σ' H' :=
  ⟨R.len.trans hr, R.kp, x _ _ h.ha, x _ _ h.hb, h.ab, h.fa, h.fb, h.ex.trans x⟩
theorem HF.put {H0 H : Hp} {ap as a b : Addr} {ns : List Str} {σ : L2.St} {z : Str} (h : HF H0 ap as a b ns σ H) : HF H0 ap as a b (ns ++ [z]) σ (upd H a (.lst (ns.map V.str ++ [.str z]))) :=
  ⟨h.len, h.kp, by rw [upd_same, List.map_append]; rfl, by rw [upd_ne (Ne.symm h.ab)]; exact h.hb, h.ab, h.fa, h.fb, ex_upd h.ex h.fa⟩
theorem ws_tup (w : Ws) : tupD w.d = true := by
  unfold Ws.d
  simp
theorem entry_tup (e : Entry) : tupD e.d = true := by
  unfold Entry.d Interest.d
  simp [ws_tup]
theorem set_tup (t : SetD) : tupD t.d = true := by
  unfold SetD.d
  simp [entry_tup]
theorem new_name {l : List Str} (nd : l.Nodup) {i : Nat} {x : Str} (h : l[i]? = some x) : x ∉ l.take i := take_not nd h
section
variable {P : Program} {w : World} {K : PySem.W.Frag} {mg : Str → Option Value} {base : Heap}
theorem ok_has_forms (T : Txt K mg) (C_is_pipe : Cal P w K mg base 2 "is_pipe" ["thing"] (spD K gPipe)) (C_is_set : Cal P w K mg base 5 "is_set" ["thing"] (spD K gSet)) (C_waiting_at : Cal P w K mg base 1 "waiting_at" ["one"] (spD K gWaitAt)) : Cal P w K mg base 6 "has_forms" ["pipes", "sets"] (spD K gForms) := by
  obtain ⟨f, fd, F, hm⟩ := T.f_has_forms
  refine okT F sc_has_forms hm (F.bindsN fun _ _ _ _ _ _ us hl => match us, hl with | [_, _], _ => rfl) ?_ (fun cdv A outer s H E hr => ?_)
  · rintro ds d ⟨h, rfl, _⟩
    rfl
  have hu := hr.units
  have nd := sc_has_forms.nd
  refine ⟨_, pss_cons (ps_par (i := 2) (j := 3) rfl nd rfl rfl (by decide) rfl rfl (pa_cons (pe_lst pa_nil) (pa_cons (pe_lst pa_nil) pa_nil)) rfl)
    (pss_cons (ps_for PassesOwn.never rfl (pi_en rfl T.n_enumerate (pa_cons (pe_var (i := 0) rfl (Or.inl rfl) (by decide) (by decide)) pa_nil)) (pg_ex fun q : A4 => dg_t (m := mK4 q) (n := 2) rfl (dgs_c (dg_n 4 nd (mK4_ne (by decide))) (dgs_c (dg_n 5 nd (mK4_ne (by decide))) dgs_n)))
      (pss_cons (ps_ex fun kp : A4 => (ds_if (m := mK4 kp) (L2.PW.pt (dw_or (dt_not (dt_v (de_call C_is_pipe hr (by decide) (da_c (de_v 5) da_n)))) (dw_or1 (dt_cmp op_inA (od_in false) (de_ix ix_seq od_ix (de_v 5) de_i (fun _ _ => rfl)) (de_v 2) (by rfl))))) (dss_1 ds_never) dss_n))
        (pss_one (ps_expr (pe_bm PySem.F.plainAttrs_list PySem.F.slot_list_append PySem.F.type_list_append mt_append (pe_var (i := 2) rfl (Or.inl rfl) (by decide) (by decide)) (pa_cons (pe_ex fun kp : A4 => de_ix (m := mK4 kp) ix_seq od_ix (de_v 5) de_i (fun _ _ => rfl)) pa_nil))))))
    (pss_cons (ps_for PassesOwn.never rfl (pi_en rfl T.n_enumerate (pa_cons (pe_var (i := 1) rfl (Or.inl rfl) (by decide) (by decide)) pa_nil)) (pg_ex fun q : A4 => dg_t (m := mK4 q) (n := 2) rfl (dgs_c (dg_n 4 nd (mK4_ne (by decide))) (dgs_c (dg_n 5 nd (mK4_ne (by decide))) dgs_n)))
      (pss_cons (ps_ex fun kp : A4 => (ds_if (m := mK4 kp) (L2.PW.pt (dw_or (dt_not (dt_v (de_call C_is_set hr (by decide) (da_c (de_v 5) da_n)))) (dw_or1 (dt_cmp op_inA (od_in false) (de_ix ix_seq od_ix (de_v 5) de_i (fun _ _ => rfl)) (de_v 2) (by rfl))))) (dss_1 ds_never) dss_n))
        (pss_cons (ps_expr (pe_bm PySem.F.plainAttrs_list PySem.F.slot_list_append PySem.F.type_list_append mt_append (pe_var (i := 2) rfl (Or.inl rfl) (by decide) (by decide)) (pa_cons (pe_ex fun kp : A4 => de_ix (m := mK4 kp) ix_seq od_ix (de_v 5) de_i (fun _ _ => rfl)) pa_nil)))
          (pss_cons (ps_expr (pe_bm PySem.F.plainAttrs_list PySem.F.slot_list_extend PySem.F.type_list_extend mt_extend (pe_var (i := 3) rfl (Or.inl rfl) (by decide) (by decide)) (pa_cons (pe_ex fun kp : A4 => de_call (m := mK4 kp) C_waiting_at hr (by decide) (da_c (de_v 5) da_n)) pa_nil)))
            (pss_one (ps_ex fun kp : A4 => (ds_if (m := mK4 kp) (L2.PW.pt (dw_or (dt_cmp op_lt od_lt (de_ls rfl T.n_len T.n_set (de_v 3)) (de_cb call_len cd_len T.n_len (by decide +kernel) (da_c (de_v 3) da_n)) (nomark _)) (dw_or1 (dt_cmp op_gt od_gt (de_cb call_len cd_len T.n_len (by decide +kernel) (da_c (de_v 3) da_n)) (de_k T.k_MOST_WAITERS) (nomark _))))) (dss_1 ds_never) dss_n)))))))
      (pss_one (ps_ret (pe_var (i := 2) rfl (Or.inl rfl) (by decide) (by decide)))))), ?_⟩
  rintro vs ds d H0 Q hv ⟨h, rfl, few, okp, oks, hnd, rfl⟩ kk
  cases hv with
  | @cons v0 _ _ _ h0 hv =>
  cases hv with
  | @cons v1 _ _ _ h1 hv =>
  cases hv
  have d0 := h0
  have d1 := h1
  cases h0 with
  | @tup ap xp _ tp dp =>
  cases h1 with
  | @tup as xs _ ts dsx =>
  refine ⟨Nat.zero_le _, fun a ha => ⟨Nat.zero_le _, fun b hb => ⟨_, _, rfl, ?_⟩⟩⟩
  have ab : a ≠ b := fun z => by
    rw [← z, upd_same] at hb
    cases hb
  have hb0 : H0 b = none := by rwa [upd_ne (Ne.symm ab)] at hb
  have st0 : HF H0 ap as a b [] (((start ["pipes", "sets", "names", "waiting", "number", "one"] [V.ref ap, V.ref as]).set 2 (some (.ref a))).set 3 (some (.ref b))) (upd (upd H0 a (.lst [])) b (.lst [])) :=
    ⟨rfl, fun p hp => by
      simp only [kp4, List.mem_cons, List.not_mem_nil, or_false] at hp
      rcases hp with rfl | rfl | rfl | rfl <;> rfl, by rw [upd_ne ab]; exact upd_same, upd_same, ab, ha, hb0, (Ex.new ha).trans (Ex.new hb)⟩
  dsimp only
  refine seq_i (for_en (fun Q q => ⟨_, st0.kp (0, .ref ap) (by simp), q⟩) (fun i σ H => HF H0 ap as a b ((h.pipes.take i).map Pipe.name) σ H) st0 (fun i σ H q => Evl.ex_t q.ex tp) ?_ ?_)
  · intro i x U σ1 H1 hx hU q
    obtain ⟨e, he, hd⟩ := da_get (da_ex q.ex dp) hx
    obtain ⟨p, hp, hm, rfl⟩ := map_at he
    have eU : Ex H1 (upd H1 U (.tup [.int (i : Nat), x])) := Ex.new hU
    refine ⟨(ap, as, a, b), _, 0, _, fun r' => r' = r6 h ((h.pipes.take i).map Pipe.name) (some (.int (i : Nat))) (some p.d), (q.rst d0 d1).ex eU, pair_dq hU (.int _) hd, ⟨_, rfl, rfl, _, _, rfl, _, _, rfl, rfl, rfl⟩, fun σ2 H2 r2 e2 R2 er _ => ?_⟩
    subst er
    have q2 := q.go (eU.trans e2) R2 rfl
    refine seq_i ⟨(ap, as, a, b), _, 0, { nx := fun r' _ => r' = r6 h ((h.pipes.take i).map Pipe.name) (some (.int (i : Nat))) (some p.d), rt := fun _ _ => False }, R2, ?_, meet1 fun σ3 H3 n3 x3 R3 => ?_⟩
    · refine ⟨_, rfl, .bool true, ⟨p, rfl, okp p hm, rfl⟩, true, rfl, ?_⟩
      refine iteF ?_
      refine ⟨_, rfl, _, rfl, trivial, _, rfl, _, rfl, ⟨rfl, strs_flat _⟩, false, ?_, ?_⟩
      · refine congrArg PyData.bool ?_
        simp only [Bool.false_eq_true, if_false]
        rw [any_str]
        exact decide_eq_false fun z => new_name (l := h.pipes.map Pipe.name ++ h.sets.map SetD.name) hnd (i := i) (x := p.name) (by rw [List.getElem?_append_left (by simpa using (List.getElem?_eq_some_iff.mp hp).1), List.getElem?_map, hp]; rfl) (by rw [List.take_append_of_le_length (by have := (List.getElem?_eq_some_iff.mp hp).1; simp; omega), ← List.map_take]; exact z)
      · exact iteF rfl
    · have q3 := q2.go x3 R3 rfl
      refine app_i (q3.kp (2, .ref a) (by simp)) q3.ha (by have := few.p; simp; omega) (.str p.name) (fun Q k => ⟨(ap, as, a, b), tw_mk R3 (fun A z => ⟨_, rfl, _, rfl, trivial, z⟩) k⟩) fun v H4 x4 hd4 => ?_
      rw [str_of hd4]
      have q4 := (q3.go x4 (R3.ex x4) rfl).put (z := p.name)
      rw [show ((h.pipes.take (i + 1)).map Pipe.name) = (h.pipes.take i).map Pipe.name ++ [p.name] by rw [take_succ_some hp, List.map_append]; rfl]
      exact q4
  intro σ1 H1 q
  have lp : xp.length = h.pipes.length := by rw [da_len dp, List.length_map]
  have q : HF H0 ap as a b (h.pipes.map Pipe.name ++ (h.sets.take 0).map SetD.name) σ1 H1 := by
    rw [lp, List.take_length] at q
    simpa using q
  dsimp only
  refine seq_i (for_en (fun Q z => ⟨_, q.kp (1, .ref as) (by simp), z⟩) (fun i σ H => HF H0 ap as a b (h.pipes.map Pipe.name ++ (h.sets.take i).map SetD.name) σ H) q (fun i σ H z => Evl.ex_t z.ex ts) ?_ ?_)
  · intro i x U σ1 H1 hx hU q
    obtain ⟨e, he, hd⟩ := da_get (da_ex q.ex dsx) hx
    obtain ⟨t, ht, hm, rfl⟩ := map_at he
    have eU : Ex H1 (upd H1 U (.tup [.int (i : Nat), x])) := Ex.new hU
    have lt := (List.getElem?_eq_some_iff.mp ht).1
    have fl : (h.pipes.map Pipe.name ++ (h.sets.take i).map SetD.name).length < 100000 := by
      have h1 := few.p
      have h2 := few.s
      simp
      omega
    refine ⟨(ap, as, a, b), _, 0, _, fun r' => r' = r6 h (h.pipes.map Pipe.name ++ (h.sets.take i).map SetD.name) (some (.int (i : Nat))) (some t.d), (q.rst d0 d1).ex eU, pair_dq hU (.int _) hd, ⟨_, rfl, rfl, _, _, rfl, _, _, rfl, rfl, rfl⟩, fun σ2 H2 r2 e2 R2 er _ => ?_⟩
    subst er
    have q2 := q.go (eU.trans e2) R2 rfl
    refine seq_i ⟨(ap, as, a, b), _, 0, { nx := fun r' _ => r' = r6 h (h.pipes.map Pipe.name ++ (h.sets.take i).map SetD.name) (some (.int (i : Nat))) (some t.d), rt := fun _ _ => False }, R2, ?_, meet1 fun σ3 H3 n3 x3 R3 => ?_⟩
    · refine ⟨_, rfl, .bool true, ⟨t, rfl, oks t hm, rfl⟩, true, rfl, ?_⟩
      refine iteF ?_
      refine ⟨_, rfl, _, rfl, trivial, _, rfl, _, rfl, ⟨rfl, strs_flat _⟩, false, ?_, ?_⟩
      · refine congrArg PyData.bool ?_
        simp only [Bool.false_eq_true, if_false]
        rw [any_str]
        exact decide_eq_false fun z => new_name (l := h.pipes.map Pipe.name ++ h.sets.map SetD.name) hnd (i := h.pipes.length + i) (x := t.name) (by rw [List.getElem?_append_right (by simp), List.length_map, Nat.add_sub_cancel_left, List.getElem?_map, ht]; rfl)
          (by rw [List.take_append, List.length_map, Nat.add_sub_cancel_left, List.take_of_length_le (by simp), ← List.map_take]; exact z)
      · exact iteF rfl
    · have q3 := q2.go x3 R3 rfl
      refine seq_i (app_i (q3.kp (2, .ref a) (by simp)) q3.ha (by rw [List.length_map]; exact fl) (.str t.name) (fun Q k => ⟨(ap, as, a, b), tw_mk R3 (fun A z => ⟨_, rfl, _, rfl, trivial, z⟩) k⟩) fun v H4 x4 hd4 => ?_)
      rw [str_of hd4]
      have q4 := (q3.go x4 (R3.ex x4) rfl).put (z := t.name)
      have R4 : Rst K (mK (kp4 ap as a b)) σ3 (upd H4 a (.lst ((h.pipes.map Pipe.name ++ (h.sets.take i).map SetD.name).map V.str ++ [.str t.name]))) (r6 h ((h.pipes.map Pipe.name ++ (h.sets.take i).map SetD.name) ++ [t.name]) (some (.int (i : Nat))) (some t.d)) 0 := by
        refine ⟨fun j d e => ?_, R3.len, R3.kp, trivial⟩
        match j, e with
        | 0, e => exact (q4.rst d0 d1).dat 0 d e
        | 1, e => exact (q4.rst d0 d1).dat 1 d e
        | 2, e => exact (q4.rst d0 d1).dat 2 d e
        | 3, e => exact (q4.rst d0 d1).dat 3 d e
        | 4, e =>
          cases Option.some.inj (Option.some.inj e)
          obtain ⟨v, e1, h1⟩ := R3.dat 4 _ rfl
          exact ⟨v, e1, dq_upd (x4 _ _ q3.ha) (by simp) (dp_ex x4 h1)⟩
        | 5, e =>
          cases Option.some.inj (Option.some.inj e)
          obtain ⟨v, e1, h1⟩ := R3.dat 5 _ rfl
          exact ⟨v, e1, dq_upd (x4 _ _ q3.ha) (set_tup t) (dp_ex x4 h1)⟩
        | j + 6, e => cases e
      refine seq_i (ext0_i (q4.kp (3, .ref b) (by simp)) q4.hb (fun Q k => ⟨(ap, as, a, b), tw_mk R4 (fun A z => ⟨_, rfl, _, ⟨t, rfl, rfl⟩, z⟩) k⟩) fun H5 x5 => ?_)
      have R5 := R4.ex x5
      have q5 := q4.go x5 R5 rfl
      refine ⟨(ap, as, a, b), _, 0, { nx := fun r' _ => r' = r6 h ((h.pipes.map Pipe.name ++ (h.sets.take i).map SetD.name) ++ [t.name]) (some (.int (i : Nat))) (some t.d), rt := fun _ _ => False }, R5, ?_, meet1 fun σ6 H6 n6 x6 R6 => ?_⟩
      · refine ⟨_, rfl, [], .inl rfl, by simp, by simp, _, rfl, _, rfl, trivial, _, rfl, trivial, false, rfl, ?_⟩
        exact iteF ⟨_, rfl, _, rfl, trivial, _, rfl, trivial, false, rfl, iteF rfl⟩
      · have q6 := q5.go x6 R6 rfl
        show HF H0 ap as a b (h.pipes.map Pipe.name ++ (h.sets.take (i + 1)).map SetD.name) σ6 H6
        rw [take_succ_some ht, List.map_append, ← List.append_assoc]
        exact q6
  · intro σ1 H1 q
    have ls : xs.length = h.sets.length := by rw [da_len dsx, List.length_map]
    rw [ls, List.take_length] at q
    exact ⟨_, q.kp (2, .ref a) (by simp), kk _ H1 q.ex (.lst q.ha (strs_da _))⟩
end
end K45
/-! KB12 -/
set_option Elab.async false
set_option linter.all false
set_option maxRecDepth 100000
set_option maxHeartbeats 4000000
/-! name = {.. for ..}, on one line -/
namespace K45
open PySem PySem.Spec PyProof.Rows L2
section
variable {X : Cx}
theorem swd_true {kx vx : Expr} {gs : List Comprehension} {scope : Scope} {pos py : Pos} {y : Str} {l : Nat} {env : Env} (hk : env.scope.kind = .function) (hy : env.scope.names.lookup y = some .local) (hl : (py.line == pos.line) = true)
    (ha : (scope.names.any fun (n, k) => n == y && (k == .local || k == .cell)) = false) : swapsWith (.DictComp kx vx gs scope pos) (some (.Name y py)) l env = pure true := by
  have ky : env.kindOf y = some .local := hy
  have hb : env.blockKind = .function := by
    unfold Env.blockKind
    rw [hk]
    rfl
  unfold swapsWith
  simp only [hb, ky, ha, Expr.pos, hl]
  rfl
theorem ps_setDc {i : Nat} {y : Str} {py : Pos} {kx vx tg iter : Expr} {ifs : List Expr} {scope : Scope} {own : List (Str × Nat)} {pos spos : Pos} {wi : TI} {g : TG} {tt : TT} {tk tv : TE} (hc : X.calm = true) (hN : X.N.Nodup) (hy : X.N[i]? = some y) (hyl : X.env.scope.names.lookup y = some .local)
    (hsw : swapsWith (.DictComp kx vx [⟨tg, iter, ifs, 0⟩] scope pos) (some (.Name y py)) spos.line X.env = pure true) (hi : PI X tg iter wi) (ok : BlkOk X.N X.env.scope scope own)
    (hg : ∀ (s : Shared) (H : Hp) (C : Addr) (cl : List (Str × Addr)) (fp : List Addr), PG (X.blk s H scope (compEnvC scope cl C X.env) fp) tg g) (ht : ∀ (s : Shared) (H : Hp) (C : Addr) (cl : List (Str × Addr)) (fp : List Addr), PTs (X.blk s H scope (compEnvC scope cl C X.env) fp) ifs tt)
    (hk : ∀ (s : Shared) (H : Hp) (C : Addr) (cl : List (Str × Addr)) (fp : List Addr), PE (X.blk s H scope (compEnvC scope cl C X.env) fp) kx tk) (he : ∀ (s : Shared) (H : Hp) (C : Addr) (cl : List (Str × Addr)) (fp : List Addr), PE (X.blk s H scope (compEnvC scope cl C X.env) fp) vx tv)
    (hs : ∀ x, foldedSetIterable iter X.env x = pure x := by intro _; rfl) : PS X (.Assign [.Name y py] (.DictComp kx vx [⟨tg, iter, ifs, 0⟩] scope pos) spos) (tAsg (tDc wi g tt tk tv (own.map (·.2))) (L2.gName i)) := by
  refine ⟨fun pins s σ H D I h => ?_⟩
  rw [exec_Assign_Name_used _ _ _ _ hsw]
  refine wpAny_bind (wpAny_standAt (wpAny_bind ?_))
  show wpAny _ X.A (do let _ ← comprehension (.DictComp kx vx [⟨tg, iter, ifs, 0⟩] scope pos) scope X.env (firstIterPos [⟨tg, iter, ifs, 0⟩] pos) newDict false (eval iter X.env) (some (assign (.Name y py) X.env))) _ _ s
  have h : tDc wi g tt tk tv (own.map (·.2)) σ H (fun x H1 => L2.gName i x σ H1 D.nx) := h
  refine wpAny_bind (thn (dc_core (Qf := fun _ s' => SP X pins D .next s') hc hN I hi ok hg ht hk he hs h fun L C s' m H' I' q hn f => ?_) fun _ s' hq => wpAny_pure (wpAny_pure hq))
  show wpAny _ _ (assign (.Name y py) X.env (.ref L)) _ _ _
  obtain ⟨f0, f1, f2, f3, f4, f5⟩ := f
  refine wpAny_assign_Name (store_ok2 (v := V.ref L) I' hN hy (.inl hyl) rfl (fun s2 I2 ⟨a, sb, ha⟩ => ?_) (.inr hyl))
  have apart : C ≠ a := by
    rcases ha with z | z
    · rw [z]
      exact f1
    · exact fun e => f4 y a z e.symm
  exact ⟨m, hn.sameBut sb apart, fun h3 sb3 => ⟨_, H', I2.turned (t' := s2.toks) (fun b o hb e => (sb3.2 b hb).trans e) f0 f1 f3 f4 f5, q⟩⟩
theorem ds_dc (m : Md) (own : List (Str × Nat)) (i : Nat) {y : Str} {py pos spos : Pos} {kx vx tg iter : Expr} {scope : Scope} {wi : TI} {sl : List Nat} {Wg : WG} {Wk We : WE} (hc : X.calm = true) (hN : X.N.Nodup) (hsw : swapsWith (.DictComp kx vx [⟨tg, iter, [], 0⟩] scope pos) (some (.Name y py)) spos.line X.env = pure true) (hi : PI X tg iter wi) (ok : BlkOk X.N X.env.scope scope own)
    (hg : ∀ (s : Shared) (H : Hp) (C : Addr) (cl : List (Str × Addr)) (fp : List Addr), DG (X.blk s H scope (compEnvC scope cl C X.env) fp) m tg sl Wg)
    (hk : ∀ (s : Shared) (H : Hp) (C : Addr) (cl : List (Str × Addr)) (fp : List Addr), DE (X.blk s H scope (compEnvC scope cl C X.env) fp) m kx Wk)
    (he : ∀ (s : Shared) (H : Hp) (C : Addr) (cl : List (Str × Addr)) (fp : List Addr), DE (X.blk s H scope (compEnvC scope cl C X.env) fp) m vx We) (hy : X.N[i]? = some y := by rfl) (hyl : X.env.scope.names.lookup y = some .local := by rfl) (hs : ∀ x, foldedSetIterable iter X.env x = pure x := by intro _; rfl) :
    PS X (.Assign [.Name y py] (.DictComp kx vx [⟨tg, iter, [], 0⟩] scope pos) spos) (tAsg (tDc wi (tWG X.K m sl Wg) tYes (tW X.K m Wk) (tW X.K m We) (own.map (·.2))) (L2.gName i)) :=
  ps_setDc hc hN hy hyl hsw hi ok hg (fun _ _ _ _ _ => pts_nil) hk he hs
end
end K45
/-! KC2 -/
set_option Elab.async false
set_option linter.all false
set_option maxRecDepth 100000
set_option maxHeartbeats 4000000
namespace K45
open PySem PySem.Spec PyProof.Rows L2
/-- a def of data by what is asked and what is told -/
def spR (K : PySem.W.Frag) (pre : List PyData → Prop) (post : List PyData → PyData → Prop) : Sp := fun vs H Q _ => ∃ ds, DqA K H vs ds ∧ pre ds ∧ ∀ v H' d, Ex H H' → Dq K H' v d → post ds d → Q v H'
section
variable {P : Program} {w : World} {K : PySem.W.Frag} {mg : Str → Option Value} {base : Heap}
theorem okR {x : Str} {st : Stmt} {N ps : List Str} {k : Nat} {pre : List PyData → Prop} {post : List PyData → PyData → Prop} {f : Addr} {fd : FuncData} (F : FnP K x st f fd) (S : FnScope N ps (defScope st)) (hm : mg x = some (.ref f)) (hb : Binds K fd ps []) (hl : ∀ ds, pre ds → ds.length = ps.length)
    (W : ∀ (cdv : Value) (A : Around) (outer : List Env) (s : Shared) (H : Hp) (E : XK), Room k (A.deeper (envOfC x (defScope st) s.heap.objs.size f cdv)) →
      ∃ t, PSs (cxOf CX0 P w K mg base N x (defScope st) f cdv A outer s H E).nox (defBody st) t ∧ ∀ (vs : List V) (ds : List PyData) (H0 : Hp) (Q : VK), DqA K H0 vs ds → pre ds → (∀ v H' d, Ex H0 H' → Dq K H' v d → post ds d → Q v H') → t { nx := fun _ H' => Q .non H', rt := Q } (start N vs) H0) : Cal P w K mg base (k + 1) x ps (spR K pre post) := by
  refine ⟨f, fd, F.ok S (fun vs H Q E h => ?_) (fun cdv A outer s H vs Q E hr h => ?_), hm, F.kp, hb⟩
  · obtain ⟨ds, h1, h2, _⟩ := h
    rw [da_len h1]
    exact hl ds h2
  · obtain ⟨ds, h1, h2, kk⟩ := h
    obtain ⟨t, ht, hR⟩ := W cdv A outer s H E hr
    exact ⟨t, ht.nox, hR vs ds H Q h1 h2 kk⟩
end
section
variable {X : Cx} {m : Md} {e : Expr} {es : List Expr} {As : WA} {pos p : Pos} {x : Str} {ps : List Str} {k j : Nat}
@[simp] def wCallR (pre : List PyData → Prop) (post : List PyData → PyData → Prop) (As : WA) : WE := fun r n P => As r n fun ds n1 => pre ds ∧ ∀ d, post ds d → P d n1
theorem de_callR {pre : List PyData → Prop} {post : List PyData → PyData → Prop} (C : Cal X.prog X.w X.K X.mg X.base k x ps (spR X.K pre post)) (hr : Room j X.A) (hk : k ≤ j) (ha : DA X m (e :: es) As) (hg : Gl X x := by rfl) (hdb : (x == ("__debug__" : Str)) = false := by decide)
    (he : starEach (e :: es) X.env = (false, eval e X.env) :: starEach es X.env := by rfl) (hpl : (backTo pos (starEach es X.env)).any (·.1) = false := by rfl) : DE X m (.Call (.Name x p) (e :: es) [] pos) (wCallR pre post As) := by
  obtain ⟨f, fd, F, hm, hkp, hb⟩ := C.ok
  refine pe_by (pe_call F (hr.mono hk) hg hm hkp hb .nil pass0 ha hdb he hpl) fun s H Q ⟨r, n, P, R, w, kk⟩ => ⟨r, n, _, R, w, fun vs H1 ds n1 x1 s1 h1 ⟨hp, p⟩ => ?_⟩
  show spR X.K pre post (vs ++ []) H1 Q E0
  rw [List.append_nil]
  exact ⟨ds, h1, hp, fun v H2 d e2 h2 hd => kk v H2 d n1 (x1.trans (.of e2)) (m.sx _ _ _ e2 s1) h2 (p d hd)⟩
end
/-! what lies below a set -/
def tgOf (S : List SetD) (x : Str) : List Str := match S.find? fun s => s.name == x with
  | some s => s.tg
  | none => []
structure BelowOk (S : List SetD) (nm : Str) (al : List Str) : Prop where
  few : S.length ≤ 4
  es : ∀ s ∈ S, s.es.length ≤ 6
  nd : (S.map SetD.name).Nodup
  no : nm ∉ al
  len : al.length ≤ 40
  first : ∀ x ∈ tgOf S nm, x ∈ al
  next : ∀ y ∈ al, ∀ x ∈ tgOf S y, x ∈ al
  ok : ∀ x ∈ al, NameOk x
def preBelow (ds : List PyData) : Prop := ∃ S nm al, ds = [.tuple (S.map SetD.d), .str nm] ∧ BelowOk S nm al
def postBelow (ds : List PyData) (d : PyData) : Prop := ∃ xs : List Str, d = .tuple (xs.map .str) ∧ ∀ nm, ds[1]? = some (.str nm) → nm ∉ xs
theorem BelowOk.tg6 {S : List SetD} {nm : Str} {al : List Str} (h : BelowOk S nm al) (x : Str) : (tgOf S x).length ≤ 6 := by
  unfold tgOf
  cases q : S.find? fun s => s.name == x with
  | none => simp
  | some s =>
    have := h.es s (List.mem_of_find?_eq_some q)
    simpa [SetD.tg] using this
/-- the dict of the targets, as it grows -/
structure TgD (H : Hp) (t : Addr) (S : List SetD) : Prop where
  ex : ∃ kvs : List (Key × V), H t = some (.dK kvs) ∧ kvs.length = S.length ∧ ∀ x : Str, (valV kvs (Sum.inr x) = none ∧ (∀ s ∈ S, s.name ≠ x)) ∨ ∃ c, valV kvs (Sum.inr x) = some (.ref c) ∧ H c = some (.lst ((tgOf S x).map V.str)) ∧ ∃ s ∈ S, s.name = x
theorem tgOf_snoc {S : List SetD} {s : SetD} {x : Str} (h : ∀ u ∈ S, u.name ≠ s.name) : tgOf (S ++ [s]) x = if x = s.name then s.tg else tgOf S x := by
  unfold tgOf
  rw [List.find?_append]
  by_cases e : x = s.name
  · subst e
    have q : S.find? (fun u => u.name == s.name) = none := List.find?_eq_none.mpr fun u hu => by simp [h u hu]
    rw [q]
    simp
  · rw [if_neg e]
    cases q : S.find? fun u => u.name == x with
    | some u => simp
    | none =>
      have z : (s.name == x) = false := by simpa using fun h => e h.symm
      simp [z]
theorem TgD.snoc {H : Hp} {t c : Addr} {S : List SetD} {s : SetD} (h : TgD H t S) (hn : ∀ u ∈ S, u.name ≠ s.name) (hc : H c = some (.lst (s.tg.map V.str))) : ∃ kvs : List (Key × V), H t = some (.dK kvs) ∧ kvs.length = S.length ∧ TgD (upd H t (.dK (putK kvs (Sum.inr s.name) (.ref c)))) t (S ++ [s]) := by
  obtain ⟨kvs, ht, hl, hx⟩ := h.ex
  have new : valV kvs (Sum.inr s.name) = none := by
    rcases hx s.name with ⟨a, _⟩ | ⟨c', _, _, u, hu, e⟩
    · exact a
    · exact absurd e (hn u hu)
  have ne : ∀ {c : Addr} {ys : List V}, H c = some (.lst ys) → c ≠ t := fun hc z => by
    rw [z, ht] at hc
    cases hc
  refine ⟨kvs, ht, hl, ⟨_, upd_same, by rw [putK_new _ new, List.length_append, hl, List.length_append]; rfl, fun x => ?_⟩⟩
  rw [valV_put, tgOf_snoc hn]
  by_cases e : x = s.name
  · subst e
    exact .inr ⟨c, by simp, by rw [upd_ne (ne hc), if_pos rfl]; exact hc, s, by simp, rfl⟩
  · have e2 : ¬ (Sum.inr x : Key) = Sum.inr s.name := fun z => e (Sum.inr.inj z)
    rw [if_neg e2, if_neg e]
    rcases hx x with ⟨a, b⟩ | ⟨c', a, b, u, hu, eu⟩
    · refine .inl ⟨a, fun u hu => ?_⟩
      rcases List.mem_append.mp hu with hu | hu
      · exact b u hu
      · cases List.mem_singleton.mp hu
        exact fun z => e z.symm
    · exact .inr ⟨c', a, by rw [upd_ne (ne b)]; exact b, u, List.mem_append_left _ hu, eu⟩
theorem TgD.ex' {H H' : Hp} {t : Addr} {S : List SetD} (h : TgD H t S) (e : Ex H H') : TgD H' t S := by
  obtain ⟨kvs, ht, hl, hx⟩ := h.ex
  exact ⟨kvs, e _ _ ht, hl, fun x => (hx x).imp id fun ⟨c, a, b, k⟩ => ⟨c, a, e _ _ b, k⟩⟩
end K45
/-! KC3 -/
set_option Elab.async false
set_option linter.all false
set_option maxRecDepth 100000
set_option maxHeartbeats 4000000
namespace K45
open PySem PySem.Spec PyProof.Rows L2
structure BF (Hs : Hp) (nm : Str) (t f l : Addr) (fs ls : List Str) (σ : L2.St) (H : Hp) : Prop where
  len : σ.length = 7
  kp : ∀ p ∈ ([(1, .str nm), (2, .ref t), (4, .ref f), (5, .ref l)] : List (Nat × V)), σ[p.1]? = some (some p.2)
  hf : H f = some (.dK (fs.map fun x => (Sum.inr x, V.bl true)))
  hl : H l = some (.lst (ls.map V.str))
  fl : f ≠ l
  nf : Hs f = none
  nl : Hs l = none
  ex : Ex Hs H
abbrev mB (nm : Str) (t f l : Addr) : Md := mK [(1, .str nm), (2, .ref t), (4, .ref f), (5, .ref l)]
theorem BF.rst {K : PySem.W.Frag} {Hs H : Hp} {nm : Str} {t f l : Addr} {fs ls : List Str} {σ : L2.St} (h : BF Hs nm t f l fs ls σ H) : Rst K (mB nm t f l) σ H [none, none, none, none, none, some (.list (ls.map .str)), none] 0 := by
  refine ⟨fun i d e => ?_, h.len, h.kp, trivial⟩
  match i, e with
  | 0, e => cases Option.some.inj e
  | 1, e => cases Option.some.inj e
  | 2, e => cases Option.some.inj e
  | 3, e => cases Option.some.inj e
  | 4, e => cases Option.some.inj e
  | 5, e =>
    cases Option.some.inj (Option.some.inj e)
    exact ⟨_, h.kp (5, .ref l) (by simp), .lst h.hl (strs_da ls)⟩
  | 6, e => cases Option.some.inj e
  | i + 7, e => cases e
theorem found_at (fs : List Str) (z : Str) : valV (fs.map fun x => ((Sum.inr x : Key), V.bl true)) (Sum.inr z) = if z ∈ fs then some (V.bl true) else none := by
  induction fs with
  | nil => rfl
  | cons a fs ih =>
    by_cases e : a = z
    · subst e
      rw [List.map_cons, valV_pos rfl]
      simp
    · have e2 : ¬ (Sum.inr a : Key) = Sum.inr z := fun h => e (Sum.inr.inj h)
      rw [List.map_cons, valV_neg e2, ih]
      have e3 : ¬ z = a := fun h => e h.symm
      simp [e3]
theorem BF.pop {Hs H : Hp} {nm : Str} {t f l : Addr} {fs ls : List Str} {z : Str} {σ : L2.St} {v : V} (h : BF Hs nm t f l fs (ls ++ [z]) σ H) : BF Hs nm t f l fs ls (σ.set 6 (some v)) (upd H l (.lst (ls.map V.str))) :=
  ⟨by rw [List.length_set]; exact h.len, fun p hp => by
    have k := h.kp p hp
    simp only [List.mem_cons, List.not_mem_nil, or_false] at hp
    rw [List.getElem?_set_ne (by rcases hp with rfl | rfl | rfl | rfl <;> simp)]
    exact k, by rw [upd_ne h.fl]; exact h.hf, upd_same, h.fl, h.nf, h.nl, ex_upd h.ex h.nl⟩
theorem BF.add {Hs H : Hp} {nm : Str} {t f l : Addr} {fs ls : List Str} {σ : L2.St} (h : BF Hs nm t f l fs ls σ H) (z : Str) : BF Hs nm t f l (fs ++ [z]) ls σ (upd H f (.dK ((fs.map fun x => (Sum.inr x, V.bl true)) ++ [(Sum.inr z, V.bl true)]))) :=
  ⟨h.len, h.kp, by rw [upd_same, List.map_append]; rfl, by rw [upd_ne (Ne.symm h.fl)]; exact h.hl, h.fl, h.nf, h.nl, ex_upd h.ex h.nf⟩
theorem none_ex {H H' : Hp} {a : Addr} (e : Ex H H') (h : H' a = none) : H a = none := by
  cases q : H a with
  | none => rfl
  | some o =>
    rw [e _ _ q] at h
    cases h
theorem tgget {σ : L2.St} {H : Hp} {Q : VK} {i j : Nat} {t : Addr} {x : Str} {S : List SetD} (hs : σ[i]? = some (some (.ref t))) (hx : σ[j]? = some (some (.str x))) (hT : TgD H t S) (k : ∀ c H', Ex H H' → H' c = some (.lst ((tgOf S x).map V.str)) → Q (.ref c) H') : tDGet2 (tVar i) (tVar j) (tLst tNil) σ H Q := by
  obtain ⟨kvs, ht, hl, hv⟩ := hT.ex
  refine ⟨_, hs, t, rfl, .inl ⟨kvs, .inl ht⟩, _, hx, Nat.zero_le _, fun p hp => ⟨_, DGet.k (k := Sum.inr x) (by rw [upd_ne (ne_of_none ht hp)]; exact ht), ?_⟩⟩
  rcases hv x with ⟨a, b⟩ | ⟨c, a, b, _⟩
  · rw [a]
    have e : tgOf S x = [] := by
      unfold tgOf
      rw [List.find?_eq_none.mpr fun u hu => by simp [b u hu]]
    exact k p _ (Ex.new hp) (by rw [upd_same, e]; rfl)
  · rw [a]
    exact k c _ (Ex.new hp) (by rw [upd_ne (ne_of_none b hp)]; exact b)
section
variable {P : Program} {w : World} {K : PySem.W.Frag} {mg : Str → Option Value} {base : Heap}
theorem ok_below (T : Txt K mg) (C_targets_of : Cal P w K mg base 1 "targets_of" ["one"] (spD K gTargets)) : Cal P w K mg base 2 "below" ["sets", "name"] (spR K preBelow postBelow) := by
  obtain ⟨f, fd, F, hm⟩ := T.f_below
  refine okR F sc_below hm (F.bindsN fun _ _ _ _ _ _ us hl => match us, hl with | [_, _], _ => rfl) ?_ (fun cdv A outer s H E hr => ?_)
  · rintro ds ⟨S, nm, al, rfl, _⟩
    rfl
  have hu := hr.units
  have hu1 := Nat.lt_of_le_of_lt (Nat.add_le_add_left (by decide : 1 ≤ 64) _) hu
  have nd := sc_below.nd
  refine ⟨_, pss_cons (ds_dc pureM [("one", 3)] 2 rfl nd (swd_true rfl rfl rfl (by decide +kernel)) (pi_tup (pe_var (i := 0) rfl (Or.inl rfl) (by decide) (by decide))) (blkOk_by (N := ["sets", "name", "targets", "one", "found", "left", "target"]) (sc := defScope s_below) (by decide +kernel))
      (fun _ _ _ _ _ => dg_n 3 nd (by intro p hp; cases hp)) (fun _ _ _ _ _ => de_ix ix_seq od_ix (de_v 3) de_i (fun _ _ => rfl)) (fun _ _ _ _ _ => de_call C_targets_of hr (by decide) (da_c (de_v 3) da_n)))
    (pss_cons (ps_set (i := 4) nd rfl (Or.inl rfl) pe_dnewK)
    (pss_cons (ps_set (i := 5) nd rfl (Or.inl rfl) (pe_callTy call_list_of rfl T.n_list (by decide +kernel) (pa_cons (pe_dget2 hu1 (pe_var (i := 2) rfl (Or.inl rfl) (by decide) (by decide)) (pe_var (i := 1) rfl (Or.inl rfl) (by decide) (by decide)) (pe_lst pa_nil) ⟨rfl, rfl, rfl, rfl⟩) pa_nil)))
    (pss_cons (ps_while PassesOwn.never (pt_ex fun q : Str × Addr × Addr × Addr => dt_cmp (m := mB q.1 q.2.1 q.2.2.1 q.2.2.2) (op_neA hu) od_ne (de_v 5) (de_lst da_n) (nomark _))
      (pss_cons (ps_set (i := 6) nd rfl (Or.inl rfl) (pe_bm0 PySem.F.plainAttrs_list PySem.F.slot_list_pop PySem.F.type_list_pop mt_pop (pe_var (i := 5) rfl (Or.inl rfl) (by decide) (by decide))))
        (pss_one (ps_if (pt_cmp (pc_dnotin hu1 (pe_var (i := 6) rfl (Or.inl rfl) (by decide) (by decide)) (pe_var (i := 4) rfl (Or.inl rfl) (by decide) (by decide))) rfl)
          (pss_cons (ps_dput hu1 (pe_var (i := 4) rfl (Or.inl rfl) (by decide) (by decide)) (pe_var (i := 6) rfl (Or.inl rfl) (by decide) (by decide)) pe_bl rfl)
            (pss_one (ps_expr (pe_bm PySem.F.plainAttrs_list PySem.F.slot_list_extend PySem.F.type_list_extend mt_extend (pe_var (i := 5) rfl (Or.inl rfl) (by decide) (by decide)) (pa_cons (pe_dget2 hu1 (pe_var (i := 2) rfl (Or.inl rfl) (by decide) (by decide)) (pe_var (i := 6) rfl (Or.inl rfl) (by decide) (by decide)) (pe_lst pa_nil) ⟨rfl, rfl, rfl, rfl⟩) pa_nil))))) pss_nil))))
    (pss_one (ps_ret (pe_callTy call_tuple_of rfl T.n_tuple (by decide +kernel) (pa_cons (pe_callB (call_sortedD rfl) rfl T.n_sorted (by decide +kernel) (pa_cons (pe_var (i := 4) rfl (Or.inl rfl) (by decide) (by decide)) pa_nil)) pa_nil))))))), ?_⟩
  rintro vs ds H0 Q hv ⟨S, nm, al, rfl, ok⟩ kk
  cases hv with
  | @cons v0 _ _ _ h0 hv =>
  cases hv with
  | @cons v1 _ _ _ h1 hv =>
  cases hv
  cases h1
  cases h0 with
  | @tup a0 xs0 _ tp dp =>
  have lx : xs0.length = S.length := by rw [da_len dp, List.length_map]
  refine seq_i ⟨_, rfl, a0, rfl, ⟨xs0, tp⟩, fun D hD => dc_tup (fun i H => Ex H0 H ∧ TgD H D (S.take i)) ⟨Ex.new hD, ⟨[], upd_same, rfl, fun x => .inl ⟨rfl, fun s hs => by cases hs⟩⟩⟩ (fun i H _ q => Evl.ex_t q.1 tp) (fun i x H1 hx q => ?_) (fun H1 q => ?_)⟩
  · obtain ⟨e, he, hd⟩ := da_get (da_ex q.1 dp) hx
    obtain ⟨s, hs, hm, rfl⟩ := map_at he
    refine ⟨List.replicate 7 none, 0, s.d, fun r => r = (List.replicate 7 none).set 3 (some s.d), ⟨fun i d e => ?_, rfl, fun p hp => (by cases hp), trivial⟩, hd, rfl, fun σ2 H2 r2 e2 R2 er wp => ⟨(wp [3] (by simp)).trans (wipe_idem _ _), ?_⟩⟩
    · exact absurd e (by
        have z : (List.replicate 7 (none : Option PyData))[i]? ≠ some (some d) := fun h => by
          have := List.eq_of_mem_replicate (List.mem_of_getElem? h)
          cases this
        exact z)
    subst er
    show tW K pureM _ _ _ _
    refine ⟨_, 0, fun d _ => d = .str s.name, R2, ⟨_, rfl, _, rfl, trivial, rfl⟩, fun y H3 d n3 x3 _ hy ed => ?_⟩
    have ed : d = .str s.name := ed
    subst ed
    have hy := str_of hy
    subst hy
    refine ⟨_, 0, fun d _ => d = .list (s.tg.map .str), R2.go x3 trivial, ⟨_, rfl, _, ⟨s, rfl, ok.es s hm, rfl⟩, rfl⟩, fun z H4 d n4 x4 _ hz ed => ?_⟩
    have ed : d = .list (s.tg.map .str) := ed
    subst ed
    cases hz with
    | @lst c zs _ hc dz =>
      have ez := da_strs dz
      subst ez
      have T4 : TgD H4 D (S.take i) := (q.2.ex' (e2.trans (x3.pure.trans x4.pure)))
      have E4 : Ex H0 H4 := q.1.trans (e2.trans (x3.pure.trans x4.pure))
      have lt := (List.getElem?_eq_some_iff.mp hs).1
      obtain ⟨kvs, hk, hl, T5⟩ := T4.snoc (s := s) (fun u hu e => new_name (l := S.map SetD.name) ok.nd (i := i) (x := s.name) (by rw [List.getElem?_map, hs]; rfl) (by rw [← List.map_take]; exact e ▸ List.mem_map_of_mem hu)) hc
      refine ⟨kvs, Sum.inr s.name, rfl, hk, ?_, ex_upd E4 hD, ?_⟩
      · rw [hl, List.length_take]
        have := ok.few
        exact Evl.sz_lt (by omega)
      · rw [take_succ_some hs]
        exact T5
  rw [lx, List.take_length] at q
  obtain ⟨E1, T1⟩ := q
  dsimp only [L2.gName]
  refine seq_i fun fa hfa => ?_
  dsimp only [L2.gName]
  have T2 : TgD (upd H1 fa (.dK [])) D S := T1.ex' (Ex.new hfa)
  have E2 : Ex H0 (upd H1 fa (.dK [])) := E1.trans (Ex.new hfa)
  refine seq_i ?_
  dsimp only [tAsg, tCB, tCons, tNil, L2.gName]
  refine tgget (S := S) (x := nm) rfl rfl T2 fun c H3 x3 hc => ⟨c, _, rfl, .inl (SqL.of hc), fun l hl => ?_⟩
  have f3 : H3 fa = some (.dK []) := x3 _ _ upd_same
  have fl : fa ≠ l := fun z => by
    rw [← z, f3] at hl
    cases hl
  have st : BF H1 nm D fa l [] (tgOf S nm) (((((start ["sets", "name", "targets", "one", "found", "left", "target"] [V.ref a0, V.str nm]).set 2 (some (.ref D))).set 4 (some (.ref fa))).set 5 (some (.ref l)))) (upd H3 l (.lst ((tgOf S nm).map V.str))) :=
    ⟨rfl, fun p hp => by
      simp only [List.mem_cons, List.not_mem_nil, or_false] at hp
      rcases hp with rfl | rfl | rfl | rfl <;> rfl, by rw [upd_ne fl]; exact f3, upd_same, fl, hfa, none_ex ((Ex.new hfa).trans x3) hl, ((Ex.new hfa).trans x3).trans (Ex.new hl)⟩
  refine seq_i ⟨fun m σ H => ∃ fs ls, BF H1 nm D fa l fs ls σ H ∧ fs.Nodup ∧ (∀ x ∈ fs, x ∈ al) ∧ (∀ x ∈ ls, x ∈ al) ∧ m = ls.length + 7 * (al.length - fs.length) ∧ m ≤ 300, ⟨_, [], _, st, List.nodup_nil, by simp, ok.first, rfl, by have := ok.tg6 nm; have := ok.len; simp; omega⟩, ?_⟩
  rintro m σ H ⟨fs, ls, q, hnd, hfs, hls, rfl, hm⟩
  refine ⟨(nm, D, fa, l), _, 0, fun b _ => b = !ls.isEmpty, q.rst, ⟨_, rfl, by simp, _, rfl, .inr ⟨strs_shapedL fun x hx => ok.ok x (hls x hx), by decide +kernel⟩, _, rfl, ?_⟩, fun b H2 _ x2 _ eb => ?_⟩
  · cases ls <;> rfl
  have eb : b = !ls.isEmpty := eb
  subst eb
  have x2 := x2.mk
  have q2 : BF H1 nm D fa l fs ls σ H2 := ⟨q.len, q.kp, x2 _ _ q.hf, x2 _ _ q.hl, q.fl, q.nf, q.nl, q.ex.trans x2⟩
  refine ite_b (fun hb => ?_) (fun hb => ?_)
  · have hne : ls ≠ [] := fun z => by
      rw [z] at hb
      cases hb
    obtain ⟨ls', z, rfl⟩ : ∃ ls' z, ls = ls' ++ [z] := ⟨ls.dropLast, ls.getLast hne, (List.dropLast_concat_getLast hne).symm⟩
    refine ⟨fun σ' H' => ∃ fs2 ls2, BF H1 nm D fa l fs2 ls2 σ' H' ∧ fs2.Nodup ∧ (∀ x ∈ fs2, x ∈ al) ∧ (∀ x ∈ ls2, x ∈ al) ∧ ls2.length + 7 * (al.length - fs2.length) < (ls' ++ [z]).length + 7 * (al.length - fs.length), fun σ' H' ⟨fs2, ls2, a, b, c, d, e⟩ => ⟨_, e, fs2, ls2, a, b, c, d, rfl, by omega⟩, ?_⟩
    refine seq_i ?_
    have hz : z ∈ al := hls z (by simp)
    have q3 := q2.pop (v := .str z)
    refine ⟨_, q2.kp (5, .ref l) (by simp), .inl ⟨rfl, _, SqL.of q2.hl⟩, l, _, .str z, rfl, rfl, q2.hl, by simp, ?_⟩
    rw [show ((ls' ++ [z]).map V.str).dropLast = ls'.map V.str by rw [List.map_append]; exact List.dropLast_concat]
    have s6 : (σ.set 6 (some (V.str z)))[6]? = some (some (.str z)) := by rw [List.getElem?_set, if_pos rfl, if_pos (by rw [q2.len]; decide)]
    refine ⟨_, s6, _, q3.kp (4, .ref fa) (by simp), fa, _, rfl, .inl ⟨_, Sum.inr z, .inl q3.hf, rfl, rfl⟩, _, rfl, ?_⟩
    rw [found_at]
    by_cases hf : z ∈ fs
    · rw [if_pos hf]
      exact ⟨fs, ls', q3, hnd, hfs, fun x hx => hls x (List.mem_append_left _ hx), by simp⟩
    · rw [if_neg hf]
      have nd2 : (fs ++ [z]).Nodup := by
        rw [List.nodup_append]
        exact ⟨hnd, by simp, fun x hx y hy e => hf (by rw [List.mem_singleton.mp hy] at e; rw [← e]; exact hx)⟩
      have sub2 : ∀ x ∈ fs ++ [z], x ∈ al := fun x hx => by
        rcases List.mem_append.mp hx with h | h
        · exact hfs x h
        · rw [List.mem_singleton.mp h]
          exact hz
      have len2 := List.Nodup.length_le_of_subset nd2 sub2
      rw [List.length_append, List.length_singleton] at len2
      have al40 := ok.len
      have q4 := q3.add z
      refine iteT ?_
      refine seq_i ⟨_, q3.kp (4, .ref fa) (by simp), _, s6, fa, _, rfl, .inl ⟨_, Sum.inr z, q3.hf, rfl, by rw [List.length_map]; exact Evl.sz_lt (by omega), rfl⟩, ?_⟩
      rw [putK_new _ (by rw [found_at, if_neg hf])]
      refine ⟨_, q4.kp (5, .ref l) (by simp), .inl ⟨rfl, _, SqL.of q4.hl⟩, tgget (S := S) (x := z) (q4.kp (2, .ref D) (by simp)) s6 (T1.ex' q4.ex) fun c H5 x5 hc => ⟨l, c, _, _, rfl, rfl, x5 _ _ q4.hl, hc, ?_, ?_⟩⟩
      · have := ok.tg6 z
        rw [List.length_map, List.length_map]
        simp only [List.length_append, List.length_singleton] at hm
        exact Evl.sz_of (by omega)
      · refine ⟨fs ++ [z], ls' ++ tgOf S z, ⟨q4.len, q4.kp, by rw [upd_ne q4.fl]; exact x5 _ _ q4.hf, by rw [upd_same, List.map_append], q4.fl, q4.nf, q4.nl, ex_upd (q4.ex.trans x5) q4.nl⟩, nd2, sub2, fun x hx => ?_, ?_⟩
        · rcases List.mem_append.mp hx with h | h
          · exact hls x (List.mem_append_left _ h)
          · exact ok.next z hz x h
        · have := ok.tg6 z
          simp only [List.length_append, List.length_singleton]
          omega
  · have f64 := List.Nodup.length_le_of_subset hnd hfs
    have al40 := ok.len
    refine ⟨_, q2.kp (4, .ref fa) (by simp), fa, _, fs, rfl, .inl q2.hf, by rw [List.map_map]; rfl, by omega, fun ys p hp srt hn => ?_⟩
    show ∃ p2 ys2, [V.ref p] = [V.ref p2] ∧ _
    refine ⟨p, _, rfl, .inl ⟨SqL.of upd_same, fun l2 hl2 => ?_⟩⟩
    refine kk _ _ (.tuple (ys.map .str)) ((E1.trans q2.ex).trans ((Ex.new hn).trans (Ex.new hl2))) (.tup (SqT.of upd_same) (strs_da ys)) ⟨ys, rfl, fun nm' e hy => ?_⟩
    have e : nm = nm' := by
      have e : some (PyData.str nm) = some (.str nm') := e
      cases e
      rfl
    subst e
    exact ok.no (hfs _ (hp.mem_iff.mp hy))
end
end K45
/-! KA5 -/
set_option Elab.async false
set_option linter.all false
set_option maxRecDepth 100000
set_option maxHeartbeats 2000000
namespace K45
open PySem PySem.Spec PyProof.Rows L2
def Hall.names (h : Hall) : List Str := h.pipes.map Pipe.name ++ h.sets.map SetD.name
structure Hall.Ok (h : Hall) : Prop where
  p4 : h.pipes.length ≤ 4
  s4 : h.sets.length ≤ 4
  po : ∀ p ∈ h.pipes, p.Ok
  so : ∀ s ∈ h.sets, s.Ok
  nd : h.names.Nodup
  web : ∀ (k : Nat) (s : SetD), h.sets[k]? = some s → ∀ e ∈ s.es, e.i.target ∈ h.pipes.map Pipe.name ++ (h.sets.take k).map SetD.name ∧ (e.i.target ∈ h.sets.map SetD.name → e.i.asked = ⟨true, false, false⟩)
  row : ∀ s ∈ h.sets, s.row.Perm (dueT h s)
theorem Hall.Ok.few {h : Hall} (o : h.Ok) : h.Few := ⟨o.p4, o.s4, fun s hs x hx => by
  have h1 := (o.so s hs).sub x hx
  obtain ⟨e, he, rfl⟩ := List.mem_map.mp h1
  exact ((o.so s hs).es e he).i.name⟩
theorem find_nd {α : Type} {f : α → Str} : ∀ {l : List α}, (l.map f).Nodup → ∀ {x : α}, x ∈ l → l.find? (fun y => f y == f x) = some x
  | [], _, x, hx => by cases hx
  | a :: l, nd, x, hx => by
    rw [List.map_cons, List.nodup_cons] at nd
    rcases List.mem_cons.mp hx with rfl | hx
    · simp
    · have e : (f a == f x) = false := by
        simp only [beq_eq_false_iff_ne]
        exact fun z => nd.1 (z ▸ List.mem_map_of_mem hx)
      rw [List.find?_cons, e]
      exact find_nd nd.2 hx
theorem Hall.Ok.below {h : Hall} (o : h.Ok) {k : Nat} {s : SetD} (hs : h.sets[k]? = some s) : BelowOk h.sets s.name (h.pipes.map Pipe.name ++ (h.sets.take k).map SetD.name) := by
  have hm := List.mem_of_getElem? hs
  have nds : (h.sets.map SetD.name).Nodup := (List.nodup_append.mp o.nd).2.1
  have dis := (List.nodup_append.mp o.nd).2.2
  have hk := (List.getElem?_eq_some_iff.mp hs).1
  have of : ∀ u ∈ h.sets, tgOf h.sets u.name = u.tg := fun u hu => by
    unfold tgOf
    rw [find_nd (f := SetD.name) nds hu]
  have up : ∀ (j : Nat) (u : SetD), j ≤ k → h.sets[j]? = some u → ∀ x ∈ u.tg, x ∈ h.pipes.map Pipe.name ++ (h.sets.take k).map SetD.name := fun j u hj hu x hx => by
    obtain ⟨e, he, rfl⟩ := List.mem_map.mp hx
    rcases List.mem_append.mp (o.web j u hu e he).1 with z | z
    · exact List.mem_append_left _ z
    · refine List.mem_append_right _ ?_
      obtain ⟨v, hv, ev⟩ := List.mem_map.mp z
      have : v ∈ h.sets.take k := (List.take_subset_take_left _ hj) hv
      exact List.mem_map.mpr ⟨v, this, ev⟩
  refine ⟨o.s4, fun u hu => (o.so u hu).few, nds, fun hn => ?_, ?_, fun x hx => ?_, fun y hy x hx => ?_, fun x hx => ?_⟩
  · rcases List.mem_append.mp hn with z | z
    · exact dis _ z _ (List.mem_map_of_mem hm) rfl
    · exact new_name nds (i := k) (x := s.name) (by rw [List.getElem?_map, hs]; rfl) (by rw [← List.map_take]; exact z)
  · have := o.p4
    have := o.s4
    simp
    omega
  · rw [of s hm] at hx
    exact up k s (Nat.le_refl _) hs x hx
  · rcases List.mem_append.mp hy with z | z
    · have e : tgOf h.sets y = [] := by
        unfold tgOf
        rw [List.find?_eq_none.mpr fun u hu q => dis _ z _ (List.mem_map_of_mem hu) (by simpa using (eq_of_beq q).symm)]
      rw [e] at hx
      cases hx
    · obtain ⟨v, hv, rfl⟩ := List.mem_map.mp z
      obtain ⟨j, hj⟩ := List.mem_iff_getElem?.mp hv
      rw [List.getElem?_take] at hj
      by_cases lt : j < k
      · rw [if_pos lt] at hj
        rw [of v (List.mem_of_getElem? hj)] at hx
        exact up j v (Nat.le_of_lt lt) hj x hx
      · rw [if_neg lt] at hj
        cases hj
  · rcases List.mem_append.mp hx with z | z
    · obtain ⟨p, hp, rfl⟩ := List.mem_map.mp z
      exact (o.po p hp).name
    · obtain ⟨v, hv, rfl⟩ := List.mem_map.mp z
      exact (o.so v (List.take_subset _ _ hv)).name
def gWebs (ds : List PyData) (d : PyData) : Prop := ∃ h : Hall, ds = [.tuple (h.pipes.map Pipe.d), .tuple (h.sets.map SetD.d)] ∧ h.Ok ∧ d = .none
def gHall (ds : List PyData) (d : PyData) : Prop := ∃ h : Hall, ds = [h.d] ∧ h.Ok ∧ d = h.d
theorem enum_at {l : List PyData} {i : Nat} {d : PyData} (e : (enumD l)[i]? = some d) : ∃ x, l[i]? = some x ∧ d = .tuple [.int (i : Nat), x] := by
  unfold enumD at e
  rw [List.getElem?_map, List.getElem?_zipIdx] at e
  cases q : l[i]? with
  | none =>
    rw [q] at e
    cases e
  | some x =>
    rw [q] at e
    refine ⟨x, rfl, ?_⟩
    have e := Option.some.inj e
    rw [← e]
    simp
section
variable {P : Program} {w : World} {K : PySem.W.Frag} {mg : Str → Option Value} {base : Heap}
theorem ok_need_webs (T : Txt K mg) (C_are_up_to : Cal P w K mg base 1 "are_up_to" ["thing", "many"] (spD K gUpTo)) (C_has_forms : Cal P w K mg base 6 "has_forms" ["pipes", "sets"] (spD K gForms)) (C_below : Cal P w K mg base 2 "below" ["sets", "name"] (spR K preBelow postBelow)) : Cal P w K mg base 7 "need_webs" ["pipes", "sets"] (spD K gWebs) := by
  obtain ⟨f, fd, F, hm⟩ := T.f_need_webs
  refine okD F sc_need_webs hm (F.bindsN fun _ _ _ _ _ _ us hl => match us, hl with | [_, _], _ => rfl) ?_ (by decide) (fun cdv A outer s H E hr => ?_)
  · rintro ds d ⟨h, rfl, _⟩
    rfl
  have hu := hr.units
  refine ⟨_, (dss_c (ds_if (L2.PW.pt (dw_or (dt_not (dt_v (de_call C_are_up_to hr (by decide) (da_c (de_v 0) (da_c (de_k T.k_MOST_PIPES) da_n))))) (dw_or1 (dt_not (dt_v (de_call C_are_up_to hr (by decide) (da_c (de_v 1) (da_c (de_k T.k_MOST_SETS) da_n)))))))) (dss_1 ds_never) dss_n)
      (dss_c (ds_set 2 sc_need_webs.nd (by intro p hp; cases hp) (de_call C_has_forms hr (by decide) (da_c (de_v 0) (da_c (de_v 1) da_n))))
      (dss_c (ds_lc0 (m := pureM) [("one", 4)] 3 rfl sc_need_webs.nd (by intro p hp; cases hp) (sw_true rfl rfl rfl (by decide +kernel)) (di_t (de_v 1)) (blkOk_by (N := ["pipes", "sets", "names", "own", "one", "number", "target", "asked", "rest", "on", "fresh"]) (sc := defScope s_need_webs) (by decide +kernel)) (by intro p hp; cases hp) (by decide) (fun _ _ _ _ _ => (dg_n 4 sc_need_webs.nd (by intro p hp; cases hp))) (fun _ _ _ _ _ => (de_ix ix_seq od_ix (de_v 4) de_i (fun _ _ => rfl))))
      (dss_c (ds_for PassesOwn.never rfl (di_en T.n_enumerate (da_c (de_v 1) da_n)) (dg_t (n := 2) rfl (dgs_c (dg_n 5 sc_need_webs.nd (by intro p hp; cases hp)) (dgs_c (dg_n 4 sc_need_webs.nd (by intro p hp; cases hp)) dgs_n))) (dss_1 (ds_for PassesOwn.never rfl (di_t (de_ix ix_seq od_ix (de_v 4) de_i (fun _ _ => rfl))) (dg_t (n := 3) rfl (dgs_c (dg_star (i := 2) rfl (dgs_c (dg_n 6 sc_need_webs.nd (by intro p hp; cases hp)) (dgs_c (dg_n 7 sc_need_webs.nd (by intro p hp; cases hp)) (dgs_star (dg_n 8 sc_need_webs.nd (by intro p hp; cases hp)))))) (dgs_c (dg_n 9 sc_need_webs.nd (by intro p hp; cases hp)) (dgs_c (dg_n 10 sc_need_webs.nd (by intro p hp; cases hp)) dgs_n)))) (dss_1 (ds_if (L2.PW.pt (dw_or (dt_cmp op_notInA (od_in true) (de_v 6) (de_v 2) (by rfl)) (dw_or1 (L2.PW.pt (dw_and (dt_cmp op_inA (od_in false) (de_v 6) (de_v 3) (by rfl)) (dw_and1 (dt_cmp (op_neA hu) od_ne (de_v 7) (de_tup (da_c de_s da_n)) (nomark _)))))))) (dss_1 ds_never) dss_n)))))
      (dss_1 (ds_for PassesOwn.never rfl (di_en T.n_enumerate (da_c (de_v 1) da_n)) (dg_t (n := 2) rfl (dgs_c (dg_n 5 sc_need_webs.nd (by intro p hp; cases hp)) (dgs_c (dg_n 4 sc_need_webs.nd (by intro p hp; cases hp)) dgs_n))) (dss_1 (ds_if (dt_cmp op_inA (od_in false) (de_ix ix_seq od_ix (de_v 4) de_i (fun _ _ => rfl)) (de_callR C_below hr (by decide) (da_c (de_v 1) (da_c (de_ix ix_seq od_ix (de_v 4) de_i (fun _ _ => rfl)) da_n))) (by rfl)) (dss_1 ds_never) dss_n)))))))), ?_⟩
  rintro ds d ⟨h, rfl, ok, rfl⟩
  refine ⟨_, rfl, _, ⟨_, 4, rfl, rfl⟩, true, by have := ok.p4; simp; omega, ?_⟩
  refine iteF ?_
  refine ⟨_, rfl, _, ⟨_, 4, rfl, rfl⟩, true, by have := ok.s4; simp; omega, ?_⟩
  refine iteF ?_
  refine ⟨_, rfl, _, rfl, _, ⟨h, rfl, ok.few, ok.po, ok.so, ok.nd, rfl⟩, ?_⟩
  dsimp only [wSeq, wAsg]
  refine g_mapF h.sets SetD.d (fun s => .str s.name) (fun A q => ⟨_, rfl, _, rfl, q⟩) (by have := ok.s4; omega) (fun s hs P' q => ⟨_, rfl, _, rfl, trivial, q⟩) (fun s hs => by simp) _ ?_
  dsimp only [wgN]
  refine w_for0 (enumD (h.sets.map SetD.d)) (fun _ => True) (fun A q => ⟨_, rfl, _, rfl, q⟩) trivial (fun i d q _ => ?_) (fun _ => ?_)
  · obtain ⟨x, hx, rfl⟩ := enum_at q
    obtain ⟨s, hs, hm, rfl⟩ := map_at hx
    refine ⟨_, rfl, rfl, _, _, rfl, _, _, rfl, rfl, ?_⟩
    refine w_for0 (s.es.map Entry.d) (fun _ => True) (fun A q => ⟨_, rfl, _, rfl, trivial, _, rfl, q⟩) trivial (fun j d q _ => ?_) (fun _ => ?_)
    · obtain ⟨e, he, hme, rfl⟩ := map_at q
      obtain ⟨w1, w2⟩ := ok.web i s hs e hme
      have hin : e.i.target ∈ h.names := by
        rcases List.mem_append.mp w1 with z | z
        · exact List.mem_append_left _ z
        · rw [List.map_take] at z
          exact List.mem_append_right _ (List.take_subset _ _ z)
      refine ⟨_, rfl, rfl, _, _, rfl, ⟨_, rfl, by show 2 ≤ 5; decide, by show 5 ≤ 10000; decide, _, _, rfl, _, _, rfl, _, _, rfl, rfl, ?_⟩⟩
      refine ⟨_, _, rfl, _, _, rfl, rfl, ?_⟩
      refine ⟨_, rfl, _, rfl, _, rfl, ⟨rfl, strs_flat _⟩, false, ?_, ?_⟩
      · simp only [if_true]
        rw [any_str, decide_eq_true (p := e.i.target ∈ h.pipes.map Pipe.name ++ h.sets.map SetD.name) hin]
        rfl
      refine iteF ?_
      refine ⟨_, rfl, _, rfl, _, rfl, ⟨rfl, ?_⟩, decide (e.i.target ∈ h.sets.map SetD.name), ?_, ?_⟩
      · simp
      · simp only [Bool.false_eq_true, if_false]
        rw [show h.sets.map (fun s => PyData.str s.name) = (h.sets.map SetD.name).map .str by rw [List.map_map]; rfl, any_str]
      refine ite_b (fun z => ?_) (fun z => ?_)
      · have ea := w2 (of_decide_eq_true z)
        refine ⟨_, rfl, by simp, _, rfl, .inr ⟨ws_shaped _, by decide +kernel⟩, false, ?_, ?_⟩
        · rw [ea]
          refine congrArg PyData.bool ?_
          decide +kernel
        · exact iteF ⟨_, (le_same _ (le_same _ (le_same _ (le_same _ (le_same _ (le_same _ (le_none _ (le_none _ (le_none _ (le_none _ (le_none _ (Le.refl _)))))))))))), rfl, rfl, trivial⟩
      · exact iteF ⟨_, (le_same _ (le_same _ (le_same _ (le_same _ (le_same _ (le_same _ (le_none _ (le_none _ (le_none _ (le_none _ (le_none _ (Le.refl _)))))))))))), rfl, rfl, trivial⟩
    · exact ⟨_, (le_same _ (le_same _ (le_same _ (le_same _ (le_none _ (le_none _ (le_none _ (le_none _ (le_none _ (le_none _ (le_none _ (Le.refl _)))))))))))), rfl, rfl, trivial⟩
  refine w_for0 (enumD (h.sets.map SetD.d)) (fun _ => True) (fun A q => ⟨_, rfl, _, rfl, q⟩) trivial (fun i d q _ => ?_) (fun _ => rfl)
  obtain ⟨x, hx, rfl⟩ := enum_at q
  obtain ⟨s, hs, hm, rfl⟩ := map_at hx
  refine ⟨_, rfl, rfl, _, _, rfl, _, _, rfl, rfl, ?_⟩
  refine ⟨_, rfl, _, rfl, trivial, _, rfl, _, rfl, _, rfl, trivial, ⟨_, _, _, rfl, ok.below hs⟩, ?_⟩
  rintro d ⟨xs, rfl, hn⟩
  have hn := hn s.name rfl
  refine ⟨_, rfl, ⟨rfl, strs_flat _⟩, false, ?_, iteF ⟨_, (le_same _ (le_same _ (le_same _ (le_same _ (le_none _ (le_none _ (le_none _ (le_none _ (le_none _ (le_none _ (le_none _ (Le.refl _)))))))))))), rfl, rfl, trivial⟩⟩
  simp only [Bool.false_eq_true, if_false]
  rw [any_str, decide_eq_false hn]
theorem ok_need_hall (T : Txt K mg) (C_is_tuple_of : Cal P w K mg base 1 "is_tuple_of" ["thing", "many"] (spD K gTupleOf)) (C_need_webs : Cal P w K mg base 7 "need_webs" ["pipes", "sets"] (spD K gWebs)) (C_due_targets : Cal P w K mg base 3 "due_targets" ["hall", "one"] (spD K gDueT)) : Cal P w K mg base 8 "need_hall" ["thing"] (spD K gHall) := by
  obtain ⟨f, fd, F, hm⟩ := T.f_need_hall
  refine okD F sc_need_hall hm (F.bindsN fun _ _ _ _ _ _ us hl => match us, hl with | [_], _ => rfl) ?_ (by decide) (fun cdv A outer s H E hr => ?_)
  · rintro ds d ⟨h, rfl, _⟩
    rfl
  have hu := hr.units
  refine ⟨_, (dss_c (ds_if (dt_not (dt_v (de_call C_is_tuple_of hr (by decide) (da_c (de_v 0) (da_c de_i da_n))))) (dss_1 ds_never) dss_n)
      (dss_c (ds_expr (de_call C_need_webs hr (by decide) (da_c (de_ix ix_seq od_ix (de_v 0) de_i (fun _ _ => rfl)) (da_c (de_ix ix_seq od_ix (de_v 0) de_i (fun _ _ => rfl)) da_n))))
      (dss_c (ds_for PassesOwn.never rfl (di_en T.n_enumerate (da_c (de_ix ix_seq od_ix (de_v 0) de_i (fun _ _ => rfl)) da_n)) (dg_t (n := 2) rfl (dgs_c (dg_n 1 sc_need_hall.nd (by intro p hp; cases hp)) (dgs_c (dg_n 2 sc_need_hall.nd (by intro p hp; cases hp)) dgs_n))) (dss_1 (ds_if (dt_cmp (op_neA hu) od_ne (de_srt T.n_sorted (de_ix ix_seq od_ix (de_v 2) de_i (fun _ _ => rfl))) (de_srt T.n_sorted (de_call C_due_targets hr (by decide) (da_c (de_v 0) (da_c (de_v 2) da_n)))) (nomark _)) (dss_1 ds_never) dss_n)))
      (dss_1 (ds_ret (de_v 0)))))), ?_⟩
  rintro ds d ⟨h, rfl, ok, rfl⟩
  refine ⟨_, rfl, _, ⟨_, 2, rfl, rfl⟩, true, rfl, ?_⟩
  refine iteF ?_
  refine ⟨_, rfl, _, rfl, trivial, _, rfl, _, rfl, trivial, .none, ⟨h, rfl, ok, rfl⟩, ?_⟩
  refine w_for0 (enumD (h.sets.map SetD.d)) (fun _ => True) (fun A q => ⟨_, rfl, _, rfl, trivial, _, rfl, q⟩) trivial (fun i d q _ => ?_) (fun _ => ⟨_, rfl, rfl⟩)
  obtain ⟨x, hx, rfl⟩ := enum_at q
  obtain ⟨s, hs, hm, rfl⟩ := map_at hx
  refine ⟨_, rfl, rfl, _, _, rfl, _, _, rfl, rfl, ?_⟩
  have l6 := (ok.so s hm).rfew
  have d6 := (ok.row s hm).length_eq
  have rn := ok.few.r s hm
  refine ⟨_, rfl, _, rfl, trivial, s.row, .inr rfl, by omega, fun ys hy sy => ?_⟩
  refine ⟨_, rfl, _, rfl, _, ⟨h, s, rfl, ok.few, (ok.so s hm).few, rfl⟩, dueT h s, .inl rfl, by omega, fun zs hz sz => ?_⟩
  have e := sorted_one (hy.trans ((ok.row s hm).trans hz.symm)) sy sz
  subst e
  refine ⟨_, rfl, .inr ⟨strs_shapedL fun x hx => rn x (hy.mem_iff.mp hx), strs_shapedL fun x hx => rn x (hy.mem_iff.mp hx)⟩, false, ?_, iteF ⟨_, (le_same _ (le_none _ (le_none _ (Le.refl _)))), rfl, rfl, trivial⟩⟩
  refine congrArg PyData.bool ?_
  rw [eqv_ll, eqv_strs]
  rfl
end
end K45
/-! KB13 -/
set_option Elab.async false
set_option linter.all false
set_option maxRecDepth 100000
set_option maxHeartbeats 4000000
/-! [.. for .. for .. for ..], the innermost source empty -/
namespace K45
open PySem PySem.Spec PyProof.Rows L2
/-- what a turn of a clause that is not the last one does -/
def turnK (e tg nxt : Expr) (p : Pos) (k : Nat) (it acc : Value) (env : Env) : Sem PySem.Fin := do
  standAt p
  match ← pyNext it with
  | none => pure (.done .next)
  | some v =>
    letOwnedTupleGo tg it v
    assign tg env v
    let mut ok := true
    for c in ([] : List Expr) do
      if ok then ok ← isTrue c env (eval c env)
    if ok then
      let x ← eval nxt env
      standAt nxt.pos
      let x ← foldedSetIterable nxt env x
      let _ ← runOwn (.compStart e (k + 1) (← holding [x] (pyIter x)) acc env) env
    again (.compLoop e k it acc env)
section
variable {prog : Program} {w : World} {A : Around} {R : Result → Shared → Prop} {s : Shared} {elt tg nxt : Expr} {gs : List Comprehension} {scope : Scope} {pos p : Pos} {k : Nat} {it acc : Value} {env : Env}
abbrev noF (prog : Program) (w : World) (A : Around) (env : Env) (R : Result → Shared → Prop) : Value → Shared → Prop := notedBy (model prog w) A env fun x s' => R (.error x) s'
theorem loopK (eq : compTurn (.ListComp elt gs scope pos) k it acc env = turnK (.ListComp elt gs scope pos) tg nxt p k it acc env) (hs : ∀ x, foldedSetIterable nxt env x = pure x) (I : Nat → Shared → Prop)
    (turn : ∀ n s, I n s → wpAny (model prog w) A (pyNext it) (fun r s1 => match r with
      | none => R (.ok .next) s1
      | some v => wpAny (model prog w) A (letOwnedTupleGo tg it v) (fun _ s2 => wpAny (model prog w) A (assign tg env v) (fun _ s3 => wpAny (model prog w) A (eval nxt env) (fun x s4 => wpAny (model prog w) A (pyIter x) (fun it1 s5 =>
          codeAny (model prog w) A (.compStart (.ListComp elt gs scope pos) (k + 1) it1 acc env) (fun r s' => match r with
            | .ok _ => ∃ m, m < n ∧ I m s'
            | .error _ => False) s5) (noF prog w A env R) s4) (noF prog w A env R) s3) (noF prog w A env R) s2) (noF prog w A env R) s1) (noF prog w A env R) s)
    (n : Nat) (h : I n s) : codeAny (model prog w) A (.compLoop (.ListComp elt gs scope pos) k it acc env) R s := by
  refine codeAny_loop rfl I (fun n s hI => ?_) n h
  show wpAny _ A ((compTurn (.ListComp elt gs scope pos) k it acc env).onRaise (fun x => do noteFrame x env; theTreesLotGoes x)) _ _ s
  refine wpAny_noted ?_
  rw [eq]
  refine wpAny_bind (wpAny_standAt (wpAny_bind (wpAny_mono (turn n s hI) (fun r s1 h1 => ?_) fun _ _ z => z)))
  cases r with
  | none => exact wpAny_pure h1
  | some v =>
    refine wpAny_bind (wpAny_mono h1 (fun _ s2 h2 => wpAny_bind (wpAny_mono h2 (fun _ s3 h3 => ?_) fun _ _ z => z)) fun _ _ z => z)
    refine wpAny_bind (wpAny_pure (wpAny_bind (wpAny_mono h3 (fun x s4 h4 => ?_) fun _ _ z => z)))
    refine wpAny_bind (wpAny_standAt (wpAny_bind (wpAny_of_eq (hs x) (wpAny_bind (wpAny_holding (wpAny_mono h4 (fun it1 s5 h5 => ?_) fun _ _ z => z))))))
    refine wpAny_bind (wpAny_runOwn ?_)
    rw [Around.mark_none]
    refine codeAny_mono h5 fun r s' hr => ?_
    cases r with
    | ok f =>
      first
        | exact wpAny_pure ⟨rfl, hr⟩
        | exact wpAny_bind (wpAny_pure (wpAny_pure ⟨rfl, hr⟩))
    | error e => exact hr.elim
abbrev L3 (elt t0 i0 t1 i1 t2 i2 : Expr) (scope : Scope) (pos : Pos) : Expr := .ListComp elt [⟨t0, i0, [], 0⟩, ⟨t1, i1, [], 0⟩, ⟨t2, i2, [], 0⟩] scope pos
theorem turn3_0 {t0 i0 t1 i1 t2 i2 : Expr} : compTurn (L3 elt t0 i0 t1 i1 t2 i2 scope pos) 0 it acc env = turnK (L3 elt t0 i0 t1 i1 t2 i2 scope pos) t0 i1 i0.pos 0 it acc env := by rfl
theorem turn3_1 {t0 i0 t1 i1 t2 i2 : Expr} : compTurn (L3 elt t0 i0 t1 i1 t2 i2 scope pos) 1 it acc env = turnK (L3 elt t0 i0 t1 i1 t2 i2 scope pos) t1 i2 i1.pos 1 it acc env := by rfl
theorem turn3_2 {t0 i0 t1 i1 t2 i2 : Expr} : ∃ more : Value → Sem PySem.Fin, compTurn (L3 elt t0 i0 t1 i1 t2 i2 scope pos) 2 it acc env = (standAt i2.pos >>= fun _ => pyNext it >>= fun r => match r with
  | none => pure (.done .next)
  | some v => more v) := ⟨_, rfl⟩
/-- the last clause's loop, no turn at all -/
theorem loop3_2 {t0 i0 t1 i1 t2 i2 : Expr} (h : wpAny (model prog w) A (pyNext it) (fun r s1 => r = none ∧ R (.ok .next) s1) (noF prog w A env R) s) : codeAny (model prog w) A (.compLoop (L3 elt t0 i0 t1 i1 t2 i2 scope pos) 2 it acc env) R s := by
  refine codeAny_of_tree ?_
  show wpAny _ A ((compTurn (L3 elt t0 i0 t1 i1 t2 i2 scope pos) 2 it acc env).onRaise (fun x => do noteFrame x env; theTreesLotGoes x)) _ _ s
  refine wpAny_noted ?_
  obtain ⟨more, eq⟩ := turn3_2 (elt := elt) (t0 := t0) (i0 := i0) (t1 := t1) (i1 := i1) (t2 := t2) (i2 := i2) (scope := scope) (pos := pos) (it := it) (acc := acc) (env := env)
  rw [eq]
  refine wpAny_bind (wpAny_standAt (wpAny_bind (wpAny_mono h (fun r s1 ⟨h1, h2⟩ => ?_) fun _ _ z => z)))
  subst h1
  exact wpAny_pure h2
theorem start3_1 {t0 i0 t1 i1 t2 i2 : Expr} (h0 : codeAny (model prog w) A (.compLoop (L3 elt t0 i0 t1 i1 t2 i2 scope pos) 1 it acc env) R s)
    (h : wpAny (model prog w) A (pyIter it) (fun it' s' => codeAny (model prog w) A (.compLoop (L3 elt t0 i0 t1 i1 t2 i2 scope pos) 1 it' acc env) R s') (noF prog w A env R) s) : codeAny (model prog w) A (.compStart (L3 elt t0 i0 t1 i1 t2 i2 scope pos) 1 it acc env) R s := by
  refine codeAny_of_tree ?_
  show wpAny _ _ ((compStart (L3 elt t0 i0 t1 i1 t2 i2 scope pos) 1 it acc env).onRaise (fun x => do noteFrame x env; standAt theWindowsPlace)) _ _ s
  refine wpAny_notedAt ?_
  unfold compStart
  show wpAny _ _ (ask >>= _) _ _ s
  refine wpAny_bind (wpAny_askSetting (wpAny_ite ?_))
  split
  · first
      | exact wpAny_bind (wpAny_pure (wpAny_pure (And.intro rfl h0)))
      | exact wpAny_pure (And.intro rfl h0)
  · refine wpAny_bind (wpAny_rule ?_)
    first
      | exact wpAny_bind (wpAny_standAt (wpAny_bind (wpAny_mono h (fun it' s' h' => wpAny_pure (And.intro rfl h')) fun _ _ x => x)))
      | (show wpAny _ _ (standAt i1.pos >>= _) _ _ s; exact wpAny_bind (wpAny_standAt (wpAny_bind (wpAny_mono h (fun it' s' h' => wpAny_pure (And.intro rfl h')) fun _ _ x => x))))
theorem start3_2 {t0 i0 t1 i1 t2 i2 : Expr} (h0 : codeAny (model prog w) A (.compLoop (L3 elt t0 i0 t1 i1 t2 i2 scope pos) 2 it acc env) R s)
    (h : wpAny (model prog w) A (pyIter it) (fun it' s' => codeAny (model prog w) A (.compLoop (L3 elt t0 i0 t1 i1 t2 i2 scope pos) 2 it' acc env) R s') (noF prog w A env R) s) : codeAny (model prog w) A (.compStart (L3 elt t0 i0 t1 i1 t2 i2 scope pos) 2 it acc env) R s := by
  refine codeAny_of_tree ?_
  show wpAny _ _ ((compStart (L3 elt t0 i0 t1 i1 t2 i2 scope pos) 2 it acc env).onRaise (fun x => do noteFrame x env; standAt theWindowsPlace)) _ _ s
  refine wpAny_notedAt ?_
  unfold compStart
  show wpAny _ _ (ask >>= _) _ _ s
  refine wpAny_bind (wpAny_askSetting (wpAny_ite ?_))
  split
  · first
      | exact wpAny_bind (wpAny_pure (wpAny_pure (And.intro rfl h0)))
      | exact wpAny_pure (And.intro rfl h0)
  · refine wpAny_bind (wpAny_rule ?_)
    first
      | exact wpAny_bind (wpAny_standAt (wpAny_bind (wpAny_mono h (fun it' s' h' => wpAny_pure (And.intro rfl h')) fun _ _ x => x)))
      | (show wpAny _ _ (standAt i2.pos >>= _) _ _ s; exact wpAny_bind (wpAny_standAt (wpAny_bind (wpAny_mono h (fun it' s' h' => wpAny_pure (And.intro rfl h')) fun _ _ x => x))))
end
end K45
/-! KB14 -/
set_option Elab.async false
set_option linter.all false
set_option maxRecDepth 100000
set_option maxHeartbeats 4000000
namespace K45
open PySem PySem.Spec PyProof.Rows L2
def Kn (a b : L2.St) : Prop := a.length = b.length ∧ ∀ (j : Nat) v, a[j]? = some (some v) → b[j]? = some (some v)
theorem Kn.refl (a : L2.St) : Kn a a := ⟨rfl, fun _ _ h => h⟩
theorem Kn.trans {a b c : L2.St} (h : Kn a b) (k : Kn b c) : Kn a c := ⟨h.1.trans k.1, fun j v e => k.2 j v (h.2 j v e)⟩
theorem kn_wipe (s : L2.St) (vs : List Nat) : Kn (L2.wipe s vs) s := ⟨wipe_length s vs, fun j v e => (wipe_some e).1⟩
theorem Wiped.kn {s s' : L2.St} {sl vs : List Nat} (h : Wiped sl (L2.wipe s vs) s') (k : ∀ i ∈ sl, i ∈ vs) : Kn (L2.wipe s vs) s' := by
  have e := (h vs k).trans (wipe_idem s vs)
  have z := kn_wipe s' vs
  rw [e] at z
  exact z
theorem kn_in {s s' : L2.St} {vs vs1 : List Nat} (k : Kn (L2.wipe s vs) s') (h : ∀ i ∈ vs1, i ∈ vs) : Kn (L2.wipe s vs) (L2.wipe s' vs1) := ⟨k.1.trans (wipe_length s' vs1).symm, fun j v e => by
  rw [wipe_out fun z => (wipe_some e).2 (h j z)]
  exact k.2 j v e⟩
section
variable {X : Cx}
/-- one clause's loop -/
theorem level (hc : X.calm = true) (hxe : ∀ e s, X.xe e s → False) {pins : List (Addr × Obj)} {σ0 : L2.St} {H0 : Hp} {s0 : Shared} {it : Addr} {fp : List Addr} {tn : Nat → Heap → Prop} {J : It} {tg : Expr} {g : TG} {W : Nat → Nat → Hp → Prop} {m0 : Nat} {Nxt : Hp → Prop}
    (T : Turn X.prog X.w X.K tg J fp it tn) (pg : PG X tg g) (I0 : Inv X pins σ0 H0 s0) (st0 : tn 0 s0.heap) (f0 : ∀ b ∈ fp, FpOk X pins H0 b) (w0 : W 0 m0 H0) (B : L2.St → Hp → (Hp → Prop) → Prop)
    (turn : ∀ i m H, W i m H → (J.stop i H ∧ Nxt H) ∨ (J.go i H ∧ ∃ Nx : Hp → Prop, (∀ H', Nx H' → ∃ m', m' < m ∧ W (i + 1) m' H') ∧ ∀ x H', J.yld i H x H' → g x σ0 H' fun σ2 H2 => Kn σ0 σ2 ∧ B σ2 H2 Nx))
    (bd : (Shared → Prop) → Shared → Prop) (hb : ∀ pins' σ2 H2 s2 Nx Post, Inv X pins' σ2 H2 s2 → Kn σ0 σ2 → B σ2 H2 Nx → (∀ σ3 H3 s3, Inv X pins' σ3 H3 s3 → Kn σ0 σ3 → Nx H3 → Post s3) → bd Post s2)
    (R : Shared → Prop) (hR : ∀ H' s', Inv X pins σ0 H' s' → (∀ b ∈ fp, H' b = none) → Nxt H' → R s') :
    ∃ I : Nat → Shared → Prop, (∃ m, I m s0) ∧ ∀ (F : Value → Shared → Prop) n s, I n s → wpAny (model X.prog X.w) X.A (pyNext (.ref it)) (fun r s1 => match r with
      | none => R s1
      | some v => wpAny (model X.prog X.w) X.A (letOwnedTupleGo tg (.ref it) v) (fun _ s2 => wpAny (model X.prog X.w) X.A (assign tg X.env v) (fun _ s3 => bd (fun s' => ∃ m, m < n ∧ I m s') s3) F s2) F s1) F s := by
  have stat : ∀ {H' : Hp}, (∀ b ∈ fp, H' b = none) → ∀ b ∈ fp, FpOk X pins H' b := fun hn b hb => ⟨hn b hb, (f0 b hb).2⟩
  refine ⟨fun n s => ∃ i H, Inv X pins σ0 H s ∧ tn i s.heap ∧ (∀ b ∈ fp, H b = none) ∧ W i n H, ⟨m0, 0, H0, I0, st0, fun b hb => (f0 b hb).1, w0⟩, fun F n s ⟨i, H, I, st, hn, w⟩ => ?_⟩
  rcases turn i n H w with ⟨stop, nx⟩ | ⟨go, Nx, hNx, step⟩
  · refine wpAny_mono (T.done X rfl rfl rfl hc i pins s σ0 H (fun _ _ => False) I (stat hn) st stop) (fun r s1 ⟨hr, I1⟩ => ?_) fun _ _ z => z.elim
    subst hr
    exact hR H s1 I1 hn nx
  · refine wpAny_mono (T.item X rfl rfl rfl hc i pins s σ0 H (fun _ _ => False) I (stat hn) st go) (fun r s1 ⟨u, hr, h1⟩ => ?_) fun _ _ z => z.elim
    subst hr
    refine wpAny_mono h1 (fun _ s2 ⟨x, H2, I2, r2, y2, st2, n2⟩ => ?_) fun _ _ z => z.elim
    have ob := T.obj _ _ st2
    refine wpAny_mono (pg.run _ s2 σ0 H2 x u _ (I2.pinned (stat n2) ob) r2 (step x H2 y2)) (fun _ s3 ⟨σ3, H3, I3, k3, q3⟩ => ?_) fun e s z => (hxe e s z).elim
    refine hb _ σ3 H3 s3 Nx _ I3 k3 q3 fun σ4 H4 s4 I4 kn nx4 => ?_
    obtain ⟨m', hm, w'⟩ := hNx H4 nx4
    have pin : ∀ b ∈ fp, ∀ o, s2.heap.get? b = some o → s4.heap.get? b = some o ∧ H4 b = none := fun b hb o e =>
      let z := I4.pin (b, o) (List.mem_append_right _ (List.mem_append_right _ (mem_pinsAt hb e)))
      ⟨z.1, z.2.1⟩
    refine ⟨m', hm, i + 1, H4, I4.unpinned.weak kn.1 kn.2, T.keep _ _ _ st2 fun b hb o e => (pin b hb o e).1, fun b hb => ?_, w'⟩
    obtain ⟨o, e, _⟩ := ob b hb
    exact (pin b hb o e).2
/-- [elt for tg in iter for tg1 in iter1 for tg2 in iter2], iter2 empty at each turn -/
def tLc3 (wi : TI) (g : TG) (wi1 : TI) (g1 : TG) (wi2 : TI) (vs vs1 : List Nat) : TE := fun σ H Q => wi σ H fun J H1 => ∀ D, H1 D = none → ∃ W : Nat → Nat → Hp → Prop, (∃ m, W 0 m (upd H1 D (.lst []))) ∧ ∀ i m H, W i m H →
  (J.stop i H ∧ Q (.ref D) H) ∨ (J.go i H ∧ ∃ Nx : Hp → Prop, (∀ H', Nx H' → ∃ m', m' < m ∧ W (i + 1) m' H') ∧ ∀ x H', J.yld i H x H' → g x (L2.wipe σ vs) H' fun σ2 H2 => Kn (L2.wipe σ vs) σ2 ∧
    wi1 σ2 H2 fun J1 H4 => ∃ W1 : Nat → Nat → Hp → Prop, (∃ m, W1 0 m H4) ∧ ∀ j k H, W1 j k H → (J1.stop j H ∧ Nx H) ∨ (J1.go j H ∧ ∃ Nx1 : Hp → Prop, (∀ H', Nx1 H' → ∃ k', k' < k ∧ W1 (j + 1) k' H') ∧
      ∀ x H', J1.yld j H x H' → g1 x (L2.wipe σ2 vs1) H' fun σ3 H5 => Kn (L2.wipe σ2 vs1) σ3 ∧ wi2 σ3 H5 fun J2 H6 => J2.stop 0 H6 ∧ Nx1 H6))
theorem lc3_core {pins : List (Addr × Obj)} {s : Shared} {σ : L2.St} {H : Hp} {Q : VK} {elt tg iter tg1 iter1 tg2 iter2 : Expr} {scope : Scope} {own : List (Str × Nat)} {vs1 : List Nat} {pos pos' : Pos} {wi wi1 wi2 : TI} {g g1 : TG} {use : Option (Value → Sem Unit)} {Qf : Value → Shared → Prop}
    (hc : X.calm = true) (hN : X.N.Nodup) (I : Inv X pins σ H s) (hi : PI X tg iter wi) (ok : BlkOk X.N X.env.scope scope own) (hv : ∀ i ∈ vs1, i ∈ own.map (·.2))
    (hg : ∀ (s : Shared) (H : Hp) (C : Addr) (cl : List (Str × Addr)) (fp : List Addr), PG (X.blk s H scope (compEnvC scope cl C X.env) fp) tg g) (hs : ∀ x, foldedSetIterable iter X.env x = pure x)
    (hi1 : ∀ (s : Shared) (H : Hp) (C : Addr) (cl : List (Str × Addr)) (fp : List Addr), PI (X.blk s H scope (compEnvC scope cl C X.env) fp) tg1 iter1 wi1)
    (hg1 : ∀ (s : Shared) (H : Hp) (C : Addr) (cl : List (Str × Addr)) (fp : List Addr), PG (X.blk s H scope (compEnvC scope cl C X.env) fp) tg1 g1)
    (hi2 : ∀ (s : Shared) (H : Hp) (C : Addr) (cl : List (Str × Addr)) (fp : List Addr), PI (X.blk s H scope (compEnvC scope cl C X.env) fp) tg2 iter2 wi2) (hs1 : ∀ env x, foldedSetIterable iter1 env x = pure x) (hs2 : ∀ env x, foldedSetIterable iter2 env x = pure x)
    (h : tLc3 wi g wi1 g1 wi2 (own.map (·.2)) vs1 σ H Q) (hRR : ∀ D C s' m H', Inv X pins σ H' s' → Q (.ref D) H' → s'.heap.Ns C m → FpOk X pins H' C → compPost (model X.prog X.w) X.A X.xe use Qf (.ref D) C (.ok .next) s') :
    wpAny (model X.prog X.w) X.A (comprehension (L3 elt tg iter tg1 iter1 tg2 iter2 scope pos) scope X.env pos' (newList []) false (eval iter X.env) use) Qf X.xe s := by
  have hfree : ∀ y ∈ scope.names, y.2 = .free → ∃ c, X.env.cells.lookup y.1 = some c := fun y hy e => by
    rcases ok.free y hy e with k | k
    · exact I.ok.has _ (.inl k)
    · exact I.ok.has _ (.inr k)
  refine wpAny_comprehension_free (use := use) rfl hs (closure_ok hfree) ok.kind (fun y hy e => by rw [ok.uniq y hy, e]) (thn (hi.run pins s σ H _ I h) fun xv s1 hx => thn hx fun itv s2 ⟨it, fp, tn, J, H2, e, I2, T, st2, f2, q⟩ => ?_)
  subst e
  refine wpAny_newObj_type (newEnv_comp ?_) (by show 0 ≤ sizeLine; decide)
  generalize hD : s2.heap.objs.size = D
  have hDn : H2 D = none := I2.hok.fresh (Nat.le_of_eq hD)
  obtain ⟨W, ⟨m0, w0⟩, turn⟩ := q D hDn
  generalize hs3 : ({ s2 with heap := s2.heap.push { cls := .type "list", data := .seq ([] : List Value).toArray } } : Shared) = s3
  have h3 : s3.heap = s2.heap.push { cls := .type "list", data := .seq ([] : List Value).toArray } := by rw [← hs3]
  have I3 : Inv X pins σ (upd H2 D (.lst [])) s3 := by
    rw [← hs3]
    exact I2.laid (t' := s2.toks) (fun b o e => Heap.get?_push_of_some _ e) (Nat.le_of_eq hD) ⟨Nat.zero_le _, [], 0, .nil, by rw [← hD]; exact Heap.get?_push_size _ rfl⟩
  have f3 : ∀ b ∈ fp, FpOk X pins (upd H2 D (.lst [])) b ∧ b < s3.heap.objs.size := fun b hb => by
    obtain ⟨o, e, _⟩ := T.obj _ _ st2 b hb
    have lt := Heap.lt_size e
    exact ⟨fp_upd (f2 b hb) (by rw [← hD]; exact Nat.ne_of_lt lt), by rw [h3, Heap.size_push]; exact Nat.lt_succ_of_lt lt⟩
  have st3 : tn 0 s3.heap := T.keep _ _ _ st2 fun b _ o e => by rw [h3]; exact Heap.get?_push_of_some _ e
  have I4 := block_start I3 ok hN f3
  have pg := hg s3 (upd H2 D (.lst [])) s3.heap.objs.size (cellsFrom (s3.heap.objs.size + 1) scope.names (cloFrom X.env.cells scope.names [])) fp
  have pi1 := hi1 s3 (upd H2 D (.lst [])) s3.heap.objs.size (cellsFrom (s3.heap.objs.size + 1) scope.names (cloFrom X.env.cells scope.names [])) fp
  have pg1 := hg1 s3 (upd H2 D (.lst [])) s3.heap.objs.size (cellsFrom (s3.heap.objs.size + 1) scope.names (cloFrom X.env.cells scope.names [])) fp
  have pi2 := hi2 s3 (upd H2 D (.lst [])) s3.heap.objs.size (cellsFrom (s3.heap.objs.size + 1) scope.names (cloFrom X.env.cells scope.names [])) fp
  show codeAny _ _ (.compStart (L3 elt tg iter tg1 iter1 tg2 iter2 scope pos) 0 (.ref it) (.ref D) (compEnvC scope (cellsFrom (s3.heap.objs.size + 1) scope.names (cloFrom X.env.cells scope.names [])) s3.heap.objs.size X.env)) (compPost (model X.prog X.w) X.A X.xe use Qf (.ref D) s3.heap.objs.size) { s3 with heap := pushCells (s3.heap.push { cls := .type "dict", data := .dict #[] }) scope.names }
  generalize hce : compEnvC scope (cellsFrom (s3.heap.objs.size + 1) scope.names (cloFrom X.env.cells scope.names [])) s3.heap.objs.size X.env = ce at I4 pg pi1 pg1 pi2 ⊢
  have cL : ce.locals = s3.heap.objs.size := by
    subst hce
    rfl
  generalize hH3 : upd H2 D (.lst []) = H3 at I3 I4 pg pi1 pg1 pi2 w0 f3
  generalize hs4 : ({ s3 with heap := pushCells (s3.heap.push { cls := .type "dict", data := .dict #[] }) scope.names } : Shared) = s4 at I4 ⊢
  have st4 : tn 0 s4.heap := T.keep _ _ _ st3 fun b _ o e => by rw [← hs4]; exact pushCells_keeps _ _ _ _ (Heap.get?_push_of_some _ e)
  have f4 : ∀ b ∈ fp, FpOk (X.blk s3 H3 scope ce fp) [] H3 b := fun b hb => ⟨(f3 b hb).1.1, (I4.ok.exf b hb).1, I4.ok.exfs b hb, .inl hb, fun x c e => (I4.ok.exf b hb).2 x c e, fun p hp => absurd (show p ∈ ([] : List (Addr × Obj)) ++ [] from hp) (by simp)⟩
  have nx : ∀ e s, (X.blk s3 H3 scope ce fp).xe e s → False := fun e s z => z
  refine Exists.elim (level (X := X.blk s3 H3 scope ce fp) hc nx T pg I4 st4 f4 w0
    (fun σ2 H2 Nx => wi1 σ2 H2 fun J1 H4 => ∃ W1 : Nat → Nat → Hp → Prop, (∃ m, W1 0 m H4) ∧ ∀ j k H, W1 j k H → (J1.stop j H ∧ Nx H) ∨ (J1.go j H ∧ ∃ Nx1 : Hp → Prop, (∀ H', Nx1 H' → ∃ k', k' < k ∧ W1 (j + 1) k' H') ∧
      ∀ x H', J1.yld j H x H' → g1 x (L2.wipe σ2 vs1) H' fun σ3 H5 => Kn (L2.wipe σ2 vs1) σ3 ∧ wi2 σ3 H5 fun J2 H6 => J2.stop 0 H6 ∧ Nx1 H6)) turn
    (fun Post s5 => ∀ F, wpAny (model X.prog X.w) X.A (eval iter1 ce) (fun x s6 => wpAny (model X.prog X.w) X.A (pyIter x) (fun it1 s7 => codeAny (model X.prog X.w) X.A (.compStart (L3 elt tg iter tg1 iter1 tg2 iter2 scope pos) 1 it1 (.ref D) ce) (fun r s' => match r with
      | .ok _ => Post s'
      | .error _ => False) s7) F s6) F s5) (fun pins' σ2 H2 s5 Nx Post I5 k5 b5 post F => ?_)
    (compPost (model X.prog X.w) X.A X.xe use Qf (.ref D) s3.heap.objs.size (.ok .next)) (fun H5 s5 I5 n5 q5 => ?_)) fun Iv ⟨⟨k0, i0⟩, run⟩ => ?_
  · refine wpAny_mono (pi1.run _ s5 σ2 H2 _ I5 b5) (fun x s6 hx => wpAny_mono hx (fun itv s7 ⟨it1, fp1, tn1, J1, H7, e1, I7, T1, st7, f7, W1, ⟨m1, w1⟩, turn1⟩ => ?_) fun e s z => (nx e s z).elim) fun e s z => (nx e s z).elim
    subst e1
    refine Exists.elim (level (X := X.blk s3 H3 scope ce fp) hc nx T1 pg1 (I7.weak (kn_wipe σ2 vs1).1 (kn_wipe σ2 vs1).2) st7 f7 w1 (fun σ3 H5 Nx1 => wi2 σ3 H5 fun J2 H6 => J2.stop 0 H6 ∧ Nx1 H6) turn1
      (fun Post s5 => ∀ F, wpAny (model X.prog X.w) X.A (eval iter2 ce) (fun x s6 => wpAny (model X.prog X.w) X.A (pyIter x) (fun it2 s7 => codeAny (model X.prog X.w) X.A (.compStart (L3 elt tg iter tg1 iter1 tg2 iter2 scope pos) 2 it2 (.ref D) ce) (fun r s' => match r with
        | .ok _ => Post s'
        | .error _ => False) s7) F s6) F s5) (fun pins2 σ3 H8 s8 Nx1 Post2 I8 k8 b8 post2 F2 => ?_) Post (fun H8 s8 I8 _ nx8 => ?_)) fun Iv1 ⟨⟨k1, i1⟩, run1⟩ => ?_
    · refine wpAny_mono (pi2.run _ s8 σ3 H8 _ I8 b8) (fun x s9 hx => wpAny_mono hx (fun itv s10 ⟨it2, fp2, tn2, J2, H10, e2, I10, T2, st10, f10, stop2, nx2⟩ => ?_) fun e s z => (nx e s z).elim) fun e s z => (nx e s z).elim
      subst e2
      have last : codeAny (model X.prog X.w) X.A (.compLoop (L3 elt tg iter tg1 iter1 tg2 iter2 scope pos) 2 (.ref it2) (.ref D) ce) (fun r s' => match r with
        | .ok _ => Post2 s'
        | .error _ => False) s10 := loop3_2 (wpAny_mono (T2.done (X.blk s3 H3 scope ce fp) rfl rfl rfl hc 0 pins2 s10 σ3 H10 (fun _ _ => False) I10 f10 st10 stop2) (fun r s11 ⟨hr, I11⟩ => ⟨hr, post2 σ3 H10 s11 I11 k8 nx2⟩) fun _ _ z => z.elim)
      exact start3_2 last (T2.self X.A 0 _ _ _ st10 last)
    · exact post _ H8 s8 I8 (kn_in k5 hv) nx8
    · have loop := loopK (turn3_1 (elt := elt) (t0 := tg) (i0 := iter) (t1 := tg1) (i1 := iter1) (t2 := tg2) (i2 := iter2) (scope := scope) (pos := pos) (it := .ref it1) (acc := .ref D) (env := ce)) (hs2 ce) (R := fun r s' => match r with
        | .ok _ => Post s'
        | .error _ => False) (prog := X.prog) (w := X.w) (A := X.A) Iv1 (fun n s hI => by
        refine wpAny_mono (run1 _ n s hI) (fun r s1 h1 => ?_) fun _ _ z => z
        cases r with
        | none => exact h1
        | some v => exact wpAny_mono h1 (fun _ s2 h2 => wpAny_mono h2 (fun _ s3 h3 => h3 _) fun _ _ z => z) fun _ _ z => z) k1 i1
      exact start3_1 loop (T1.self X.A 0 _ _ _ st7 loop)
  · have I7 : Inv X pins σ H5 s5 := I3.call' (ch := fp) I5.os I5.base I5.hok I5.bare fun b hb => ⟨(f3 b hb).1.2.2.2.1, (f3 b hb).1.2.1, (f3 b hb).1.2.2.2.2.1, (f3 b hb).1.2.2.2.2.2⟩
    have nC : H5 s3.heap.objs.size = none := by
      have z : H5 ce.locals = none := I5.free
      rw [cL] at z
      exact z
    obtain ⟨m, hn, _⟩ := I5.loc
    have hn : s5.heap.Ns ce.locals m := hn
    rw [cL] at hn
    exact hRR D s3.heap.objs.size s5 m H5 I7 q5 hn (I3.fpOk (Nat.le_refl _) nC)
  · have loop := loopK (turn3_0 (elt := elt) (t0 := tg) (i0 := iter) (t1 := tg1) (i1 := iter1) (t2 := tg2) (i2 := iter2) (scope := scope) (pos := pos) (it := .ref it) (acc := .ref D) (env := ce)) (hs1 ce) (R := compPost (model X.prog X.w) X.A X.xe use Qf (.ref D) s3.heap.objs.size) (prog := X.prog) (w := X.w) (A := X.A) Iv (fun n s hI => by
      refine wpAny_mono (run _ n s hI) (fun r s1 h1 => ?_) fun _ _ z => z
      cases r with
      | none => exact h1
      | some v => exact wpAny_mono h1 (fun _ s2 h2 => wpAny_mono h2 (fun _ s3 h3 => h3 _) fun _ _ z => z) fun _ _ z => z) k0 i0
    exact codeAny_compStart_list loop (T.self X.A 0 _ _ _ st4 loop)
end
end K45
/-! KB15 -/
set_option Elab.async false
set_option linter.all false
set_option maxRecDepth 100000
set_option maxHeartbeats 4000000
namespace K45
open PySem PySem.Spec PyProof.Rows L2
section
variable {X : Cx}
theorem ps_setLc3 {i : Nat} {y : Str} {py : Pos} {elt tg iter tg1 iter1 tg2 iter2 : Expr} {scope : Scope} {own : List (Str × Nat)} {vs1 : List Nat} {pos spos : Pos} {wi wi1 wi2 : TI} {g g1 : TG} (hc : X.calm = true) (hN : X.N.Nodup) (hy : X.N[i]? = some y) (hyl : X.env.scope.names.lookup y = some .local)
    (hsw : swapsWith (L3 elt tg iter tg1 iter1 tg2 iter2 scope pos) (some (.Name y py)) spos.line X.env = pure true) (hi : PI X tg iter wi) (ok : BlkOk X.N X.env.scope scope own) (hv : ∀ i ∈ vs1, i ∈ own.map (·.2))
    (hg : ∀ (s : Shared) (H : Hp) (C : Addr) (cl : List (Str × Addr)) (fp : List Addr), PG (X.blk s H scope (compEnvC scope cl C X.env) fp) tg g)
    (hi1 : ∀ (s : Shared) (H : Hp) (C : Addr) (cl : List (Str × Addr)) (fp : List Addr), PI (X.blk s H scope (compEnvC scope cl C X.env) fp) tg1 iter1 wi1)
    (hg1 : ∀ (s : Shared) (H : Hp) (C : Addr) (cl : List (Str × Addr)) (fp : List Addr), PG (X.blk s H scope (compEnvC scope cl C X.env) fp) tg1 g1)
    (hi2 : ∀ (s : Shared) (H : Hp) (C : Addr) (cl : List (Str × Addr)) (fp : List Addr), PI (X.blk s H scope (compEnvC scope cl C X.env) fp) tg2 iter2 wi2) (hs : ∀ x, foldedSetIterable iter X.env x = pure x := by intro _; rfl) (hs1 : ∀ env x, foldedSetIterable iter1 env x = pure x := by intro _ _; rfl) (hs2 : ∀ env x, foldedSetIterable iter2 env x = pure x := by intro _ _; rfl) :
    PS X (.Assign [.Name y py] (L3 elt tg iter tg1 iter1 tg2 iter2 scope pos) spos) (tAsg (tLc3 wi g wi1 g1 wi2 (own.map (·.2)) vs1) (L2.gName i)) := by
  refine ⟨fun pins s σ H D I h => ?_⟩
  rw [exec_Assign_Name_used _ _ _ _ hsw]
  refine wpAny_bind (wpAny_standAt (wpAny_bind ?_))
  show wpAny _ X.A (do let _ ← comprehension (L3 elt tg iter tg1 iter1 tg2 iter2 scope pos) scope X.env (firstIterPos [⟨tg, iter, [], 0⟩, ⟨tg1, iter1, [], 0⟩, ⟨tg2, iter2, [], 0⟩] pos) (newList []) false (eval iter X.env) (some (assign (.Name y py) X.env))) _ _ s
  have h : tLc3 wi g wi1 g1 wi2 (own.map (·.2)) vs1 σ H (fun x H1 => L2.gName i x σ H1 D.nx) := h
  refine wpAny_bind (thn (lc3_core (Qf := fun _ s' => SP X pins D .next s') hc hN I hi ok hv hg hs hi1 hg1 hi2 hs1 hs2 h fun L C s' m H' I' q hn f => ?_) fun _ s' hq => wpAny_pure (wpAny_pure hq))
  show wpAny _ _ (assign (.Name y py) X.env (.ref L)) _ _ _
  obtain ⟨f0, f1, f2, f3, f4, f5⟩ := f
  refine wpAny_assign_Name (store_ok2 (v := V.ref L) I' hN hy (.inl hyl) rfl (fun s2 I2 ⟨a, sb, ha⟩ => ?_) (.inr hyl))
  have apart : C ≠ a := by
    rcases ha with z | z
    · rw [z]
      exact f1
    · exact fun e => f4 y a z e.symm
  exact ⟨m, hn.sameBut sb apart, fun h3 sb3 => ⟨_, H', I2.turned (t' := s2.toks) (fun b o hb e => (sb3.2 b hb).trans e) f0 f1 f3 f4 f5, q⟩⟩
/-- the same over data: each innermost source is empty, so is what is made -/
def wLc3 (Wi : WI) (Wg : WG) (Wi1 : WI) (Wg1 : WG) (Wi2 : WI) (vs vs1 : List Nat) : WE := fun r n P => Wi r n fun items n1 => n1 = n ∧ (∀ d ∈ items, Wg d (wipeR r vs) fun r2 => Wi1 r2 n fun items1 n2 => n2 = n ∧ ∀ d1 ∈ items1, Wg1 d1 (wipeR r2 vs1) fun r3 => Wi2 r3 n fun items2 n3 => n3 = n ∧ items2 = []) ∧ P (.list []) n
theorem w_lc3 {Wi Wi1 Wi2 : WI} {Wg Wg1 : WG} {vs vs1 sl sl1 : List Nat} {s : L2.St} {H : Hp} {Q : VK} (hsl : ∀ i ∈ sl, i ∈ vs) (hsl1 : ∀ i ∈ sl1, i ∈ vs1) (q : tW X.K pureM (wLc3 Wi Wg Wi1 Wg1 Wi2 vs vs1) s H Q) :
    tLc3 (tWI X.K pureM Wi) (tWG X.K pureM sl Wg) (tWI X.K pureM Wi1) (tWG X.K pureM sl1 Wg1) (tWI X.K pureM Wi2) vs vs1 s H Q := by
  obtain ⟨r, n, P, R, w, k⟩ := q
  refine ⟨r, n, _, R, w, fun J G H1 items n1 x1 _ wk g1 ⟨en, each, p⟩ D hD => ?_⟩
  subst en
  have R1 : Rst X.K pureM s H1 r n1 := R.go x1 trivial
  have xD : Ex H1 (upd H1 D (.lst [])) := Ex.new hD
  refine ⟨fun i m H' => m = items.length - i ∧ i ≤ items.length ∧ Ex (upd H1 D (.lst [])) H', ⟨_, rfl, Nat.zero_le _, Ex.refl _⟩, ?_⟩
  rintro i m H2 ⟨rfl, hi, e2⟩
  have x2 : Ex H1 H2 := xD.trans e2
  have g2 : G H2 := wk.keep n1 H1 H2 trivial (.of x2) g1
  by_cases lt : i < items.length
  · refine .inr ⟨wk.go i H2 lt g2, fun H' => Ex (upd H1 D (.lst [])) H', fun H' e => ⟨items.length - (i + 1), by omega, rfl, lt, e⟩, fun v H3 y => ?_⟩
    obtain ⟨e3, d, ed, hd⟩ := wk.yld i H2 v H3 lt g2 y
    refine ⟨_, n1, d, _, (R1.wipe (by intro p hp; cases hp)).ex (x2.trans e3), hd, each d (List.mem_of_getElem? ed), fun s4 H4 r4 e4 R4 w4 wp => ⟨Wiped.kn wp hsl, ?_⟩⟩
    refine ⟨r4, n1, _, R4, w4, fun J1 G1 H5 items1 n5 x5 _ wk1 g5 ⟨en5, each1⟩ => ?_⟩
    subst en5
    have R5 : Rst X.K pureM s4 H5 r4 n5 := R4.go x5 trivial
    refine ⟨fun j k H' => k = items1.length - j ∧ j ≤ items1.length ∧ Ex H5 H', ⟨_, rfl, Nat.zero_le _, Ex.refl _⟩, ?_⟩
    rintro j k H6 ⟨rfl, hj, e6⟩
    have g6 : G1 H6 := wk1.keep n5 H5 H6 trivial (.of e6) g5
    have all6 : Ex (upd H1 D (.lst [])) H6 := e2.trans (e3.trans (e4.trans (x5.pure.trans e6)))
    by_cases lt1 : j < items1.length
    · refine .inr ⟨wk1.go j H6 lt1 g6, fun H' => Ex H5 H', fun H' e => ⟨items1.length - (j + 1), by omega, rfl, lt1, e⟩, fun v1 H7 y1 => ?_⟩
      obtain ⟨e7, d1, ed1, hd1⟩ := wk1.yld j H6 v1 H7 lt1 g6 y1
      refine ⟨_, n5, d1, _, (R5.wipe (by intro p hp; cases hp)).ex (e6.trans e7), hd1, each1 d1 (List.mem_of_getElem? ed1), fun s8 H8 r8 e8 R8 w8 wp8 => ⟨Wiped.kn wp8 hsl1, ?_⟩⟩
      refine ⟨r8, n5, _, R8, w8, fun J2 G2 H9 items2 n9 x9 _ wk2 g9 ⟨en9, e0⟩ => ?_⟩
      subst e0
      exact ⟨wk2.stop H9 g9, e6.trans (e7.trans (e8.trans x9.pure))⟩
    · have ej : j = items1.length := by omega
      subst ej
      exact .inl ⟨wk1.stop H6 g6, all6⟩
  · have ei : i = items.length := by omega
    subst ei
    exact .inl ⟨wk.stop H2 g2, k _ H2 _ n1 (x1.trans (.of x2)) trivial (.lst (e2 _ _ upd_same) .nil) p⟩
theorem ds_lc3 (own : List (Str × Nat)) (vs1 : List Nat) (i : Nat) {y : Str} {py : Pos} {elt tg iter tg1 iter1 tg2 iter2 : Expr} {scope : Scope} {pos spos : Pos} {Wi Wi1 Wi2 : WI} {Wg Wg1 : WG} {sl sl1 : List Nat} (hc : X.calm = true) (hN : X.N.Nodup)
    (hsw : swapsWith (L3 elt tg iter tg1 iter1 tg2 iter2 scope pos) (some (.Name y py)) spos.line X.env = pure true) (hi : DI X pureM tg iter Wi) (ok : BlkOk X.N X.env.scope scope own) (hv : ∀ i ∈ vs1, i ∈ own.map (·.2)) (hsl : ∀ i ∈ sl, i ∈ own.map (·.2)) (hsl1 : ∀ i ∈ sl1, i ∈ vs1)
    (hg : ∀ (s : Shared) (H : Hp) (C : Addr) (cl : List (Str × Addr)) (fp : List Addr), DG (X.blk s H scope (compEnvC scope cl C X.env) fp) pureM tg sl Wg)
    (hi1 : ∀ (s : Shared) (H : Hp) (C : Addr) (cl : List (Str × Addr)) (fp : List Addr), DI (X.blk s H scope (compEnvC scope cl C X.env) fp) pureM tg1 iter1 Wi1)
    (hg1 : ∀ (s : Shared) (H : Hp) (C : Addr) (cl : List (Str × Addr)) (fp : List Addr), DG (X.blk s H scope (compEnvC scope cl C X.env) fp) pureM tg1 sl1 Wg1)
    (hi2 : ∀ (s : Shared) (H : Hp) (C : Addr) (cl : List (Str × Addr)) (fp : List Addr), DI (X.blk s H scope (compEnvC scope cl C X.env) fp) pureM tg2 iter2 Wi2) (hy : X.N[i]? = some y := by rfl) (hyl : X.env.scope.names.lookup y = some .local := by rfl)
    (hs : ∀ x, foldedSetIterable iter X.env x = pure x := by intro _; rfl) (hs1 : ∀ env x, foldedSetIterable iter1 env x = pure x := by intro _ _; rfl) (hs2 : ∀ env x, foldedSetIterable iter2 env x = pure x := by intro _ _; rfl) :
    DS X pureM (.Assign [.Name y py] (L3 elt tg iter tg1 iter1 tg2 iter2 scope pos) spos) (wAsg (wLc3 Wi Wg Wi1 Wg1 Wi2 (own.map (·.2)) vs1) (wgN i)) :=
  ps_by (ps_setLc3 hc hN hy hyl hsw hi ok hv hg hi1 hg1 hi2 hs hs1 hs2) fun D s H ⟨r, n, O, R, w, M⟩ => by
    refine w_lc3 hsl hsl1 ⟨r, n, _, R, w, fun v H1 d n1 x1 s1 h1 w1 => ?_⟩
    exact M.nx _ H1 _ n1 x1 ((R.go x1 s1).set h1 (by intro p hp; cases hp)) w1
/-- {.. for .. in an empty list} -/
theorem de_dce (own : List (Str × Nat)) {kx vx tg iter : Expr} {scope : Scope} {pos : Pos} {Wi : WI} (hc : X.calm = true) (hN : X.N.Nodup) (hi : DI X pureM tg iter Wi) (ok : BlkOk X.N X.env.scope scope own) (hs : ∀ x, foldedSetIterable iter X.env x = pure x := by intro _; rfl) :
    DE X pureM (.DictComp kx vx [⟨tg, iter, [], 0⟩] scope pos) (fun r n P => Wi r n fun items n1 => items = [] ∧ P (.dict []) n1) :=
  pe_by (pe_dc hc hN hi ok (fun _ _ _ _ _ => pg_never) (fun _ _ _ _ _ => pts_nil) (fun _ _ _ _ _ => (⟨fun _ _ _ _ _ _ h => h.elim⟩ : PE _ _ fun _ _ _ => False)) (fun _ _ _ _ _ => (⟨fun _ _ _ _ _ _ h => h.elim⟩ : PE _ _ fun _ _ _ => False)) hs) fun s H Q ⟨r, n, P, R, w, k⟩ =>
    ⟨r, n, _, R, w, fun J G H1 items n1 x1 s1 wk g1 ⟨e0, p⟩ D hD => by
      subst e0
      refine ⟨fun i m H' => i = 0 ∧ H' = upd H1 D (.dK []), ⟨0, rfl, rfl⟩, ?_⟩
      rintro i m H2 ⟨rfl, rfl⟩
      have xD : Ex H1 (upd H1 D (.dK [])) := Ex.new hD
      exact .inl ⟨wk.stop _ (wk.keep n1 H1 _ s1 (.of xD) g1), k _ _ _ n1 (x1.trans (.of xD)) trivial (.dic (bs := []) rfl upd_same) p⟩⟩
@[simp] def wNeg (We : WE) : WE := fun r n P => We r n fun d n1 => ∃ i, d = .int i ∧ P (.int (-i)) n1
theorem de_neg {m : Md} {e : Expr} {We : WE} {pos : Pos} (h : DE X m e We) : DE X m (.UnaryOp .USub e pos) (wNeg We) := pe_by (pe_un un_neg h) fun s H Q ⟨r, n, P, R, w, k⟩ => ⟨r, n, _, R, w, fun v H1 d n1 x1 s1 h1 ⟨i, ed, p⟩ => by
  subst ed
  cases h1
  exact ⟨i, rfl, k _ H1 _ n1 x1 s1 (.int _) p⟩⟩
theorem ds_try {m : Md} {body : List Stmt} {h : ExceptHandler} {hs : List ExceptHandler} {pos : Pos} {W : WS} (hb : DSs X.nox m body W) : DS X m (.Try body (h :: hs) [] [] pos) W := ps_try_thru0 hb
end
end K45
/-! KA6 -/
set_option Elab.async false
set_option linter.all false
set_option maxRecDepth 100000
set_option maxHeartbeats 2000000
namespace K45
open PySem PySem.Spec PyProof.Rows L2
/-! ### programs -/
inductive Ins where
  | jump (to : Nat)
  | stop
  | unl (to : Nat)
  | told (name word : Str) (to : Nat)
  | put (name : Str)
def Ins.d : Ins → PyData
  | .jump t => .tuple [.str "jump", .int (t : Nat)]
  | .stop => .tuple [.str "stop"]
  | .unl t => .tuple [.str "unless", .int (t : Nat)]
  | .told n w t => .tuple [.str "told", .str n, .str w, .int (t : Nat)]
  | .put n => .tuple [.str "put", .str n, .int 1]
def Ins.Ok (size : Nat) : Ins → Prop
  | .jump t => t ≤ size
  | .stop => True
  | .unl t => t ≤ size
  | .told n w t => NameOk n ∧ (w = "in" ∨ w = "out" ∨ w = "gone") ∧ t ≤ size
  | .put n => NameOk n
structure Task where
  name : Str
  code : List Ins
def Task.d (t : Task) : PyData := .tuple [.str t.name, .tuple (t.code.map Ins.d)]
structure Task.Ok (t : Task) : Prop where
  name : NameOk t.name
  lo : 1 ≤ t.code.length
  hi : t.code.length ≤ 12
  code : ∀ i ∈ t.code, i.Ok t.code.length
abbrev Telling := List (Str × Ws)
def telD (t : Telling) : PyData := .tuple (t.map fun p => .tuple [.str p.1, p.2.d])
structure TelOk (t : Telling) : Prop where
  few : t.length ≤ 6
  ok : ∀ p ∈ t, NameOk p.1 ∧ p.2.any = true
structure Ctr where
  place : Nat
  good : Bool
  got : Telling
def Ctr.d (c : Ctr) : PyData := .tuple [.int (c.place : Nat), .bool c.good, telD c.got]
structure Ctr.Ok (size : Nat) (c : Ctr) : Prop where
  place : c.place ≤ size
  got : TelOk c.got
def tasksD (ts : List Task) : PyData := .tuple (ts.map Task.d)
def ctrsD (cs : List Ctr) : PyData := .tuple (cs.map Ctr.d)
/-- a hall, tasks, counters -/
structure St3 where
  h : Hall
  ts : List Task
  cs : List Ctr
def St3.pd (s : St3) : PyData := .tuple [s.h.d, tasksD s.ts]
def St3.sd (s : St3) : PyData := .tuple [s.h.d, ctrsD s.cs]
structure TasksOk (ts : List Task) : Prop where
  hi : ts.length ≤ 4
  ok : ∀ t ∈ ts, t.Ok
  nd : (ts.map Task.name).Nodup
structure St3.Ok (s : St3) : Prop where
  h : s.h.Ok
  ts : TasksOk s.ts
  len : s.cs.length = s.ts.length
  cs : ∀ (i : Nat) (c : Ctr) (t : Task), s.cs[i]? = some c → s.ts[i]? = some t → c.Ok t.code.length
def gWaiters (ds : List PyData) (d : PyData) : Prop := ∃ h : Hall, ds = [h.d] ∧ h.Ok ∧ d = .dict []
def gIns (ds : List PyData) (d : PyData) : Prop := ∃ (i : Ins) (size : Nat), ds = [i.d, .int (size : Nat)] ∧ i.Ok size ∧ d = .bool true
def gDeed (ds : List PyData) (d : PyData) : Prop := ∃ n, ds = [Ins.d (.put n)] ∧ NameOk n ∧ d = .bool true
def gTask (ds : List PyData) (d : PyData) : Prop := ∃ t : Task, ds = [t.d] ∧ t.Ok ∧ d = .bool true
def gTasks (ds : List PyData) (d : PyData) : Prop := ∃ ts : List Task, ds = [tasksD ts] ∧ TasksOk ts ∧ d = .none
def gProg (ds : List PyData) (d : PyData) : Prop := ∃ s : St3, ds = [s.pd] ∧ s.Ok ∧ d = s.pd
def gTel (ds : List PyData) (d : PyData) : Prop := ∃ t : Telling, ds = [telD t] ∧ TelOk t ∧ d = .bool true
def gCtr (ds : List PyData) (d : PyData) : Prop := ∃ (c : Ctr) (size : Nat), ds = [c.d, .int (size : Nat)] ∧ c.Ok size ∧ d = .bool true
def gForm (ds : List PyData) (d : PyData) : Prop := ∃ s : St3, ds = [s.pd, s.sd] ∧ s.Ok ∧ d = .bool true
def gState (ds : List PyData) (d : PyData) : Prop := ∃ s : St3, ds = [s.pd, s.sd] ∧ s.Ok ∧ d = s.sd
def deedsF (z : Str) : Option Int := if z = "put" then some 3 else if z = "take" then some 3 else if z = "shut" then some 2 else if z = "add" then some 3 else if z = "change" then some 3 else if z = "arm" then some 3 else if z = "drop" then some 3 else if z = "wait" then some 4 else if z = "look" then some 2 else if z = "leave" then some 2 else none
def lengthsF (z : Str) : Option Int := if z = "drain" then some 2 else if z = "wait" then some 3 else if z = "jump" then some 2 else if z = "unless" then some 2 else if z = "told" then some 4 else if z = "stop" then some 1 else none
section
variable {P : Program} {w : World} {K : PySem.W.Frag} {mg : Str → Option Value} {base : Heap}
theorem ok_waiters_of (T : Txt K mg) (C_need_hall : Cal P w K mg base 8 "need_hall" ["thing"] (spD K gHall)) : Cal P w K mg base 9 "waiters_of" ["hall"] (spD K gWaiters) := by
  obtain ⟨f, fd, F, hm⟩ := T.f_waiters_of
  refine okD F sc_waiters_of hm (F.bindsN fun _ _ _ _ _ _ us hl => match us, hl with | [_], _ => rfl) ?_ (by decide) (fun cdv A outer s H E hr => ?_)
  · rintro ds d ⟨h, rfl, _⟩
    rfl
  have hu := hr.units
  have nd := sc_waiters_of.nd
  refine ⟨_, (dss_c (ds_expr (de_call C_need_hall hr (by decide) (da_c (de_v 0) da_n)))
      (dss_c (ds_lc3 [("one", 2), ("side", 3), ("waiter", 4), ("most", 5)] [3] 1 rfl nd (sw_true rfl rfl rfl (by decide +kernel)) (di_t (de_ix ix_seq od_ix (de_v 0) de_i (fun _ _ => rfl))) (blkOk_by (N := ["hall", "both", "one", "side", "waiter", "most", "name"]) (sc := defScope s_waiters_of) (by decide +kernel)) (by decide) (by decide) (by decide)
        (fun _ _ _ _ _ => dg_n 2 nd (by intro p hp; cases hp)) (fun _ _ _ _ _ => di_t (de_tup (da_c de_i (da_c de_i da_n)))) (fun _ _ _ _ _ => dg_n 3 nd (by intro p hp; cases hp)) (fun _ _ _ _ _ => di_t (de_ix ix_seq od_ix (de_v 2) (de_v 3) (fun _ _ => rfl))))
      (dss_1 (ds_ret (de_dce [("waiter", 4), ("name", 6), ("side", 3)] rfl nd (di_l (de_v 1)) (blkOk_by (N := ["hall", "both", "one", "side", "waiter", "most", "name"]) (sc := defScope s_waiters_of) (by decide +kernel))))))), ?_⟩
  rintro ds d ⟨h, rfl, ok, rfl⟩
  refine ⟨_, rfl, _, ⟨h, rfl, ok, rfl⟩, ?_⟩
  refine ⟨_, rfl, _, rfl, trivial, _, rfl, rfl, fun d hd => ?_, _, rfl, _, rfl, rfl, rfl⟩
  obtain ⟨s, _, rfl⟩ := List.mem_map.mp hd
  refine ⟨by simp, _, rfl, rfl, fun d1 hd1 => ?_⟩
  have hd1 : d1 = .int 3 ∨ d1 = .int 4 := by simpa using hd1
  rcases hd1 with rfl | rfl
  · exact ⟨_, rfl, _, rfl, _, rfl, trivial, _, rfl, rfl, rfl⟩
  · exact ⟨_, rfl, _, rfl, _, rfl, trivial, _, rfl, rfl, rfl⟩
theorem mem2 {z a b : Str} (h : z = a ∨ z = b) : ([PyData.str a, PyData.str b].any fun y => PyData.eqv y (.str z)) = true := by
  rcases h with rfl | rfl <;> simp
theorem ok_is_deed (T : Txt K mg) (D : KNum K w mg "DEEDS" deedsF) (C_is_name : Cal P w K mg base 1 "is_name" ["thing"] (spD K gName)) (C_is_number : Cal P w K mg base 1 "is_number" ["thing", "least", "most"] (spD K gNumber)) (C_is_interest : Cal P w K mg base 3 "is_interest" ["thing"] (spD K gInterest)) : Cal P w K mg base 4 "is_deed" ["thing"] (spD K gDeed) := by
  obtain ⟨f, fd, F, hm⟩ := T.f_is_deed
  refine okD F sc_is_deed hm (F.bindsN fun _ _ _ _ _ _ us hl => match us, hl with | [_], _ => rfl) ?_ (by decide) (fun cdv A outer s H E hr => ?_)
  · rintro ds d ⟨n, rfl, _⟩
    rfl
  have hu := hr.units
  refine ⟨_, (dss_c (ds_if (L2.PW.pt (dw_or (dt_not (dt_v (de_isi T.n_isinstance T.n_tuple (by decide +kernel) cls_tuple (de_v 0)))) (dw_or (dt_cmp op_lt od_lt (de_cb call_len cd_len T.n_len (by decide +kernel) (da_c (de_v 0) da_n)) de_i (nomark _)) (dw_or1 (dt_not (dt_v (de_isi T.n_isinstance T.n_str (by decide +kernel) cls_str (de_ix ix_seq od_ix (de_v 0) de_i (fun _ _ => rfl))))))))) (dss_1 (ds_ret de_b)) dss_n)
      (dss_c (ds_asg (de_v 0) (dg_star (i := 2) rfl (dgs_c (dg_n 1 sc_is_deed.nd (by intro p hp; cases hp)) (dgs_c (dg_n 2 sc_is_deed.nd (by intro p hp; cases hp)) (dgs_star (dg_n 3 sc_is_deed.nd (by intro p hp; cases hp)))))))
      (dss_c (ds_if (L2.PW.pt (dw_or (dt_cmp (op_neA hu) od_ne (de_kget D (de_v 1) de_i ⟨rfl, rfl, rfl, rfl⟩) (de_cb call_len cd_len T.n_len (by decide +kernel) (da_c (de_v 0) da_n)) (nomark _)) (dw_or1 (dt_not (dt_v (de_call C_is_name hr (by decide) (da_c (de_v 2) da_n))))))) (dss_1 (ds_ret de_b)) dss_n)
      (dss_c (ds_if (dt_cmp op_inA (od_in false) (de_v 1) (de_tup (da_c de_s (da_c de_s da_n))) (by rfl)) (dss_1 (ds_ret (de_call C_is_number hr (by decide) (da_c (de_ix ix_seq od_ix (de_v 3) de_i (fun _ _ => rfl)) (da_c de_i (da_c (de_k T.k_MOST_ROOM) da_n)))))) dss_n)
      (dss_c (ds_if (dt_cmp op_inA (od_in false) (de_v 1) (de_tup (da_c de_s (da_c de_s da_n))) (by rfl)) (dss_1 (ds_ret (de_call C_is_interest hr (by decide) (da_c (de_ix ix_seq od_ix (de_v 3) de_i (fun _ _ => rfl)) da_n)))) dss_n)
      (dss_c (ds_if (dt_cmp op_inA (od_in false) (de_v 1) (de_tup (da_c de_s (da_c de_s da_n))) (by rfl)) (dss_1 (ds_ret (de_call C_is_name hr (by decide) (da_c (de_ix ix_seq od_ix (de_v 3) de_i (fun _ _ => rfl)) da_n)))) dss_n)
      (dss_1 (ds_ret (de_or (de_cmp (op_neA hu) od_ne (de_v 1) de_s (nomark _)) (de_one (de_and (de_call C_is_name hr (by decide) (da_c (de_ix ix_seq od_ix (de_v 3) de_i (fun _ _ => rfl)) da_n)) (de_one (de_call C_is_number hr (by decide) (da_c (de_ix ix_seq od_ix (de_v 3) de_i (fun _ _ => rfl)) (da_c de_i (da_c (de_k T.k_MOST_ENTRIES) da_n)))))))))))))))), ?_⟩
  rintro ds d ⟨n, rfl, hn, rfl⟩
  refine ⟨_, rfl, true, kit_tt, true, rfl, iteF ?_⟩
  refine ⟨_, rfl, _, rfl, trivial, _, rfl, trivial, false, rfl, iteF ?_⟩
  refine ⟨_, rfl, _, rfl, trivial, true, kit_ss, true, rfl, iteF ?_⟩
  refine ⟨_, rfl, _, rfl, by show 2 ≤ 3; decide, by show 3 ≤ 10000; decide, _, _, rfl, _, _, rfl, _, _, rfl, rfl, ?_⟩
  refine ⟨_, rfl, _, rfl, _, rfl, _, rfl, trivial, _, rfl, .inl rfl, false, rfl, iteF ?_⟩
  refine ⟨_, rfl, .bool true, ⟨_, rfl, hn, rfl⟩, true, rfl, iteF ?_⟩
  refine ⟨_, rfl, by simp, _, rfl, ⟨rfl, rfl⟩, true, congrArg PyData.bool (mem2 (.inl rfl)), iteT ?_⟩
  exact ⟨_, rfl, _, rfl, trivial, _, ⟨_, _, _, rfl, rfl⟩, rfl⟩
theorem ok_is_task (T : Txt K mg) (C_is_name : Cal P w K mg base 1 "is_name" ["thing"] (spD K gName)) (C_is_tuple_of : Cal P w K mg base 1 "is_tuple_of" ["thing", "many"] (spD K gTupleOf)) : Cal P w K mg base 2 "is_task" ["thing"] (spD K gTask) := by
  obtain ⟨f, fd, F, hm⟩ := T.f_is_task
  refine okD F sc_is_task hm (F.bindsN fun _ _ _ _ _ _ us hl => match us, hl with | [_], _ => rfl) ?_ (by decide) (fun cdv A outer s H E hr => ?_)
  · rintro ds d ⟨n, rfl, _⟩
    rfl
  have hu := hr.units
  refine ⟨_, (dss_c (ds_if (L2.PW.pt (dw_or (dt_not (dt_v (de_call C_is_tuple_of hr (by decide) (da_c (de_v 0) (da_c de_i da_n))))) (dw_or (dt_not (dt_v (de_call C_is_name hr (by decide) (da_c (de_ix ix_seq od_ix (de_v 0) de_i (fun _ _ => rfl)) da_n)))) (dw_or1 (dt_not (dt_v (de_isi T.n_isinstance T.n_tuple (by decide +kernel) cls_tuple (de_ix ix_seq od_ix (de_v 0) de_i (fun _ _ => rfl))))))))) (dss_1 (ds_ret de_b)) dss_n)
      (dss_1 (ds_ret (de_chain op_le od_le op_le od_le de_i (de_cb call_len cd_len T.n_len (by decide +kernel) (da_c (de_ix ix_seq od_ix (de_v 0) de_i (fun _ _ => rfl)) da_n)) (de_k T.k_MOST_INSTRUCTIONS))))), ?_⟩
  rintro ds d ⟨t, rfl, ok, rfl⟩
  refine ⟨_, rfl, _, ⟨_, 2, rfl, rfl⟩, true, rfl, iteF ?_⟩
  refine ⟨_, rfl, _, rfl, trivial, .bool true, ⟨_, rfl, ok.name, rfl⟩, true, rfl, iteF ?_⟩
  refine ⟨_, rfl, _, rfl, trivial, true, kit_tt, true, rfl, iteF ?_⟩
  have h1 : decide ((1 : Int) ≤ ((t.code.map Ins.d).length : Nat)) = true := decide_eq_true (by have := ok.lo; simp; omega)
  have h2 : decide (((t.code.map Ins.d).length : Int) ≤ 12) = true := decide_eq_true (by have := ok.hi; simp; omega)
  refine ⟨_, rfl, _, rfl, trivial, _, rfl, trivial, true, congrArg (fun b => some (PyData.bool b)) h1, trivial, iteT ⟨_, rfl, trivial, ?_⟩⟩
  exact congrArg PyData.bool h2
theorem ins_tup (i : Ins) : tupD i.d = true := by
  cases i <;> simp [Ins.d]
theorem ins_shaped {n : Nat} {i : Ins} (h : i.Ok n) : SeqAt.shaped i.d = true := by
  have sk : ∀ {z : Str}, (z = "in" ∨ z = "out" ∨ z = "gone") → PyData.strOk z = true := fun h => by rcases h with rfl | rfl | rfl <;> decide +kernel
  have c1 : PyData.strOk "jump" = true := by decide +kernel
  have c2 : PyData.strOk "stop" = true := by decide +kernel
  have c3 : PyData.strOk "unless" = true := by decide +kernel
  have c4 : PyData.strOk "told" = true := by decide +kernel
  have c5 : PyData.strOk "put" = true := by decide +kernel
  cases i with
  | jump t => simp [Ins.d, SeqAt.shaped, PyData.canLay0, PyData.canLayAll0, PyData.depth, PyData.depthAll, c1]
  | stop => simp [Ins.d, SeqAt.shaped, PyData.canLay0, PyData.canLayAll0, PyData.depth, PyData.depthAll, c2]
  | unl t => simp [Ins.d, SeqAt.shaped, PyData.canLay0, PyData.canLayAll0, PyData.depth, PyData.depthAll, c3]
  | told a b t => simp [Ins.d, SeqAt.shaped, PyData.canLay0, PyData.canLayAll0, PyData.depth, PyData.depthAll, c4, h.1.ok, sk h.2.1]
  | put a => simp [Ins.d, SeqAt.shaped, PyData.canLay0, PyData.canLayAll0, PyData.depth, PyData.depthAll, c5, NameOk.ok h]
theorem ok_is_instruction (T : Txt K mg) (D : KNum K w mg "LENGTHS" lengthsF) (C_is_deed : Cal P w K mg base 4 "is_deed" ["thing"] (spD K gDeed)) (C_is_name : Cal P w K mg base 1 "is_name" ["thing"] (spD K gName)) (C_is_number : Cal P w K mg base 1 "is_number" ["thing", "least", "most"] (spD K gNumber)) : Cal P w K mg base 5 "is_instruction" ["thing", "many"] (spD K gIns) := by
  obtain ⟨f, fd, F, hm⟩ := T.f_is_instruction
  refine okD F sc_is_instruction hm (F.bindsN fun _ _ _ _ _ _ us hl => match us, hl with | [_, _], _ => rfl) ?_ (by decide) (fun cdv A outer s H E hr => ?_)
  · rintro ds d ⟨i, n, rfl, _⟩
    rfl
  have hu := hr.units
  refine ⟨_, (dss_c (ds_if (L2.PW.pt (dw_or (dt_not (dt_v (de_isi T.n_isinstance T.n_tuple (by decide +kernel) cls_tuple (de_v 0)))) (dw_or (dt_cmp (op_eqA hu) od_eq (de_v 0) (de_tup da_n) (nomark _)) (dw_or1 (dt_not (dt_v (de_isi T.n_isinstance T.n_str (by decide +kernel) cls_str (de_ix ix_seq od_ix (de_v 0) de_i (fun _ _ => rfl))))))))) (dss_1 (ds_ret de_b)) dss_n)
      (dss_c (ds_set 2 sc_is_instruction.nd (by intro p hp; cases hp) (de_ix ix_seq od_ix (de_v 0) de_i (fun _ _ => rfl)))
      (dss_c (ds_if (dt_cmp op_inA (od_in false) (de_v 2) (de_k T.k_DEED_WORDS) (by rfl)) (dss_1 (ds_ret (de_call C_is_deed hr (by decide) (da_c (de_v 0) da_n)))) dss_n)
      (dss_c (ds_if (dt_cmp (op_neA hu) od_ne (de_kget D (de_v 2) de_i ⟨rfl, rfl, rfl, rfl⟩) (de_cb call_len cd_len T.n_len (by decide +kernel) (da_c (de_v 0) da_n)) (nomark _)) (dss_1 (ds_ret de_b)) dss_n)
      (dss_c (ds_if (L2.PW.pt (dw_and (dt_cmp (op_eqA hu) od_eq (de_v 2) de_s (nomark _)) (dw_and1 (dt_not (L2.PW.pt (dw_and (dt_v (de_call C_is_name hr (by decide) (da_c (de_ix ix_seq od_ix (de_v 0) de_i (fun _ _ => rfl)) da_n))) (dw_and (dt_v (de_isi T.n_isinstance T.n_str (by decide +kernel) cls_str (de_ix ix_seq od_ix (de_v 0) de_i (fun _ _ => rfl)))) (dw_and1 (dt_cmp op_inA (od_in false) (de_ix ix_seq od_ix (de_v 0) de_i (fun _ _ => rfl)) (de_k T.k_WORDS) (by rfl)))))))))) (dss_1 (ds_ret de_b)) dss_n)
      (dss_c (ds_if (dt_cmp op_inA (od_in false) (de_v 2) (de_tup (da_c de_s (da_c de_s (da_c de_s da_n)))) (by rfl)) (dss_1 (ds_ret (de_call C_is_number hr (by decide) (da_c (de_ix ix_seq od_ix (de_v 0) (de_neg de_i) (fun _ _ => rfl)) (da_c de_i (da_c (de_v 1) da_n)))))) dss_n)
      (dss_c (ds_if (dt_cmp (op_eqA hu) od_eq (de_v 2) de_s (nomark _)) (dss_1 (ds_ret (de_and (de_call C_is_name hr (by decide) (da_c (de_ix ix_seq od_ix (de_v 0) de_i (fun _ _ => rfl)) da_n)) (de_one (de_call C_is_number hr (by decide) (da_c (de_ix ix_seq od_ix (de_v 0) de_i (fun _ _ => rfl)) (da_c de_i (da_c (de_k T.k_MOST_ENTRIES) da_n)))))))) dss_n)
      (dss_1 (ds_ret (de_or (de_cmp (op_eqA hu) od_eq (de_v 2) de_s (nomark _)) (de_one (de_call C_is_name hr (by decide) (da_c (de_ix ix_seq od_ix (de_v 0) de_i (fun _ _ => rfl)) da_n))))))))))))), ?_⟩
  rintro ds d ⟨i, n, rfl, ok, rfl⟩
  cases i with
  | jump t =>
    refine ⟨_, rfl, true, kit_tt, true, rfl, iteF ?_⟩
    refine ⟨_, rfl, by simp, _, rfl, .inr ⟨ins_shaped ok, nil_shaped⟩, false, rfl, iteF ?_⟩
    refine ⟨_, rfl, _, rfl, trivial, true, kit_ss, true, rfl, iteF ?_⟩
    refine ⟨_, rfl, _, rfl, trivial, ?_⟩
    refine ⟨_, rfl, _, rfl, ⟨rfl, rfl⟩, false, congrArg PyData.bool (by decide +kernel : ([PyData.str "put", PyData.str "take", PyData.str "shut", PyData.str "add", PyData.str "change", PyData.str "arm", PyData.str "drop"].any fun y => PyData.eqv y (.str "jump")) = false), iteF ?_⟩
    have e : lengthsF "jump" = some 2 := by decide +kernel
    refine ⟨_, rfl, "jump", rfl, ?_⟩
    simp only [e]
    refine ⟨_, rfl, _, rfl, trivial, _, rfl, .inl rfl, false, rfl, iteF ?_⟩
    refine ⟨_, rfl, _, rfl, .inl rfl, false, congrArg PyData.bool (by decide +kernel : PyData.eqv (.str "jump") (.str "told") = false), iteF ?_⟩
    refine ⟨_, rfl, by simp, _, rfl, ⟨rfl, rfl⟩, true, congrArg PyData.bool (by decide +kernel : ([PyData.str "jump", PyData.str "unless", PyData.str "told"].any fun y => PyData.eqv y (.str "jump")) = true), iteT ?_⟩
    have ht : (0 : Int) ≤ (t : Nat) ∧ ((t : Nat) : Int) ≤ (n : Nat) := ⟨by omega, by have : t ≤ n := ok; omega⟩
    exact ⟨_, rfl, 1, rfl, _, rfl, trivial, _, rfl, _, ⟨_, _, _, rfl, rfl⟩, (num_true ht.1 ht.2).symm⟩
  | stop =>
    refine ⟨_, rfl, true, kit_tt, true, rfl, iteF ?_⟩
    refine ⟨_, rfl, by simp, _, rfl, .inr ⟨ins_shaped ok, nil_shaped⟩, false, rfl, iteF ?_⟩
    refine ⟨_, rfl, _, rfl, trivial, true, kit_ss, true, rfl, iteF ?_⟩
    refine ⟨_, rfl, _, rfl, trivial, ?_⟩
    refine ⟨_, rfl, _, rfl, ⟨rfl, rfl⟩, false, congrArg PyData.bool (by decide +kernel : ([PyData.str "put", PyData.str "take", PyData.str "shut", PyData.str "add", PyData.str "change", PyData.str "arm", PyData.str "drop"].any fun y => PyData.eqv y (.str "stop")) = false), iteF ?_⟩
    have e : lengthsF "stop" = some 1 := by decide +kernel
    refine ⟨_, rfl, "stop", rfl, ?_⟩
    simp only [e]
    refine ⟨_, rfl, _, rfl, trivial, _, rfl, .inl rfl, false, rfl, iteF ?_⟩
    refine ⟨_, rfl, _, rfl, .inl rfl, false, congrArg PyData.bool (by decide +kernel : PyData.eqv (.str "stop") (.str "told") = false), iteF ?_⟩
    refine ⟨_, rfl, by simp, _, rfl, ⟨rfl, rfl⟩, false, congrArg PyData.bool (by decide +kernel : ([PyData.str "jump", PyData.str "unless", PyData.str "told"].any fun y => PyData.eqv y (.str "stop")) = false), iteF ?_⟩
    refine ⟨_, rfl, _, rfl, .inl rfl, false, congrArg PyData.bool (by decide +kernel : PyData.eqv (.str "stop") (.str "wait") = false), iteF ?_⟩
    refine ⟨_, rfl, _, rfl, .inl rfl, true, congrArg PyData.bool (by decide +kernel : PyData.eqv (.str "stop") (.str "stop") = true), iteT rfl⟩
  | unl t =>
    refine ⟨_, rfl, true, kit_tt, true, rfl, iteF ?_⟩
    refine ⟨_, rfl, by simp, _, rfl, .inr ⟨ins_shaped ok, nil_shaped⟩, false, rfl, iteF ?_⟩
    refine ⟨_, rfl, _, rfl, trivial, true, kit_ss, true, rfl, iteF ?_⟩
    refine ⟨_, rfl, _, rfl, trivial, ?_⟩
    refine ⟨_, rfl, _, rfl, ⟨rfl, rfl⟩, false, congrArg PyData.bool (by decide +kernel : ([PyData.str "put", PyData.str "take", PyData.str "shut", PyData.str "add", PyData.str "change", PyData.str "arm", PyData.str "drop"].any fun y => PyData.eqv y (.str "unless")) = false), iteF ?_⟩
    have e : lengthsF "unless" = some 2 := by decide +kernel
    refine ⟨_, rfl, "unless", rfl, ?_⟩
    simp only [e]
    refine ⟨_, rfl, _, rfl, trivial, _, rfl, .inl rfl, false, rfl, iteF ?_⟩
    refine ⟨_, rfl, _, rfl, .inl rfl, false, congrArg PyData.bool (by decide +kernel : PyData.eqv (.str "unless") (.str "told") = false), iteF ?_⟩
    refine ⟨_, rfl, by simp, _, rfl, ⟨rfl, rfl⟩, true, congrArg PyData.bool (by decide +kernel : ([PyData.str "jump", PyData.str "unless", PyData.str "told"].any fun y => PyData.eqv y (.str "unless")) = true), iteT ?_⟩
    have ht : (0 : Int) ≤ (t : Nat) ∧ ((t : Nat) : Int) ≤ (n : Nat) := ⟨by omega, by have : t ≤ n := ok; omega⟩
    exact ⟨_, rfl, 1, rfl, _, rfl, trivial, _, rfl, _, ⟨_, _, _, rfl, rfl⟩, (num_true ht.1 ht.2).symm⟩
  | told a b t =>
    refine ⟨_, rfl, true, kit_tt, true, rfl, iteF ?_⟩
    refine ⟨_, rfl, by simp, _, rfl, .inr ⟨ins_shaped ok, nil_shaped⟩, false, rfl, iteF ?_⟩
    refine ⟨_, rfl, _, rfl, trivial, true, kit_ss, true, rfl, iteF ?_⟩
    refine ⟨_, rfl, _, rfl, trivial, ?_⟩
    refine ⟨_, rfl, _, rfl, ⟨rfl, rfl⟩, false, congrArg PyData.bool (by decide +kernel : ([PyData.str "put", PyData.str "take", PyData.str "shut", PyData.str "add", PyData.str "change", PyData.str "arm", PyData.str "drop"].any fun y => PyData.eqv y (.str "told")) = false), iteF ?_⟩
    have e : lengthsF "told" = some 4 := by decide +kernel
    refine ⟨_, rfl, "told", rfl, ?_⟩
    simp only [e]
    refine ⟨_, rfl, _, rfl, trivial, _, rfl, .inl rfl, false, rfl, iteF ?_⟩
    refine ⟨_, rfl, _, rfl, .inl rfl, true, congrArg PyData.bool (by decide +kernel : PyData.eqv (.str "told") (.str "told") = true), iteT ?_⟩
    refine ⟨_, rfl, _, rfl, trivial, .bool true, ⟨_, rfl, ok.1, rfl⟩, true, rfl, iteT ?_⟩
    refine ⟨_, rfl, _, rfl, trivial, true, kit_ss, true, rfl, iteT ?_⟩
    have hb : ([PyData.str "in", PyData.str "out", PyData.str "gone"].any fun y => PyData.eqv y (.str b)) = true := by rcases ok.2.1 with rfl | rfl | rfl <;> decide +kernel
    refine ⟨_, rfl, _, rfl, trivial, _, rfl, ⟨rfl, rfl⟩, true, congrArg PyData.bool hb, ?_⟩
    refine iteF ?_
    refine ⟨_, rfl, by simp, _, rfl, ⟨rfl, rfl⟩, true, congrArg PyData.bool (by decide +kernel : ([PyData.str "jump", PyData.str "unless", PyData.str "told"].any fun y => PyData.eqv y (.str "told")) = true), iteT ?_⟩
    have ht : (0 : Int) ≤ (t : Nat) ∧ ((t : Nat) : Int) ≤ (n : Nat) := ⟨by omega, by have : t ≤ n := ok.2.2; omega⟩
    exact ⟨_, rfl, 1, rfl, _, rfl, trivial, _, rfl, _, ⟨_, _, _, rfl, rfl⟩, (num_true ht.1 ht.2).symm⟩
  | put a =>
    refine ⟨_, rfl, true, kit_tt, true, rfl, iteF ?_⟩
    refine ⟨_, rfl, by simp, _, rfl, .inr ⟨ins_shaped ok, nil_shaped⟩, false, rfl, iteF ?_⟩
    refine ⟨_, rfl, _, rfl, trivial, true, kit_ss, true, rfl, iteF ?_⟩
    refine ⟨_, rfl, _, rfl, trivial, ?_⟩
    refine ⟨_, rfl, _, rfl, ⟨rfl, rfl⟩, true, congrArg PyData.bool (by decide +kernel : ([PyData.str "put", PyData.str "take", PyData.str "shut", PyData.str "add", PyData.str "change", PyData.str "arm", PyData.str "drop"].any fun y => PyData.eqv y (.str "put")) = true), iteT ?_⟩
    exact ⟨_, rfl, .bool true, ⟨a, rfl, ok, rfl⟩, rfl⟩
end
end K45
/-! KB16 -/
set_option Elab.async false
set_option linter.all false
set_option maxRecDepth 100000
set_option maxHeartbeats 4000000
namespace K45
open PySem PySem.Spec PyProof.Rows L2
theorem six_n (n d : Nat) : HT.sIx n d none = d := rfl
theorem six_s (n d i : Nat) : HT.sIx n d (some (i : Int)) = min i n := by
  unfold HT.sIx
  simp
  try omega
theorem cut_to {α : Type} (xs : List α) (i : Nat) : cutL xs none (some (i : Int)) = xs.take i := by
  unfold cutL
  rw [six_n, six_s, List.drop_zero, Nat.sub_zero]
  by_cases h : i ≤ xs.length
  · rw [Nat.min_eq_left h]
  · rw [Nat.min_eq_right (by omega), List.take_length, List.take_of_length_le (by omega)]
theorem cut_from {α : Type} (xs : List α) (i : Nat) : cutL xs (some (i : Int)) none = xs.drop i := by
  unfold cutL
  rw [six_n, six_s]
  by_cases h : i ≤ xs.length
  · rw [Nat.min_eq_left h, List.take_of_length_le (by simp)]
  · rw [Nat.min_eq_right (by omega), List.drop_eq_nil_of_le (Nat.le_refl _), List.drop_eq_nil_of_le (by omega)]
    simp
theorem cut_mid {α : Type} (xs : List α) (i j : Nat) : cutL xs (some (i : Int)) (some (j : Int)) = (xs.take j).drop i := by
  unfold cutL
  rw [six_s, six_s, List.drop_take]
  by_cases h : i ≤ xs.length
  · rw [Nat.min_eq_left h]
    by_cases k : j ≤ xs.length
    · rw [Nat.min_eq_left k]
    · rw [Nat.min_eq_right (by omega), List.take_of_length_le (by simp), List.take_of_length_le (by simp; omega)]
  · rw [Nat.min_eq_right (a := i) (by omega), List.drop_eq_nil_of_le (Nat.le_refl _), List.drop_eq_nil_of_le (i := i) (by omega)]
    simp
theorem b_of {W : WE} {r : Rv} {n : Nat} {b : Bool} {P : Bool → Nat → Prop} (h : Gives W r n (.bool b)) (k : P b n) : wB W r n P := h _ ⟨b, rfl, k⟩
theorem strs_at' {α : Type} (l : List α) (f : α → Str) (z : Str) : ((l.map fun a => PyData.str (f a)).any fun y => PyData.eqv y (.str z)) = decide (z ∈ l.map f) := by
  rw [show (l.map fun a => PyData.str (f a)) = (l.map f).map .str by rw [List.map_map]; rfl, any_str]
theorem strs_flat' {α : Type} (l : List α) (f : α → Str) : (l.map fun a => PyData.str (f a)).all flatD = true := by simp
end K45
/-! KA7 -/
set_option Elab.async false
set_option linter.all false
set_option maxRecDepth 100000
set_option maxHeartbeats 2000000
namespace K45
open PySem PySem.Spec PyProof.Rows L2

def Hall.Quiet (h : Hall) : Prop := h.sets.length ≤ 4
def gWhere (ds : List PyData) (d : PyData) : Prop := ∃ (h : Hall) (n : Str), ds = [h.d, .str n] ∧ h.sets.length ≤ 4 ∧ d = .none
/-- a task of a state, by its number -/
structure At (s : St3) (i : Nat) (t : Task) (c : Ctr) : Prop where
  t : s.ts[i]? = some t
  c : s.cs[i]? = some c
def gGoes (ds : List PyData) (d : PyData) : Prop := ∃ (s : St3) (i : Nat) (t : Task) (c : Ctr), ds = [s.pd, s.sd, .int (i : Nat)] ∧ s.h.sets.length ≤ 4 ∧ At s i t c ∧ d = .bool (decide (c.place < t.code.length))
def leftL (s : St3) : List Nat := (List.range s.ts.length).filter fun i => match s.cs[i]?, s.ts[i]? with
  | some c, some t => decide (c.place < t.code.length)
  | _, _ => false
def gGoing (ds : List PyData) (d : PyData) : Prop := ∃ s : St3, ds = [s.pd, s.sd] ∧ s.Ok ∧ d = .list ((leftL s).map fun i => .int (i : Nat))
theorem cut_src (ts : List Task) (i : Nat) : PyData.tuple (cutL (ts.map Task.d) none (some (i : Int))) = .tuple ((ts.take i).map Task.d) := by rw [cut_to, List.map_take]
theorem zip_src (cs : List Ctr) (ts : List Task) : zipD (cs.map Ctr.d) (ts.map Task.d) = (cs.zip ts).map fun p => .tuple [p.1.d, p.2.d] := by
  unfold zipD
  rw [List.zip_map, List.map_map]
  rfl
theorem zip_at {ts : List Task} {cs : List Ctr} {i : Nat} {x : PyData} (h : (zipD (ts.map Task.d) (cs.map Ctr.d))[i]? = some x) : ∃ (t : Task) (c : Ctr), x = .tuple [t.d, c.d] := by
  unfold zipD at h
  rw [List.zip_map, List.map_map] at h
  obtain ⟨p, _, _, rfl⟩ := map_at h
  exact ⟨p.1, p.2, rfl⟩
theorem at_n {α : Type} {l : List α} {i : Nat} {x : α} (h : l[i]? = some x) : atI l ((i : Nat) : Int) = some x := atI_nat h
theorem range_d (n : Nat) : rangeD 0 n = (List.range n).map fun i => PyData.int ((i : Nat) : Int) := by simp [rangeD]
theorem all_true' {α : Type} (l : List α) : allF false [.list (l.map fun _ => .bool true)] = some (.bool true) := (all_of l fun _ => true).trans (by simp)
section
variable {P : Program} {w : World} {K : PySem.W.Frag} {mg : Str → Option Value} {base : Heap}
theorem ok_need_tasks (T : Txt K mg) (C_are_up_to : Cal P w K mg base 1 "are_up_to" ["thing", "many"] (spD K gUpTo)) (C_is_task : Cal P w K mg base 2 "is_task" ["thing"] (spD K gTask)) (C_is_instruction : Cal P w K mg base 5 "is_instruction" ["thing", "many"] (spD K gIns)) : Cal P w K mg base 6 "need_tasks" ["tasks"] (spD K gTasks) := by
  obtain ⟨f, fd, F, hm⟩ := T.f_need_tasks
  refine okD F sc_need_tasks hm (F.bindsN fun _ _ _ _ _ _ us hl => match us, hl with | [_], _ => rfl) ?_ (by decide) (fun cdv A outer s H E hr => ?_)
  · rintro ds d ⟨t, rfl, _⟩
    rfl
  have hu := hr.units
  refine ⟨_, (dss_c (ds_if (dt_not (dt_v (de_call C_are_up_to hr (by decide) (da_c (de_v 0) (da_c (de_k T.k_MOST_TASKS) da_n))))) (dss_1 ds_never) dss_n)
      (dss_c (ds_for PassesOwn.never rfl (di_en T.n_enumerate (da_c (de_v 0) da_n)) (dg_t (n := 2) rfl (dgs_c (dg_n 1 sc_need_tasks.nd (by intro p hp; cases hp)) (dgs_c (dg_n 2 sc_need_tasks.nd (by intro p hp; cases hp)) dgs_n))) (dss_1 (ds_if (L2.PW.pt (dw_or (dt_not (dt_v (de_call C_is_task hr (by decide) (da_c (de_v 2) da_n)))) (dw_or1 (dt_cmp op_inA (od_in false) (de_ix ix_seq od_ix (de_v 2) de_i (fun _ _ => rfl)) (de_lc0 (m := pureM) [("one", 3)] rfl sc_need_tasks.nd (di_t (de_sl (de_v 0) do_n (do_s (de_v 1)))) (blkOk_by (N := ["tasks", "number", "task", "one", "name", "code", "place", "instruction"]) (sc := defScope s_need_tasks) (by decide +kernel)) (by intro p hp; cases hp) (by decide) (fun _ _ _ _ _ => (dg_n 3 sc_need_tasks.nd (by intro p hp; cases hp))) (fun _ _ _ _ _ => (de_ix ix_seq od_ix (de_v 3) de_i (fun _ _ => rfl)))) (by rfl))))) (dss_1 ds_never) dss_n)))
      (dss_1 (ds_for PassesOwn.never rfl (di_en T.n_enumerate (da_c (de_v 0) da_n)) (dg_t (n := 2) rfl (dgs_c (dg_n 1 sc_need_tasks.nd (by intro p hp; cases hp)) (dgs_c (dg_t (n := 2) rfl (dgs_c (dg_n 4 sc_need_tasks.nd (by intro p hp; cases hp)) (dgs_c (dg_n 5 sc_need_tasks.nd (by intro p hp; cases hp)) dgs_n))) dgs_n))) (dss_1 (ds_for PassesOwn.never rfl (di_en T.n_enumerate (da_c (de_v 5) da_n)) (dg_t (n := 2) rfl (dgs_c (dg_n 6 sc_need_tasks.nd (by intro p hp; cases hp)) (dgs_c (dg_n 7 sc_need_tasks.nd (by intro p hp; cases hp)) dgs_n))) (dss_1 (ds_if (dt_not (dt_v (de_call C_is_instruction hr (by decide) (da_c (de_v 7) (da_c (de_cb call_len cd_len T.n_len (by decide +kernel) (da_c (de_v 5) da_n)) da_n))))) (dss_1 ds_never) dss_n)))))))), ?_⟩
  rintro ds d ⟨ts, rfl, ok, rfl⟩
  have h4 := ok.hi
  refine ⟨_, rfl, _, ⟨_, 4, rfl, rfl⟩, true, by simp; omega, iteF ?_⟩
  refine w_for0 (enumD (ts.map Task.d)) (fun _ => True) (fun A q => ⟨_, rfl, _, rfl, q⟩) trivial (fun i d q _ => ?_) (fun _ => ?_)
  · obtain ⟨x, hx, rfl⟩ := enum_at q
    obtain ⟨t, ht, hm, rfl⟩ := map_at hx
    refine ⟨_, rfl, rfl, _, _, rfl, _, _, rfl, rfl, ?_⟩
    refine ⟨_, rfl, .bool true, ⟨t, rfl, ok.ok t hm, rfl⟩, true, rfl, iteF ?_⟩
    have hin : t.name ∉ (ts.take i).map Task.name := by
      rw [List.map_take]
      exact new_name ok.nd (by rw [List.getElem?_map, ht]; rfl)
    refine b_of (b := false) (g_op (a := .str t.name) (b := .list ((ts.take i).map fun t => .str t.name)) (fun A q => ⟨_, rfl, _, rfl, trivial, q⟩) (g_mapF (ts.take i) Task.d (fun t => .str t.name) (fun A q => ⟨_, rfl, _, rfl, _, rfl, _, rfl, trivial, _, cut_src ts i, q⟩) (by simp; omega) (fun u hu P' q => ⟨_, rfl, _, rfl, trivial, q⟩) (fun u hu => by simp)) ?_ ⟨rfl, strs_flat' (ts.take i) Task.name⟩) (iteF ⟨_, (le_same _ (le_none _ (le_none _ (le_none _ (le_none _ (le_none _ (le_none _ (le_none _ (Le.refl _))))))))), rfl, rfl, trivial⟩)
    refine congrArg (fun b => some (PyData.bool b)) ?_
    simp only [Bool.false_eq_true, if_false]
    rw [strs_at']
    exact decide_eq_false hin
  refine w_for0 (enumD (ts.map Task.d)) (fun _ => True) (fun A q => ⟨_, rfl, _, rfl, q⟩) trivial (fun i d q _ => ?_) (fun _ => rfl)
  obtain ⟨x, hx, rfl⟩ := enum_at q
  obtain ⟨t, ht, hm, rfl⟩ := map_at hx
  have okt := ok.ok t hm
  refine ⟨_, rfl, rfl, _, _, rfl, _, _, rfl, ⟨_, rfl, rfl, _, _, rfl, _, _, rfl, rfl, rfl, ?_⟩⟩
  refine w_for0 (enumD (t.code.map Ins.d)) (fun _ => True) (fun A q => ⟨_, rfl, _, rfl, q⟩) trivial (fun j d q _ => ?_) (fun _ => ⟨_, (le_same _ (le_none _ (le_none _ (le_none _ (le_none _ (le_none _ (le_none _ (le_none _ (Le.refl _))))))))), rfl, rfl, trivial⟩)
  obtain ⟨x, hx, rfl⟩ := enum_at q
  obtain ⟨c, hc, hmc, rfl⟩ := map_at hx
  refine ⟨_, rfl, rfl, _, _, rfl, _, _, rfl, rfl, ?_⟩
  exact ⟨_, rfl, _, rfl, _, rfl, trivial, .bool true, ⟨c, t.code.length, by simp, okt.code c hmc, rfl⟩, true, rfl, iteF ⟨_, (le_same _ (le_same _ (le_same _ (le_same _ (le_same _ (le_same _ (le_none _ (le_none _ (Le.refl _))))))))), rfl, rfl, trivial⟩⟩
theorem ok_is_telling (T : Txt K mg) (C_are_up_to : Cal P w K mg base 1 "are_up_to" ["thing", "many"] (spD K gUpTo)) (C_are_words : Cal P w K mg base 2 "are_words" ["thing"] (spD K gWords)) (C_is_name : Cal P w K mg base 1 "is_name" ["thing"] (spD K gName)) (C_is_tuple_of : Cal P w K mg base 1 "is_tuple_of" ["thing", "many"] (spD K gTupleOf)) : Cal P w K mg base 3 "is_telling" ["thing"] (spD K gTel) := by
  obtain ⟨f, fd, F, hm⟩ := T.f_is_telling
  refine okD F sc_is_telling hm (F.bindsN fun _ _ _ _ _ _ us hl => match us, hl with | [_], _ => rfl) ?_ (by decide) (fun cdv A outer s H E hr => ?_)
  · rintro ds d ⟨t, rfl, _⟩
    rfl
  have hu := hr.units
  refine ⟨_, (dss_c (ds_if (dt_not (dt_v (de_call C_are_up_to hr (by decide) (da_c (de_v 0) (da_c (de_k T.k_MOST_ENTRIES) da_n))))) (dss_1 (ds_ret de_b)) dss_n)
      (dss_1 (ds_ret (de_cb (cr_allA false rfl) (cd_all false) T.n_all (by decide +kernel) (da_c (de_lc0 (m := pureM) [("one", 1)] rfl sc_is_telling.nd (di_t (de_v 0)) (blkOk_by (N := ["thing", "one"]) (sc := defScope s_is_telling) (by decide +kernel)) (by intro p hp; cases hp) (by decide) (fun _ _ _ _ _ => (dg_n 1 sc_is_telling.nd (by intro p hp; cases hp))) (fun _ _ _ _ _ => (de_and (de_call C_is_tuple_of hr (by decide) (da_c (de_v 1) (da_c de_i da_n))) (de_and (de_call C_is_name hr (by decide) (da_c (de_ix ix_seq od_ix (de_v 1) de_i (fun _ _ => rfl)) da_n)) (de_and (de_call C_are_words hr (by decide) (da_c (de_ix ix_seq od_ix (de_v 1) de_i (fun _ _ => rfl)) da_n)) (de_one (de_cmp (op_neA hu) od_ne (de_ix ix_seq od_ix (de_v 1) de_i (fun _ _ => rfl)) (de_tup da_n) (nomark _)))))))) da_n))))), ?_⟩
  rintro ds d ⟨t, rfl, ok, rfl⟩
  have h6 := ok.few
  refine ⟨_, rfl, _, ⟨_, 6, rfl, rfl⟩, true, by simp; omega, iteF ?_⟩
  refine g_mapF t (fun p => .tuple [.str p.1, p.2.d]) (fun _ => .bool true) (fun A q => ⟨_, rfl, _, rfl, q⟩) (by omega) (fun p hp P' q => ?_) (fun p hp => by simp) _ ⟨_, all_true' t, trivial, rfl⟩
  obtain ⟨h1, h2⟩ := ok.ok p hp
  refine ⟨_, rfl, _, ⟨_, 2, rfl, rfl⟩, true, rfl, iteT ?_⟩
  refine ⟨_, rfl, _, rfl, trivial, .bool true, ⟨_, rfl, h1, rfl⟩, true, rfl, iteT ?_⟩
  refine ⟨_, rfl, _, rfl, trivial, .bool true, ⟨_, rfl, rfl⟩, true, rfl, iteT ?_⟩
  refine ⟨_, rfl, _, rfl, trivial, by simp, _, rfl, .inr ⟨ws_shaped _, nil_shaped⟩, ?_⟩
  rw [ws_nil, h2]
  exact q
theorem ok_is_counter (T : Txt K mg) (C_is_number : Cal P w K mg base 1 "is_number" ["thing", "least", "most"] (spD K gNumber)) (C_is_tuple_of : Cal P w K mg base 1 "is_tuple_of" ["thing", "many"] (spD K gTupleOf)) (C_is_telling : Cal P w K mg base 3 "is_telling" ["thing"] (spD K gTel)) : Cal P w K mg base 4 "is_counter" ["thing", "many"] (spD K gCtr) := by
  obtain ⟨f, fd, F, hm⟩ := T.f_is_counter
  refine okD F sc_is_counter hm (F.bindsN fun _ _ _ _ _ _ us hl => match us, hl with | [_, _], _ => rfl) ?_ (by decide) (fun cdv A outer s H E hr => ?_)
  · rintro ds d ⟨c, n, rfl, _⟩
    rfl
  have hu := hr.units
  refine ⟨_, (dss_c (ds_if (L2.PW.pt (dw_or (dt_not (dt_v (de_call C_is_tuple_of hr (by decide) (da_c (de_v 0) (da_c de_i da_n))))) (dw_or1 (dt_not (dt_v (de_call C_is_number hr (by decide) (da_c (de_ix ix_seq od_ix (de_v 0) de_i (fun _ _ => rfl)) (da_c de_i (da_c (de_v 1) da_n))))))))) (dss_1 (ds_ret de_b)) dss_n)
      (dss_1 (ds_ret (de_and (de_isi T.n_isinstance T.n_bool (by decide +kernel) cls_bool (de_ix ix_seq od_ix (de_v 0) de_i (fun _ _ => rfl))) (de_one (de_call C_is_telling hr (by decide) (da_c (de_ix ix_seq od_ix (de_v 0) de_i (fun _ _ => rfl)) da_n))))))), ?_⟩
  rintro ds d ⟨c, n, rfl, ok, rfl⟩
  have hp : (0 : Int) ≤ (c.place : Nat) ∧ ((c.place : Nat) : Int) ≤ (n : Nat) := ⟨by omega, by have := ok.place; omega⟩
  refine ⟨_, rfl, _, ⟨_, 3, rfl, rfl⟩, true, rfl, iteF ?_⟩
  refine ⟨_, rfl, _, rfl, trivial, _, rfl, .bool true, ⟨_, _, _, rfl, num_true hp.1 hp.2⟩, true, rfl, iteF ?_⟩
  refine ⟨_, rfl, _, rfl, trivial, true, kit_bb, true, rfl, iteT ?_⟩
  exact ⟨_, rfl, _, rfl, trivial, .bool true, ⟨_, rfl, ok.got, rfl⟩, rfl⟩
theorem ok_is_state_form (T : Txt K mg) (C_is_tuple_of : Cal P w K mg base 1 "is_tuple_of" ["thing", "many"] (spD K gTupleOf)) (C_is_counter : Cal P w K mg base 4 "is_counter" ["thing", "many"] (spD K gCtr)) : Cal P w K mg base 5 "is_state_form" ["program", "thing"] (spD K gForm) := by
  obtain ⟨f, fd, F, hm⟩ := T.f_is_state_form
  refine okD F sc_is_state_form hm (F.bindsN fun _ _ _ _ _ _ us hl => match us, hl with | [_, _], _ => rfl) ?_ (by decide) (fun cdv A outer s H E hr => ?_)
  · rintro ds d ⟨s, rfl, _⟩
    rfl
  have hu := hr.units
  refine ⟨_, (dss_c (ds_set 2 sc_is_state_form.nd (by intro p hp; cases hp) (de_ix ix_seq od_ix (de_v 0) de_i (fun _ _ => rfl)))
      (dss_c (ds_if (L2.PW.pt (dw_or (dt_not (dt_v (de_call C_is_tuple_of hr (by decide) (da_c (de_v 1) (da_c de_i da_n))))) (dw_or1 (dt_not (dt_v (de_call C_is_tuple_of hr (by decide) (da_c (de_ix ix_seq od_ix (de_v 1) de_i (fun _ _ => rfl)) (da_c (de_cb call_len cd_len T.n_len (by decide +kernel) (da_c (de_v 2) da_n)) da_n)))))))) (dss_1 (ds_ret de_b)) dss_n)
      (dss_1 (ds_ret (de_cb (cr_allA false rfl) (cd_all false) T.n_all (by decide +kernel) (da_c (de_lc0 (m := pureM) [("one", 3), ("task", 4)] rfl sc_is_state_form.nd (di_zt T.n_zip (da_c (de_ix ix_seq od_ix (de_v 1) de_i (fun _ _ => rfl)) (da_c (de_v 2) da_n))) (blkOk_by (N := ["program", "thing", "tasks", "one", "task"]) (sc := defScope s_is_state_form) (by decide +kernel)) (by intro p hp; cases hp) (by decide) (fun _ _ _ _ _ => (dg_t (n := 2) rfl (dgs_c (dg_n 3 sc_is_state_form.nd (by intro p hp; cases hp)) (dgs_c (dg_n 4 sc_is_state_form.nd (by intro p hp; cases hp)) dgs_n)))) (fun _ _ _ _ _ => (de_call C_is_counter hr (by decide) (da_c (de_v 3) (da_c (de_cb call_len cd_len T.n_len (by decide +kernel) (da_c (de_ix ix_seq od_ix (de_v 4) de_i (fun _ _ => rfl)) da_n)) da_n))))) da_n)))))), ?_⟩
  rintro ds d ⟨s, rfl, ok, rfl⟩
  have h4 := ok.ts.hi
  have hl := ok.len
  refine ⟨_, rfl, _, rfl, trivial, ?_⟩
  refine ⟨_, rfl, _, ⟨_, 2, rfl, rfl⟩, true, rfl, iteF ?_⟩
  refine ⟨_, rfl, _, rfl, trivial, _, rfl, _, rfl, trivial, _, ⟨_, _, rfl, rfl⟩, true, ?_, iteF ?_⟩
  · simp [hl]
  refine g_mapF (s.cs.zip s.ts) (fun p => .tuple [p.1.d, p.2.d]) (fun _ => .bool true) (fun A q => ⟨_, rfl, _, rfl, trivial, _, rfl, _, _, rfl, by simp [hl], ?_⟩) (by simp; omega) (fun p hp P' q => ?_) (fun p hp => by simp) _ ⟨_, all_true' _, trivial, rfl⟩
  · obtain ⟨i, hi⟩ := List.mem_iff_getElem?.mp hp
    obtain ⟨h1, h2⟩ := List.getElem?_zip_eq_some.mp hi
    have okc := ok.cs i p.1 p.2 h1 h2
    exact ⟨_, rfl, rfl, _, _, rfl, _, _, rfl, rfl, _, rfl, _, rfl, _, rfl, trivial, _, rfl, trivial, .bool true, ⟨p.1, p.2.code.length, by simp, okc, rfl⟩, q⟩
  · rw [zip_src]
    exact q
theorem ok_need_program (T : Txt K mg) (C_is_tuple_of : Cal P w K mg base 1 "is_tuple_of" ["thing", "many"] (spD K gTupleOf)) (C_need_hall : Cal P w K mg base 8 "need_hall" ["thing"] (spD K gHall)) (C_waiters_of : Cal P w K mg base 9 "waiters_of" ["hall"] (spD K gWaiters)) (C_need_tasks : Cal P w K mg base 6 "need_tasks" ["tasks"] (spD K gTasks)) : Cal P w K mg base 10 "need_program" ["thing"] (spD K gProg) := by
  obtain ⟨f, fd, F, hm⟩ := T.f_need_program
  refine okD F sc_need_program hm (F.bindsN fun _ _ _ _ _ _ us hl => match us, hl with | [_], _ => rfl) ?_ (by decide) (fun cdv A outer s H E hr => ?_)
  · rintro ds d ⟨s, rfl, _⟩
    rfl
  have hu := hr.units
  have hu1 := Nat.lt_of_le_of_lt (Nat.add_le_add_left (by decide : 1 ≤ 64) _) hu
  have hu0 := Nat.lt_of_le_of_lt (Nat.le_add_right _ 1) hu1
  refine ⟨_, (dss_c (ds_if (dt_not (dt_v (de_call C_is_tuple_of hr (by decide) (da_c (de_v 0) (da_c de_i da_n))))) (dss_1 ds_never) dss_n)
      (dss_c (ds_try (dss_1 (ds_expr (de_call C_need_hall hr (by decide) (da_c (de_ix ix_seq od_ix (de_v 0) de_i (fun _ _ => rfl)) da_n)))))
      (dss_c (ds_if (dt_cmp (op_ne_dictA hu0) od_neD0 (de_call C_waiters_of hr (by decide) (da_c (de_ix ix_seq od_ix (de_v 0) de_i (fun _ _ => rfl)) da_n)) de_dct0 (nomark _)) (dss_1 ds_never) dss_n)
      (dss_c (ds_expr (de_call C_need_tasks hr (by decide) (da_c (de_ix ix_seq od_ix (de_v 0) de_i (fun _ _ => rfl)) da_n)))
      (dss_1 (ds_ret (de_v 0))))))), ?_⟩
  rintro ds d ⟨s, rfl, ok, rfl⟩
  refine ⟨_, rfl, _, ⟨_, 2, rfl, rfl⟩, true, rfl, iteF ?_⟩
  refine ⟨_, rfl, _, rfl, trivial, _, ⟨s.h, rfl, ok.h, rfl⟩, ?_⟩
  refine ⟨_, rfl, _, rfl, trivial, _, ⟨s.h, rfl, ok.h, rfl⟩, _, rfl, trivial, false, rfl, iteF ?_⟩
  exact ⟨_, rfl, _, rfl, trivial, _, ⟨s.ts, rfl, ok.ts, rfl⟩, _, rfl, rfl⟩
theorem ok_need_state (T : Txt K mg) (C_need_program : Cal P w K mg base 10 "need_program" ["thing"] (spD K gProg)) (C_is_state_form : Cal P w K mg base 5 "is_state_form" ["program", "thing"] (spD K gForm)) (C_need_hall : Cal P w K mg base 8 "need_hall" ["thing"] (spD K gHall)) (C_waiters_of : Cal P w K mg base 9 "waiters_of" ["hall"] (spD K gWaiters)) : Cal P w K mg base 11 "need_state" ["program", "thing"] (spD K gState) := by
  obtain ⟨f, fd, F, hm⟩ := T.f_need_state
  refine okD F sc_need_state hm (F.bindsN fun _ _ _ _ _ _ us hl => match us, hl with | [_, _], _ => rfl) ?_ (by decide) (fun cdv A outer s H E hr => ?_)
  · rintro ds d ⟨s, rfl, _⟩
    rfl
  have hu := hr.units
  have hu1 := Nat.lt_of_le_of_lt (Nat.add_le_add_left (by decide : 1 ≤ 64) _) hu
  have hu0 := Nat.lt_of_le_of_lt (Nat.le_add_right _ 1) hu1
  refine ⟨_, (dss_c (ds_expr (de_call C_need_program hr (by decide) (da_c (de_v 0) da_n)))
      (dss_c (ds_if (dt_not (dt_v (de_call C_is_state_form hr (by decide) (da_c (de_v 0) (da_c (de_v 1) da_n))))) (dss_1 ds_never) dss_n)
      (dss_c (ds_try (dss_1 (ds_expr (de_call C_need_hall hr (by decide) (da_c (de_ix ix_seq od_ix (de_v 1) de_i (fun _ _ => rfl)) da_n)))))
      (dss_c (ds_set 3 sc_need_state.nd (by intro p hp; cases hp) (de_call C_waiters_of hr (by decide) (da_c (de_ix ix_seq od_ix (de_v 1) de_i (fun _ _ => rfl)) da_n)))
      (dss_c (ds_for PassesOwn.never rfl (di_ez T.n_enumerate T.n_zip (da_c (de_ix ix_seq od_ix (de_v 0) de_i (fun _ _ => rfl)) (da_c (de_ix ix_seq od_ix (de_v 1) de_i (fun _ _ => rfl)) da_n))) (dg_t (n := 2) rfl (dgs_c (dg_n 4 sc_need_state.nd (by intro p hp; cases hp)) (dgs_c (dg_t (n := 2) rfl (dgs_c (dg_t (n := 2) rfl (dgs_c (dg_n 5 sc_need_state.nd (by intro p hp; cases hp)) (dgs_c (dg_n 6 sc_need_state.nd (by intro p hp; cases hp)) dgs_n))) (dgs_c (dg_n 7 sc_need_state.nd (by intro p hp; cases hp)) dgs_n))) dgs_n))) (dss_c (ds_if (L2.PW.pt (dw_and (dt_din0 hu1 (de_v 5) (de_v 3)) (dw_and1 (dt_cmp (op_eqA hu) od_eq (de_sl (de_sl (de_v 6) (do_s (de_ix ix_seq od_ix (de_v 7) de_i (fun _ _ => rfl))) (do_s (de_bin op_addA od_add (de_ix ix_seq od_ix (de_v 7) de_i (fun _ _ => rfl)) de_i))) do_n (do_s de_i)) (de_tup da_n) (nomark _))))) (dss_1 ds_never) dss_n)
      (dss_1 (ds_if (L2.PW.pt (dw_and (dt_din0 hu1 (de_v 5) (de_v 3)) (dw_and1 (dt_cmp (op_neA hu) od_ne (de_sl (de_ix ix_seq od_ix (de_v 6) (de_ix ix_seq od_ix (de_v 7) de_i (fun _ _ => rfl)) (fun _ _ => rfl)) do_n (do_s de_i)) (de_tup (da_c de_s (da_c (de_ix ix_seq od_ix (de_dix hu1 (de_v 3) (de_v 5)) de_i (fun _ _ => rfl)) da_n))) (nomark _))))) (dss_1 ds_never) dss_n))))
      (dss_c (ds_lc0 (m := pureM) [("task", 9)] 8 rfl sc_need_state.nd (by intro p hp; cases hp) (sw_true rfl rfl rfl (by decide +kernel)) (di_t (de_ix ix_seq od_ix (de_v 0) de_i (fun _ _ => rfl))) (blkOk_by (N := ["program", "thing", "wrong", "waiting", "number", "name", "code", "counter", "names", "task"]) (sc := defScope s_need_state) (by decide +kernel)) (by intro p hp; cases hp) (by decide) (fun _ _ _ _ _ => (dg_n 9 sc_need_state.nd (by intro p hp; cases hp))) (fun _ _ _ _ _ => (de_ix ix_seq od_ix (de_v 9) de_i (fun _ _ => rfl))))
      (dss_c (ds_ed 3 PassesOwn.never rfl T.n_enumerate)
      (dss_1 (ds_ret (de_v 1)))))))))), ?_⟩
  rintro ds d ⟨s, rfl, ok, rfl⟩
  have hl := ok.len
  have h4 := ok.ts.hi
  refine ⟨_, rfl, _, ⟨s, rfl, ok, rfl⟩, ?_⟩
  refine ⟨_, rfl, _, rfl, .bool true, ⟨s, rfl, ok, rfl⟩, true, rfl, iteF ?_⟩
  refine ⟨_, rfl, _, rfl, trivial, _, ⟨s.h, rfl, ok.h, rfl⟩, ?_⟩
  refine ⟨_, rfl, _, rfl, trivial, _, ⟨s.h, rfl, ok.h, rfl⟩, ?_⟩
  refine w_for0 (enumD (zipD (s.ts.map Task.d) (s.cs.map Ctr.d))) (fun _ => True) (fun A q => ⟨_, rfl, _, rfl, trivial, _, rfl, _, rfl, trivial, _, _, rfl, by simp [hl], q⟩) trivial (fun i d q _ => ?_) (fun _ => ?_)
  · obtain ⟨x, hx, rfl⟩ := enum_at q
    obtain ⟨t, c, rfl⟩ := zip_at hx
    refine ⟨_, rfl, rfl, _, _, rfl, _, _, rfl, ⟨_, rfl, rfl, _, _, rfl, ⟨_, rfl, rfl, _, _, rfl, _, _, rfl, rfl, _, _, rfl, rfl, rfl, ?_⟩⟩⟩
    refine ⟨_, rfl, _, rfl, ⟨_, rfl⟩, rfl, iteF (iteF ?_)⟩
    exact ⟨_, rfl, _, rfl, ⟨_, rfl⟩, rfl, iteF (iteF ⟨_, (le_same _ (le_same _ (le_same _ (le_same _ (le_none _ (le_none _ (le_none _ (le_none _ (le_none _ (le_none _ (Le.refl _))))))))))), rfl, rfl, trivial⟩)⟩
  dsimp only [wSeq, wAsg]
  refine g_mapF s.ts Task.d (fun t => .str t.name) (fun A q => ⟨_, rfl, _, rfl, trivial, _, rfl, q⟩) (by omega) (fun t ht P' q => ⟨_, rfl, _, rfl, trivial, q⟩) (fun t ht => by simp) _ ?_
  exact ⟨rfl, _, rfl, rfl⟩
theorem ok_where_waits (T : Txt K mg) : Cal P w K mg base 1 "where_waits" ["hall", "name"] (spD K gWhere) := by
  obtain ⟨f, fd, F, hm⟩ := T.f_where_waits
  refine okD F sc_where_waits hm (F.bindsN fun _ _ _ _ _ _ us hl => match us, hl with | [_, _], _ => rfl) ?_ (by decide) (fun cdv A outer s H E hr => ?_)
  · rintro ds d ⟨h, n, rfl, _⟩
    rfl
  have hu := hr.units
  refine ⟨_, (dss_c (ds_for PassesOwn.never rfl (di_t (de_ix ix_seq od_ix (de_v 0) de_i (fun _ _ => rfl))) (dg_n 2 sc_where_waits.nd (by intro p hp; cases hp)) (dss_1 (ds_for PassesOwn.never rfl (di_t (de_tup (da_c de_i (da_c de_i da_n)))) (dg_n 3 sc_where_waits.nd (by intro p hp; cases hp)) (dss_1 (ds_if (dt_cmp op_inA (od_in false) (de_v 1) (de_lc0 (m := pureM) [("waiter", 4), ("most", 5)] rfl sc_where_waits.nd (di_t (de_ix ix_seq od_ix (de_v 2) (de_v 3) (fun _ _ => rfl))) (blkOk_by (N := ["hall", "name", "one", "side", "waiter", "most"]) (sc := defScope s_where_waits) (by decide +kernel)) (by intro p hp; cases hp) (by decide) (fun _ _ _ _ _ => (dg_t (n := 2) rfl (dgs_c (dg_n 4 sc_where_waits.nd (by intro p hp; cases hp)) (dgs_c (dg_n 5 sc_where_waits.nd (by intro p hp; cases hp)) dgs_n)))) (fun _ _ _ _ _ => (de_v 4))) (by rfl)) (dss_1 (ds_ret (de_tup (da_c (de_ix ix_seq od_ix (de_v 2) de_i (fun _ _ => rfl)) (da_c (de_cmp (op_eqA hu) od_eq (de_v 3) de_i (nomark _)) da_n))))) dss_n)))))
      (dss_1 (ds_ret de_n))), ?_⟩
  rintro ds d ⟨h, n, rfl, h4, rfl⟩
  refine w_for0 (h.sets.map SetD.d) (fun _ => True) (fun A q => ⟨_, rfl, _, rfl, trivial, _, rfl, q⟩) trivial (fun i d q _ => ?_) (fun _ => rfl)
  obtain ⟨s, hs, hm, rfl⟩ := map_at q
  refine w_for0 [.int 3, .int 4] (fun _ => True) (fun A q => ⟨by simp, _, rfl, q⟩) trivial (fun j d q _ => ?_) (fun _ => ⟨_, (le_same _ (le_same _ (le_none _ (le_none _ (le_none _ (le_none _ (Le.refl _))))))), rfl, rfl, trivial⟩)
  have hd : d = .int 3 ∨ d = .int 4 := by simpa using List.mem_of_getElem? q
  rcases hd with rfl | rfl
  all_goals
    refine b_of (b := false) (g_op (a := .str n) (b := .list []) (fun A q => ⟨_, rfl, q⟩) (g_mapF ([] : List Nat) (fun _ => .none) (fun _ => .none) (fun A q => ⟨_, rfl, _, rfl, _, rfl, trivial, _, rfl, q⟩) (by simp) (fun u hu P' q => by cases hu) (fun u hu => by simp)) rfl ⟨rfl, rfl⟩) (iteF ⟨_, (le_same _ (le_same _ (le_same _ (le_none _ (le_none _ (le_none _ (Le.refl _))))))), rfl, rfl, trivial⟩)
theorem ok_goes (T : Txt K mg) (C_where_waits : Cal P w K mg base 1 "where_waits" ["hall", "name"] (spD K gWhere)) : Cal P w K mg base 2 "goes" ["program", "state", "number"] (spD K gGoes) := by
  obtain ⟨f, fd, F, hm⟩ := T.f_goes
  refine okD F sc_goes hm (F.bindsN fun _ _ _ _ _ _ us hl => match us, hl with | [_, _, _], _ => rfl) ?_ (by decide) (fun cdv A outer s H E hr => ?_)
  · rintro ds d ⟨s, i, t, c, rfl, _⟩
    rfl
  have hu := hr.units
  refine ⟨_, (dss_c (ds_asg (de_ix ix_seq od_ix (de_ix ix_seq od_ix (de_v 0) de_i (fun _ _ => rfl)) (de_v 2) (fun _ _ => rfl)) (dg_t (n := 2) rfl (dgs_c (dg_n 3 sc_goes.nd (by intro p hp; cases hp)) (dgs_c (dg_n 4 sc_goes.nd (by intro p hp; cases hp)) dgs_n))))
      (dss_c (ds_set 5 sc_goes.nd (by intro p hp; cases hp) (de_call C_where_waits hr (by decide) (da_c (de_ix ix_seq od_ix (de_v 1) de_i (fun _ _ => rfl)) (da_c (de_v 3) da_n))))
      (dss_1 (ds_ret (de_and (de_cmp op_lt od_lt (de_ix ix_seq od_ix (de_ix ix_seq od_ix (de_ix ix_seq od_ix (de_v 1) de_i (fun _ _ => rfl)) (de_v 2) (fun _ _ => rfl)) de_i (fun _ _ => rfl)) (de_cb call_len cd_len T.n_len (by decide +kernel) (da_c (de_v 4) da_n)) (nomark _)) (de_one (de_or (de_cmp op_isA od_is (de_v 5) de_n (nomark _)) (de_one (de_ix ix_seq od_ix (de_v 5) de_i (fun _ _ => rfl)))))))))), ?_⟩
  rintro ds d ⟨s, i, t, c, rfl, h4, ht, rfl⟩
  have e1 : atI (s.ts.map Task.d) ((i : Nat) : Int) = some t.d := at_n (by rw [List.getElem?_map, ht.t]; rfl)
  have e2 : atI (s.cs.map Ctr.d) ((i : Nat) : Int) = some c.d := at_n (by rw [List.getElem?_map, ht.c]; rfl)
  refine ⟨_, rfl, _, rfl, trivial, _, rfl, _, e1, trivial, _, rfl, rfl, _, _, rfl, _, _, rfl, rfl, ?_⟩
  refine ⟨_, rfl, _, rfl, trivial, _, rfl, .none, ⟨s.h, t.name, rfl, h4, rfl⟩, ?_⟩
  dsimp only [wgN, wRet]
  refine g_and (c := decide (c.place < t.code.length)) (e := true) (fun A q => ⟨_, rfl, _, rfl, trivial, _, rfl, _, e2, trivial, _, rfl, trivial, _, rfl, _, rfl, trivial, _, rfl, trivial, ?_⟩) (fun A q => ⟨_, rfl, _, rfl, trivial, true, rfl, iteT q⟩) _ ?_
  · simp
  · simpa using q
theorem ok_going (T : Txt K mg) (C_goes : Cal P w K mg base 2 "goes" ["program", "state", "number"] (spD K gGoes)) : Cal P w K mg base 3 "going" ["program", "state"] (spD K gGoing) := by
  obtain ⟨f, fd, F, hm⟩ := T.f_going
  refine okD F sc_going hm (F.bindsN fun _ _ _ _ _ _ us hl => match us, hl with | [_, _], _ => rfl) ?_ (by decide) (fun cdv A outer s H E hr => ?_)
  · rintro ds d ⟨s, rfl, _⟩
    rfl
  have hu := hr.units
  refine ⟨_, (dss_1 (ds_ret (de_lc1 (m := pureM) [("number", 2)] rfl sc_going.nd (di_r T.n_range (da_c (de_cb call_len cd_len T.n_len (by decide +kernel) (da_c (de_ix ix_seq od_ix (de_v 0) de_i (fun _ _ => rfl)) da_n)) da_n)) (blkOk_by (N := ["program", "state", "number"]) (sc := defScope s_going) (by decide +kernel)) (by intro p hp; cases hp) (by decide) (fun _ _ _ _ _ => (dg_n 2 sc_going.nd (by intro p hp; cases hp))) (fun _ _ _ _ _ => (dt_v (de_call C_goes hr (by decide) (da_c (de_v 0) (da_c (de_v 1) (da_c (de_v 2) da_n)))))) (fun _ _ _ _ _ => (de_v 2))))), ?_⟩
  rintro ds d ⟨s, rfl, ok, rfl⟩
  have h4 := ok.ts.hi
  refine g_filtF (List.range s.ts.length) (fun i => .int ((i : Nat) : Int)) (fun i => .int ((i : Nat) : Int)) (fun i => match s.cs[i]?, s.ts[i]? with
    | some c, some t => decide (c.place < t.code.length)
    | _, _ => false) (fun A q => ⟨_, rfl, _, rfl, trivial, _, rfl, trivial, _, rfl, ?_, ?_⟩) (by simp; omega) (fun i hi P' P2 h1 h2 => ?_) (fun i hi _ => by simp) _ rfl
  · have lt : i < s.ts.length := List.mem_range.mp hi
    have lc : i < s.cs.length := by rw [ok.len]; exact lt
    have e1 : s.ts[i]? = some s.ts[i] := List.getElem?_eq_getElem lt
    have e2 : s.cs[i]? = some s.cs[i] := List.getElem?_eq_getElem lc
    refine ⟨_, rfl, _, rfl, _, rfl, _, ⟨s, i, _, _, rfl, ok.h.s4, ⟨e1, e2⟩, rfl⟩, _, rfl, ?_⟩
    rw [e1, e2] at h1 h2
    exact ite_b (fun z => ⟨_, rfl, h1 z⟩) h2
  · simp
    omega
  · rw [Int.toNat_natCast, List.length_map, range_d]
    exact q
theorem ok_can_go (T : Txt K mg) (C_going : Cal P w K mg base 3 "going" ["program", "state"] (spD K gGoing)) (C_need_state : Cal P w K mg base 11 "need_state" ["program", "thing"] (spD K gState)) : Cal P w K mg base 12 "can_go" ["program", "state"] (spD K gGoing) := by
  obtain ⟨f, fd, F, hm⟩ := T.f_can_go
  refine okD F sc_can_go hm (F.bindsN fun _ _ _ _ _ _ us hl => match us, hl with | [_, _], _ => rfl) ?_ (by decide) (fun cdv A outer s H E hr => ?_)
  · rintro ds d ⟨s, rfl, _⟩
    rfl
  have hu := hr.units
  refine ⟨_, (dss_1 (ds_ret (de_call C_going hr (by decide) (da_c (de_v 0) (da_c (de_call C_need_state hr (by decide) (da_c (de_v 0) (da_c (de_v 1) da_n))) da_n))))), ?_⟩
  rintro ds d ⟨s, rfl, ok, rfl⟩
  exact ⟨_, rfl, _, rfl, _, rfl, _, ⟨s, rfl, ok, rfl⟩, _, ⟨s, rfl, ok, rfl⟩, rfl⟩
end
end K45
/-! KB17 -/
set_option Elab.async false
set_option linter.all false
set_option maxRecDepth 100000
set_option maxHeartbeats 4000000
namespace K45
open PySem PySem.Spec PyProof.Rows L2
section
variable {X : Cx} {m : Md} {As : WA} {e1 e2 e3 : Expr} {px py pz pt pt2 pos : Pos} {kt k2 : Nat} {x y z : Str}
theorem ds_par (i j : Nat) (hc : X.calm = true) (hN : X.N.Nodup) (hki : ∀ p ∈ m.keep, p.1 ≠ i) (hkj : ∀ p ∈ m.keep, p.1 ≠ j) (hij : i ≠ j) (ha : DA X m [e1, e2] As) (hi : X.N[i]? = some x := by rfl) (hj : X.N[j]? = some y := by rfl) (hx : X.env.scope.names.lookup x = some .local := by rfl) (hy : X.env.scope.names.lookup y = some .local := by rfl)
    (hw : swappedStores [.Tuple [.Name x px, .Name y py] kt pt] (.Tuple [e1, e2] k2 pt2) X.env = pure (some [x, y]) := by rfl) (hs : swapsWithSole [.Tuple [.Name x px, .Name y py] kt pt] (.Tuple [e1, e2] k2 pt2) pos.line X.env = pure false := by rfl) :
    DS X m (.Assign [.Tuple [.Name x px, .Name y py] kt pt] (.Tuple [e1, e2] k2 pt2) pos) (wPar i j As) :=
  ps_by (ps_par hc hN hi hj hij hx hy ha hw hs) fun D s H ⟨r, n, O, R, w, M⟩ => ⟨r, n, _, R, w, fun vs H1 ds n1 x1 s1 h1 ⟨a, b, ed, p⟩ => by
    subst ed
    cases h1 with
    | cons ha hb =>
      cases hb with
      | cons hb hn =>
        cases hn
        exact ⟨_, _, rfl, M.nx _ H1 _ n1 x1 (((R.go x1 s1).set ha hki).set hb hkj) p⟩⟩
@[simp] def wPar3 (i j l : Nat) (As : WA) : WS := fun O r n => As r n fun ds n1 => ∃ a b c, ds = [a, b, c] ∧ O.nx (((r.set i (some a)).set j (some b)).set l (some c)) n1
theorem ds_par3 (i j l : Nat) (hc : X.calm = true) (hN : X.N.Nodup) (hki : ∀ p ∈ m.keep, p.1 ≠ i) (hkj : ∀ p ∈ m.keep, p.1 ≠ j) (hkl : ∀ p ∈ m.keep, p.1 ≠ l) (hij : i ≠ j) (hil : i ≠ l) (hjl : j ≠ l) (ha : DA X m [e1, e2, e3] As) (hi : X.N[i]? = some x := by rfl) (hj : X.N[j]? = some y := by rfl) (hl : X.N[l]? = some z := by rfl)
    (hx : X.env.scope.names.lookup x = some .local := by rfl) (hy : X.env.scope.names.lookup y = some .local := by rfl) (hz : X.env.scope.names.lookup z = some .local := by rfl)
    (hw : swappedStores [.Tuple [.Name x px, .Name y py, .Name z pz] kt pt] (.Tuple [e1, e2, e3] k2 pt2) X.env = pure (some [x, y, z]) := by rfl) (hs : swapsWithSole [.Tuple [.Name x px, .Name y py, .Name z pz] kt pt] (.Tuple [e1, e2, e3] k2 pt2) pos.line X.env = pure false := by rfl) :
    DS X m (.Assign [.Tuple [.Name x px, .Name y py, .Name z pz] kt pt] (.Tuple [e1, e2, e3] k2 pt2) pos) (wPar3 i j l As) :=
  ps_by (ps_par3 hc hN hi hj hl hij hil hjl hx hy hz ha hw hs) fun D s H ⟨r, n, O, R, w, M⟩ => ⟨r, n, _, R, w, fun vs H1 ds n1 x1 s1 h1 ⟨a, b, c, ed, p⟩ => by
    subst ed
    cases h1 with
    | cons ha hb =>
      cases hb with
      | cons hb hc =>
        cases hc with
        | cons hc hn =>
          cases hn
          exact ⟨_, _, _, rfl, M.nx _ H1 _ n1 x1 ((((R.go x1 s1).set ha hki).set hb hkj).set hc hkl) p⟩⟩
end
end K45
/-! KA8 -/
set_option Elab.async false
set_option linter.all false
set_option maxRecDepth 100000
set_option maxHeartbeats 2000000
namespace K45
open PySem PySem.Spec PyProof.Rows L2
theorem zip_turn : ∀ (ts : List Task) (cs : List Ctr), ((ts.zip cs).all fun p => p.2.place == p.1.code.length) = (cs.zip ts).all fun p => p.1.place == p.2.code.length
  | [], [] => rfl
  | [], _ :: _ => rfl
  | _ :: _, [] => rfl
  | t :: ts, c :: cs => by
    rw [List.zip_cons_cons, List.zip_cons_cons, List.all_cons, List.all_cons, zip_turn ts cs]
theorem zip_src2 (cs : List Ctr) (ts : List Task) : zipD (ts.map Task.d) (cs.map Ctr.d) = (ts.zip cs).map fun p => .tuple [p.1.d, p.2.d] := by
  unfold zipD
  rw [List.zip_map, List.map_map]
  rfl
def Ins.isPut : Ins → Bool
  | .put _ => true
  | _ => false
def toldB (t : Telling) (n w : Str) : Bool := t.any fun p => p.1 == n && p.2.l.contains w
/-- where a jump, an unless, a told, a stop lead -/
def leadsTo (size : Nat) (c : Ctr) : Ins → Nat
  | .jump t => t
  | .stop => size
  | .unl t => if c.good then c.place + 1 else t
  | .told n w t => if toldB c.got n w then t else c.place + 1
  | .put _ => 0
theorem ins_word (x : Ins) (h : x.isPut = false) : ∃ (w : Str) (ds : List PyData), x.d = .tuple ds ∧ ds[0]? = some (.str w) ∧ PyData.eqv (.str w) (.str "wait") = false ∧
    ([PyData.str "put", PyData.str "take", PyData.str "shut", PyData.str "add", PyData.str "change", PyData.str "arm", PyData.str "drop"].any fun y => PyData.eqv y (.str w)) = false ∧ PyData.eqv (.str w) (.str "drain") = false := by
  cases x with
  | jump t => exact ⟨"jump", _, rfl, rfl, by decide +kernel, by decide +kernel, by decide +kernel⟩
  | stop => exact ⟨"stop", _, rfl, rfl, by decide +kernel, by decide +kernel, by decide +kernel⟩
  | unl t => exact ⟨"unless", _, rfl, rfl, by decide +kernel, by decide +kernel, by decide +kernel⟩
  | told a b t => exact ⟨"told", _, rfl, rfl, by decide +kernel, by decide +kernel, by decide +kernel⟩
  | put a => cases h
theorem ints_lay : ∀ l : List Nat, PyData.canLayAll0 (l.map fun i => .int ((i : Nat) : Int)) = true ∧ PyData.depthAll (l.map fun i => .int ((i : Nat) : Int)) = 0
  | [] => ⟨rfl, rfl⟩
  | x :: l => by
    obtain ⟨a, b⟩ := ints_lay l
    constructor
    · simp [PyData.canLayAll0, PyData.canLay0, a]
    · simp [PyData.depthAll, PyData.depth, b]
theorem ints_shaped (l : List Nat) : SeqAt.shaped (.list (l.map fun i => .int ((i : Nat) : Int))) = true := by
  obtain ⟨a, b⟩ := ints_lay l
  unfold SeqAt.shaped
  simp [PyData.canLay0, PyData.depth, a, b]
def endedB (s : St3) : Bool := (s.cs.zip s.ts).all fun p => p.1.place == p.2.code.length
theorem left_some {s : St3} (ok : s.Ok) (h : endedB s = false) : leftL s ≠ [] := fun e => by
  unfold endedB at h
  rw [List.all_eq_false] at h
  obtain ⟨p, hp, hn⟩ := h
  obtain ⟨i, hi⟩ := List.mem_iff_getElem?.mp hp
  obtain ⟨h1, h2⟩ := List.getElem?_zip_eq_some.mp hi
  have okc := ok.cs i p.1 p.2 h1 h2
  have lt := (List.getElem?_eq_some_iff.mp h2).1
  have ne : p.1.place ≠ p.2.code.length := fun z => hn (by simp [z])
  have hm : i ∈ leftL s := by
    unfold leftL
    rw [List.mem_filter]
    refine ⟨List.mem_range.mpr lt, ?_⟩
    rw [h1, h2]
    have := okc.place
    exact decide_eq_true (by omega)
  rw [e] at hm
  cases hm
def gWent (ds : List PyData) (d : PyData) : Prop := ∃ (c : Ctr) (code : List Ins) (i : Ins), ds = [c.d, .tuple (code.map Ins.d)] ∧ code[c.place]? = some i ∧ i.isPut = false ∧ c.got.length ≤ 6 ∧ d = Ctr.d { c with place := leadsTo code.length c i }
def gEnded (ds : List PyData) (d : PyData) : Prop := ∃ s : St3, ds = [s.pd, s.sd] ∧ s.Ok ∧ d = .bool (endedB s)
def stepD (s : St3) (i : Nat) (c : Ctr) : PyData := .tuple [.tuple [s.h.d, .tuple (((s.cs.take i) ++ [c] ++ s.cs.drop (i + 1)).map Ctr.d)], .tuple [.str "goes", .tuple []]]
def gStepped (ds : List PyData) (d : PyData) : Prop := ∃ (s : St3) (i : Nat) (t : Task) (c : Ctr) (x : Ins), ds = [s.pd, s.sd, .int (i : Nat)] ∧ s.Ok ∧ At s i t c ∧ t.code[c.place]? = some x ∧ x.isPut = false ∧ d = stepD s i { c with place := leadsTo t.code.length c x }
def gStalls (ds : List PyData) (d : PyData) : Prop := ∃ (s : St3) (b : Bool), ds = [s.pd, s.sd, .bool b] ∧ s.Ok ∧ d = .bool false
section
variable {P : Program} {w : World} {K : PySem.W.Frag} {mg : Str → Option Value} {base : Heap}
theorem ok_have_ended (T : Txt K mg) : Cal P w K mg base 1 "have_ended" ["program", "state"] (spD K gEnded) := by
  obtain ⟨f, fd, F, hm⟩ := T.f_have_ended
  refine okD F sc_have_ended hm (F.bindsN fun _ _ _ _ _ _ us hl => match us, hl with | [_, _], _ => rfl) ?_ (by decide) (fun cdv A outer s H E hr => ?_)
  · rintro ds d ⟨s, rfl, _⟩
    rfl
  have hu := hr.units
  refine ⟨_, (dss_1 (ds_ret (de_cb (cr_allA false rfl) (cd_all false) T.n_all (by decide +kernel) (da_c (de_lc0 (m := pureM) [("counter", 4), ("name", 2), ("code", 3)] rfl sc_have_ended.nd (di_zt T.n_zip (da_c (de_ix ix_seq od_ix (de_v 0) de_i (fun _ _ => rfl)) (da_c (de_ix ix_seq od_ix (de_v 1) de_i (fun _ _ => rfl)) da_n))) (blkOk_by (N := ["program", "state", "name", "code", "counter"]) (sc := defScope s_have_ended) (by decide +kernel)) (by intro p hp; cases hp) (by decide) (fun _ _ _ _ _ => (dg_t (n := 2) rfl (dgs_c (dg_t (n := 2) rfl (dgs_c (dg_n 2 sc_have_ended.nd (by intro p hp; cases hp)) (dgs_c (dg_n 3 sc_have_ended.nd (by intro p hp; cases hp)) dgs_n))) (dgs_c (dg_n 4 sc_have_ended.nd (by intro p hp; cases hp)) dgs_n)))) (fun _ _ _ _ _ => (de_cmp (op_eqA hu) od_eq (de_ix ix_seq od_ix (de_v 4) de_i (fun _ _ => rfl)) (de_cb call_len cd_len T.n_len (by decide +kernel) (da_c (de_v 3) da_n)) (nomark _)))) da_n)))), ?_⟩
  rintro ds d ⟨s, rfl, ok, rfl⟩
  have h4 := ok.ts.hi
  have hl := ok.len
  refine g_cb1 (g_mapF (s.ts.zip s.cs) (fun p => .tuple [p.1.d, p.2.d]) (fun p => .bool (p.2.place == p.1.code.length)) (fun A q => ⟨_, rfl, _, rfl, trivial, _, rfl, _, rfl, trivial, _, _, rfl, by simp [hl], ?_⟩) (by simp; omega) (fun p hp P' q => ?_) (fun p hp => by simp)) (all_of _ _) trivial _ ?_
  · refine ⟨_, rfl, rfl, _, _, rfl, ⟨_, rfl, rfl, _, _, rfl, _, _, rfl, rfl, _, _, rfl, rfl, ?_⟩⟩
    refine ⟨_, rfl, _, rfl, trivial, _, rfl, _, rfl, trivial, _, rfl, .inl rfl, ?_⟩
    show P' (.bool (((p.2.place : Nat) : Int) == (((p.1.code.map Ins.d).length : Nat) : Int))) 0
    have e : (((p.2.place : Nat) : Int) == (((p.1.code.map Ins.d).length : Nat) : Int)) = (p.2.place == p.1.code.length) := by
      rw [Bool.eq_iff_iff]
      simp
      omega
    rw [e]
    exact q
  · show PyData.bool _ = PyData.bool _
    refine congrArg PyData.bool ?_
    exact zip_turn s.ts s.cs
  · rw [zip_src2]
    exact q
theorem ok_is_ended (T : Txt K mg) (C_have_ended : Cal P w K mg base 1 "have_ended" ["program", "state"] (spD K gEnded)) (C_need_state : Cal P w K mg base 11 "need_state" ["program", "thing"] (spD K gState)) : Cal P w K mg base 12 "is_ended" ["program", "state"] (spD K gEnded) := by
  obtain ⟨f, fd, F, hm⟩ := T.f_is_ended
  refine okD F sc_is_ended hm (F.bindsN fun _ _ _ _ _ _ us hl => match us, hl with | [_, _], _ => rfl) ?_ (by decide) (fun cdv A outer s H E hr => ?_)
  · rintro ds d ⟨s, rfl, _⟩
    rfl
  have hu := hr.units
  refine ⟨_, (dss_1 (ds_ret (de_call C_have_ended hr (by decide) (da_c (de_v 0) (da_c (de_call C_need_state hr (by decide) (da_c (de_v 0) (da_c (de_v 1) da_n))) da_n))))), ?_⟩
  rintro ds d ⟨s, rfl, ok, rfl⟩
  exact ⟨_, rfl, _, rfl, _, rfl, _, ⟨s, rfl, ok, rfl⟩, _, ⟨s, rfl, ok, rfl⟩, rfl⟩
theorem ok_went (T : Txt K mg) : Cal P w K mg base 1 "went" ["counter", "code"] (spD K gWent) := by
  obtain ⟨f, fd, F, hm⟩ := T.f_went
  refine okD F sc_went hm (F.bindsN fun _ _ _ _ _ _ us hl => match us, hl with | [_, _], _ => rfl) ?_ (by decide) (fun cdv A outer s H E hr => ?_)
  · rintro ds d ⟨s, c, i, rfl, _⟩
    rfl
  have hu := hr.units
  refine ⟨_, (dss_c (ds_asg (de_v 0) (dg_t (n := 3) rfl (dgs_c (dg_n 2 sc_went.nd (by intro p hp; cases hp)) (dgs_c (dg_n 3 sc_went.nd (by intro p hp; cases hp)) (dgs_c (dg_n 4 sc_went.nd (by intro p hp; cases hp)) dgs_n)))))
      (dss_c (ds_asg (de_ix ix_seq od_ix (de_v 1) (de_v 2) (fun _ _ => rfl)) (dg_star (i := 1) rfl (dgs_c (dg_n 5 sc_went.nd (by intro p hp; cases hp)) (dgs_star (dg_n 6 sc_went.nd (by intro p hp; cases hp))))))
      (dss_c (ds_if (dt_cmp (op_eqA hu) od_eq (de_v 5) de_s (nomark _)) (dss_1 (ds_ret (de_tup (da_c (de_cb call_len cd_len T.n_len (by decide +kernel) (da_c (de_v 1) da_n)) (da_c (de_v 3) (da_c (de_v 4) da_n)))))) dss_n)
      (dss_c (ds_if (dt_cmp (op_eqA hu) od_eq (de_v 5) de_s (nomark _)) (dss_1 (ds_ret (de_tup (da_c (de_if (dt_v (de_v 3)) (de_bin op_addA od_add (de_v 2) de_i) (de_ix ix_seq od_ix (de_v 6) de_i (fun _ _ => rfl))) (da_c (de_v 3) (da_c (de_v 4) da_n)))))) dss_n)
      (dss_c (ds_if (dt_cmp (op_eqA hu) od_eq (de_v 5) de_s (nomark _)) (dss_c (ds_set 7 sc_went.nd (by intro p hp; cases hp) (de_cb (cr_allA true rfl) (cd_all true) T.n_any (by decide +kernel) (da_c (de_lc0 (m := pureM) [("target", 8), ("words", 9)] rfl sc_went.nd (di_t (de_v 4)) (blkOk_by (N := ["counter", "code", "place", "is_right", "got", "word", "rest", "is_so", "target", "words"]) (sc := defScope s_went) (by decide +kernel)) (by intro p hp; cases hp) (by decide) (fun _ _ _ _ _ => (dg_t (n := 2) rfl (dgs_c (dg_n 8 sc_went.nd (by intro p hp; cases hp)) (dgs_c (dg_n 9 sc_went.nd (by intro p hp; cases hp)) dgs_n)))) (fun _ _ _ _ _ => (de_and (de_cmp (op_eqA hu) od_eq (de_v 8) (de_ix ix_seq od_ix (de_v 6) de_i (fun _ _ => rfl)) (nomark _)) (de_one (de_cmp op_inA (od_in false) (de_ix ix_seq od_ix (de_v 6) de_i (fun _ _ => rfl)) (de_v 9) (by rfl)))))) da_n)))
      (dss_1 (ds_ret (de_tup (da_c (de_if (dt_v (de_v 7)) (de_ix ix_seq od_ix (de_v 6) de_i (fun _ _ => rfl)) (de_bin op_addA od_add (de_v 2) de_i)) (da_c (de_v 3) (da_c (de_v 4) da_n))))))) dss_n)
      (dss_1 (ds_ret (de_tup (da_c (de_ix ix_seq od_ix (de_v 6) de_i (fun _ _ => rfl)) (da_c (de_v 3) (da_c (de_v 4) da_n))))))))))), ?_⟩
  rintro ds d ⟨c, code, i, rfl, hi, hp, h6, rfl⟩
  have e1 : atI (code.map Ins.d) ((c.place : Nat) : Int) = some i.d := at_n (by rw [List.getElem?_map, hi]; rfl)
  refine ⟨_, rfl, _, rfl, rfl, _, _, rfl, _, _, rfl, _, _, rfl, rfl, ?_⟩
  refine ⟨_, rfl, _, rfl, _, e1, trivial, ?_⟩
  cases i with
  | jump t =>
    refine ⟨_, rfl, by show 1 ≤ 2; decide, by show 2 ≤ 10000; decide, _, _, rfl, _, _, rfl, rfl, ?_⟩
    refine ⟨_, rfl, _, rfl, .inl rfl, false, congrArg PyData.bool (by decide +kernel : PyData.eqv (.str "jump") (.str "stop") = false), iteF ?_⟩
    refine ⟨_, rfl, _, rfl, .inl rfl, false, congrArg PyData.bool (by decide +kernel : PyData.eqv (.str "jump") (.str "unless") = false), iteF ?_⟩
    refine ⟨_, rfl, _, rfl, .inl rfl, false, congrArg PyData.bool (by decide +kernel : PyData.eqv (.str "jump") (.str "told") = false), iteF ?_⟩
    exact ⟨_, rfl, _, rfl, trivial, _, rfl, _, rfl, by simp, rfl⟩
  | stop =>
    refine ⟨_, rfl, by show 1 ≤ 1; decide, by show 1 ≤ 10000; decide, _, _, rfl, _, _, rfl, rfl, ?_⟩
    refine ⟨_, rfl, _, rfl, .inl rfl, true, congrArg PyData.bool (by decide +kernel : PyData.eqv (.str "stop") (.str "stop") = true), iteT ?_⟩
    exact ⟨_, rfl, _, rfl, trivial, _, rfl, _, rfl, by simp, by show PyData.tuple [.int ((code.map Ins.d).length : Nat), _, _] = _; rw [List.length_map]; rfl⟩
  | unl t =>
    refine ⟨_, rfl, by show 1 ≤ 2; decide, by show 2 ≤ 10000; decide, _, _, rfl, _, _, rfl, rfl, ?_⟩
    refine ⟨_, rfl, _, rfl, .inl rfl, false, congrArg PyData.bool (by decide +kernel : PyData.eqv (.str "unless") (.str "stop") = false), iteF ?_⟩
    refine ⟨_, rfl, _, rfl, .inl rfl, true, congrArg PyData.bool (by decide +kernel : PyData.eqv (.str "unless") (.str "unless") = true), iteT ?_⟩
    refine ⟨_, rfl, c.good, rfl, ite_b (fun hg => ?_) (fun hg => ?_)⟩
    · refine ⟨_, rfl, _, rfl, trivial, _, rfl, _, rfl, by simp, ?_⟩
      show PyData.tuple _ = PyData.tuple _
      unfold leadsTo
      simp only [hg, if_true]
      all_goals rfl
    · refine ⟨_, rfl, _, rfl, trivial, _, rfl, _, rfl, by simp, ?_⟩
      show PyData.tuple _ = PyData.tuple _
      unfold leadsTo
      simp only [hg, Bool.false_eq_true, if_false]
      all_goals rfl
  | told a b t =>
    refine ⟨_, rfl, by show 1 ≤ 4; decide, by show 4 ≤ 10000; decide, _, _, rfl, _, _, rfl, rfl, ?_⟩
    refine ⟨_, rfl, _, rfl, .inl rfl, false, congrArg PyData.bool (by decide +kernel : PyData.eqv (.str "told") (.str "stop") = false), iteF ?_⟩
    refine ⟨_, rfl, _, rfl, .inl rfl, false, congrArg PyData.bool (by decide +kernel : PyData.eqv (.str "told") (.str "unless") = false), iteF ?_⟩
    refine ⟨_, rfl, _, rfl, .inl rfl, true, congrArg PyData.bool (by decide +kernel : PyData.eqv (.str "told") (.str "told") = true), iteT ?_⟩
    dsimp only [wSeq, wAsg]
    refine g_cb1 (g_mapF c.got (fun p => .tuple [.str p.1, p.2.d]) (fun p => .bool (p.1 == a && p.2.l.contains b)) (fun A q => ⟨_, rfl, _, rfl, q⟩) (by omega) (fun p hp P' q => ?_) (fun p hp => by simp)) (any_of _ _) trivial _ ?_
    · refine ⟨_, rfl, rfl, _, _, rfl, _, _, rfl, rfl, ?_⟩
      refine g_and (c := p.1 == a) (e := p.2.l.contains b) (fun A q => ⟨_, rfl, _, rfl, _, rfl, trivial, _, rfl, .inl rfl, q⟩) (fun A q => ⟨_, rfl, _, rfl, trivial, _, rfl, .bool (p.2.l.contains b), ?_, ⟨rfl, strs_flat _⟩, q⟩) _ q
      refine congrArg (fun b => some (PyData.bool b)) ?_
      simp only [Bool.false_eq_true, if_false]
      rw [any_str']
    · refine ⟨_, rfl, toldB c.got a b, rfl, ite_b (fun hg => ?_) (fun hg => ?_)⟩
      · refine ⟨_, rfl, _, rfl, trivial, _, rfl, _, rfl, by simp, ?_⟩
        show PyData.tuple _ = PyData.tuple _
        unfold leadsTo
        simp only [hg, if_true]
        all_goals rfl
      · refine ⟨_, rfl, _, rfl, trivial, _, rfl, _, rfl, by simp, ?_⟩
        show PyData.tuple _ = PyData.tuple _
        unfold leadsTo
        simp only [hg, Bool.false_eq_true, if_false]
        all_goals rfl
  | put a => cases hp
theorem ok_stepped (T : Txt K mg) (C_where_waits : Cal P w K mg base 1 "where_waits" ["hall", "name"] (spD K gWhere)) (C_went : Cal P w K mg base 1 "went" ["counter", "code"] (spD K gWent)) : Cal P w K mg base 2 "stepped" ["program", "state", "number"] (spD K gStepped) := by
  obtain ⟨f, fd, F, hm⟩ := T.f_stepped
  refine okD F sc_stepped hm (F.bindsN fun _ _ _ _ _ _ us hl => match us, hl with | [_, _, _], _ => rfl) ?_ (by decide) (fun cdv A outer s H E hr => ?_)
  · rintro ds d ⟨s, i, t, c, x, rfl, _⟩
    rfl
  have hu := hr.units
  refine ⟨_, (dss_c (ds_asg (de_v 1) (dg_t (n := 2) rfl (dgs_c (dg_n 3 sc_stepped.nd (by intro p hp; cases hp)) (dgs_c (dg_n 4 sc_stepped.nd (by intro p hp; cases hp)) dgs_n))))
      (dss_c (ds_asg (de_ix ix_seq od_ix (de_ix ix_seq od_ix (de_v 0) de_i (fun _ _ => rfl)) (de_v 2) (fun _ _ => rfl)) (dg_t (n := 2) rfl (dgs_c (dg_n 5 sc_stepped.nd (by intro p hp; cases hp)) (dgs_c (dg_n 6 sc_stepped.nd (by intro p hp; cases hp)) dgs_n))))
      (dss_c (ds_set 7 sc_stepped.nd (by intro p hp; cases hp) (de_ix ix_seq od_ix (de_v 4) (de_v 2) (fun _ _ => rfl)))
      (dss_c (ds_set 8 sc_stepped.nd (by intro p hp; cases hp) (de_ix ix_seq od_ix (de_v 6) (de_ix ix_seq od_ix (de_v 7) de_i (fun _ _ => rfl)) (fun _ _ => rfl)))
      (dss_c (ds_if (dt_cmp op_notA od_isnot (de_call C_where_waits hr (by decide) (da_c (de_v 3) (da_c (de_v 5) da_n))) de_n (nomark _)) (dss_1 ds_never) (dss_1 (ds_if (dt_cmp (op_eqA hu) od_eq (de_ix ix_seq od_ix (de_v 8) de_i (fun _ _ => rfl)) de_s (nomark _)) (dss_1 ds_never) (dss_1 (ds_if (L2.PW.pt (dw_or (dt_cmp op_inA (od_in false) (de_ix ix_seq od_ix (de_v 8) de_i (fun _ _ => rfl)) (de_k T.k_DEED_WORDS) (by rfl)) (dw_or1 (dt_cmp (op_eqA hu) od_eq (de_ix ix_seq od_ix (de_v 8) de_i (fun _ _ => rfl)) de_s (nomark _))))) (dss_1 ds_never) (dss_1 (ds_par3 9 10 11 rfl sc_stepped.nd (by intro p hp; cases hp) (by intro p hp; cases hp) (by intro p hp; cases hp) (by decide) (by decide) (by decide) (da_c (de_v 3) (da_c (de_call C_went hr (by decide) (da_c (de_v 7) (da_c (de_v 6) da_n))) (da_c (de_tup (da_c de_s (da_c (de_tup da_n) da_n))) da_n))))))))))
      (dss_1 (ds_ret (de_tup (da_c (de_tup (da_c (de_v 9) (da_c (de_bin op_addA od_add (de_bin op_addA od_add (de_sl (de_v 4) do_n (do_s (de_v 2))) (de_tup (da_c (de_v 10) da_n))) (de_sl (de_v 4) (do_s (de_bin op_addA od_add (de_v 2) de_i)) do_n)) da_n))) (da_c (de_v 11) da_n)))))))))), ?_⟩
  rintro ds d ⟨s, i, t, c, x, rfl, ok, ht, hx, hp, rfl⟩
  have h4 := ok.ts.hi
  have hl := ok.len
  have okc := ok.cs i c t ht.c ht.t
  have e1 : atI (s.ts.map Task.d) ((i : Nat) : Int) = some t.d := at_n (by rw [List.getElem?_map, ht.t]; rfl)
  have e2 : atI (s.cs.map Ctr.d) ((i : Nat) : Int) = some c.d := at_n (by rw [List.getElem?_map, ht.c]; rfl)
  have e3 : atI (t.code.map Ins.d) ((c.place : Nat) : Int) = some x.d := at_n (by rw [List.getElem?_map, hx]; rfl)
  refine ⟨_, rfl, _, rfl, rfl, _, _, rfl, _, _, rfl, rfl, ?_⟩
  refine ⟨_, rfl, _, rfl, trivial, _, rfl, _, e1, trivial, _, rfl, rfl, _, _, rfl, _, _, rfl, rfl, ?_⟩
  refine ⟨_, rfl, _, rfl, _, e2, trivial, ?_⟩
  refine ⟨_, rfl, _, rfl, _, rfl, trivial, _, e3, trivial, ?_⟩
  refine ⟨_, rfl, _, rfl, .none, ⟨s.h, t.name, rfl, ok.h.s4, rfl⟩, _, rfl, trivial, false, rfl, iteF ?_⟩
  obtain ⟨w, ds, ex, h1, h2, h3⟩ := ins_word x hp
  have e4 : atI ds (0 : Int) = some (.str w) := by
    rw [show ((0 : Int)) = ((0 : Nat) : Int) by rfl]
    exact at_n h1
  have w6 := okc.got.few
  rw [ex]
  refine ⟨_, rfl, _, e4, trivial, _, rfl, .inl rfl, false, congrArg PyData.bool h2, iteF ?_⟩
  refine ⟨_, rfl, _, e4, trivial, _, rfl, ⟨rfl, rfl⟩, false, congrArg PyData.bool h3.1, iteF ?_⟩
  refine ⟨_, rfl, _, e4, trivial, _, rfl, .inl rfl, false, congrArg PyData.bool h3.2, iteF ?_⟩
  refine ⟨_, rfl, _, rfl, _, rfl, _, ⟨c, t.code, x, rfl, hx, hp, w6, rfl⟩, by simp, by simp, _, _, _, rfl, ?_⟩
  have l4 : s.cs.length ≤ 4 := by omega
  refine ⟨_, rfl, _, rfl, _, rfl, _, rfl, _, rfl, trivial, _, rfl, by simp, _, rfl, ?_, _, rfl, _, rfl, _, rfl, trivial, _, rfl, _, rfl, trivial, _, rfl, ?_, by simp, _, rfl, by simp, ?_⟩
  · rw [cut_to]
    simp
    omega
  · rw [cut_to, show (((i : Nat) : Int) + 1) = ((i + 1 : Nat) : Int) by omega, cut_from]
    simp
    omega
  · show PyData.tuple _ = stepD _ _ _
    unfold stepD
    rw [cut_to, show (((i : Nat) : Int) + 1) = ((i + 1 : Nat) : Int) by omega, cut_from, List.map_append, List.map_append, List.map_take, List.map_drop]
    rfl
theorem ok_stalls (T : Txt K mg) (C_going : Cal P w K mg base 3 "going" ["program", "state"] (spD K gGoing)) (C_have_ended : Cal P w K mg base 1 "have_ended" ["program", "state"] (spD K gEnded)) : Cal P w K mg base 4 "stalls" ["program", "state", "lost"] (spD K gStalls) := by
  obtain ⟨f, fd, F, hm⟩ := T.f_stalls
  refine okD F sc_stalls hm (F.bindsN fun _ _ _ _ _ _ us hl => match us, hl with | [_, _, _], _ => rfl) ?_ (by decide) (fun cdv A outer s H E hr => ?_)
  · rintro ds d ⟨s, b, rfl, _⟩
    rfl
  have hu := hr.units
  refine ⟨_, (dss_c (ds_if (L2.PW.pt (dw_or (dt_v (de_call C_have_ended hr (by decide) (da_c (de_v 0) (da_c (de_v 1) da_n)))) (dw_or1 (dt_cmp (op_neA hu) od_ne (de_call C_going hr (by decide) (da_c (de_v 0) (da_c (de_v 1) da_n))) (de_lst da_n) (nomark _))))) (dss_1 (ds_ret de_b)) dss_n)
      (dss_1 ds_never)), ?_⟩
  rintro ds d ⟨s, b, rfl, ok, rfl⟩
  have h4 := ok.ts.hi
  refine ⟨_, rfl, _, rfl, _, ⟨s, rfl, ok, rfl⟩, endedB s, rfl, ?_⟩
  refine ite_b (fun he => iteT rfl) (fun he => ?_)
  refine ⟨_, rfl, _, rfl, _, ⟨s, rfl, ok, rfl⟩, by simp, _, rfl, .inr ⟨ints_shaped _, by decide +kernel⟩, true, ?_, iteT rfl⟩
  refine congrArg PyData.bool ?_
  have ne := left_some ok he
  cases q : leftL s with
  | nil => exact absurd q ne
  | cons a l => rfl
end
end K45
/-! KX1 -/
set_option Elab.async false
set_option linter.all false
set_option maxRecDepth 100000
set_option maxHeartbeats 4000000
/-! CannotGo: an own class over RuntimeError whose first field is stored by its own def -/
namespace K45
open PySem PySem.Spec PyProof.Rows L2
abbrev rtT : List Value := [.type "RuntimeError", .type "Exception", .type "BaseException", .type "object"]
/-- the written class -/
structure CgC (K : PySem.W.Frag) (C : Addr) : Prop where
  cls : ∃ nm q N bs sn sub ab col dd k0 k1 k2 k3 k5, K.lookup C = some (excClassObj nm q C N bs rtT true sn sub ab col dd k0 k1 k2 k3 k5 "RuntimeError.__new__")
  sa : PySem.W.findIn K (.ref C) "__setattr__" = some (some (.builtin "object.__setattr__"))
  exC : PySem.W.subIn K (.ref C) (.type "BaseException") = some true
  tyC : PySem.W.typeIn K (.ref C) = some (.type "type")
  kC : PySem.W.keepIn K (.ref C) = true
theorem rt_passes (self : Value) (C : Addr) : PySem.refuseLoop self "__setattr__" (.ref C :: rtT) = pure () := by
  rw [refuseLoop_ref]
  rfl
section
variable {X : Cx} {pins : List (Addr × Obj)} {σ : L2.St} {H : Hp} {s : Shared} {a C : Addr} {f : Str} {y : V} {u : Value}
section
open PySem.HandSPX
variable {prog : Program} {w : World} {A : Around} {R : Result → Shared → Prop} {hp : Heap} {g : Array GenState} {d : Drawn} {t : Nat} {os : OsState}
open Builtin Builtin.ObjectAttr in
/-- a first field of such an exception: its dict is laid -/
theorem rt_osa {K : PySem.W.Frag} {name : Str} {tk : Tok} {v : Value} {x C : Addr} {fv : Array Value} {cd : ClassData} (X : K.In hp) (hx : hp.get? x = some ⟨.ref C, none, .fields fv, #[]⟩) (hcd : PySem.W.clsIn K C = some cd) (hm : cd.mro = .ref C :: rtT)
    (hh : cd.hasDict = true) (ha : PySem.W.findIn K (.ref C) name = some none)
    (hq : ∀ h' tk' dx, (∀ b o, b ≠ x → hp.get? b = some o → h'.get? b = some o) → hp.objs.size ≤ dx → dx ≠ x → h'.get? x = some ⟨.ref C, some dx, .fields fv, #[]⟩ → h'.Ns1 dx (fun y => if y = name then some v else none) → R (.ok (.ret .none)) ⟨h', g, d, tk', os⟩) :
    codeAny (model prog w) A (.call (.builtin "object.__setattr__") ⟨[.ref x, .str name tk, v], []⟩) R ⟨hp, g, d, t, os⟩ := by
  have I0 : PySem.W.InstAt hp x ⟨.ref C, none, .fields fv, #[]⟩ C none := ⟨hx, rfl, rfl, trivial⟩
  have slotF := F.store_object
  have hxs : x ≠ hp.objs.size := Nat.ne_of_lt (Heap.lt_size hx)
  have has : PySem.W.mroIn K C (.type "object") = some true := by
    unfold PySem.W.mroIn
    rw [hcd, Option.bind_some, hm]
    rfl
  have isO : PySem.W.Looks (model prog w) hp (isInstance (.ref x) (.type "object")) true := I0.type.andThen (PySem.W.looks_mroIn X has)
  refine codeAny_call_builtin slotF.slot.plain slotF.entry ?_
  refine @PySem.W.check_slot (model prog w) _ _ ⟨hp, g, d, t, os⟩ "object.__setattr__" "object" "__setattr__" (.ref x) [.str name tk, v] [] _ slotF.kind slotF.split isO (slotF.args (.ref x) (.str name tk) v) ?_
  have lookC : PySem.W.Looks (model prog w) hp (classData C) cd := PySem.W.looks_clsIn X hcd
  have lookM : PySem.W.Looks (model prog w) hp (mroOf (.ref C)) cd.mro := lookC.andThen .now
  have lookT : PySem.W.Looks (model prog w) hp (storeTaker? none) none := .now
  rw [PySem.W.osa_eq]
  rw [refuse_eq]
  refine wpAny_bind (wpAny_bind ?_)
  refine I0.type.at (wpAny_bind ?_)
  refine lookM.at ?_
  rw [hm, rt_passes]
  refine wpAny_pure (wpAny_bind ?_)
  refine I0.type.at (wpAny_bind ?_)
  refine (PySem.W.looks_findIn X ha).at (wpAny_bind ?_)
  refine lookT.at ?_
  show wpAny _ _ (storeInOwnDict (.ref x) (.ref C) (.str name tk) name v false) _ _ _
  obtain ⟨q1, q2, q3, q4, q5, q6, q7, q8, q9, q10, q11⟩ := cd
  have hh' : q6 = true := hh
  subst hh'
  unfold storeInOwnDict
  unfold ownDictForStores
  repeat (first | with_reducible refine store_in_new ?_ ?_ | with_reducible refine wpAny_loadPart_at hx ?_ | with_reducible refine lookC.at ?_ | wp_step)
  · exact ⟨_, #[], _, (Heap.get?_update_ne _ _ _ _ hxs.symm).trans (Heap.get?_push_at rfl rfl), rfl,
      fun e he => absurd he (by simp), fun _ => rfl⟩
  · intro h' tk' hn' hs
    refine hq h' tk' hp.objs.size (fun b o hb ho => ?_) (Nat.le_refl _) hxs.symm ?_ hn'
    · have e1 := hs.2 b (Nat.ne_of_lt (Heap.lt_size ho))
      rw [e1, Heap.get?_update_ne _ _ _ _ hb]
      exact Heap.get?_push_of_some _ ho
    · have e1 := hs.2 x hxs
      rw [e1]
      exact Heap.get?_update_self _ (Heap.get?_push_of_some _ hx) rfl
end
theorem cg_cd (T : CgC X.K C) : ∃ cd, PySem.W.clsIn X.K C = some cd ∧ cd.mro = .ref C :: rtT ∧ cd.hasDict = true := by
  obtain ⟨nm, q, N, bs, sn, sub, ab, col, dd, k0, k1, k2, k3, k5, hC⟩ := T.cls
  refine ⟨{ name := nm, bases := bs, mro := .ref C :: rtT, ns := N, qualname := q, hasDict := true, slotNames := sn, subclasses := sub, abstract := ab, collection := col, hasDel := false }, ?_, rfl, rfl⟩
  unfold PySem.W.clsIn
  rw [hC]
/-- self.f = y -/
theorem rt_ost {A : Around} {E : Value → Shared → Prop} {Q : Unit → Shared → Prop} (T : CgC X.K C) (I : Inv X pins σ H s) (e : H a = some (exo a C none)) (hno : PySem.W.findIn X.K (.ref C) f = some none) (ry : RelV y u)
    (h : ∀ dx s', H dx = none → dx ≠ a → Inv X pins σ (upd (upd H dx (exd dx [(f, y)])) a (exo a C (some dx))) s' → Q () s') : wpAny (model X.prog X.w) A (setAttr (.ref a) f u) Q E s := by
  obtain ⟨cd, hcl, hm, hh⟩ := cg_cd T
  obtain ⟨t1, ho⟩ := exo_at I.hok e
  obtain ⟨hp, g, d, t, os⟩ := s
  refine PySem.W.set_plain I.kIn (ox := ⟨.ref C, none, .fields #[.ref t1, .none, .none, .none, .bool false, .none], #[]⟩) (od := none) ⟨ho, rfl, rfl, trivial⟩ T.sa ?_
  refine rt_osa I.kIn ho hcl hm hh hno (fun h' tk' dx k dn dne hx hn => ?_)
  have hnd : H dx = none := I.hok.fresh dn
  have old : ∀ {b : Addr} {o : Obj}, hp.get? b = some o → b ≠ dx := fun {b o} q => Nat.ne_of_lt (Nat.lt_of_lt_of_le (Heap.lt_size q) dn)
  have nota : ∀ {b : Addr}, H b = none → b ≠ a := fun {b} n z => by rw [z, e] at n; cases n
  have U : Un X.fs [] H (upd (upd H dx (exd dx [(f, y)])) a (exo a C (some dx))) hp h' :=
    ⟨fun b o q n _ _ => k b o (nota n) q, fun b o q n _ _ => ⟨o.slots, k b o (nota n) q⟩, fun b o q n _ => by rw [upd_ne (nota n)]; exact (upd_ne (old q)).trans n,
      fun b o q _ => by
        by_cases hb : b = a
        · subst hb
          exact ⟨_, hx⟩
        · exact ⟨o, k b o hb q⟩,
      fun b xs q => by rw [upd_ne (at_ne e q exo_tup)]; exact (upd_ne (ne_of_none q hnd)).trans q,
      fun b o v q => by rw [upd_ne (at_ne e q exo_frz)]; exact (upd_ne (ne_of_none q hnd)).trans q,
      fun b ps q => ⟨#[], by rw [upd_ne (at_ne e q exo_tbl)]; exact ((upd_ne (ne_of_none q hnd)).trans q).trans (by simp)⟩⟩
  refine h dx _ hnd dne (I.un (t' := tk') U fun b o q => ?_)
  by_cases hb : b = a
  · subst hb
    obtain rfl := Option.some.inj (upd_same.symm.trans q)
    exact exo_ok hx
  · have q1 := (upd_ne hb).symm.trans q
    by_cases hd : b = dx
    · subst hd
      obtain rfl := Option.some.inj (upd_same.symm.trans q1)
      exact exd_ok hn (relO_put (fs := []) ry fun g => trivial)
    · have q2 := (upd_ne hd).symm.trans q1
      refine (I.hok b o q2).stay (fun c v hc z => k c v ?_ z) (fun c hc => ?_) (fun c xs hc => ?_)
      · rcases hc with rfl | hc
        · exact hb
        · exact at_ne e hc exo_own
      · rw [upd_ne (at_ne e hc exo_own)]
        exact (upd_ne (ne_of_none hc hnd)).trans hc
      · rw [upd_ne (at_ne e hc exo_tup)]
        exact (upd_ne (ne_of_none hc hnd)).trans hc
/-- RuntimeError.__init__(self, ..) -/
theorem rt_init {A : Around} {E : Value → Shared → Prop} {us : List Value} {Q : Value → Shared → Prop} (T : CgC X.K C) (I : Inv X pins σ H s) (e : H a = some (exo a C none)) (hl : us.length ≤ sizeLine) (h : ∀ s', Inv X pins σ H s' → Q .none s') :
    wpAny (model X.prog X.w) A (call (.builtin "RuntimeError.__init__") (.ref a :: us)) Q E s := by
  obtain ⟨nm, q, N, bs, sn, sub, ab, col, dd, k0, k1, k2, k3, k5, hC⟩ := T.cls
  obtain ⟨t1, ho⟩ := exo_at I.hok e
  obtain ⟨hp, g, d, t, os⟩ := s
  refine wpAny_call (PySem.HandSPX.init_base F.excBase_RuntimeError (fun Y => rfl) (I.kIn _ _ hC) ho hl fun h' t2 k hx => ?_)
  have J := I.write (t' := t) (x := a) (e := a) (o := exo a C none) (by rw [e]; trivial) (.inl rfl) k ⟨_, hx⟩ (exo_ok hx)
  have same : upd H a (exo a C none) = H := funext fun b => by
    by_cases hb : b = a
    · subst hb
      exact upd_same.trans e.symm
    · exact upd_ne hb
  exact h _ (same ▸ J)
end
theorem typ_RT : typeOf (.type "RuntimeError") = pure (.type "type") := by kernel_rfl
def tRtI (K : PySem.W.Frag) (ta : TA) : TE := fun σ H Q => ta σ H fun vs H1 => ∃ (a C : Addr) (ws : List V), vs = .ref a :: ws ∧ ws.length ≤ 1000 ∧ CgC K C ∧ H1 a = some (exo a C none) ∧ Q .non H1
def tNum (K : PySem.W.Frag) (f : Str) (to te : TE) : TS := fun D σ H => te σ H fun y H1 => to σ H1 fun x H2 => ∃ a C : Addr, x = .ref a ∧ CgC K C ∧ PySem.W.findIn K (.ref C) f = some none ∧ H2 a = some (exo a C none) ∧
  ∀ dx, H2 dx = none → dx ≠ a → D.nx σ (upd (upd H2 dx (exd dx [(f, y)])) a (exo a C (some dx)))
section
variable {X : Cx} {o e : Expr} {es : List Expr} {to te : TE} {ta : TA} {f : Str} {p p' p1 p2 pos : Pos}
theorem pe_rtinit {pl : Sem Bool} (hg : Gl X "RuntimeError") (hm : X.mg "RuntimeError" = none) (vV : PySem.W.findCls X.K (.type "RuntimeError") (.type "type") "__init__" = some (.val (.builtin "RuntimeError.__init__"))) (ha : PA X (e :: es) ta)
    (hc : eval (.Call (.Attribute (.Name "RuntimeError" p1) "__init__" p2) (e :: es) [] pos) X.env = (do
      let base ← eval (.Name "RuntimeError" p1) X.env
      standAt p2.atName
      let (m, own) ← holding [base] (getMethod base "__init__" pl)
      callWith pos m own (backTo pos (starEach (e :: es) X.env)) (backToKw pos (keywordEach [] X.env))) := by rfl)
    (he : starEach (e :: es) X.env = (false, eval e X.env) :: starEach es X.env := by rfl) (hpl : (backTo pos (starEach es X.env)).any (·.1) = false := by rfl) :
    PE X (.Call (.Attribute (.Name "RuntimeError" p1) "__init__" p2) (e :: es) [] pos) (tRtI X.K ta) := by
  refine ⟨fun pins s σ H Q I h => ?_⟩
  refine PySem.W.methodCall_KW (ld_blt I hg hm PyProof.Rows.Boot.«RuntimeError» ?_ (by decide) (by decide)) hc
  obtain ⟨mm, fr⟩ := I.fr
  refine PySem.W.method_type fr I.ok.mod.kin typ_RT (by decide +kernel) vV (by decide +kernel) ?_
  show wpAny _ _ (callWith pos (Value.builtin "RuntimeError.__init__") [] (backTo pos (starEach (e :: es) X.env)) []) _ _ _
  refine PyProof.Rows.callWith_method1 (thn (ha.run pos pins _ σ H _ (I.tok _) h) ?_) he hpl
  rintro us s1 ⟨vs, H1, I1, r1, a, C, ws, rfl, hl, T, ea, q⟩
  cases r1 with
  | @cons _ u0 _ ur ra rw' =>
    obtain rfl : u0 = Value.ref a := ra
    refine rt_init T I1 ea ?_ fun s' J => ⟨.non, H1, J, rfl, q⟩
    have := Paired.length rw'
    rw [sizeLine_eq]
    omega
theorem ps_num (ho : PE X o to) (he : PE X e te) (hs : swapsWith e (some (.Attribute o f p')) pos.line X.env = pure false := by rfl) : PS X (.Assign [.Attribute o f p'] e pos) (tNum X.K f to te) := by
  refine ⟨fun pins s σ H D I h => ?_⟩
  refine plainObj_wpAny_Assign_Attribute (thn (he.run pins s σ H _ I h) ?_) hs
  rintro v s1 ⟨y, H1, I1, r1, q1⟩
  refine thn (ho.run pins s1 σ H1 _ I1 q1) ?_
  rintro u s2 ⟨x, H2, I2, r2, a, C, rfl, T, hno, ea, q⟩
  obtain rfl : u = Value.ref a := r2
  exact rt_ost T I2 ea hno r1 fun dx s' n ne J => ⟨σ, _, J, q dx n ne⟩
/-- C(e, ..) -/
theorem pmk_rt {CX : CXT} {x : Str} {C fI : Addr} {k : Nat} {fd : FuncData} {ps : List Str} {sp : Sp} (T : CgC X.K C) (iC : PySem.W.findIn X.K (.ref C) "__init__" = some (some (.ref fI))) (tI : PySem.W.typeIn X.K (.ref fI) = some (.type "function"))
    (F1 : FnOk X.prog X.w X.K X.mg X.base CX k fI fd ps sp) (hr : Room (k + 1) X.A) (hb : Binds X.K fd ps []) (hx : Passes CX X (fun _ _ _ => False)) (hg : Gl X x) (hm : X.mg x = some (.ref C)) (ha : PA X (e :: es) ta)
    (hdb : (x == ("__debug__" : Str)) = false := by decide) (he : starEach (e :: es) X.env = (false, eval e X.env) :: starEach es X.env := by rfl) (hpl : (backTo pos (starEach es X.env)).any (·.1) = false := by rfl) :
    PMk X (.Call (.Name x p) (e :: es) [] pos) (tMkO C sp [] ta) := by
  intro pins s σ H Q I h
  obtain ⟨nm, q, N, bs, sn, sub, ab, col, dd, k0, k1, k2, k3, k5, hC⟩ := T.cls
  refine wpAny_Call_Name_kw (ld_glob I hg hm ?_ hdb)
  refine PySem.W.callWith_K (h₀ := X.base) I.ok.mod.kin T.kC (thn (ha.run pos pins s σ H _ I h) ?_) he hpl
  rintro us ⟨hp, g, dr, tk, os⟩ ⟨vs, H1, I1, r1, hz, q1⟩
  refine ⟨I1.kIn, ?_⟩
  show wpAny _ _ (call (.ref C) us) _ _ _
  rw [List.append_nil] at q1
  have up1 : hp.objs.size ≤ hp.objs.size + 1 := Nat.le_succ _
  have hq := q1 (hp.objs.size + 1) (I1.hok.fresh up1)
  have stays : ∀ b o, hp.get? b = some o → ((hp.push (PySem.W.kdv_tup us)).push (PySem.HandSPX.excO C hp.objs.size)).get? b = some o := fun b o z => Heap.get?_push_of_some _ (Heap.get?_push_of_some _ z)
  have made : ((hp.push (PySem.W.kdv_tup us)).push (PySem.HandSPX.excO C hp.objs.size)).get? (hp.objs.size + 1) = some (PySem.HandSPX.excO C hp.objs.size) := by heap_get
  have I2 := I1.laid (t' := tk) (a := hp.objs.size + 1) (o := exo (hp.objs.size + 1) C none) (h' := (hp.push (PySem.W.kdv_tup us)).push (PySem.HandSPX.excO C hp.objs.size)) stays up1 (exo_ok made)
  have r2 : Vals (V.ref (hp.objs.size + 1) :: vs) (Value.ref (hp.objs.size + 1) :: us) := .cons rfl r1
  have hl : (Value.ref (hp.objs.size + 1) :: us ++ []).length = ps.length := by
    rw [List.append_nil]
    exact r2.length.symm.trans (F1.len _ _ _ _ hq)
  have bnd := hb _ (Value.ref (hp.objs.size + 1) :: us) I2.kIn hl
  rw [List.append_nil] at bnd
  have hus : us.length ≤ sizeLine := by
    have := Paired.length r1
    rw [sizeLine_eq]
    omega
  refine wpAny_call (PySem.HandSPX.call_own F.excBase_RuntimeError (fun Y => rfl) (I1.kIn _ _ hC) (PySem.W.looks_findIn I1.kIn iC) (fun self => PySem.W.bind_fn I1.kIn self tI) hus ?_)
  refine codeAny_mono (F1.run _ X.stack _ _ ⟨Value.ref (hp.objs.size + 1) :: us, []⟩ (Value.ref (hp.objs.size + 1) :: us) _ _ (fun _ _ _ => False) (hr.make C us []) (I2.env0.make C us []) bnd r2 hq) fun r s' hq' => ?_
  match r, hq' with
  | .error er, hq' => exact hx pins σ _ _ er s' I2 hq'
  | .ok (.ret u), hq' =>
    obtain ⟨v, H2, os2, bare2, un2, hok2, rv, rfl, d, fs, ea, ed, hd1, q2⟩ := hq'
    obtain ⟨h2, g2, d2, t2, os'⟩ := s'
    exact ⟨rv, mk_end (raises_own T.exC T.tyC) I1 up1 stays un2 hok2 os2 bare2 ea ed hd1 q2⟩
  | .ok .next, hq' => exact hq'.elim
  | .ok .brk, hq' => exact hq'.elim
  | .ok .cont, hq' => exact hq'.elim
end
end K45
/-! KX2 -/
set_option Elab.async false
set_option linter.all false
set_option maxRecDepth 100000
set_option maxHeartbeats 4000000
/-! the def of CannotGo; need_going and step, giving and refusing -/
namespace K45
open PySem PySem.Spec PyProof.Rows L2
theorem sc_cginit : FnScope ["self", "number"] ["self", "number"] (defScope s_cginit) := ⟨rfl, rfl, rfl, by decide +kernel, rfl, by decide +kernel, by decide +kernel⟩
/-- what the head tells of CannotGo -/
structure CgAt (K : PySem.W.Frag) (mg : Str → Option Value) (C fI : Addr) (fd : FuncData) : Prop where
  m : mg "CannotGo" = some (.ref C)
  c : CgC K C
  i : PySem.W.findIn K (.ref C) "__init__" = some (some (.ref fI))
  t : PySem.W.typeIn K (.ref fI) = some (.type "function")
  n : PySem.W.findIn K (.ref C) "number" = some none
  F : FunD K "__init__" "CannotGo.__init__" (defArgs s_cginit) (defBody s_cginit) (defScope s_cginit) [] [] fI fd
  r : mg "RuntimeError" = none
  v : PySem.W.findCls K (.type "RuntimeError") (.type "type") "__init__" = some (.val (.builtin "RuntimeError.__init__"))
def spInit (C : Addr) : Sp := fun vs H Q _ => ∃ (a : Addr) (i : Int), vs = [.ref a, .int i] ∧ H a = some (exo a C none) ∧ ∀ dx, H dx = none → dx ≠ a → Q .non (upd (upd H dx (exd dx [("number", .int i)])) a (exo a C (some dx)))
section
variable {P : Program} {w : World} {K : PySem.W.Frag} {mg : Str → Option Value} {base : Heap} {C fI : Addr} {fd : FuncData}
theorem fn_init {CX : CXT} (G : CgAt K mg C fI fd) : FnOk P w K mg base CX 1 fI fd ["self", "number"] (spInit C) := by
  refine G.F.ok sc_cginit (fun vs H Q E h => ?_) (fun cdv A outer s H vs Q E hr h => ?_)
  · obtain ⟨a, i, rfl, _⟩ := h
    rfl
  · obtain ⟨a, i, rfl, ha, hq⟩ := h
    refine ⟨_, pss_cons (ps_expr (pe_rtinit rfl G.r G.v (pa_cons (pe_var (i := 0) rfl (Or.inl rfl)) (pa_cons pe_str pa_nil)))) (pss_one (ps_num (pe_var (i := 0) rfl (Or.inl rfl)) (pe_var (i := 1) rfl (Or.inl rfl)))), ?_⟩
    refine ⟨_, rfl, ?_⟩
    refine ⟨a, C, [_], rfl, by simp, G.c, ha, ?_⟩
    exact ⟨_, rfl, _, rfl, a, C, rfl, G.c, G.n, ha, hq⟩
/-- given, or refused by CannotGo with the number -/
def spC (K : PySem.W.Frag) (C : Addr) (g : List PyData → PyData → Prop) (gx : List PyData → Int → Prop) : Sp := fun vs H Q E => ∃ ds, DqA K H vs ds ∧
  ((∃ d, g ds d ∧ ∀ v H', Ex H H' → Dq K H' v d → Q v H') ∨ ∃ i, gx ds i ∧ ∀ dx H', Ex H H' → H' dx = some (.xd [("number", .int i)]) → E (.ref C) (some dx) H')
structure CalC (P : Program) (w : World) (K : PySem.W.Frag) (mg : Str → Option Value) (base : Heap) (k : Nat) (x : Str) (ps : List Str) (sp : Sp) : Prop where
  ok : ∃ f fd, FnOk P w K mg base (L2.CX P w) k f fd ps sp ∧ mg x = some (.ref f) ∧ PySem.W.keepIn K (.ref f) = true ∧ Binds K fd ps []
end
/-- raise CannotGo(e): what it asks -/
def wRz (K : PySem.W.Frag) (m : Md) (C : Addr) (We : WE) : L2.St → Hp → XK → Prop := fun s H Q => ∃ r n, Rst K m s H r n ∧ We r n fun d n1 => ∃ i : Int, d = .int i ∧
  ∀ H1 dx H2, Xt m H H1 → Ex H1 H2 → H2 dx = some (.xd [("number", .int i)]) → Q (.ref C) (some dx) H2
section
variable {X : Cx} {m : Md} {e : Expr} {p pos : Pos} {C fI : Addr} {fd : FuncData} {We : WE}
theorem pmk_cg (G : CgAt X.K X.mg C fI fd) (hr : Room 2 X.A) (hg : Gl X "CannotGo") (he : DE X m e We) (hs : starEach [e] X.env = (false, eval e X.env) :: starEach [] X.env := by rfl) (hpl : (backTo pos (starEach [] X.env)).any (·.1) = false := by rfl) :
    PMk X (.Call (.Name "CannotGo" p) [e] [] pos) (wRz X.K m C We) := by
  have hb : Binds X.K fd ["self", "number"] [] := G.F.bindsN fun _ _ _ _ _ _ us hl => match us, hl with
    | [_, _], _ => rfl
  have base := pmk_rt (CX := CX0) (x := "CannotGo") (p := p) (pos := pos) G.c G.i G.t (fn_init (CX := CX0) G) hr hb pass0 hg G.m (pa_cons he pa_nil hs) (by decide) hs hpl
  intro pins s σ H Q I h
  refine base pins s σ H Q I ?_
  obtain ⟨r, n, R, w, hQ⟩ : ∃ r n, Rst X.K m σ H r n ∧ We r n (fun d n1 => ∃ i : Int, d = .int i ∧ ∀ H1 dx H2, Xt m H H1 → Ex H1 H2 → H2 dx = some (.xd [("number", .int i)]) → Q (.ref C) (some dx) H2) ∧ True := by
    obtain ⟨r, n, R, w⟩ := h
    exact ⟨r, n, R, w, trivial⟩
  refine ⟨r, n, _, R, w, fun v H1 d n1 x1 s1 hd hi => ?_⟩
  obtain ⟨i, rfl, k⟩ := hi
  cases hd
  refine ⟨by simp, fun a ha => ⟨a, i, rfl, upd_same, fun dx hdx hne => ⟨rfl, dx, [("number", .int i)], upd_same, ?_, ?_, ?_⟩⟩⟩
  · rw [upd_ne hne]
    exact upd_same
  · rw [upd_ne hne] at hdx
    exact hdx
  · rw [upd_ne hne] at hdx
    refine k H1 dx _ x1 (fun b o hb => ?_) upd_same
    have n1 : b ≠ a := fun z => by rw [z, ha] at hb; cases hb
    have n2 : b ≠ dx := fun z => by rw [z, hdx] at hb; cases hb
    rw [upd_ne n2, del_ne n1, upd_ne n1, upd_ne n2, upd_ne n1]
    exact hb
end
end K45
/-! KX3 -/
set_option Elab.async false
set_option linter.all false
set_option maxRecDepth 100000
set_option maxHeartbeats 4000000
namespace K45
open PySem PySem.Spec PyProof.Rows L2
def gNeedGoing (ds : List PyData) (d : PyData) : Prop := ∃ (s : St3) (i : Nat) (t : Task) (c : Ctr), ds = [s.pd, s.sd, .int (i : Nat)] ∧ s.Ok ∧ At s i t c ∧ c.place < t.code.length ∧ d = .none
def xNeedGoing (ds : List PyData) (j : Int) : Prop := ∃ (s : St3) (i : Nat) (t : Task) (c : Ctr), ds = [s.pd, s.sd, .int (i : Nat)] ∧ s.Ok ∧ At s i t c ∧ ¬ c.place < t.code.length ∧ j = (i : Nat)
def xStep := xNeedGoing
section
variable {P : Program} {w : World} {K : PySem.W.Frag} {mg : Str → Option Value} {base : Heap} {C fI : Addr} {fdI : FuncData}
theorem ok_need_going (T : Txt K mg) (G : CgAt K mg C fI fdI) (C_is_number : Cal P w K mg base 1 "is_number" ["thing", "least", "most"] (spD K gNumber)) (C_goes : Cal P w K mg base 2 "goes" ["program", "state", "number"] (spD K gGoes)) :
    CalC P w K mg base 3 "need_going" ["program", "state", "number"] (spC K C gNeedGoing xNeedGoing) := by
  obtain ⟨f, fd, F, hm⟩ := T.f_need_going
  refine ⟨f, fd, F.ok sc_need_going (fun vs H Q E h => ?_) (fun cdv A outer s0 H vs Q E hr h => ?_), hm, F.kp, F.bindsN fun _ _ _ _ _ _ us hl => match us, hl with | [_, _, _], _ => rfl⟩
  · obtain ⟨ds, h1, ⟨_, ⟨_, _, _, _, rfl, _⟩, _⟩ | ⟨_, ⟨_, _, _, _, rfl, _⟩, _⟩⟩ := h <;> exact da_len h1
  · obtain ⟨s, i, t, c, h1, ok, ht, h2⟩ : ∃ (s : St3) (i : Nat) (t : Task) (c : Ctr), DqA K H vs [s.pd, s.sd, .int (i : Nat)] ∧ s.Ok ∧ At s i t c ∧ ((c.place < t.code.length ∧ ∀ v H', Ex H H' → Dq K H' v .none → Q v H') ∨
        (¬ c.place < t.code.length ∧ ∀ dx H', Ex H H' → H' dx = some (.xd [("number", .int (i : Nat))]) → E (.ref C) (some dx) H')) := by
      obtain ⟨ds, h1, ⟨_, ⟨s, i, t, c, rfl, ok, ht, hp, rfl⟩, k⟩ | ⟨_, ⟨s, i, t, c, rfl, ok, ht, hp, rfl⟩, k⟩⟩ := h
      · exact ⟨s, i, t, c, h1, ok, ht, .inl ⟨hp, k⟩⟩
      · exact ⟨s, i, t, c, h1, ok, ht, .inr ⟨hp, k⟩⟩
    have hu := hr.units
    have h4 := ok.ts.hi
    have hi : i < s.ts.length := (List.getElem?_eq_some_iff.mp ht.t).1
    refine ⟨_, pss_cons (ps_if (dt_not (dt_v (de_call (m := pureM) C_is_number hr (by decide) (da_c (de_v 2) (da_c de_i (da_c (de_bin op_sub od_sub (de_cb call_len cd_len T.n_len (by decide +kernel) (da_c (de_ix ix_seq od_ix (de_v 0) de_i (fun _ _ => rfl)) da_n)) de_i) da_n)))))) pss_never pss_nil)
      (pss_one (ps_if (dt_not (dt_v (de_call (m := pureM) C_goes hr (by decide) (da_c (de_v 0) (da_c (de_v 1) (da_c (de_v 2) da_n))))))
        (pss_one (ps_raise rfl (takes_of (X := cxOf (L2.CX P w) P w K mg base _ _ _ f cdv A outer s0 H E) (E := E) rfl rfl rfl rfl) (pmk_cg (m := pureM) G hr rfl (de_v 2)))) pss_nil)), ?_⟩
    have R0 : Rst K pureM (start ["program", "state", "number"] vs) H (startR ["program", "state", "number"] [s.pd, s.sd, .int (i : Nat)]) 0 := start_rst h1 (by simp) trivial rfl
    refine ⟨_, 0, fun b _ => b = false, R0, ?_, fun b H1 n1 x1 s1 hb => ?_⟩
    · refine ⟨_, rfl, _, rfl, _, rfl, trivial, _, rfl, trivial, _, rfl, trivial, .bool true, ⟨_, _, _, rfl, ?_⟩, true, rfl, rfl⟩
      have e : (decide ((0 : Int) ≤ (i : Nat)) && decide (((i : Nat) : Int) ≤ ((s.ts.map Task.d).length : Nat) - 1)) = true := by
        simp
        omega
      exact congrArg PyData.bool e.symm
    · subst hb
      refine ⟨_, n1, fun b _ => b = !(decide (c.place < t.code.length)), R0.go x1 s1, ?_, fun b H2 n2 x2 s2 hb => ?_⟩
      · refine ⟨_, rfl, _, rfl, _, rfl, .bool (decide (c.place < t.code.length)), ⟨s, i, t, c, rfl, ok.h.s4, ht, rfl⟩, _, rfl, rfl⟩
      · subst hb
        have R2 := (R0.go x1 s1).go x2 s2
        rcases h2 with ⟨hp, k⟩ | ⟨hp, k⟩
        · rw [decide_eq_true hp]
          exact k _ H2 (x1.trans x2).pure .non
        · rw [decide_eq_false hp]
          refine ⟨_, n2, R2, ⟨_, rfl, (i : Nat), rfl, fun H3 dx H4 x3 e4 hd => k dx H4 ?_ hd⟩⟩
          exact ((x1.trans x2).trans x3).pure.trans e4
end
end K45
/-! KX4 -/
set_option Elab.async false
set_option linter.all false
set_option maxRecDepth 100000
set_option maxHeartbeats 4000000
namespace K45
open PySem PySem.Spec PyProof.Rows L2
def gStep (ds : List PyData) (d : PyData) : Prop := ∃ (s : St3) (i : Nat) (t : Task) (c : Ctr) (x : Ins), ds = [s.pd, s.sd, .int (i : Nat)] ∧ s.Ok ∧ At s i t c ∧ t.code[c.place]? = some x ∧ x.isPut = false ∧ d = stepD s i { c with place := leadsTo t.code.length c x }
section
variable {P : Program} {w : World} {K : PySem.W.Frag} {mg : Str → Option Value} {base : Heap} {C fI : Addr} {fdI : FuncData}
theorem ok_step (T : Txt K mg) (G : CgAt K mg C fI fdI) (C_need_state : Cal P w K mg base 11 "need_state" ["program", "thing"] (spD K gState)) (C_need_going : CalC P w K mg base 3 "need_going" ["program", "state", "number"] (spC K C gNeedGoing xNeedGoing))
    (C_stepped : Cal P w K mg base 2 "stepped" ["program", "state", "number"] (spD K gStepped)) : CalC P w K mg base 12 "step" ["program", "state", "number"] (spC K C gStep xNeedGoing) := by
  obtain ⟨f, fd, F, hm⟩ := T.f_step
  obtain ⟨fg, fdg, Fg, hmg, hkg, hbg⟩ := C_need_going.ok
  refine ⟨f, fd, F.ok sc_step (fun vs H Q E h => ?_) (fun cdv A outer s0 H vs Q E hr h => ?_), hm, F.kp, F.bindsN fun _ _ _ _ _ _ us hl => match us, hl with | [_, _, _], _ => rfl⟩
  · obtain ⟨ds, h1, ⟨_, ⟨_, _, _, _, _, rfl, _⟩, _⟩ | ⟨_, ⟨_, _, _, _, rfl, _⟩, _⟩⟩ := h <;> exact da_len h1
  · obtain ⟨s, i, t, c, h1, ok, ht, h2⟩ : ∃ (s : St3) (i : Nat) (t : Task) (c : Ctr), DqA K H vs [s.pd, s.sd, .int (i : Nat)] ∧ s.Ok ∧ At s i t c ∧ ((∃ x, t.code[c.place]? = some x ∧ x.isPut = false ∧ ∀ v H', Ex H H' → Dq K H' v (stepD s i { c with place := leadsTo t.code.length c x }) → Q v H') ∨
        (¬ c.place < t.code.length ∧ ∀ dx H', Ex H H' → H' dx = some (.xd [("number", .int (i : Nat))]) → E (.ref C) (some dx) H')) := by
      obtain ⟨ds, h1, ⟨_, ⟨s, i, t, c, x, rfl, ok, ht, hx, hp, rfl⟩, k⟩ | ⟨_, ⟨s, i, t, c, rfl, ok, ht, hp, rfl⟩, k⟩⟩ := h
      · exact ⟨s, i, t, c, h1, ok, ht, .inl ⟨x, hx, hp, k⟩⟩
      · exact ⟨s, i, t, c, h1, ok, ht, .inr ⟨hp, k⟩⟩
    refine ⟨_, pss_cons (ps_expr (de_call (m := pureM) C_need_state hr (by decide) (da_c (de_v 0) (da_c (de_v 1) da_n))))
      (pss_cons (ps_expr (pe_call (E := E) Fg (hr.mono (by decide)) rfl hmg hkg hbg .nil (passes_call (takes_of (X := cxOf (L2.CX P w) P w K mg base _ _ _ f cdv A outer s0 H E) (E := E) rfl rfl rfl rfl) fun _ _ _ _ h => h) (da_c (m := pureM) (de_v 0) (da_c (de_v 1) (da_c (de_v 2) da_n)))))
        (pss_one (ps_ret (de_call (m := pureM) C_stepped hr (by decide) (da_c (de_v 0) (da_c (de_v 1) (da_c (de_v 2) da_n))))))), ?_⟩
    have R0 : Rst K pureM (start ["program", "state", "number"] vs) H (startR ["program", "state", "number"] [s.pd, s.sd, .int (i : Nat)]) 0 := start_rst h1 (by simp) trivial rfl
    refine ⟨_, 0, fun _ _ => True, R0, ⟨_, rfl, _, rfl, _, ⟨s, rfl, ok, rfl⟩, trivial⟩, fun v H1 d n1 x1 s1 _ _ => ?_⟩
    refine ⟨_, n1, fun ds _ => ds = [s.pd, s.sd, .int (i : Nat)], R0.go x1 s1, ⟨_, rfl, _, rfl, _, rfl, rfl⟩, fun us H2 ds n2 x2 s2 hd e => ?_⟩
    subst e
    show spC K C gNeedGoing xNeedGoing (us ++ []) H2 _ E
    rw [List.append_nil]
    have R2 := (R0.go x1 s1).go x2 s2
    refine ⟨_, hd, ?_⟩
    rcases h2 with ⟨x, hx, hp, k⟩ | ⟨hp, k⟩
    · refine .inl ⟨.none, ⟨s, i, t, c, rfl, ok, ht, (List.getElem?_eq_some_iff.mp hx).1, rfl⟩, fun v H3 e3 _ => ?_⟩
      refine ⟨_, n2, fun d _ => d = stepD s i { c with place := leadsTo t.code.length c x }, R2.ex e3, ⟨_, rfl, _, rfl, _, rfl, _, ⟨s, i, t, c, x, rfl, ok, ht, hx, hp, rfl⟩, rfl⟩, fun u H4 d n4 x4 _ hd e => ?_⟩
      subst e
      exact k u H4 ((((x1.trans x2).pure.trans e3)).trans x4.pure) hd
    · exact .inr ⟨(i : Nat), ⟨s, i, t, c, rfl, ok, ht, hp, rfl⟩, fun dx H3 e3 h3 => k dx H3 ((x1.trans x2).pure.trans e3) h3⟩
end
end K45
/-! KX5 -/
set_option Elab.async false
set_option linter.all false
set_option maxRecDepth 100000
set_option maxHeartbeats 4000000
namespace K45
open PySem PySem.Spec PyProof.Rows L2
/-- is_stall: lost is by keyword, False if it is not written -/
abbrev StallAt (K : PySem.W.Frag) (mg : Str → Option Value) (f : Addr) (fd : FuncData) : Prop := FunD K "is_stall" "is_stall" (defArgs s_is_stall) (defBody s_is_stall) (defScope s_is_stall) [] [("lost", .bl false)] f fd ∧ mg "is_stall" = some (.ref f)
section
variable {P : Program} {w : World} {K : PySem.W.Frag} {mg : Str → Option Value} {base : Heap} {f : Addr} {fd : FuncData}
theorem stall_fn (S : StallAt K mg f fd) (C_need_state : Cal P w K mg base 11 "need_state" ["program", "thing"] (spD K gState)) (C_stalls : Cal P w K mg base 4 "stalls" ["program", "state", "lost"] (spD K gStalls)) :
    FnOk P w K mg base CX0 12 f fd ["program", "state", "lost"] (spD K gStalls) := by
  refine S.1.ok sc_is_stall (fun vs H Q E h => ?_) (fun cdv A outer s0 H vs Q E hr h => ?_)
  · obtain ⟨ds, d, h1, ⟨s, b, rfl, _⟩, _⟩ := h
    exact da_len h1
  · obtain ⟨ds, d, h1, ⟨s, b, rfl, ok, rfl⟩, k⟩ := h
    refine ⟨_, pss_one (ps_ret (de_call (m := pureM) C_stalls hr (by decide) (da_c (de_v 0) (da_c (de_call C_need_state hr (by decide) (da_c (de_v 0) (da_c (de_v 1) da_n))) (da_c (de_v 2) da_n))))), ?_⟩
    have R0 : Rst K pureM (start ["program", "state", "lost"] vs) H (startR ["program", "state", "lost"] [s.pd, s.sd, .bool b]) 0 := start_rst h1 (by simp) trivial rfl
    refine ⟨_, 0, fun d _ => d = .bool false, R0, ?_, fun v H1 d n1 x1 _ hd e => ?_⟩
    · exact ⟨_, rfl, _, rfl, _, rfl, _, ⟨s, rfl, ok, rfl⟩, _, rfl, _, ⟨s, b, rfl, ok, rfl⟩, rfl⟩
    · subst e
      exact k v H1 x1.pure hd
theorem stall_b0 (S : StallAt K mg f fd) : ∃ ds, Vals [V.bl false] ds ∧ Binds K fd ["program", "state", "lost"] ds :=
  S.1.binds0 (ps := ["program", "state", "lost"]) 2 (by simp) rfl fun D doc pm an cdv ct us ks l1 l2 => by
    match us, ks, l1, l2 with
    | [u1, u2], [k1], _, _ => exact ⟨_, _, _, _, _, _, rfl, rfl, rfl⟩
theorem stall_bk (S : StallAt K mg f fd) : KBn K fd ["program", "state", "lost"] 2 ["lost"] (fun us ws => us ++ ws) (fun vs zs => vs ++ zs) := by
  obtain ⟨oc, od, dV, kV, doc, pm, an, cdv, ct, osl, rfl, lk, hcd, hD, hK⟩ := S.1.ex
  rcases hD with ⟨_, rfl⟩ | ⟨e, _⟩
  · refine ⟨fun s us ws X l1 l2 => ?_, fun r1 r2 => r1.append r2⟩
    match us, ws, l1, l2 with
    | [u1, u2], [k1], _, _ => exact .of_eq rfl
  · exact absurd rfl e
end
end K45
/-! KX6 -/
set_option Elab.async false
set_option linter.all false
set_option maxRecDepth 100000
set_option maxHeartbeats 4000000
/-! try: .. except x as e: suite, where the exception is kept beyond the suite -/
namespace K45
open PySem PySem.Spec PyProof.Rows L2
/-- an exception that is kept: its class and its dict -/
def exk (a : Addr) (cls : Value) (d : Option Addr) : HO := .ext fun h => ∃ o vs, h.get? a = some o ∧ o.cls = cls ∧ o.dict = d ∧ o.data = .fields vs
theorem exk_at {P : Program} {w : World} {H : Hp} {h : Heap} {a : Addr} {cls : Value} {d : Option Addr} (hok : HOk P w H h) (e : H a = some (exk a cls d)) : ∃ o vs, h.get? a = some o ∧ o.cls = cls ∧ o.dict = d ∧ o.data = .fields vs := by
  have x : ObjOk P w H h a (.ext fun h => ∃ o vs, h.get? a = some o ∧ o.cls = cls ∧ o.dict = d ∧ o.data = .fields vs) := hok a _ e
  exact x.1
section
variable {X : Cx} {pins : List (Addr × Obj)} {σ : L2.St} {H : Hp} {s : Shared}
theorem adopt (I : Inv X pins σ H s) {a : Addr} {oe : Obj} {vs : Array Value} {cls : Value} {d : Option Addr} (he : s.heap.get? a = some oe) (hz : Zc cls d oe) (hd : oe.data = .fields vs) (na : H a = none) (n0 : X.s_0.heap.get? a = none) (nL : a ≠ X.env.locals)
    (np : ∀ p ∈ X.pn ++ pins, p.1 ≠ a) : Inv X pins σ (upd H a (exk a cls d)) s := by
  have ne : ∀ {b : Addr} {u : HO}, H b = some u → b ≠ a := fun {b u} hb z => by rw [z, na] at hb; cases hb
  have cellNe : ∀ x c, X.env.cells.lookup x = some c → c ≠ a := fun x c hc z => by
    obtain ⟨v, o, h1, h2⟩ := I.cell x c hc
    rw [z, he] at h1
    cases h1
    rw [hd] at h2
    cases h2
  refine ⟨I.ok, I.os, I.bare, ⟨I.base.keep, I.base.slot, fun b o h1 h2 h3 => ?_, I.base.there, fun b xs h1 => ?_, fun b o v h1 => ?_, fun b ps h1 => ?_⟩, I.loc, I.cell, ?_, fun x c hc => ?_, fun p hp => ?_, fun b o hb => ?_, I.len⟩
  · have n : b ≠ a := fun z => by rw [z, n0] at h1; cases h1
    rw [upd_ne n]
    exact I.base.free b o h1 h2 h3
  · have h2 := I.base.tups b xs h1
    rw [upd_ne (ne h2)]
    exact h2
  · have h2 := I.base.frzs b o v h1
    rw [upd_ne (ne h2)]
    exact h2
  · obtain ⟨more, h2⟩ := I.base.tbls b ps h1
    exact ⟨more, by rw [upd_ne (ne h2)]; exact h2⟩
  · rw [upd_ne (Ne.symm nL)]
    exact I.free
  · rw [upd_ne (cellNe x c hc)]
    exact I.freeC x c hc
  · obtain ⟨h1, h2, h3⟩ := I.pin p hp
    exact ⟨h1, by rw [upd_ne (np p hp)]; exact h2, h3⟩
  · by_cases e : b = a
    · subst e
      rw [upd_same] at hb
      cases hb
      exact ⟨⟨oe, vs, he, hz.1, hz.2, hd⟩, ⟨oe, he⟩, fun h1 h2 ⟨o, ws, q1, q2, q3, q4⟩ k => ⟨o, ws, k _ q1, q2, q3, q4⟩⟩
    · rw [upd_ne e] at hb
      exact (I.hok b o hb).stay (fun c v hc z => z) (fun c hc => by rw [upd_ne (ne hc)]; exact hc) (fun c xs hc => by rw [upd_ne (ne hc)]; exact hc)
end
/-- what the clause wishes of an exception of the body -/
def wKeep (K : PySem.W.Frag) (c : Value) (i N : Nat) (ts : Addr → Value → Option Addr → TS) (D : Ends) : WX := fun cls d σ H =>
  PySem.W.exmOne K cls c = some true ∧ ∀ a, H a = none → σ.length = N → ts a cls d { nx := fun σ' H' => D.nx (σ'.set i none) (upd H' a (exk a cls d)), rt := fun _ _ => False } (σ.set i (some (.ref a))) H
section
variable {X : Cx} {x n : Str} {c : Value} {i : Nat} {body suite : List Stmt} {b0 : Stmt} {np pos pos' : Pos} {tb : WX → TS} {ts : Addr → Value → Option Addr → TS}
theorem ps_try_keep (hs : X.stack = X.env :: X.outer) (hf : X.env.frame = some X.env.locals) (hex : X.ex = []) (hN : X.N.Nodup) (hi : X.N[i]? = some n) (hln : X.env.kindOf n = some .local) (hc : Names X x c)
    (hb : ∀ (W : WX) (pn : List (Addr × Obj)) (xe : Value → Shared → Prop), Takes (X.tr pn xe) W → PassesOwn (model X.prog X.w) X.A X.env xe → PSs (X.tr pn xe) body (tb W))
    (hsu : ∀ (a : Addr) (oe : Obj) (cls : Value) (d : Option Addr) (pn : List (Addr × Obj)), Zc cls d oe → (∃ vs, oe.data = .fields vs) → PSs (X.suite a ((a, oe) :: pn)) (b0 :: suite) (ts a cls d)) :
    PS X (.Try body [.ExceptHandler (some (.Name x np)) (some n) (b0 :: suite) pos'] [] [] pos) (fun D σ H => tb (wKeep X.K c i X.N.length ts D) D σ H) := by
  refine ⟨fun pins s σ H D I h => ?_⟩
  have ok := I.ok
  have hfr : X.A.frames = some (X.env :: X.outer) := by rw [ok.frames, hs]
  refine wpAny_Try_except ?_
  let hand : Value → Shared → Prop := fun e s₁ => wpAny (model X.prog X.w) X.A (noteFrame e X.env) (fun _ s₂ => wpAny (model X.prog X.w) X.A (setFlight e none) (fun _ s₃ =>
    wpAny (model X.prog X.w) X.A (handleBy e X.env [.ExceptHandler (some (.Name x np)) (some n) (b0 :: suite) pos']) (SP X pins D) X.xe s₃) X.xe s₂) X.xe s₁
  have main := (hb (wKeep X.K c i X.N.length ts D) (X.pn ++ pins) hand (fun u s' xx => ?_) PassesOwn.looking).run [] s σ H D (I.toTry _) h
  · refine wpAny_mono main (fun f s1 hsp => ?_) (fun e s1 he => he)
    cases f with
    | next =>
      obtain ⟨σ', H', J', q⟩ := hsp
      exact wpAny_execs_nil ⟨σ', H', J'.ofTry ok, q⟩
    | ret u =>
      obtain ⟨v, σ', H', J', r, q⟩ := hsp
      exact ⟨v, σ', H', J'.ofTry ok, r, q⟩
    | brk =>
      obtain ⟨σ', H', J', q⟩ := hsp
      exact ⟨σ', H', J'.ofTry ok, q⟩
    | cont =>
      obtain ⟨σ', H', J', q⟩ := hsp
      exact ⟨σ', H', J'.ofTry ok, q⟩
  · obtain ⟨a, B, sI, pins', σ', H', cls, d, rfl, J', nb, up, sky, na, os, ag, hyes, hts⟩ := xx
    have J : Inv X pins σ' H' sI := J'.ofTry ok
    have sky' : Sky B (X.env :: X.outer) a (Zc cls d) X.env.locals s'.heap := by rw [← hs]; exact sky
    show wpAny (model X.prog X.w) X.A (noteFrame (.ref a) X.env) _ _ _
    refine Sky.land Zc.steady hfr hf sky' fun h3 fl3 up3 => ?_
    have J3 : Inv X pins σ' H' { s' with heap := h3 } := J.landed nb fl3.1 (up.trans up3) os ag
    obtain ⟨oe3, vs3, he3, hz3, hd3⟩ := fl3.there
    have nfr : a ∉ frs (X.env :: X.outer) := fun hm => by
      obtain ⟨_, o', e', hnf⟩ := fl3.2.2.1.mem hm
      rw [he3] at e'
      cases e'
      exact hnf _ hd3
    have nL : a ≠ X.env.locals := fun z => nfr (List.mem_filterMap.mpr ⟨X.env, List.mem_cons_self, by rw [hf, z]⟩)
    have nF : a ∉ X.fs := fun hm => by
      obtain ⟨e, he, q⟩ := List.mem_filterMap.mp hm
      exact nfr (List.mem_filterMap.mpr ⟨e, List.mem_cons_of_mem _ he, q⟩)
    have nB : B.get? a = none := fl3.2.1
    have nI : ∀ {b : Addr} {o : Obj}, sI.heap.get? b = some o → b ∉ frs X.stack → b ≠ a := fun {b o} hb hn z => by
      have := nb b o hb hn
      rw [z, nB] at this
      cases this
    have n0 : X.s_0.heap.get? a = none := by
      cases q : X.s_0.heap.get? a with
      | none => rfl
      | some o =>
        obtain ⟨o', q'⟩ := J.base.there a o q (by rw [hex]; simp)
        exact absurd rfl (nI q' (by rw [hs]; exact nfr))
    have npin : ∀ p ∈ X.pn ++ pins, p.1 ≠ a := fun p hp => by
      obtain ⟨q1, _, q3, q4, _⟩ := J.pin p hp
      refine nI q1 fun hm => ?_
      rcases List.mem_cons.mp (J.stkSub _ hm) with z | z
      · exact q3 z
      · exact q4 z
    have S3 := J3.suite he3 hd3 na nL nF
    refine wpAny_handleBy_cons (codeAny_handlers_test ?_) (by intro q; cases q)
    have lookT : PySem.W.Looks (model X.prog X.w) h3 (typeOf (.ref a)) cls := fun A Q E s k q => wpAny_typeOf_ref (k _ _ he3) (by rw [hz3.1]; exact q)
    have lookM := PySem.W.exm_one (M := model X.prog X.w) J3.kIn lookT hyes
    have named : ∀ {Q : Value → Shared → Prop} {E : Value → Shared → Prop}, Q c { s' with heap := h3 } → wpAny (model X.prog X.w) (X.A.mark (some (.ref a))) (eval (.Name x np) X.env) Q E { s' with heap := h3 } := fun {Q E} q => by
      obtain ⟨hg, hdbg, hm | ⟨hm, hv, hnn⟩⟩ := hc
      · exact ld_glob (X := X.suite a ((a, oe3) :: (X.pn ++ pins))) S3 hg hm q hdbg
      · exact ld_blt (X := X.suite a ((a, oe3) :: (X.pn ++ pins))) S3 hg hm hv q hnn hdbg
    refine named (lookM.here ?_)
    refine codeAny_handlers_suite_as ?_
    refine HandSPX.lands_againZ fl3 fun h4 fl4 up4 => ?_
    have J4 : Inv X pins σ' H' { s' with heap := h4 } := J.landed nb fl4.1 ((up.trans up3).trans up4) os ag
    obtain ⟨oe4, vs4, he4, hz4, hd4⟩ := fl4.there
    have S4 := J4.suite he4 hd4 na nL nF
    refine store_ok (X := X.suite a ((a, oe4) :: (X.pn ++ pins))) (v := .ref a) S4 hN hi (.inl hln) rfl (fun s5 S5 => ?_) (.inr hln)
    have run := (hsu a oe4 cls d (X.pn ++ pins) hz4 ⟨_, hd4⟩).run [] s5 _ H' _ S5 (hts a na J.len)
    refine wpAny_mono run (fun f s6 hsp => ?_) (fun _ _ z => False.elim z)
    match f, hsp with
    | .next, hsp =>
      obtain ⟨σ6, H6, S6, q6⟩ := hsp
      refine gone_ok (X := X.suite a ((a, oe4) :: (X.pn ++ pins))) S6 hN hi hln fun s7 S7 => ⟨_, _, ?_, q6⟩
      obtain ⟨p1, p2, p3, p4, _⟩ := S7.pin (a, oe4) (by simp)
      exact adopt (S7.unsuite ok) p1 hz4 hd4 p2 n0 nL npin
    | .ret u, hsp =>
      obtain ⟨_, _, _, _, _, q6⟩ := hsp
      exact q6.elim
    | .brk, hsp =>
      obtain ⟨_, _, _, q6⟩ := hsp
      exact q6.elim
    | .cont, hsp =>
      obtain ⟨_, _, _, q6⟩ := hsp
      exact q6.elim
end
end K45
/-! KX7 -/
set_option Elab.async false
set_option linter.all false
set_option maxRecDepth 100000
set_option maxHeartbeats 4000000
namespace K45
open PySem PySem.Spec PyProof.Rows L2
/-- e.f of a kept exception -/
def tKf (K : PySem.W.Frag) (f : Str) (te : TE) : TE := fun σ H Q => te σ H fun x H1 => ∃ (a C dd : Addr) (fs : List (Str × V)) (v : V), x = .ref a ∧ XfC K C ∧ PySem.W.findIn K (.ref C) f = some none ∧ H1 a = some (exk a (.ref C) (some dd)) ∧ H1 dd = some (.xd fs) ∧ fs.lookup f = some v ∧ Q v H1
theorem pe_kf {X : Cx} {e : Expr} {te : TE} {pos : Pos} {f : Str} (he : PE X e te) (hb : attributeBase e f X.env (eval e X.env) = eval e X.env := by rfl) : PE X (.Attribute e f pos) (tKf X.K f te) := by
  refine ⟨fun pins s σ H Q I h => ?_⟩
  refine attr_of hb (thn (he.run pins s σ H _ I h) ?_)
  rintro u s1 ⟨x, H1, I1, rx, a, C, dd, fs, v, rfl, T, hno, ea, ed, l, q⟩
  obtain rfl : u = Value.ref a := rx
  obtain ⟨oe, vs, ha, hz1, hz2, hd⟩ := exk_at I1.hok ea
  have hx : ObjOk X.prog X.w H1 s1.heap dd (.xd fs) := I1.hok dd _ ed
  obtain ⟨mA, hns, hr⟩ := hx
  obtain ⟨od, ho, hl⟩ := lookIn_ns hns
  obtain ⟨u, hu, ru⟩ := RelO.some_of (v := v) (o := mA f) (by rw [← l]; exact hr f)
  have J : PySem.W.InstAt s1.heap a oe C (some od) := ⟨ha, hz1, by unfold PySem.W.notCls; rw [hd] <;> rfl, by rw [hz2]; exact ho⟩
  refine HandSPX.exc_get I1.kIn J T.ga T.gg T.exC (PySem.W.findObj_own T.hdC hno rfl ?_) (handed_of ru) ⟨v, H1, I1.tok _, ru, q⟩
  rw [hl, hu]
/-- what the head tells of caught CannotGo's -/
structure CgE (K : PySem.W.Frag) (mg : Str → Option Value) (C : Addr) : Prop where
  m : mg "CannotGo" = some (.ref C)
  xf : XfC K C
  n : PySem.W.findIn K (.ref C) "number" = some none
  ex : PySem.W.exmOne K (.ref C) (.ref C) = some true
/-- what _law_cannot makes of a call that is refused -/
def TTc (C : Addr) : (XK → Hp → VK → Prop) → Hp → VK → Prop := fun tl H Q => ∀ Qn : VK, tl (fun cls d H' => ∃ (dd : Addr) (i : Int), cls = .ref C ∧ d = some dd ∧ H' dd = some (.xd [("number", .int i)]) ∧ ∀ l H'', Ex H' H'' → H'' l = some (.lst [.int i]) → Q (.ref l) H'') H Qn
abbrev N_cannot : List Str := ["_law_deed", "_law_caught", "e"]
theorem cannot_gives {X : Cx} {C g : Addr} {cdg : Value} {q : Str} (G : CgE X.K X.mg C) : LamX.GivesTo X N_cannot "_law_cannot" (defScope s_law_cannot) g cdg (defBody s_law_cannot) "_law_deed" q (TTc C) := by
  intro f c' s H Q tl act hc h
  refine ⟨_, pss_cons (ps_set (i := 1) sc_law_cannot.nd rfl (.inl rfl) pe_non) (pss_cons (ps_try_keep (X := (cxOf C8.CX0 X.prog X.w X.K X.mg X.base N_cannot "_law_cannot" (defScope s_law_cannot) g cdg X.A X.stack s H C8.E0).nox) (i := 2) (c := .ref C)
      (tb := fun W D σ H => ∃ Ech : XK, (∀ cls d σ' H', Ech cls d H' → W cls d σ' H') ∧ σ[0]? = some (some (.ref f)) ∧ H c' = some (LamX.CodeO c' q) ∧ tl Ech H fun _ H' => D.nx σ H')
      (ts := fun a cls d => tAsg (tVar 2) (L2.gName 1))
      rfl rfl rfl sc_law_cannot.nd rfl rfl ⟨rfl, by decide, .inl G.m⟩ (fun W pn xe tk _ => ?_) (fun a oe cls d pn _ _ => pss_one (ps_set (i := 1) sc_law_cannot.nd rfl (.inl rfl) (pe_var (i := 2) rfl (.inl rfl)))))
      (pss_one (ps_ret (pe_ifExp (pt_cmpR op_isN (pe_var (i := 1) rfl (.inl rfl)) pe_non (nomark _)) (pe_lst pa_nil) (pe_lst (pa_cons (pe_kf (pe_var (i := 1) rfl (.inl rfl))) pa_nil)))))), ?_⟩
  · refine ⟨fun pins s' σ H' D I h' => ?_⟩
    obtain ⟨Ech, hW, h1, h2, h3⟩ := h'
    refine PSs.run (t := tDrop fun σZ HZ Q => σZ[0]? = some (some (.ref f)) ∧ HZ c' = some (LamX.CodeO c' q) ∧ tl Ech HZ Q) ?_ pins s' σ H' D I ⟨h1, h2, h3⟩
    exact pss_one (ps_expr (act W pn xe Ech _ _ tk hW))
  · refine ⟨_, fun cls d σ' H' hE => ?_, rfl, hc, h _⟩
    obtain ⟨dd, i, rfl, rfl, hdd, hq⟩ := hE
    refine ⟨G.ex, fun a ha hl => ?_⟩
    have l3 : σ'.length = 3 := hl
    have e2 : (σ'.set 2 (some (V.ref a)))[2]? = some (some (.ref a)) := List.getElem?_set_self (by omega)
    refine ⟨.ref a, e2, ?_⟩
    have e1 : ((((σ'.set 2 (some (V.ref a))).set 1 (some (V.ref a))).set 2 none))[1]? = some (some (.ref a)) := by
      rw [List.getElem?_set_ne (by decide), List.getElem?_set_self (by simp; omega)]
    refine ⟨.ref a, e1, rfl, false, by simp, ?_⟩
    dsimp only
    rw [if_neg Bool.false_ne_true]
    have hdd' : upd H' a (exk a (.ref C) (some dd)) dd = some (.xd [("number", .int i)]) := by
      rw [upd_ne (fun z => by rw [z, ha] at hdd; cases hdd)]
      exact hdd
    refine ⟨.ref a, e1, a, C, dd, _, .int i, rfl, G.xf, G.n, upd_same, hdd', rfl, by simp [sizeLine_eq], fun p hp => ?_⟩
    refine hq p _ (fun b o hb => ?_) upd_same
    rw [upd_ne (fun z => by rw [z] at hb; rw [upd_ne (fun z2 => by rw [z2, ha] at hb; cases hb)] at hp; rw [hp] at hb; cases hb), upd_ne (fun z => by rw [z, ha] at hb; cases hb)]
    exact hb
end K45
/-! KR1 -/
set_option Elab.async false
set_option linter.all false
set_option maxRecDepth 100000
set_option maxHeartbeats 4000000
/-! repr of data, where no guard stands -/
namespace K45
open PySem PySem.Spec PyProof.Rows L2
/-- data whose text is told -/
structure Rp (d : PyData) : Prop where
  sq : ∃ l, d = .list l ∨ d = .tuple l
  can : d.canLay0 = true
  dep : d.depth ≤ 20
  show_ : d.showable = true
  sh : d.leavesShort 13 = true
  wt : d.weight ≤ 2 ^ 20
def rRepr (K : PySem.W.Frag) : List V → Hp → VK → Prop := fun xs H Q => ∃ v d, xs = [v] ∧ Dp K H v d ∧ Rp d ∧ Q (.str d.shown) H
theorem call_repr {X : Cx} (hg : X.A.guards = some []) (hu : X.A.units + 64 < cLine) : CallR X (.builtin "repr") (rRepr X.K) := fun pins s st H xs us Q I rx q => by
  obtain ⟨v, d, rfl, hd, hp, q⟩ := q
  cases rx with
  | @cons _ u _ us r rs =>
    cases rs
    obtain ⟨as, hr⟩ := Dp.reads I d v u hd r
    have ex : ∃ a, u = .ref a := by
      obtain ⟨l, rfl | rfl⟩ := hp.sq
      · cases hr with
        | list _ _ _ _ => exact ⟨_, rfl⟩
      · cases hr with
        | tuple _ _ _ _ => exact ⟨_, rfl⟩
    obtain ⟨a, rfl⟩ := ex
    have hdep := hp.dep
    exact repr_of_reads' hr hp.show_ (PyData.noDict_hsm (PyData.hasDict_of_canLay d hp.can)) hg (by omega) (fun _ _ e => e) (fun h' u tk hk => ⟨.str d.shown, H, I.kept hk, ⟨u, rfl⟩, q⟩) (PyData.shown_fits (by decide) (by decide) hp.sh hp.wt)
@[simp] def reprF : List PyData → Option PyData
  | [d] => some (.str d.shown)
  | _ => none
def reprC : List PyData → Prop
  | [d] => Rp d
  | _ => True
theorem cd_repr {K : PySem.W.Frag} : CallD K (rRepr K) reprF reprC := fun H xs ds d Q h e hc k => by
  match xs, ds, h, e with
  | [x], [y], .cons h .nil, e =>
    cases e
    have hp : Rp y := hc
    exact ⟨x, y, rfl, Dq.dp y x hp.can h, hp, k _ H (Ex.refl H) (.str _)⟩
  | [], [], .nil, e => cases e
  | x :: y :: vs, d1 :: d2 :: ds, .cons _ (.cons _ _), e => simp [reprF] at e
end K45
/-! KR2 -/
set_option Elab.async false
set_option linter.all false
set_option maxRecDepth 100000
set_option maxHeartbeats 4000000
/-! how big the shown data are -/
namespace K45
open PySem PySem.Spec PyProof.Rows L2
structure Sm (D W : Nat) (d : PyData) : Prop where
  can : d.canLay0 = true
  dep : d.depth ≤ D
  show_ : d.showable = true
  sh : d.leavesShort 13 = true
  wt : d.weight ≤ W
theorem Sm.le {D W D' W' : Nat} {d : PyData} (h : Sm D W d) (a : D ≤ D') (b : W ≤ W') : Sm D' W' d := ⟨h.can, Nat.le_trans h.dep a, h.show_, h.sh, Nat.le_trans h.wt b⟩
theorem sm_bool (b : Bool) : Sm 0 8 (.bool b) := by
  refine ⟨?_, ?_, ?_, ?_, ?_⟩ <;> simp [PyData.canLay0, PyData.depth, PyData.showable, PyData.leavesShort, PyData.weight]
theorem sm_int {i : Int} (h0 : 0 ≤ i) (h : i < 200) : Sm 0 8 (.int i) := by
  obtain ⟨n, rfl⟩ := Int.eq_ofNat_of_zero_le h0
  have hn : n < 200 := by omega
  have lg : n.log2 ≤ 7 := by
    by_cases z : n = 0
    · subst z
      decide
    · have := (Nat.log2_lt z (k := 8)).mpr (by omega)
      omega
  refine ⟨by simp [PyData.canLay0], by simp [PyData.depth], ?_, ?_, ?_⟩
  · simp only [PyData.showable, Int.natAbs_natCast, decide_eq_true_eq]
    omega
  · simp only [PyData.leavesShort, decide_eq_true_eq]
    refine PyData.shown_int_le ?_
    simp only [Int.natAbs_natCast]
    omega
  · simp only [PyData.weight]
    split
    · omega
    · simp only [Int.natAbs_natCast]
      omega
theorem sm_strL {x : Str} (h : x.cps.size ≤ 8) (k : ∀ c ∈ x.cps.toList, c < 1000) : Sm 0 8 (.str x) := by
  refine ⟨?_, by simp [PyData.depth], by simp [PyData.showable], ?_, by simpa [PyData.weight] using h⟩
  · simp only [PyData.canLay0, PyData.strOk]
    rw [Array.all_eq_true_iff_forall_mem]
    intro c hc
    have := k c (Array.mem_toList_iff.mpr hc)
    simp
    omega
  · simp only [PyData.leavesShort, List.all_eq_true, decide_eq_true_eq]
    intro c hc
    have := k c hc
    have e : (16 : Nat) ^ 8 = 4294967296 := by decide
    omega
theorem sm_all : ∀ {l : List PyData} {D W : Nat}, (∀ x ∈ l, Sm D W x) → PyData.canLayAll0 l = true ∧ PyData.depthAll l ≤ D ∧ PyData.showableAll l = true ∧ PyData.leavesShortAll 13 l = true ∧ PyData.weightAll l ≤ l.length * (W + 1)
  | [], D, W, _ => by simp [PyData.canLayAll0, PyData.depthAll, PyData.showableAll, PyData.leavesShortAll, PyData.weightAll]
  | x :: l, D, W, h => by
    obtain ⟨a, b, c, d, e⟩ := sm_all (l := l) fun y hy => h y (List.mem_cons_of_mem _ hy)
    have hx := h x (List.mem_cons_self ..)
    have h1 := hx.dep
    have h2 := hx.wt
    refine ⟨by simp [PyData.canLayAll0, hx.can, a], ?_, by simp [PyData.showableAll, hx.show_, c], by simp [PyData.leavesShortAll, hx.sh, d], ?_⟩
    · simp only [PyData.depthAll]
      omega
    · simp only [PyData.weightAll, List.length_cons, Nat.add_mul, Nat.one_mul]
      omega
theorem sm_tup {l : List PyData} {D W n : Nat} (hl : l.length ≤ n) (h : ∀ x ∈ l, Sm D W x) : Sm (D + 1) (n * (W + 1)) (.tuple l) := by
  obtain ⟨a, b, c, d, e⟩ := sm_all h
  refine ⟨by simpa [PyData.canLay0] using a, by simp only [PyData.depth]; omega, by simpa [PyData.showable] using c, by simpa [PyData.leavesShort] using d, ?_⟩
  simp only [PyData.weight]
  exact Nat.le_trans e (Nat.mul_le_mul_right _ hl)
theorem sm_lst {l : List PyData} {D W n : Nat} (hl : l.length ≤ n) (h : ∀ x ∈ l, Sm D W x) : Sm (D + 1) (n * (W + 1)) (.list l) := by
  obtain ⟨a, b, c, d, e⟩ := sm_all h
  refine ⟨by simpa [PyData.canLay0] using a, by simp only [PyData.depth]; omega, by simpa [PyData.showable] using c, by simpa [PyData.leavesShort] using d, ?_⟩
  simp only [PyData.weight]
  exact Nat.le_trans e (Nat.mul_le_mul_right _ hl)
theorem Sm.rpT {l : List PyData} {D W : Nat} (h : Sm D W (.tuple l)) (a : D ≤ 20) (b : W ≤ 2 ^ 20) : Rp (.tuple l) := ⟨⟨l, .inr rfl⟩, h.can, Nat.le_trans h.dep a, h.show_, h.sh, Nat.le_trans h.wt b⟩
theorem Sm.rpL {l : List PyData} {D W : Nat} (h : Sm D W (.list l)) (a : D ≤ 20) (b : W ≤ 2 ^ 20) : Rp (.list l) := ⟨⟨l, .inl rfl⟩, h.can, Nat.le_trans h.dep a, h.show_, h.sh, Nat.le_trans h.wt b⟩
end K45
/-! KR3 -/
set_option Elab.async false
set_option linter.all false
set_option maxRecDepth 100000
set_option maxHeartbeats 4000000
namespace K45
open PySem PySem.Spec PyProof.Rows L2
theorem sm_word {x : Str} (h : x = "in" ∨ x = "out" ∨ x = "gone" ∨ x = "level" ∨ x = "edge" ∨ x = "goes") : Sm 0 8 (.str x) := by
  rcases h with rfl | rfl | rfl | rfl | rfl | rfl <;> exact sm_strL (by decide +kernel) (by decide +kernel)
theorem sm_name {x : Str} (h : NameOk x) : Sm 0 8 (.str x) := sm_strL h.hi fun c hc => by
  have := h.az c hc
  omega
theorem all5 {D W : Nat} {a b c d e : PyData} (ha : Sm D W a) (hb : Sm D W b) (hc : Sm D W c) (hd : Sm D W d) (he : Sm D W e) : ∀ x ∈ [a, b, c, d, e], Sm D W x := by
  intro x hx
  simp only [List.mem_cons, List.not_mem_nil, or_false] at hx
  rcases hx with rfl | rfl | rfl | rfl | rfl <;> assumption
theorem all4 {D W : Nat} {a b c d : PyData} (ha : Sm D W a) (hb : Sm D W b) (hc : Sm D W c) (hd : Sm D W d) : ∀ x ∈ [a, b, c, d], Sm D W x := by
  intro x hx
  simp only [List.mem_cons, List.not_mem_nil, or_false] at hx
  rcases hx with rfl | rfl | rfl | rfl <;> assumption
theorem all3 {D W : Nat} {a b c : PyData} (ha : Sm D W a) (hb : Sm D W b) (hc : Sm D W c) : ∀ x ∈ [a, b, c], Sm D W x := by
  intro x hx
  simp only [List.mem_cons, List.not_mem_nil, or_false] at hx
  rcases hx with rfl | rfl | rfl <;> assumption
theorem all2 {D W : Nat} {a b : PyData} (ha : Sm D W a) (hb : Sm D W b) : ∀ x ∈ [a, b], Sm D W x := by
  intro x hx
  simp only [List.mem_cons, List.not_mem_nil, or_false] at hx
  rcases hx with rfl | rfl <;> assumption
theorem sm_map {α : Type} {f : α → PyData} {l : List α} {D W : Nat} (h : ∀ a ∈ l, Sm D W (f a)) : ∀ x ∈ l.map f, Sm D W x := by
  intro x hx
  obtain ⟨a, ha, rfl⟩ := List.mem_map.mp hx
  exact h a ha
theorem sm_ws (w : Ws) : Sm 1 27 w.d := by
  refine (sm_tup (n := 3) (W := 8) (D := 0) ?_ (sm_map fun a ha => ?_)).le (by decide) (by decide)
  · obtain ⟨i, o, g⟩ := w
    cases i <;> cases o <;> cases g <;> decide
  · obtain ⟨i, o, g⟩ := w
    unfold Ws.l at ha
    cases i <;> cases o <;> cases g <;> simp at ha
    all_goals first
      | exact sm_word (by simp [ha])
      | (rcases ha with rfl | rfl | rfl <;> exact sm_word (by simp))
      | (rcases ha with rfl | rfl <;> exact sm_word (by simp))
theorem sm_int' (i : Interest) (h : i.Ok) : Sm 2 140 i.d := by
  refine (sm_tup (n := 5) (W := 27) (D := 1) (by simp) (all5 ((sm_name h.name).le (by decide) (by decide)) (sm_ws _) ((sm_word ?_).le (by decide) (by decide)) ((sm_bool _).le (by decide) (by decide)) ((sm_bool _).le (by decide) (by decide)))).le (by decide) (by decide)
  cases i.edge <;> simp [modeS]
theorem sm_entry (e : Entry) (h : e.Ok) : Sm 3 423 e.d :=
  (sm_tup (n := 3) (W := 140) (D := 2) (by simp) (all3 (sm_int' _ h.i) ((sm_bool _).le (by decide) (by decide)) ((sm_ws _).le (by decide) (by decide)))).le (by decide) (by decide)
theorem sm_pipe (p : Pipe) (h : p.Ok) : Sm 1 36 p.d := by
  have a := h.r1
  have b := h.r9
  have c := h.h0
  have d := h.hr
  exact (sm_tup (n := 4) (W := 8) (D := 0) (by simp) (all4 (sm_name h.name) (sm_int (by omega) (by omega)) (sm_int (by omega) (by omega)) (sm_bool _))).le (by decide) (by decide)
theorem sm_set (s : SetD) (h : s.Ok) : Sm 5 12725 s.d := by
  have h1 : Sm 4 2544 (.tuple (s.es.map Entry.d)) := (sm_tup (n := 6) (W := 423) (D := 3) (by simpa using h.few) (sm_map fun e he => sm_entry e (h.es e he))).le (by decide) (by decide)
  have h2 : Sm 1 54 (.tuple (s.row.map .str)) := by
    refine (sm_tup (n := 6) (W := 8) (D := 0) (by simpa using h.rfew) (sm_map fun x hx => ?_)).le (by decide) (by decide)
    obtain ⟨e, he, rfl⟩ := List.mem_map.mp (h.sub x hx)
    exact sm_name (h.es e he).i.name
  have h3 : Sm 1 0 (.tuple []) := (sm_tup (n := 0) (W := 0) (D := 0) (by simp) (fun x hx => by cases hx)).le (by decide) (by decide)
  exact (sm_tup (n := 5) (W := 2544) (D := 4) (by simp) (all5 ((sm_name h.name).le (by decide) (by decide)) h1 (h2.le (by decide) (by decide)) (h3.le (by decide) (by decide)) (h3.le (by decide) (by decide)))).le (by decide) (by decide)
theorem sm_hall (h : Hall) (o : h.Ok) : Sm 7 102000 h.d := by
  have h1 : Sm 2 148 (.tuple (h.pipes.map Pipe.d)) := (sm_tup (n := 4) (W := 36) (D := 1) (by simpa using o.p4) (sm_map fun p hp => sm_pipe p (o.po p hp))).le (by decide) (by decide)
  have h2 : Sm 6 50904 (.tuple (h.sets.map SetD.d)) := (sm_tup (n := 4) (W := 12725) (D := 5) (by simpa using o.s4) (sm_map fun s hs => sm_set s (o.so s hs))).le (by decide) (by decide)
  exact (sm_tup (n := 2) (W := 50904) (D := 6) (by simp) (all2 (h1.le (by decide) (by decide)) h2)).le (by decide) (by decide)
theorem sm_ctr (c : Ctr) (h : c.place ≤ 12) (g : TelOk c.got) : Sm 4 1100 c.d := by
  have h1 : Sm 3 348 (telD c.got) := by
    refine (sm_tup (n := 6) (W := 57) (D := 2) (by simpa using g.few) (sm_map fun p hp => ?_)).le (by decide) (by decide)
    exact (sm_tup (n := 2) (W := 27) (D := 1) (by simp) (all2 ((sm_name (g.ok p hp).1).le (by decide) (by decide)) (sm_ws _))).le (by decide) (by decide)
  exact (sm_tup (n := 3) (W := 348) (D := 3) (by simp) (all3 ((sm_int (by omega) (by omega)).le (by decide) (by decide)) ((sm_bool _).le (by decide) (by decide)) h1)).le (by decide) (by decide)
end K45
/-! KR4 -/
set_option Elab.async false
set_option linter.all false
set_option maxRecDepth 100000
set_option maxHeartbeats 4000000
namespace K45
open PySem PySem.Spec PyProof.Rows L2
theorem St3.Ok.ctr {s : St3} (ok : s.Ok) {c : Ctr} (hc : c ∈ s.cs) : c.place ≤ 12 ∧ TelOk c.got := by
  obtain ⟨i, hi⟩ := List.mem_iff_getElem?.mp hc
  have l1 := (List.getElem?_eq_some_iff.mp hi).1
  have l2 : i < s.ts.length := by rw [← ok.len]; exact l1
  have ht : s.ts[i]? = some s.ts[i] := List.getElem?_eq_getElem l2
  have h1 := ok.cs i c _ hi ht
  have h2 := (ok.ts.ok _ (List.mem_of_getElem? ht)).hi
  have h3 := h1.place
  exact ⟨by omega, h1.got⟩
theorem rp_step {s : St3} (ok : s.Ok) {i : Nat} {c : Ctr} (hi : i < s.cs.length) (hc : c.place ≤ 12) (hg : TelOk c.got) : Rp (stepD s i c) := by
  have h4 := ok.ts.hi
  have hl := ok.len
  have h1 : Sm 5 4404 (.tuple (((s.cs.take i) ++ [c] ++ s.cs.drop (i + 1)).map Ctr.d)) := by
    refine (sm_tup (n := 4) (W := 1100) (D := 4) ?_ (sm_map fun a ha => ?_)).le (by decide) (by decide)
    · simp
      omega
    · have : a ∈ s.cs ∨ a = c := by
        simp only [List.mem_append, List.mem_singleton] at ha
        rcases ha with (ha | ha) | ha
        · exact .inl (List.mem_of_mem_take ha)
        · exact .inr ha
        · exact .inl (List.mem_of_mem_drop ha)
      rcases this with h | rfl
      · exact sm_ctr a (ok.ctr h).1 (ok.ctr h).2
      · exact sm_ctr a hc hg
  have h3 : Sm 1 0 (.tuple []) := (sm_tup (n := 0) (W := 0) (D := 0) (by simp) (fun x hx => by cases hx)).le (by decide) (by decide)
  have h5 := sm_tup (n := 2) (W := 102000) (D := 7) (by simp) (all2 (sm_hall s.h ok.h) (h1.le (by decide) (by decide)))
  have h6 := sm_tup (n := 2) (W := 8) (D := 1) (by simp) (all2 ((sm_word (x := "goes") (by simp)).le (by decide) (by decide)) (h3.le (by decide) (by decide)))
  exact (sm_tup (n := 2) (W := 204002) (D := 8) (by simp) (all2 (h5.le (by decide) (by decide)) (h6.le (by decide) (by decide)))).rpT (by decide) (by decide)
theorem rp_left {l : List Nat} {b : Bool} (hl : l.length ≤ 4) (h : ∀ i ∈ l, i < 4) : Rp (.list [.list (l.map fun i => .int (i : Nat)), .bool b]) := by
  have h1 := sm_lst (n := 4) (W := 8) (D := 0) (l := l.map fun i => PyData.int (i : Nat)) (by simpa using hl) (sm_map fun i hi => sm_int (by omega) (by have := h i hi; omega))
  exact (sm_lst (n := 2) (W := 36) (D := 1) (by simp) (all2 h1 ((sm_bool b).le (by decide) (by decide)))).rpL (by decide) (by decide)
end K45
/-! KM1 -/
set_option Elab.async false
set_option linter.all false
set_option maxRecDepth 100000
set_option maxHeartbeats 4000000
/-! the mode of what draws -/
namespace K45
open PySem PySem.Spec PyProof.Rows L2
/-- the script: a list that nobody writes -/
def ScL (K : PySem.W.Frag) (H : Hp) (a : Addr) (xs : List V) : Prop := (∃ o, H a = some (.frz o (.lst xs))) ∨ (SqL K (fun _ => none) a xs)
theorem ScL.sq {K : PySem.W.Frag} {H : Hp} {a : Addr} {xs : List V} (h : ScL K H a xs) : SqL K H a xs := by
  rcases h with ⟨o, h⟩ | h
  · exact .inl (.inr ⟨o, h⟩)
  · rcases h with h | h
    · rcases h with h | ⟨o, h⟩ <;> cases h
    · exact .inr h
theorem ScL.keep {K : PySem.W.Frag} {H H' : Hp} {a : Addr} {xs : List V} (h : ScL K H a xs) (k : ∀ o, H a = some (.frz o (.lst xs)) → H' a = some (.frz o (.lst xs))) : ScL K H' a xs := by
  rcases h with ⟨o, h⟩ | h
  · exact .inl ⟨o, k o h⟩
  · exact .inr h
/-- what the drawing's dict holds -/
def mKv (sc : Addr) (at_ left : Int) : List (Key × V) := [(Sum.inr "script", .ref sc), (Sum.inr "at", .int at_), (Sum.inr "left", .int left)]
structure DrawS (K : PySem.W.Frag) (m : Addr) (n : Nat) (H : Hp) : Prop where
  ex : ∃ (sc : Addr) (xs : List Int) (k left : Nat), H m = some (.dK (mKv sc k left)) ∧ ScL K H sc (xs.map .int) ∧ xs.length ≤ 63 ∧ k ≤ n
theorem DrawS.ex' {K : PySem.W.Frag} {m : Addr} {n : Nat} {H H' : Hp} (h : DrawS K m n H) (e : Ex H H') : DrawS K m n H' := by
  obtain ⟨sc, xs, k, left, h1, h2, h3⟩ := h.ex
  exact ⟨sc, xs, k, left, e _ _ h1, h2.keep fun o q => e _ _ q, h3⟩
theorem DrawS.up {K : PySem.W.Frag} {m : Addr} {n : Nat} {H : Hp} {l : Addr} {xs ys : List V} (h : DrawS K m n H) (hl : H l = some (.lst xs)) : DrawS K m n (upd H l (.lst ys)) := by
  obtain ⟨sc, zs, k, left, h1, h2, h3⟩ := h.ex
  refine ⟨sc, zs, k, left, ?_, h2.keep fun o q => ?_, h3⟩
  · rw [upd_ne (fun z => by rw [z, hl] at h1; cases h1)]
    exact h1
  · rw [upd_ne (fun z => by rw [z, hl] at q; cases q)]
    exact q
theorem DrawS.le {K : PySem.W.Frag} {m : Addr} {n n' : Nat} {H : Hp} (h : DrawS K m n H) (a : n ≤ n') : DrawS K m n' H := by
  obtain ⟨sc, zs, k, left, h1, h2, h3, h4⟩ := h.ex
  exact ⟨sc, zs, k, left, h1, h2, h3, Nat.le_trans h4 a⟩
theorem rd_is {H : Hp} {b : Addr} {u v : HO} (h : H b = some u) (r : Rd H b v) : u = v ∨ ∃ o, u = .frz o v := by
  rcases r with r | ⟨o, r⟩
  · rw [h] at r
    exact .inl (Option.some.inj r)
  · rw [h] at r
    exact .inr ⟨o, Option.some.inj r⟩
theorem DrawS.sd {K : PySem.W.Frag} {m : Addr} {n : Nat} {H : Hp} (h : DrawS K m n H) : (∀ xs, ¬ Rd H m (.lst xs)) ∧ (∀ xs, ¬ Rd H m (.tup xs)) ∧ ∀ bs : List (Str × Bool), H m ≠ some (.dK (bs.map fun p => (Sum.inr p.1, V.bl p.2))) := by
  obtain ⟨sc, zs, k, left, h1, _⟩ := h.ex
  refine ⟨fun xs r => ?_, fun xs r => ?_, fun bs e => ?_⟩
  · rcases rd_is h1 r with z | ⟨o, z⟩ <;> cases z
  · rcases rd_is h1 r with z | ⟨o, z⟩ <;> cases z
  · rw [h1] at e
    have e2 := HO.dK.inj (Option.some.inj e)
    cases bs with
    | nil => cases e2
    | cons p bs =>
      have e3 : ((Sum.inr "script" : Key), V.ref sc) = (Sum.inr p.1, V.bl p.2) := (List.cons.inj e2).1
      have e4 : V.ref sc = V.bl p.2 := congrArg Prod.snd e3
      cases e4
/-- the mode: slot 0 holds the drawing's dict -/
def drawM (K : PySem.W.Frag) (m : Addr) : Md where
  out := [m]
  keep := [(0, .ref m)]
  S := DrawS K m
  sx := fun _ _ _ e h => h.ex' e
  sd := fun _ _ b h hb => by
    cases List.mem_singleton.mp hb
    exact h.sd
  su := fun _ _ _ _ _ _ _ _ _ h hl => h.up hl
end K45
/-! KM2 -/
set_option Elab.async false
set_option linter.all false
set_option maxRecDepth 100000
set_option maxHeartbeats 4000000
/-! what the drawing's dict gives and takes -/
namespace K45
open PySem PySem.Spec PyProof.Rows L2
theorem mkv_at (sc : Addr) (k l : Int) : valV (mKv sc k l) (Sum.inr "at") = some (.int k) := by
  rfl
theorem mkv_left (sc : Addr) (k l : Int) : valV (mKv sc k l) (Sum.inr "left") = some (.int l) := by
  rfl
theorem mkv_sc (sc : Addr) (k l : Int) : valV (mKv sc k l) (Sum.inr "script") = some (.ref sc) := by
  rfl
theorem mkv_pat (sc : Addr) (k l j : Int) : putK (mKv sc k l) (Sum.inr "at") (.int j) = mKv sc j l := by
  rfl
theorem mkv_pleft (sc : Addr) (k l j : Int) : putK (mKv sc k l) (Sum.inr "left") (.int j) = mKv sc k j := by
  rfl
section
variable {X : Cx} {m : Addr} {x : Str} {p p1 p2 p3 pos : Pos} {j j1 : Nat}
abbrev MVar (X : Cx) (x : Str) : Prop := X.N[0]? = some x ∧ Vis X.env.scope x ∧ (x == ("__debug__" : Str)) = false ∧ (x == ("__classdict__" : Str)) = false
theorem pe_m (V : MVar X x) : PE X (.Name x p) (tVar 0) := pe_var V.1 V.2.1 V.2.2.1 V.2.2.2
@[simp] def wLeft : WE := fun _ n P => ∀ l : Nat, P (.int l) n
@[simp] def wAt : WE := fun _ n P => ∀ k : Nat, k ≤ n → P (.int k) n
theorem de_left (hu : X.A.units + 1 < cLine) (V : MVar X x) (hs : NoSl (.Constant (.str "left") j p1) := by intro _ _; rfl) : DE X (drawM X.K m) (.Subscript (.Name x p) (.Constant (.str "left") j p1) pos) wLeft :=
  pe_by (pe_dget hu (pe_m V) pe_str hs) fun s H Q ⟨r, n, P, R, w, k⟩ => by
    obtain ⟨sc, xs, a, l, h1, h2, h3, h4⟩ := R.st.ex
    exact ⟨.ref m, R.kp _ (List.mem_singleton.mpr rfl), m, .int l, rfl, (mkv_left sc a l) ▸ DGet.k (k := Sum.inr "left") h1, k _ H _ n (Xt.refl _ H) R.st (.int _) (w l)⟩
theorem de_at (hu : X.A.units + 1 < cLine) (V : MVar X x) (hs : NoSl (.Constant (.str "at") j p1) := by intro _ _; rfl) : DE X (drawM X.K m) (.Subscript (.Name x p) (.Constant (.str "at") j p1) pos) wAt :=
  pe_by (pe_dget hu (pe_m V) pe_str hs) fun s H Q ⟨r, n, P, R, w, k⟩ => by
    obtain ⟨sc, xs, a, l, h1, h2, h3, h4⟩ := R.st.ex
    exact ⟨.ref m, R.kp _ (List.mem_singleton.mpr rfl), m, .int a, rfl, (mkv_at sc a l) ▸ DGet.k (k := Sum.inr "at") h1, k _ H _ n (Xt.refl _ H) R.st (.int _) (w a h4)⟩
end
end K45
/-! KM3 -/
set_option Elab.async false
set_option linter.all false
set_option maxRecDepth 100000
set_option maxHeartbeats 4000000
namespace K45
open PySem PySem.Spec PyProof.Rows L2
theorem dg_script {H : Hp} {m sc : Addr} {k l : Int} (h1 : H m = some (.dK (mKv sc k l))) : DGet H m (.str "script") (some (.ref sc)) := (mkv_sc sc k l) ▸ DGet.k (k := Sum.inr "script") h1
theorem at_lt {α : Type} {xs : List α} {i : Int} (h0 : 0 ≤ i) (h : i < xs.length) : ∃ v, atI xs i = some v ∧ v ∈ xs := by
  obtain ⟨n, rfl⟩ := Int.eq_ofNat_of_zero_le h0
  have hn : n < xs.length := by omega
  exact ⟨xs[n], at_n (List.getElem?_eq_getElem hn), List.getElem_mem hn⟩
theorem ints_dp {K : PySem.W.Frag} {H : Hp} : ∀ xs : List Int, DpAll K H (xs.map V.int) (xs.map PyData.int)
  | [] => .nil
  | x :: xs => .cons (.int x) (ints_dp xs)
theorem ints_lay' : ∀ l : List Int, PyData.canLayAll0 (l.map PyData.int) = true ∧ PyData.depthAll (l.map PyData.int) = 0
  | [] => ⟨rfl, rfl⟩
  | x :: l => by
    obtain ⟨a, b⟩ := ints_lay' l
    exact ⟨by simp [PyData.canLayAll0, PyData.canLay0, a], by simp [PyData.depthAll, PyData.depth, b]⟩
theorem ints_shaped' (l : List Int) : SeqAt.shaped (.list (l.map PyData.int)) = true := by
  obtain ⟨a, b⟩ := ints_lay' l
  unfold SeqAt.shaped
  simp [PyData.canLay0, PyData.depth, a, b]
section
variable {X : Cx} {m : Addr} {x : Str} {p p1 p2 p3 p4 p5 p6 p7 p8 p9 pos : Pos} {j j1 j2 j3 : Nat} {We : WE} {e : Expr}
abbrev mScript (x : Str) (p p1 pos : Pos) (j : Nat) : Expr := .Subscript (.Name x p) (.Constant (.str "script") j p1) pos
theorem pe_script (hu : X.A.units + 1 < cLine) (V : MVar X x) (hs : NoSl (.Constant (.str "script") j p1) := by intro _ _; rfl) : PE X (mScript x p p1 pos j) (tDGet (tVar 0) (tC (.str "script"))) := pe_dget hu (pe_m V) pe_str hs
theorem pe_mlen (hu : X.A.units + 1 < cLine) (V : MVar X x) (hm : X.mg "len" = none) (hg : Gl X "len" := by rfl) (he : starEach [mScript x p p1 p2 j] X.env = (false, eval (mScript x p p1 p2 j) X.env) :: starEach [] X.env := by rfl) :
    PE X (.Call (.Name "len" p3) [mScript x p p1 p2 j] [] pos) (tCB (fun xs H Q => ∃ x n, xs = [x] ∧ LenV X.K x H n ∧ Q (.int n) H) (tCons (tDGet (tVar 0) (tC (.str "script"))) tNil)) :=
  pe_callB call_len hg hm boot_len (pa_cons (pe_script hu V) pa_nil he) (by decide) (by decide) he rfl
theorem de_mlen (hu : X.A.units + 1 < cLine) (V : MVar X x) (hm : X.mg "len" = none) (hg : Gl X "len" := by rfl) (he : starEach [mScript x p p1 p2 j] X.env = (false, eval (mScript x p p1 p2 j) X.env) :: starEach [] X.env := by rfl) :
    DE X (drawM X.K m) (.Call (.Name "len" p3) [mScript x p p1 p2 j] [] pos) (fun _ n P => ∀ c : Nat, P (.int c) n) :=
  pe_by (pe_mlen hu V hm hg he) fun s H Q ⟨r, n, P, R, w, k⟩ => by
    obtain ⟨sc, xs, a, l, h1, h2, h3, h4⟩ := R.st.ex
    exact ⟨.ref m, R.kp _ (List.mem_singleton.mpr rfl), m, .ref sc, rfl, dg_script h1, .ref sc, xs.length, rfl, .inl ⟨_, h2.sq, by simp⟩, k _ H _ n (Xt.refl _ H) R.st (.int _) (w xs.length)⟩
/-- m['script'][k % len(m['script'])] if m['script'] != [] else 0 -/
theorem de_cell {q1 q2 q3 q4 q5 q6 q7 q8 q9 q10 q11 q12 q13 q14 q15 q16 : Pos} (i : Nat) {y : Str} {py : Pos} (hu : X.A.units + 64 < cLine) (VV : MVar X x) (hm : X.mg "len" = none) (hN : X.N[i]? = some y := by rfl) (hv : Vis X.env.scope y := by first | exact Or.inl rfl | exact Or.inr (Or.inl rfl))
    (hd : (y == ("__debug__" : Str)) = false := by decide) (hc : (y == ("__classdict__" : Str)) = false := by decide) (hg : Gl X "len" := by rfl)
    (he : starEach [mScript x q10 q11 q12 j2] X.env = (false, eval (mScript x q10 q11 q12 j2) X.env) :: starEach [] X.env := by rfl) (hs : PlainIx (.BinOp (.Name y py) .Mod (.Call (.Name "len" q9) [mScript x q10 q11 q12 j2] [] q13) q14) := by intro _ _; rfl) :
    DE X (drawM X.K m) (.IfExp (.Compare (mScript x q1 q2 q3 j) [.NotEq] [.List [] q4] q5) (.Subscript (mScript x q6 q7 q8 j1) (.BinOp (.Name y py) .Mod (.Call (.Name "len" q9) [mScript x q10 q11 q12 j2] [] q13) q14) q15) (.Constant (.int 0) j3 q16) pos)
      (fun r n P => (∃ k : Nat, r[i]? = some (some (.int k))) ∧ ∀ c : Int, P (.int c) n) := by
  have hu1 : X.A.units + 1 < cLine := by omega
  refine pe_by (pe_ifExp (pt_cmpR (op_neA hu) (pe_script hu1 VV) (pe_lst pa_nil) (nomark _)) (pe_ix ix_seq (pe_script hu1 VV) (pe_op op_modN (pe_var (i := i) hN hv hd hc) (pe_mlen hu1 VV hm hg he)) hs) pe_int) fun s H Q ⟨r, n, P, R, ⟨⟨k, hk⟩, w⟩, kk⟩ => ?_
  obtain ⟨sc, xs, a, l, h1, h2, h3, h4⟩ := R.st.ex
  have hm0 := R.kp _ (List.mem_singleton.mpr rfl)
  refine ⟨.ref m, hm0, m, .ref sc, rfl, dg_script h1, by simp [sizeLine_eq], fun p0 hp => ?_⟩
  have e0 : Ex H (upd H p0 (.lst [])) := Ex.new hp
  have R1 := R.ex e0
  have h1' := e0 _ _ h1
  have h2' : ScL X.K (upd H p0 (.lst [])) sc (xs.map .int) := h2.keep fun o q => e0 _ _ q
  refine .inr ⟨.list (xs.map .int), .list [], .lst h2'.sq (ints_dp xs), .lst (SqL.of upd_same) .nil, ints_shaped' xs, by decide +kernel, !PyData.eqv (.list (xs.map .int)) (.list []), rfl, ?_⟩
  have fin : ∀ c : Int, Q (.int c) (upd H p0 (.lst [])) := fun c => kk _ _ _ n (.of e0) R1.st (.int c) (w c)
  cases xs with
  | nil => exact fin 0
  | cons z zs =>
    have e : (!PyData.eqv (.list ((z :: zs).map PyData.int)) (.list [])) = true := by
      rw [eqv_ll, List.map_cons, eqvA_cn]
      rfl
    rw [e]
    dsimp only
    rw [if_pos rfl]
    obtain ⟨v, hv1, hv2⟩ := R1.dat i _ hk
    cases hv2
    refine ⟨.ref m, hm0, m, .ref sc, rfl, dg_script h1', ?_⟩
    refine ⟨.int k, hv1, .ref m, hm0, m, .ref sc, rfl, dg_script h1', .ref sc, (z :: zs).length, rfl, .inl ⟨_, h2'.sq, by simp⟩, ?_⟩
    refine ⟨(k : Nat), ((z :: zs).length : Nat), rfl, rfl, by simp only [List.length_cons]; omega, ?_⟩
    have hp0 : (0 : Int) < ((z :: zs).length : Nat) := by simp only [List.length_cons]; omega
    obtain ⟨u, hu1, hu2⟩ := at_lt (xs := (z :: zs).map L2.V.int) (Int.fmod_nonneg_of_pos (k : Nat) hp0) (by rw [List.length_map]; exact Int.fmod_lt_of_pos _ hp0)
    obtain ⟨c, _, rfl⟩ := List.mem_map.mp hu2
    exact .inl ⟨sc, _, _, .int c, rfl, rfl, h2'.sq, hu1, fin c⟩
end
end K45
/-! KM4 -/
set_option Elab.async false
set_option linter.all false
set_option maxRecDepth 100000
set_option maxHeartbeats 4000000
namespace K45
open PySem PySem.Spec PyProof.Rows L2
theorem DrawS.put {K : PySem.W.Frag} {m sc : Addr} {H : Hp} {xs : List Int} {k l k' l' n : Nat} (h1 : H m = some (.dK (mKv sc k l))) (h2 : ScL K H sc (xs.map .int)) (h3 : xs.length ≤ 63) (h4 : k' ≤ n) : DrawS K m n (upd H m (.dK (mKv sc k' l'))) := by
  refine ⟨sc, xs, k', l', upd_same, h2.keep fun o q => ?_, h3, h4⟩
  rw [upd_ne (fun z => by rw [z, h1] at q; cases q)]
  exact q
theorem xt_m' {K : PySem.W.Frag} {m : Addr} {H : Hp} {o : HO} : Xt (drawM K m) H (upd H m o) := fun b u hb _ e => by
  rw [upd_ne (fun z => hb (List.mem_singleton.mpr z))]
  exact e
section
variable {X : Cx} {m : Addr} {x : Str} {p p1 p2 pos : Pos} {j : Nat} {We : WE} {e : Expr}
@[simp] def wPutAt (We : WE) : WS := fun O r n => We r n fun d n1 => ∃ i n2 : Nat, d = .int i ∧ i ≤ n2 ∧ n1 ≤ n2 ∧ O.nx r n2
@[simp] def wPutLeft (We : WE) : WS := fun O r n => We r n fun d n1 => ∃ i : Nat, d = .int i ∧ O.nx r n1
theorem ds_putAt (hu : X.A.units + 1 < cLine) (V : MVar X x) (he : DE X (drawM X.K m) e We) (hw : swapsWith e (some (.Subscript (.Name x p) (.Constant (.str "at") j p1) p2)) pos.line X.env = pure false := by rfl) :
    DS X (drawM X.K m) (.Assign [.Subscript (.Name x p) (.Constant (.str "at") j p1) p2] e pos) (wPutAt We) :=
  ps_by (ps_dput hu (pe_m V) pe_str he hw) fun D s H ⟨r, n, O, R, w, M⟩ => by
    refine ⟨r, n, _, R, w, fun v H1 d n1 x1 s1 hd ⟨i, n2, ed, hi, hn, q⟩ => ?_⟩
    subst ed
    cases hd
    have R1 := R.go x1 s1
    obtain ⟨sc, xs, a, l, h1, h2, h3, h4⟩ := s1.ex
    have hk : DPut H1 m (.str "at") (.int (i : Nat)) (upd H1 m (.dK (mKv sc i l))) := (mkv_pat sc a l i) ▸ DPut.k (k := Sum.inr "at") h1 (by show 3 < sizeLine; rw [sizeLine_eq]; decide)
    have s2 : DrawS X.K m n2 (upd H1 m (.dK (mKv sc i l))) := DrawS.put h1 h2 h3 hi
    refine ⟨.ref m, R1.kp _ (List.mem_singleton.mpr rfl), m, _, rfl, hk, ?_⟩
    exact M.nx s _ r n2 (x1.trans xt_m') (R1.go xt_m' s2) q
theorem ds_putLeft (hu : X.A.units + 1 < cLine) (V : MVar X x) (he : DE X (drawM X.K m) e We) (hw : swapsWith e (some (.Subscript (.Name x p) (.Constant (.str "left") j p1) p2)) pos.line X.env = pure false := by rfl) :
    DS X (drawM X.K m) (.Assign [.Subscript (.Name x p) (.Constant (.str "left") j p1) p2] e pos) (wPutLeft We) :=
  ps_by (ps_dput hu (pe_m V) pe_str he hw) fun D s H ⟨r, n, O, R, w, M⟩ => by
    refine ⟨r, n, _, R, w, fun v H1 d n1 x1 s1 hd ⟨i, ed, q⟩ => ?_⟩
    subst ed
    cases hd
    have R1 := R.go x1 s1
    obtain ⟨sc, xs, a, l, h1, h2, h3, h4⟩ := s1.ex
    have hk : DPut H1 m (.str "left") (.int (i : Nat)) (upd H1 m (.dK (mKv sc a i))) := (mkv_pleft sc a l i) ▸ DPut.k (k := Sum.inr "left") h1 (by show 3 < sizeLine; rw [sizeLine_eq]; decide)
    have s2 : DrawS X.K m n1 (upd H1 m (.dK (mKv sc a i))) := DrawS.put h1 h2 h3 h4
    refine ⟨.ref m, R1.kp _ (List.mem_singleton.mpr rfl), m, _, rfl, hk, ?_⟩
    exact M.nx s _ r n1 (x1.trans xt_m') (R1.go xt_m' s2) q
end
end K45
/-! KN1 -/
set_option Elab.async false
set_option linter.all false
set_option maxRecDepth 100000
set_option maxHeartbeats 2000000
namespace K45
open PySem PySem.Spec PyProof.Rows L2
theorem fm_nat (a : Int) {b : Nat} (hb : 1 ≤ b) : ∃ v : Nat, a.fmod (b : Int) = (v : Int) ∧ v < b := by
  have h0 : (0 : Int) < (b : Int) := by omega
  have h1 := Int.fmod_nonneg_of_pos a h0
  have h2 := Int.fmod_lt_of_pos a h0
  exact ⟨(a.fmod b).toNat, by omega, by omega⟩
theorem fd_nat {a : Int} (ha : 0 ≤ a) {b : Nat} : ∃ v : Nat, a.fdiv (b : Int) = (v : Int) := by
  have h := Int.fdiv_nonneg ha (show (0 : Int) ≤ (b : Int) by omega)
  exact ⟨(a.fdiv b).toNat, by omega⟩
theorem cmul_l {i j : Int} (h0 : 0 ≤ i) (h : i < 2 ^ 63) : CMul i j := .inl ⟨by omega, by omega⟩
theorem cmul_r {i j : Int} (h0 : 0 ≤ j) (h : j < 2 ^ 63) : CMul i j := .inr ⟨by omega, by omega⟩
theorem fm_lt (a : Int) {b : Int} (hb : 0 < b) : 0 ≤ a.fmod b ∧ a.fmod b < b := ⟨Int.fmod_nonneg_of_pos a hb, Int.fmod_lt_of_pos a hb⟩
theorem and_if {b : Bool} {B R : Prop} (h0 : R) (h1 : b = true → R → B) : if b = true then B else R := by
  cases b with
  | true => exact h1 rfl h0
  | false => exact h0
def gNext (ds : List PyData) (n : Nat) (P : PyData → Nat → Prop) : Prop := ∃ many : Nat, ds = [.int many] ∧ 1 ≤ many ∧ many ≤ 1000000 ∧ n < 2 ^ 60 ∧ ∀ v n' : Nat, v < many → n ≤ n' → n' ≤ n + 1 → P (.int v) n'
section
variable {P : Program} {w : World} {K : PySem.W.Frag} {mg : Str → Option Value} {base : Heap}
theorem ok_law_next {m : Addr} (T : Txt K mg) : Cal P w K mg base 1 "_law_next" ["_law_m", "_law_many"] (spM K (drawM K m) (.ref m) gNext) := by
  obtain ⟨f, fd, F, hm⟩ := T.f_law_next
  refine okM (m := drawM K m) (a := .ref m) F sc_law_next hm (F.bindsN fun _ _ _ _ _ _ us hl => match us, hl with | [_, _], _ => rfl) rfl ?_ (by decide) (fun cdv A outer s H E hr => ?_)
  · rintro ds n Q ⟨many, rfl, _⟩
    rfl
  have hu := hr.units
  have hu1 := Nat.lt_of_le_of_lt (Nat.add_le_add_left (by decide : 1 ≤ 64) _) hu
  refine ⟨_, (dss_c (ds_if (dt_cmp op_gt od_gt (de_left hu1 ⟨rfl, Or.inl rfl, by decide, by decide⟩) de_i (nomark _)) (dss_c (ds_set 2 sc_law_next.nd (by simp [drawM]) (de_bin op_modN od_mod (de_left hu1 ⟨rfl, Or.inl rfl, by decide, by decide⟩) (de_v 1)))
      (dss_c (ds_putLeft hu1 ⟨rfl, Or.inl rfl, by decide, by decide⟩ (de_bin op_fdivN od_div (de_left hu1 ⟨rfl, Or.inl rfl, by decide, by decide⟩) (de_v 1)))
      (dss_1 (ds_ret (de_v 2))))) dss_n)
      (dss_c (ds_set 3 sc_law_next.nd (by simp [drawM]) (de_at hu1 ⟨rfl, Or.inl rfl, by decide, by decide⟩))
      (dss_c (ds_putAt hu1 ⟨rfl, Or.inl rfl, by decide, by decide⟩ (de_bin op_addA od_add (de_v 3) de_i))
      (dss_c (ds_set 4 sc_law_next.nd (by simp [drawM]) (de_cell 3 hu ⟨rfl, Or.inl rfl, by decide, by decide⟩ T.n_len))
      (dss_c (ds_if (L2.PW.pt (dw_and (dt_cmp op_ge od_ge (de_v 4) (de_bin op_pow od_pow de_i de_i) (nomark _)) (dw_and1 (dt_cmp op_lt od_lt (de_v 3) (de_mlen hu1 ⟨rfl, Or.inl rfl, by decide, by decide⟩ T.n_len) (nomark _))))) (dss_c (ds_putLeft hu1 ⟨rfl, Or.inl rfl, by decide, by decide⟩ (de_bin op_fdivN od_div (de_v 4) (de_v 1)))
      (dss_1 (ds_ret (de_bin op_modN od_mod (de_v 4) (de_v 1))))) dss_n)
      (dss_c (ds_set 5 sc_law_next.nd (by simp [drawM]) (de_bin op_addA od_add (de_bin op_mul od_mul (de_bin op_modN od_mod (de_v 4) de_i) de_i) (de_bin op_modN od_mod (de_bin op_fdivN od_div (de_v 4) de_i) de_i)))
      (dss_c (ds_set 5 sc_law_next.nd (by simp [drawM]) (de_bin op_modN od_mod (de_bin op_addA od_add (de_bin op_addA od_add (de_bin op_addA od_add (de_v 5) (de_bin op_mul od_mul (de_bin op_mul od_mul de_i (de_v 3)) (de_v 3))) (de_bin op_mul od_mul de_i (de_v 3))) de_i) de_i))
      (dss_1 (ds_ret (de_bin op_modN od_mod (de_bin op_fdivN od_div (de_bin op_modN od_mod (de_bin op_mul od_mul (de_bin op_modN od_mod (de_bin op_mul od_mul (de_v 5) (de_v 5)) de_i) de_i) de_i) de_i) (de_v 1))))))))))), ?_⟩
  rintro ds n Q ⟨many, rfl, h1, h2, hn, hq⟩
  have hm0 : ((many : Nat) : Int) ≠ 0 := by omega
  have hdv : CDivN 0 ((many : Nat) : Int) := ⟨hm0, by simp only [Int.natAbs_natCast]; omega⟩
  refine fun l => ⟨_, rfl, trivial, decide ((0 : Int) < (l : Nat)), rfl, ?_⟩
  refine ite_b (fun hl => ?_) (fun hl => ?_)
  · refine fun l2 => ⟨_, rfl, _, rfl, hm0, ?_⟩
    obtain ⟨v, ev, hv⟩ := fm_nat ((l2 : Nat) : Int) h1
    refine fun l3 => ⟨_, rfl, _, rfl, hdv, ?_⟩
    obtain ⟨u, eu⟩ := fd_nat (a := ((l3 : Nat) : Int)) (by omega) (b := many)
    refine ⟨u, congrArg PyData.int eu, _, rfl, ?_⟩
    show Q (.int (((l2 : Nat) : Int).fmod (many : Nat))) n
    rw [ev]
    exact hq v n hv (Nat.le_refl _) (Nat.le_succ _)
  · refine fun k hk => ?_
    refine ⟨_, rfl, _, rfl, trivial, k + 1, n + 1, rfl, by omega, by omega, ?_⟩
    refine ⟨⟨k, rfl⟩, fun c => ?_⟩
    have hk60 : ((k : Nat) : Int) < 2 ^ 63 := by omega
    have hk0 : (0 : Int) ≤ ((k : Nat) : Int) := by omega
    refine ⟨_, rfl, _, rfl, ⟨by decide, by decide, by decide⟩, _, rfl, trivial, decide ((10 : Int) ^ (18 : Int).toNat ≤ c), rfl, ?_⟩
    refine and_if ?_ (fun hc hR => ?_)
    · refine ⟨_, rfl, _, rfl, (by decide : (1000003 : Int) ≠ 0), _, rfl, cmul_r (by decide) (by decide), _, rfl, _, rfl, ⟨by decide, by decide⟩, _, rfl, (by decide : (1000003 : Int) ≠ 0), _, rfl, trivial, ?_⟩
      refine ⟨_, rfl, _, rfl, _, rfl, cmul_l (by decide) (by decide), _, rfl, _, rfl, cmul_r hk0 hk60, _, rfl, trivial, _, rfl, _, rfl, cmul_l (by decide) (by decide), _, rfl, trivial, _, rfl, trivial, _, rfl, (by decide : (2147483647 : Int) ≠ 0), ?_⟩
      refine ⟨_, rfl, _, rfl, _, rfl, ?_, _, rfl, (by decide : (2147483629 : Int) ≠ 0), _, rfl, cmul_r (by decide) (by decide), _, rfl, (by decide : (2147483587 : Int) ≠ 0), _, rfl, ⟨by decide, by decide⟩, _, rfl, _, rfl, hm0, ?_⟩
      · exact cmul_l (fm_lt _ (by decide)).1 (Int.lt_trans (fm_lt _ (by decide)).2 (by decide))
      · show Q (.int (Int.fmod _ (many : Nat))) (n + 1)
        obtain ⟨v, ev, hv⟩ := fm_nat _ h1
        rw [ev]
        exact hq v (n + 1) hv (Nat.le_succ _) (Nat.le_refl _)
    · refine ⟨_, rfl, fun z => ⟨_, rfl, trivial, decide (((k : Nat) : Int) < (z : Nat)), rfl, ?_⟩⟩
      refine ite_b (fun hz => ?_) (fun hz => hR)
      have c0 : 0 ≤ c := by
        have := of_decide_eq_true hc
        have e : ((10 : Int) ^ (18 : Int).toNat) = 1000000000000000000 := by decide
        omega
      refine ⟨_, rfl, _, rfl, _, rfl, hdv, ?_⟩
      obtain ⟨u, eu⟩ := fd_nat c0 (b := many)
      refine ⟨u, congrArg PyData.int eu, _, rfl, _, rfl, _, rfl, hm0, ?_⟩
      obtain ⟨v, ev, hv⟩ := fm_nat c h1
      show Q (.int (c.fmod (many : Nat))) (n + 1)
      rw [ev]
      exact hq v (n + 1) hv (Nat.le_succ _) (Nat.le_refl _)
end
end K45
/-! KN2 -/
set_option Elab.async false
set_option linter.all false
set_option maxRecDepth 100000
set_option maxHeartbeats 2000000
namespace K45
open PySem PySem.Spec PyProof.Rows L2
def gOf (ds : List PyData) (n : Nat) (P : PyData → Nat → Prop) : Prop := ∃ l : List PyData, (ds = [.list l] ∨ ds = [.tuple l]) ∧ 1 ≤ l.length ∧ l.length ≤ 1000 ∧ n < 2 ^ 60 ∧ ∀ x ∈ l, ∀ n' : Nat, n ≤ n' → n' ≤ n + 1 → P x n'
theorem w_or {Ta Tb : WT} {r : Rv} {n : Nat} {P : Bool → Nat → Prop} (a b : Bool) (hA : ∀ A : Bool → Nat → Prop, A a n → Ta r n A) (hB : ∀ A : Bool → Nat → Prop, A b n → Tb r n A) (h : P (a || b) n) : wOr Ta Tb r n P := by
  refine hA _ ?_
  cases a with
  | true => exact h
  | false => exact hB _ h
theorem w_and {Ta Tb : WT} {r : Rv} {n : Nat} {P : Bool → Nat → Prop} (a b : Bool) (hA : ∀ A : Bool → Nat → Prop, A a n → Ta r n A) (hB : ∀ A : Bool → Nat → Prop, A b n → Tb r n A) (h : P (a && b) n) : wAnd Ta Tb r n P := by
  refine hA _ ?_
  cases a with
  | true => exact hB _ h
  | false => exact h
theorem if_lst {Tc : WT} {w : Str} {r : Rv} {P : PyData → Nat → Prop} {n : Nat} (c : Bool) (hT : ∀ A : Bool → Nat → Prop, A c n → Tc r n A) (h : P (.list ((if c = true then [w] else []).map .str)) n) : wIf Tc (wLst (waC (fun _ n P => P (.str w) n) waN)) (wLst waN) r n P := by
  refine hT _ ?_
  cases c with
  | true => exact ⟨by simp, h⟩
  | false => exact ⟨by simp, h⟩
def gLawSo (ds : List PyData) (d : PyData) : Prop := ∃ p : Pipe, ds = [p.d] ∧ d = .list ((pipeW p).l.map .str)
section
variable {P : Program} {w : World} {K : PySem.W.Frag} {mg : Str → Option Value} {base : Heap}
theorem ok_law_of {m : Addr} (T : Txt K mg) (C_law_next : Cal P w K mg base 1 "_law_next" ["_law_m", "_law_many"] (spM K (drawM K m) (.ref m) gNext)) : Cal P w K mg base 2 "_law_of" ["_law_m", "_law_some"] (spM K (drawM K m) (.ref m) gOf) := by
  obtain ⟨f, fd, F, hm⟩ := T.f_law_of
  refine okM (m := drawM K m) (a := .ref m) F sc_law_of hm (F.bindsN fun _ _ _ _ _ _ us hl => match us, hl with | [_, _], _ => rfl) rfl ?_ (by decide) (fun cdv A outer s H E hr => ?_)
  · rintro ds n Q ⟨l, rfl | rfl, _⟩ <;> rfl
  have hu := hr.units
  have hu1 := Nat.lt_of_le_of_lt (Nat.add_le_add_left (by decide : 1 ≤ 64) _) hu
  refine ⟨_, (dss_1 (ds_ret (de_ix ix_seq od_ix (de_v 1) (de_draw (i := 0) C_law_next (MdLe.refl _) hr (by decide) (da_c (de_cb call_len cd_len T.n_len (by decide +kernel) (da_c (de_v 1) da_n)) da_n) (List.mem_singleton.mpr rfl)) (fun _ _ => rfl)))), ?_⟩
  rintro ds n Q ⟨l, h, h1, h2, hn, hq⟩
  have at_v : ∀ v : Nat, v < l.length → ∃ x, atI l ((v : Nat) : Int) = some x ∧ x ∈ l := fun v hv => ⟨l[v], at_n (List.getElem?_eq_getElem hv), List.getElem_mem hv⟩
  rcases h with rfl | rfl
  · refine ⟨_, rfl, _, rfl, _, rfl, trivial, l.length, rfl, h1, by omega, hn, fun v n' hv a b => ?_⟩
    obtain ⟨x, e1, e2⟩ := at_v v hv
    exact ⟨x, e1, trivial, hq x e2 n' a b⟩
  · refine ⟨_, rfl, _, rfl, _, rfl, trivial, l.length, rfl, h1, by omega, hn, fun v n' hv a b => ?_⟩
    obtain ⟨x, e1, e2⟩ := at_v v hv
    exact ⟨x, e1, trivial, hq x e2 n' a b⟩
theorem ok_law_so (T : Txt K mg) : Cal P w K mg base 1 "_law_so" ["_law_pipe"] (spD K gLawSo) := by
  obtain ⟨f, fd, F, hm⟩ := T.f_law_so
  refine okD F sc_law_so hm (F.bindsN fun _ _ _ _ _ _ us hl => match us, hl with | [_], _ => rfl) ?_ (by decide) (fun cdv A outer s H E hr => ?_)
  · rintro ds d ⟨p, rfl, _⟩
    rfl
  have hu := hr.units
  refine ⟨_, (dss_c (ds_asg (de_v 0) (dg_t (n := 4) rfl (dgs_c (dg_n 1 sc_law_so.nd (by intro p hp; cases hp)) (dgs_c (dg_n 2 sc_law_so.nd (by intro p hp; cases hp)) (dgs_c (dg_n 3 sc_law_so.nd (by intro p hp; cases hp)) (dgs_c (dg_n 4 sc_law_so.nd (by intro p hp; cases hp)) dgs_n))))))
      (dss_c (ds_set 5 sc_law_so.nd (by intro p hp; cases hp) (de_if (L2.PW.pt (dw_or (dt_cmp op_gt od_gt (de_v 3) de_i (nomark _)) (dw_or1 (dt_v (de_v 4))))) (de_lst (da_c de_s da_n)) (de_lst da_n)))
      (dss_1 (ds_ret (de_bin op_addA od_add (de_bin op_addA od_add (de_v 5) (de_if (L2.PW.pt (dw_and (dt_cmp op_lt od_lt (de_v 3) (de_v 2) (nomark _)) (dw_and1 (dt_not (dt_v (de_v 4)))))) (de_lst (da_c de_s da_n)) (de_lst da_n))) (de_if (dt_v (de_v 4)) (de_lst (da_c de_s da_n)) (de_lst da_n))))))), ?_⟩
  rintro ds d ⟨p, rfl, rfl⟩
  have few : ∀ (c : Bool) (w : Str), (((if c = true then [w] else []).map PyData.str)).length ≤ 1 := fun c w => by cases c <;> simp
  refine ⟨_, rfl, _, rfl, rfl, _, _, rfl, _, _, rfl, _, _, rfl, _, _, rfl, rfl, ?_⟩
  have f1 := few (decide ((0 : Int) < p.held) || p.shut) "in"
  have f2 := few (decide (p.held < p.room) && !p.shut) "out"
  have f3 := few p.shut "gone"
  dsimp only [wSeq, wAsg]
  refine if_lst (decide ((0 : Int) < p.held) || p.shut) (fun A q => w_or _ _ (fun A q => ⟨_, rfl, _, rfl, trivial, _, rfl, q⟩) (fun A q => ⟨_, rfl, _, rfl, q⟩) q) ?_
  dsimp only [wRet, wOp]
  refine ⟨_, rfl, if_lst (decide (p.held < p.room) && !p.shut) (fun A q => w_and _ _ (fun A q => ⟨_, rfl, _, rfl, _, rfl, trivial, _, rfl, q⟩) (fun A q => ⟨_, rfl, _, rfl, q⟩) q) ?_⟩
  refine ⟨_, rfl, by show _ + _ ≤ 100000; omega, if_lst p.shut (fun A q => ⟨_, rfl, _, rfl, q⟩) ?_⟩
  refine ⟨_, rfl, by show List.length (_ ++ _) + _ ≤ 100000; rw [List.length_append]; omega, ?_⟩
  show PyData.list _ = PyData.list _
  unfold pipeW Ws.l
  simp only [List.map_append, List.append_assoc]
end
end K45
/-! KN3 -/
set_option Elab.async false
set_option linter.all false
set_option maxRecDepth 100000
set_option maxHeartbeats 2000000
namespace K45
open PySem PySem.Spec PyProof.Rows L2
def gLInt (ds : List PyData) (n : Nat) (P : PyData → Nat → Prop) : Prop := ∃ (t : Str) (b : Bool), ds = [.str t, .bool b] ∧ n + 10 < 2 ^ 60 ∧ ∀ (i : Interest) (n' : Nat), i.target = t → i.asked.any = true → (b = false → i.asked = ⟨true, false, false⟩) → n ≤ n' → n' ≤ n + 5 → P i.d n'
theorem six_ws {x : PyData} (h : x ∈ [PyData.tuple [.str "in"], .tuple [.str "in"], .tuple [.str "out"], .tuple [.str "in", .str "out"], .tuple [.str "in", .str "gone"], .tuple [.str "in", .str "out", .str "gone"]]) : ∃ w : Ws, x = w.d ∧ w.any = true := by
  simp only [List.mem_cons, List.not_mem_nil, or_false] at h
  rcases h with rfl | rfl | rfl | rfl | rfl | rfl
  · exact ⟨⟨true, false, false⟩, rfl, rfl⟩
  · exact ⟨⟨true, false, false⟩, rfl, rfl⟩
  · exact ⟨⟨false, true, false⟩, rfl, rfl⟩
  · exact ⟨⟨true, true, false⟩, rfl, rfl⟩
  · exact ⟨⟨true, false, true⟩, rfl, rfl⟩
  · exact ⟨⟨true, true, true⟩, rfl, rfl⟩
theorem two_mode {v : Nat} (h : v < 2) : atI [PyData.str "level", PyData.str "edge"] ((v : Nat) : Int) = some (.str (modeS (v == 1))) := by
  match v, h with
  | 0, _ => rfl
  | 1, _ => rfl
section
variable {P : Program} {w : World} {K : PySem.W.Frag} {mg : Str → Option Value} {base : Heap}
theorem ok_law_interest {m : Addr} (T : Txt K mg) (C_law_of : Cal P w K mg base 2 "_law_of" ["_law_m", "_law_some"] (spM K (drawM K m) (.ref m) gOf)) (C_law_next : Cal P w K mg base 1 "_law_next" ["_law_m", "_law_many"] (spM K (drawM K m) (.ref m) gNext)) : Cal P w K mg base 3 "_law_interest" ["_law_m", "_law_target", "_law_is_pipe_name"] (spM K (drawM K m) (.ref m) gLInt) := by
  obtain ⟨f, fd, F, hm⟩ := T.f_law_interest
  refine okM (m := drawM K m) (a := .ref m) F sc_law_interest hm (F.bindsN fun _ _ _ _ _ _ us hl => match us, hl with | [_, _, _], _ => rfl) rfl ?_ (by decide) (fun cdv A outer s H E hr => ?_)
  · rintro ds n Q ⟨t, b, rfl, _⟩
    rfl
  have hu := hr.units
  have hu1 := Nat.lt_of_le_of_lt (Nat.add_le_add_left (by decide : 1 ≤ 64) _) hu
  refine ⟨_, (dss_c (ds_set 3 sc_law_interest.nd (by simp [drawM]) (de_lst (da_c (de_tup (da_c de_s da_n)) (da_c (de_tup (da_c de_s da_n)) (da_c (de_tup (da_c de_s da_n)) (da_c (de_tup (da_c de_s (da_c de_s da_n))) (da_c (de_tup (da_c de_s (da_c de_s da_n))) (da_c (de_tup (da_c de_s (da_c de_s (da_c de_s da_n)))) da_n))))))))
      (dss_c (ds_set 4 sc_law_interest.nd (by simp [drawM]) (de_if (dt_v (de_v 2)) (de_draw (i := 0) C_law_of (MdLe.refl _) hr (by decide) (da_c (de_v 3) da_n) (List.mem_singleton.mpr rfl)) (de_tup (da_c de_s da_n))))
      (dss_1 (ds_ret (de_tup (da_c (de_v 1) (da_c (de_v 4) (da_c (de_ix ix_seq od_ix (de_lst (da_c de_s (da_c de_s da_n))) (de_draw (i := 0) C_law_next (MdLe.refl _) hr (by decide) (da_c de_i da_n) (List.mem_singleton.mpr rfl)) (fun _ _ => rfl)) (da_c (de_cmp (op_eqA hu) od_eq (de_draw (i := 0) C_law_next (MdLe.refl _) hr (by decide) (da_c de_i da_n) (List.mem_singleton.mpr rfl)) de_i (nomark _)) (da_c (de_cmp (op_eqA hu) od_eq (de_draw (i := 0) C_law_next (MdLe.refl _) hr (by decide) (da_c de_i da_n) (List.mem_singleton.mpr rfl)) de_i (nomark _)) da_n)))))))))), ?_⟩
  rintro ds n Q ⟨t, b, rfl, hn, hq⟩
  refine ⟨by simp, by simp, by simp, by simp, by simp, by simp, by simp, ?_⟩
  refine ⟨_, rfl, b, rfl, ite_b (fun hb => ?_) (fun hb => ?_)⟩
  · refine ⟨_, rfl, _, .inl rfl, by simp, by simp, by omega, fun x hx n1 a1 b1 => ?_⟩
    obtain ⟨w, rfl, hw⟩ := six_ws hx
    refine ⟨_, rfl, _, rfl, by simp, 2, rfl, by decide, by decide, by omega, fun v n2 hv a2 b2 => ⟨_, two_mode hv, trivial, ?_⟩⟩
    refine ⟨4, rfl, by decide, by decide, by omega, fun v2 n3 hv2 a3 b3 => ⟨_, rfl, .inl rfl, ?_⟩⟩
    refine ⟨6, rfl, by decide, by decide, by omega, fun v3 n4 hv3 a4 b4 => ⟨_, rfl, .inl rfl, by simp, ?_⟩⟩
    exact hq ⟨t, w, v == 1, PyData.eqv (.int (v2 : Nat)) (.int 0), PyData.eqv (.int (v3 : Nat)) (.int 0)⟩ n4 rfl hw (fun z => by rw [hb] at z; cases z) (by omega) (by omega)
  · refine ⟨by simp, ?_⟩
    refine ⟨_, rfl, _, rfl, by simp, 2, rfl, by decide, by decide, by omega, fun v n2 hv a2 b2 => ⟨_, two_mode hv, trivial, ?_⟩⟩
    refine ⟨4, rfl, by decide, by decide, by omega, fun v2 n3 hv2 a3 b3 => ⟨_, rfl, .inl rfl, ?_⟩⟩
    refine ⟨6, rfl, by decide, by decide, by omega, fun v3 n4 hv3 a4 b4 => ⟨_, rfl, .inl rfl, by simp, ?_⟩⟩
    exact hq ⟨t, ⟨true, false, false⟩, v == 1, PyData.eqv (.int (v2 : Nat)) (.int 0), PyData.eqv (.int (v3 : Nat)) (.int 0)⟩ n4 rfl rfl (fun _ => rfl) (by omega) (by omega)
end
end K45
/-! KN4 -/
set_option Elab.async false
set_option linter.all false
set_option maxRecDepth 100000
set_option maxHeartbeats 2000000
namespace K45
open PySem PySem.Spec PyProof.Rows L2
def gLEnt (ds : List PyData) (n : Nat) (P : PyData → Nat → Prop) : Prop := ∃ i : Interest, ds = [i.d] ∧ n + 20 < 2 ^ 60 ∧ ∀ (e : Entry) (n' : Nat), e.i = i → e.fresh.and i.asked = e.fresh → (i.edge = false → e.fresh = Ws.no) → n ≤ n' → n' ≤ n + 6 → P e.d n'
theorem sub_if {c : Bool} {x : Str} {s : List Str} (h : s.Sublist (if c = true then [x] else [])) : ∃ b : Bool, s = (if b = true then [x] else []) ∧ (b && c) = b := by
  cases c with
  | false =>
    have := List.eq_nil_of_sublist_nil h
    subst this
    exact ⟨false, rfl, rfl⟩
  | true =>
    cases s with
    | nil => exact ⟨false, rfl, rfl⟩
    | cons a s =>
      have h' : (a :: s).Sublist [x] := h
      have hl := h'.length_le
      have e : s = [] := List.eq_nil_of_length_eq_zero (by simp at hl; simpa using hl)
      subst e
      have ha : a ∈ [x] := h'.subset (by simp)
      rw [List.mem_singleton.mp ha]
      exact ⟨true, rfl, rfl⟩
theorem ws_subl {w : Ws} {s : List Str} (h : s.Sublist w.l) : ∃ u : Ws, s = u.l ∧ u.and w = u := by
  unfold Ws.l at h
  obtain ⟨s1, s2, rfl, h1, h2⟩ := List.sublist_append_iff.mp h
  obtain ⟨s3, s4, rfl, h3, h4⟩ := List.sublist_append_iff.mp h2
  obtain ⟨a, rfl, ea⟩ := sub_if h1
  obtain ⟨b, rfl, eb⟩ := sub_if h3
  obtain ⟨c, rfl, ec⟩ := sub_if h4
  exact ⟨⟨a, b, c⟩, rfl, by simp only [Ws.and, ea, eb, ec]⟩
theorem ws_self (w : Ws) : w.and w = w := by
  obtain ⟨a, b, c⟩ := w
  simp [Ws.and]
theorem mode_edge (e : Bool) : PyData.eqv (.str (modeS e)) (.str "edge") = e := by
  cases e <;> decide +kernel
section
variable {P : Program} {w : World} {K : PySem.W.Frag} {mg : Str → Option Value} {base : Heap}
theorem ok_law_entry {m : Addr} (T : Txt K mg) (C_law_next : Cal P w K mg base 1 "_law_next" ["_law_m", "_law_many"] (spM K (drawM K m) (.ref m) gNext)) : Cal P w K mg base 2 "_law_entry" ["_law_m", "_law_interest_here"] (spM K (drawM K m) (.ref m) gLEnt) := by
  obtain ⟨f, fd, F, hm⟩ := T.f_law_entry
  refine okM (m := drawM K m) (a := .ref m) F sc_law_entry hm (F.bindsN fun _ _ _ _ _ _ us hl => match us, hl with | [_, _], _ => rfl) rfl ?_ (by decide) (fun cdv A outer s H E hr => ?_)
  · rintro ds n Q ⟨i, rfl, _⟩
    rfl
  have hu := hr.units
  have hu1 := Nat.lt_of_le_of_lt (Nat.add_le_add_left (by decide : 1 ≤ 64) _) hu
  refine ⟨_, (dss_c (ds_set 2 sc_law_entry.nd (by simp [drawM]) (de_if (dt_cmp (op_eqA hu) od_eq (de_ix ix_seq od_ix (de_v 1) de_i (fun _ _ => rfl)) de_s (nomark _)) (de_ix ix_seq od_ix (de_v 1) de_i (fun _ _ => rfl)) (de_tup da_n)))
      (dss_c (ds_if (dt_cmp op_gt od_gt (de_draw (i := 0) C_law_next (MdLe.refl _) hr (by decide) (da_c de_i da_n) (List.mem_singleton.mpr rfl)) de_i (nomark _)) (dss_1 (ds_ret (de_tup (da_c (de_v 1) (da_c de_b (da_c (de_v 2) da_n)))))) dss_n)
      (dss_1 (ds_ret (de_tup (da_c (de_v 1) (da_c (de_cmp op_gt od_gt (de_draw (i := 0) C_law_next (MdLe.refl _) hr (by decide) (da_c de_i da_n) (List.mem_singleton.mpr rfl)) de_i (nomark _)) (da_c (de_ct call_tuple_of cd_tuple T.n_tuple (by decide +kernel) (da_c (de_lc1 (m := (drawM K m)) [("_law_word", 3)] rfl sc_law_entry.nd (di_t (de_v 2)) (blkOk_by (N := ["_law_m", "_law_interest_here", "_law_fresh", "_law_word"]) (sc := defScope s_law_entry) (by decide +kernel)) (by simp [drawM]) (by decide) (fun _ _ _ _ _ => (dg_n 3 sc_law_entry.nd (by simp [drawM]))) (fun _ _ _ _ _ => (dt_cmp (op_eqA hu) od_eq (de_draw (i := 0) C_law_next (MdLe.refl _) hr (by decide) (da_c de_i da_n) (List.mem_singleton.mpr rfl)) de_i (nomark _))) (fun _ _ _ _ _ => (de_v 3))) da_n)) da_n)))))))), ?_⟩
  rintro ds n Q ⟨i, rfl, hn, hq⟩
  refine ⟨_, rfl, _, rfl, trivial, _, rfl, .inl rfl, i.edge, congrArg PyData.bool (mode_edge i.edge), ite_b (fun he => ?_) (fun he => ?_)⟩
  · refine ⟨_, rfl, _, rfl, trivial, ?_⟩
    refine ⟨3, rfl, by decide, by decide, by omega, fun v n1 hv a1 b1 => ⟨_, rfl, trivial, decide ((0 : Int) < (v : Nat)), rfl, ?_⟩⟩
    refine ite_b (fun hz => ?_) (fun hz => ?_)
    · refine ⟨_, rfl, _, rfl, by simp, ?_⟩
      exact hq ⟨i, true, i.asked⟩ n1 rfl (ws_self _) (fun z => by rw [he] at z; cases z) (by omega) (by omega)
    · refine ⟨_, rfl, 3, rfl, by decide, by decide, by omega, fun v2 n2 hv2 a2 b2 => ⟨_, rfl, trivial, ?_⟩⟩
      dsimp only [waC, wCB]
      unfold wLc
      refine ⟨_, rfl, _, rfl, by have := ws_len (i.asked); simp; omega, fun k acc n3 => ∃ sub : List Str, acc = sub.map .str ∧ sub.Sublist ((i.asked).l.take k) ∧ n2 ≤ n3 ∧ n3 ≤ n2 + k, ⟨[], rfl, by simp, Nat.le_refl _, Nat.le_refl _⟩, fun k d acc n3 e hI => ?_, fun acc n3 hI => ?_⟩
      · obtain ⟨sub, e1, e2, e3, e4⟩ := hI
        obtain ⟨z, hz, _, rfl⟩ := map_at e
        have lt : k < 3 := Nat.lt_of_lt_of_le (List.getElem?_eq_some_iff.mp hz).1 (ws_len _)
        refine ⟨2, rfl, by decide, by decide, by omega, fun v3 n4 hv3 a3 b3 => ⟨_, rfl, .inl rfl, PyData.eqv (.int (v3 : Nat)) (.int 0), rfl, ite_b (fun h => ⟨_, rfl, by simp, sub ++ [z], by rw [e1, List.map_append]; rfl, ?_, by omega, by omega⟩) (fun h => ⟨sub, e1, ?_, by omega, by omega⟩)⟩⟩
        · rw [take_succ_some hz]
          exact e2.append (List.Sublist.refl _)
        · rw [take_succ_some hz]
          exact e2.trans (List.sublist_append_left _ _)
      · obtain ⟨sub, e1, e2, e3, e4⟩ := hI
        subst e1
        have l3 := ws_len (i.asked)
        rw [List.length_map] at e2 e4
        rw [List.take_length] at e2
        obtain ⟨u, rfl, hu⟩ := ws_subl e2
        refine ⟨_, rfl, trivial, by simp, ?_⟩
        exact hq ⟨i, decide ((0 : Int) < (v2 : Nat)), u⟩ n3 rfl hu (fun z => by rw [he] at z; cases z) (by omega) (by omega)
  · refine ⟨by simp, ?_⟩
    refine ⟨3, rfl, by decide, by decide, by omega, fun v n1 hv a1 b1 => ⟨_, rfl, trivial, decide ((0 : Int) < (v : Nat)), rfl, ?_⟩⟩
    refine ite_b (fun hz => ?_) (fun hz => ?_)
    · refine ⟨_, rfl, _, rfl, by simp, ?_⟩
      exact hq ⟨i, true, Ws.no⟩ n1 rfl rfl (fun _ => rfl) (by omega) (by omega)
    · refine ⟨_, rfl, 3, rfl, by decide, by decide, by omega, fun v2 n2 hv2 a2 b2 => ⟨_, rfl, trivial, ?_⟩⟩
      dsimp only [waC, wCB]
      unfold wLc
      refine ⟨_, rfl, _, rfl, by simp, fun _ acc n3 => acc = [] ∧ n3 = n2, ⟨rfl, rfl⟩, fun k d acc n3 e _ => ?_, fun acc n3 hI => ?_⟩
      · simp at e
      · obtain ⟨rfl, rfl⟩ := hI
        refine ⟨_, rfl, trivial, by simp, ?_⟩
        exact hq ⟨i, decide ((0 : Int) < (v2 : Nat)), Ws.no⟩ _ rfl rfl (fun _ => rfl) (by omega) (by omega)
end
end K45
/-! KN5 -/
set_option Elab.async false
set_option linter.all false
set_option maxRecDepth 100000
set_option maxHeartbeats 2000000
namespace K45
open PySem PySem.Spec PyProof.Rows L2
def gJump (ds : List PyData) (n : Nat) (P : PyData → Nat → Prop) : Prop := ∃ (size : Nat) (names : List Str), ds = [.int size, .list (names.map .str)] ∧ size ≤ 12 ∧ 1 ≤ names.length ∧ names.length ≤ 100 ∧ (∀ x ∈ names, NameOk x) ∧ n + 20 < 2 ^ 60 ∧ ∀ (x : Ins) (n' : Nat), x.Ok size → n ≤ n' → n' ≤ n + 4 → P x.d n'
theorem three_words {x : PyData} (h : x ∈ [PyData.str "in", PyData.str "out", PyData.str "gone"]) : ∃ w : Str, x = .str w ∧ (w = "in" ∨ w = "out" ∨ w = "gone") := by
  simp only [List.mem_cons, List.not_mem_nil, or_false] at h
  rcases h with rfl | rfl | rfl
  · exact ⟨_, rfl, .inl rfl⟩
  · exact ⟨_, rfl, .inr (.inl rfl)⟩
  · exact ⟨_, rfl, .inr (.inr rfl)⟩
section
variable {P : Program} {w : World} {K : PySem.W.Frag} {mg : Str → Option Value} {base : Heap}
theorem ok_law_jump {m : Addr} (T : Txt K mg) (C_law_next : Cal P w K mg base 1 "_law_next" ["_law_m", "_law_many"] (spM K (drawM K m) (.ref m) gNext)) (C_law_of : Cal P w K mg base 2 "_law_of" ["_law_m", "_law_some"] (spM K (drawM K m) (.ref m) gOf)) : Cal P w K mg base 3 "_law_jump" ["_law_m", "_law_size", "_law_names_here"] (spM K (drawM K m) (.ref m) gJump) := by
  obtain ⟨f, fd, F, hm⟩ := T.f_law_jump
  refine okM (m := drawM K m) (a := .ref m) F sc_law_jump hm (F.bindsN fun _ _ _ _ _ _ us hl => match us, hl with | [_, _, _], _ => rfl) rfl ?_ (by decide) (fun cdv A outer s H E hr => ?_)
  · rintro ds n Q ⟨size, names, rfl, _⟩
    rfl
  have hu := hr.units
  have hu1 := Nat.lt_of_le_of_lt (Nat.add_le_add_left (by decide : 1 ≤ 64) _) hu
  refine ⟨_, (dss_c (ds_par 3 4 rfl sc_law_jump.nd (by simp [drawM]) (by simp [drawM]) (by decide) (da_c (de_draw (i := 0) C_law_next (MdLe.refl _) hr (by decide) (da_c de_i da_n) (List.mem_singleton.mpr rfl)) (da_c (de_draw (i := 0) C_law_next (MdLe.refl _) hr (by decide) (da_c (de_bin op_addA od_add (de_v 1) de_i) da_n) (List.mem_singleton.mpr rfl)) da_n)))
      (dss_c (ds_if (dt_cmp op_lt od_lt (de_v 3) de_i (nomark _)) (dss_1 (ds_ret (de_ix ix_seq od_ix (de_lst (da_c (de_tup (da_c de_s (da_c (de_v 4) da_n))) (da_c (de_tup (da_c de_s da_n)) da_n))) (de_v 3) (fun _ _ => rfl)))) dss_n)
      (dss_c (ds_if (dt_cmp op_lt od_lt (de_v 3) de_i (nomark _)) (dss_1 (ds_ret (de_tup (da_c de_s (da_c (de_v 4) da_n))))) dss_n)
      (dss_c (ds_if (dt_cmp op_lt od_lt (de_v 3) de_i (nomark _)) (dss_1 (ds_ret (de_tup (da_c de_s (da_c (de_draw (i := 0) C_law_of (MdLe.refl _) hr (by decide) (da_c (de_v 2) da_n) (List.mem_singleton.mpr rfl)) (da_c (de_draw (i := 0) C_law_of (MdLe.refl _) hr (by decide) (da_c (de_lst (da_c de_s (da_c de_s (da_c de_s da_n)))) da_n) (List.mem_singleton.mpr rfl)) (da_c (de_v 4) da_n))))))) dss_n)
      (dss_1 (ds_ret (de_tup (da_c de_s (da_c (de_ix ix_seq od_ix (de_v 2) de_i (fun _ _ => rfl)) (da_c de_i da_n)))))))))), ?_⟩
  rintro ds n Q ⟨size, names, rfl, hs, h1, h2, hok, hn, hq⟩
  refine ⟨8, rfl, by decide, by decide, by omega, fun way n1 hw a1 b1 => ?_⟩
  refine ⟨_, rfl, _, rfl, trivial, size + 1, rfl, by omega, by omega, by omega, fun to n2 ht a2 b2 => ?_⟩
  have hto : to ≤ size := by omega
  refine ⟨_, _, rfl, ?_⟩
  refine ⟨_, rfl, _, rfl, trivial, decide (((way : Nat) : Int) < 2), rfl, ite_b (fun hz => ?_) (fun hz => ?_)⟩
  · have hw2 : way < 2 := by have := of_decide_eq_true hz; omega
    refine ⟨_, rfl, by simp, by simp, by simp, _, rfl, ?_⟩
    match way, hw2 with
    | 0, _ => exact ⟨_, rfl, trivial, hq (.jump to) n2 hto (by omega) (by omega)⟩
    | 1, _ => exact ⟨_, rfl, trivial, hq .stop n2 trivial (by omega) (by omega)⟩
  · refine ⟨_, rfl, _, rfl, trivial, decide (((way : Nat) : Int) < 4), rfl, ite_b (fun hz => ?_) (fun hz => ?_)⟩
    · exact ⟨_, rfl, by simp, hq (.unl to) n2 hto (by omega) (by omega)⟩
    · refine ⟨_, rfl, _, rfl, trivial, decide (((way : Nat) : Int) < 7), rfl, ite_b (fun hz => ?_) (fun hz => ?_)⟩
      · refine ⟨_, rfl, names.map .str, .inl rfl, by simpa using h1, by simp; omega, by omega, fun x hx n3 a3 b3 => ?_⟩
        obtain ⟨nm, hnm, rfl⟩ := List.mem_map.mp hx
        refine ⟨by simp, _, .inl rfl, by simp, by simp, by omega, fun y hy n4 a4 b4 => ?_⟩
        obtain ⟨wd, rfl, hwd⟩ := three_words hy
        exact ⟨_, rfl, by simp, hq (.told nm wd to) n4 ⟨hok nm hnm, hwd, hto⟩ (by omega) (by omega)⟩
      · cases names with
        | nil => simp at h1
        | cons a l => exact ⟨_, rfl, .str a, (show atI ((a :: l).map PyData.str) ((0 : Nat) : Int) = some (.str a) from at_n rfl), trivial, by simp, hq (.put a) n2 (hok a (by simp)) (by omega) (by omega)⟩
end
end K45
/-! KN6 -/
set_option Elab.async false
set_option linter.all false
set_option maxRecDepth 100000
set_option maxHeartbeats 2000000
namespace K45
open PySem PySem.Spec PyProof.Rows L2
def gTelling (ds : List PyData) (n : Nat) (P : PyData → Nat → Prop) : Prop := ∃ names : List Str, ds = [.list (names.map .str)] ∧ 1 ≤ names.length ∧ names.length ≤ 100 ∧ (∀ x ∈ names, NameOk x) ∧ n + 30 < 2 ^ 60 ∧ ∀ (t : Telling) (n' : Nat), TelOk t → n ≤ n' → n' ≤ n + 20 → P (telD t) n'
theorem seven_ws {x : PyData} (h : x ∈ [PyData.tuple [.str "in"], .tuple [.str "out"], .tuple [.str "gone"], .tuple [.str "in", .str "out"], .tuple [.str "in", .str "gone"], .tuple [.str "out", .str "gone"], .tuple [.str "in", .str "out", .str "gone"]]) : ∃ w : Ws, x = w.d ∧ w.any = true := by
  simp only [List.mem_cons, List.not_mem_nil, or_false] at h
  rcases h with rfl | rfl | rfl | rfl | rfl | rfl | rfl
  · exact ⟨⟨true, false, false⟩, rfl, rfl⟩
  · exact ⟨⟨false, true, false⟩, rfl, rfl⟩
  · exact ⟨⟨false, false, true⟩, rfl, rfl⟩
  · exact ⟨⟨true, true, false⟩, rfl, rfl⟩
  · exact ⟨⟨true, false, true⟩, rfl, rfl⟩
  · exact ⟨⟨false, true, true⟩, rfl, rfl⟩
  · exact ⟨⟨true, true, true⟩, rfl, rfl⟩
section
variable {P : Program} {w : World} {K : PySem.W.Frag} {mg : Str → Option Value} {base : Heap}
theorem ok_law_telling {m : Addr} (T : Txt K mg) (C_law_next : Cal P w K mg base 1 "_law_next" ["_law_m", "_law_many"] (spM K (drawM K m) (.ref m) gNext)) (C_law_of : Cal P w K mg base 2 "_law_of" ["_law_m", "_law_some"] (spM K (drawM K m) (.ref m) gOf)) : Cal P w K mg base 3 "_law_telling" ["_law_m", "_law_names_here"] (spM K (drawM K m) (.ref m) gTelling) := by
  obtain ⟨f, fd, F, hm⟩ := T.f_law_telling
  refine okM (m := drawM K m) (a := .ref m) F sc_law_telling hm (F.bindsN fun _ _ _ _ _ _ us hl => match us, hl with | [_, _], _ => rfl) rfl ?_ (by decide) (fun cdv A outer s H E hr => ?_)
  · rintro ds n Q ⟨names, rfl, _⟩
    rfl
  have hu := hr.units
  have hu1 := Nat.lt_of_le_of_lt (Nat.add_le_add_left (by decide : 1 ≤ 64) _) hu
  refine ⟨_, (dss_c (ds_set 2 sc_law_telling.nd (by simp [drawM]) (de_lst (da_c (de_tup (da_c de_s da_n)) (da_c (de_tup (da_c de_s da_n)) (da_c (de_tup (da_c de_s da_n)) (da_c (de_tup (da_c de_s (da_c de_s da_n))) (da_c (de_tup (da_c de_s (da_c de_s da_n))) (da_c (de_tup (da_c de_s (da_c de_s da_n))) (da_c (de_tup (da_c de_s (da_c de_s (da_c de_s da_n)))) da_n)))))))))
      (dss_1 (ds_ret (de_ct call_tuple_of cd_tuple T.n_tuple (by decide +kernel) (da_c (de_lc0 (m := (drawM K m)) [("_law_k", 3)] rfl sc_law_telling.nd (di_r T.n_range (da_c (de_draw (i := 0) C_law_next (MdLe.refl _) hr (by decide) (da_c de_i da_n) (List.mem_singleton.mpr rfl)) da_n)) (blkOk_by (N := ["_law_m", "_law_names_here", "_law_some", "_law_k"]) (sc := defScope s_law_telling) (by decide +kernel)) (by simp [drawM]) (by decide) (fun _ _ _ _ _ => (dg_n 3 sc_law_telling.nd (by simp [drawM]))) (fun _ _ _ _ _ => (de_tup (da_c (de_draw (i := 0) C_law_of (MdLe.refl _) hr (by decide) (da_c (de_v 1) da_n) (List.mem_singleton.mpr rfl)) (da_c (de_draw (i := 0) C_law_of (MdLe.refl _) hr (by decide) (da_c (de_v 2) da_n) (List.mem_singleton.mpr rfl)) da_n))))) da_n))))), ?_⟩
  rintro ds n Q ⟨names, rfl, h1, h2, hok, hn, hq⟩
  refine ⟨by simp, by simp, by simp, by simp, by simp, by simp, by simp, by simp, ?_⟩
  dsimp only [wRet, wCB, waC]
  unfold wLc
  refine ⟨7, rfl, by decide, by decide, by omega, fun v n1 hv a1 b1 => ?_⟩
  have len : (rangeD 0 ((v : Nat) : Int).toNat).length = v := by rw [Int.toNat_natCast, range_d]; simp
  refine ⟨_, rfl, ⟨by omega, by omega⟩, by rw [len]; omega, fun k acc n' => ∃ t : Telling, acc = (t.map fun p => .tuple [.str p.1, p.2.d]) ∧ t.length = k ∧ (∀ p ∈ t, NameOk p.1 ∧ p.2.any = true) ∧ n1 ≤ n' ∧ n' ≤ n1 + 2 * k, ⟨[], rfl, rfl, by simp, Nat.le_refl _, Nat.le_refl _⟩, fun k d acc n' e hI => ?_, fun acc n' hI => ?_⟩
  · obtain ⟨t, e1, e2, e3, e4, e5⟩ := hI
    have hk : k < v := by
      have := (List.getElem?_eq_some_iff.mp e).1
      rw [len] at this
      exact this
    dsimp only [wYes, wgN]
    rw [if_pos rfl]
    refine ⟨_, rfl, names.map .str, .inl rfl, by simpa using h1, by simp; omega, by omega, fun x hx n3 a3 b3 => ?_⟩
    obtain ⟨nm, hnm, rfl⟩ := List.mem_map.mp hx
    refine ⟨_, rfl, _, .inl rfl, by simp, by simp, by omega, fun y hy n4 a4 b4 => ?_⟩
    obtain ⟨w, rfl, hw⟩ := seven_ws hy
    refine ⟨by simp, by simp [Ws.d], t ++ [(nm, w)], by rw [e1, List.map_append]; rfl, by rw [List.length_append, e2]; rfl, fun p hp => ?_, by omega, by omega⟩
    rcases List.mem_append.mp hp with hp | hp
    · exact e3 p hp
    · rw [List.mem_singleton.mp hp]
      exact ⟨hok nm hnm, hw⟩
  · obtain ⟨t, e1, e2, e3, e4, e5⟩ := hI
    subst e1
    rw [len] at e2 e5
    refine ⟨_, rfl, trivial, ?_⟩
    exact hq t n' ⟨by omega, e3⟩ (by omega) (by omega)
end
end K45
/-! KN7 -/
set_option Elab.async false
set_option linter.all false
set_option maxRecDepth 100000
set_option maxHeartbeats 4000000
namespace K45
open PySem PySem.Spec PyProof.Rows L2
/-- what _law_begun makes -/
def spBegun (K : PySem.W.Frag) : Sp := fun vs H Q _ => ∃ (sc : Addr), vs = [.ref sc] ∧ ∀ m, H m = none → Q (.ref m) (upd H m (.dK (mKv sc 0 0)))
section
variable {P : Program} {w : World} {K : PySem.W.Frag} {mg : Str → Option Value} {base : Heap}
theorem ok_law_begun (T : Txt K mg) : Cal P w K mg base 1 "_law_begun" ["_law_script"] (spBegun K) := by
  obtain ⟨f, fd, F, hm⟩ := T.f_law_begun
  refine ⟨f, fd, F.ok sc_law_begun (fun vs H Q E h => ?_) (fun cdv A outer s0 H vs Q E hr h => ?_), hm, F.kp, F.bindsN fun _ _ _ _ _ _ us hl => match us, hl with | [_], _ => rfl⟩
  · obtain ⟨sc, rfl, _⟩ := h
    rfl
  · obtain ⟨sc, rfl, hq⟩ := h
    refine ⟨_, pss_one (ps_ret (pe_disp (pps_cons pe_str (pe_var (i := 0) rfl (Or.inl rfl)) (pps_cons pe_str pe_int (pps_cons pe_str pe_int pps_nil))) (by rfl) (by rfl) (by simp) (by show 3 ≤ 15; decide))), ?_⟩
    intro p hp
    refine ⟨.ref sc, rfl, ?_⟩
    refine ⟨upd_same, mKv sc 0 0, rfl, by show 3 ≤ 15; decide, ?_⟩
    have e : upd (upd H p (.dK [])) p (.dK (mergeK [] (mKv sc 0 0))) = upd H p (.dK (mKv sc 0 0)) := by
      funext b
      by_cases h : b = p
      · subst h
        rw [upd_same, upd_same]
        rfl
      · rw [upd_ne h, upd_ne h, upd_ne h]
    rw [e]
    exact hq p hp
end
end K45
/-! KM5 -/
set_option Elab.async false
set_option linter.all false
set_option maxRecDepth 100000
set_option maxHeartbeats 4000000
/-! split and join over data -/
namespace K45
open PySem PySem.Spec PyProof.Rows L2
section
variable {X : Cx} {m : Md} {o e : Expr} {Wo We : WE} {apos pos : Pos}
@[simp] def wSplit (Wo We : WE) : WE := fun r n P => Wo r n fun a n1 => ∃ x : Str, a = .str x ∧ We r n1 fun b n2 => ∃ y : Str, b = .str y ∧ (y.length == 0) = false ∧ x.length + 2 ≤ 100000 ∧ P (.list ((Txt.split x y).map .str)) n2
@[simp] def wJoin (Wo We : WE) : WE := fun r n P => Wo r n fun a n1 => ∃ x : Str, a = .str x ∧ We r n1 fun b n2 => ∃ ys : List Str, b = .list (ys.map .str) ∧ (ys.map (·.length)).sum + ys.length * x.length ≤ 16777216 ∧ P (.str (Txt.join x ys)) n2
theorem strs_dqa {K : PySem.W.Frag} {H : Hp} : ∀ ys : List Str, DqA K H (ys.map V.str) (ys.map PyData.str)
  | [] => .nil
  | y :: ys => .cons (.str y) (strs_dqa ys)
theorem de_split (ho : DE X m o Wo) (he : DE X m e We) (hs : starEach [e] X.env = [(false, eval e X.env)] := by rfl) (hbase : attributeBase o "split" X.env (eval o X.env) = eval o X.env := by rfl) (hline : (apos.endLine == pos.line) = true := by rfl) :
    DE X m (.Call (.Attribute o "split" apos) [e] [] pos) (wSplit Wo We) :=
  pe_by (pe_split ho he hs hbase hline) fun s H Q ⟨r, n, P, R, w, k⟩ => ⟨r, n, _, R, w, fun v1 H1 d1 n1 x1 s1 q1 ⟨x, ex, w1⟩ => ⟨by subst ex; cases q1; exact ⟨_, rfl⟩, r, n1, _, R.go x1 s1, w1, fun v2 H2 d2 n2 x2 s2 q2 hw => by
    subst ex
    obtain ⟨y, rfl, h1, h2, p⟩ := hw
    cases q1
    cases q2
    refine ⟨x, y, rfl, rfl, h1, Evl.sz_of h2, ?_⟩
    intro l hl
    exact k _ _ _ n2 ((x1.trans x2).trans (.of (Ex.new hl))) (m.sx _ _ _ (Ex.new hl) s2) (.lst upd_same (strs_dqa _)) p⟩⟩
theorem de_join (ho : DE X m o Wo) (he : DE X m e We) (hs : starEach [e] X.env = [(false, eval e X.env)] := by rfl) (hbase : attributeBase o "join" X.env (eval o X.env) = eval o X.env := by rfl) (hline : (apos.endLine == pos.line) = true := by rfl) :
    DE X m (.Call (.Attribute o "join" apos) [e] [] pos) (wJoin Wo We) :=
  pe_by (pe_join ho he hs hbase hline) fun s H Q ⟨r, n, P, R, w, k⟩ => ⟨r, n, _, R, w, fun v1 H1 d1 n1 x1 s1 q1 ⟨x, ex, w1⟩ => ⟨by subst ex; cases q1; exact ⟨_, rfl⟩, r, n1, _, R.go x1 s1, w1, fun v2 H2 d2 n2 x2 s2 q2 hw => by
    subst ex
    obtain ⟨ys, rfl, h1, p⟩ := hw
    cases q1
    cases q2 with
    | lst hp ha =>
      have e := da_strs ha
      subst e
      exact ⟨x, _, ys, rfl, rfl, .inl (SqL.of hp), h1, k _ H2 _ n2 (x1.trans x2) s2 (.str _) p⟩⟩⟩
end
end K45
/-! KP1 -/
set_option Elab.async false
set_option linter.all false
set_option maxRecDepth 100000
set_option maxHeartbeats 4000000
/-! the drawn names are unlike -/
namespace K45
open PySem PySem.Spec PyProof.Rows L2
def w17 : List Str := ["in", "out", "gone", "level", "edge", "once", "alone", "off", "row", "set", "pipe", "task", "wait", "put", "take", "jump", "stop"]
theorem own_split : Txt.split "in out gone level edge once alone off row set pipe task wait put take jump stop" " " = w17 := by decide +kernel
def way0 (first many : Nat) : List Str := (List.range many).map fun k => w17.getD ((first + 5 * k) % 17) "in"
theorem way0_nd : ∀ first, first < 26 → ∀ many, many < 8 → (way0 first many).Nodup := by decide +kernel
theorem w17_ok : ∀ x ∈ w17, NameOk x := by
  have h : ∀ x ∈ w17, 1 ≤ x.length ∧ x.length ≤ 8 ∧ ∀ c ∈ x.cps.toList, 97 ≤ c ∧ c ≤ 122 := by decide +kernel
  exact fun x hx => ⟨(h x hx).1, (h x hx).2.1, (h x hx).2.2⟩
theorem way0_ok {first many : Nat} : ∀ x ∈ way0 first many, NameOk x := fun x hx => by
  obtain ⟨k, _, rfl⟩ := List.mem_map.mp hx
  have lt : (first + 5 * k) % 17 < w17.length := Nat.mod_lt _ (by decide)
  rw [List.getD_eq_getElem?_getD, List.getElem?_eq_getElem lt]
  exact w17_ok _ (List.getElem_mem lt)
theorem len_nd : ∀ first, first < 26 → ∀ many, many < 8 → ((List.range many).map fun k => 1 + (first + 3 * k) % 8).Nodup := by decide +kernel
theorem let_nd : ∀ first, first < 26 → ∀ many, many < 8 → ((List.range many).map fun k => (first + 5 * k) % 26).Nodup := by decide +kernel
theorem nd_by {α β : Type} {f : α → β} : ∀ {l : List α}, (l.map f).Nodup → l.Nodup
  | [], _ => .nil
  | a :: l, h => by
    rw [List.map_cons, List.nodup_cons] at h
    rw [List.nodup_cons]
    exact ⟨fun z => h.1 (List.mem_map.mpr ⟨a, z, rfl⟩), nd_by h.2⟩
end K45
/-! KP2 -/
set_option Elab.async false
set_option linter.all false
set_option maxRecDepth 100000
set_option maxHeartbeats 4000000
namespace K45
open PySem PySem.Spec PyProof.Rows L2
theorem let_at {v : Nat} (h : v < 26) : atI ("abcdefghijklmnopqrstuvwxyz" : Str).cps.toList ((v : Nat) : Int) = some (97 + v) := by
  have e : ("abcdefghijklmnopqrstuvwxyz" : Str).cps.toList = (List.range 26).map fun i => 97 + i := by decide +kernel
  rw [e]
  refine at_n ?_
  rw [List.getElem?_map, List.getElem?_range h]
  rfl
theorem joinL_one : ∀ cs : List Nat, TL.joinL [] (cs.map fun c => [c]) = cs
  | [] => rfl
  | [c] => rfl
  | c :: d :: r => by
    have ih := joinL_one (d :: r)
    show [c] ++ ([] ++ TL.joinL [] ((d :: r).map fun c => [c])) = c :: d :: r
    rw [ih]
    rfl
theorem join_cs (cs : List Nat) : Txt.join "" (cs.map fun c => (⟨#[c]⟩ : Str)) = ⟨cs.toArray⟩ := by
  have e := SX.join_S [] (cs.map fun c => [c])
  rw [joinL_one, List.map_map] at e
  exact e
end K45
/-! KP3 -/
set_option Elab.async false
set_option linter.all false
set_option maxRecDepth 100000
set_option maxHeartbeats 4000000
namespace K45
open PySem PySem.Spec PyProof.Rows L2
/-- letters drawn one by one -/
theorem wLc_let {Wi : WI} {Wg : WG} {We : WE} {vs : List Nat} {r : Rv} {n cnt : Nat} {Q : PyData → Nat → Prop} (hs : ∀ A : List PyData → Nat → Prop, A (rangeD 0 ((cnt : Nat) : Int).toNat) n → Wi r n A) (hc : cnt ≤ 100)
    (step : ∀ k, k < cnt → ∀ n1, n ≤ n1 → n1 ≤ n + k → ∀ P' : PyData → Nat → Prop, (∀ v n2 : Nat, v < 26 → n1 ≤ n2 → n2 ≤ n1 + 1 → P' (.str ⟨#[97 + v]⟩) n2) → Wg (.int (k : Nat)) (wipeR r vs) fun r2 => We r2 n1 P')
    (q : ∀ (cs : List Nat) (n' : Nat), cs.length = cnt → (∀ c ∈ cs, 97 ≤ c ∧ c ≤ 122) → n ≤ n' → n' ≤ n + cnt → Q (.list ((cs.map fun c => (⟨#[c]⟩ : Str)).map .str)) n') : wLc Wi Wg wYes We vs r n Q := by
  have e0 : rangeD 0 ((cnt : Nat) : Int).toNat = (List.range cnt).map fun i => PyData.int ((i : Nat) : Int) := by rw [Int.toNat_natCast, range_d]
  have len : (rangeD 0 ((cnt : Nat) : Int).toNat).length = cnt := by rw [e0]; simp
  unfold wLc
  refine hs _ ⟨by rw [len]; omega, fun k acc n1 => ∃ cs : List Nat, acc = (cs.map fun c => (⟨#[c]⟩ : Str)).map .str ∧ cs.length = k ∧ (∀ c ∈ cs, 97 ≤ c ∧ c ≤ 122) ∧ n ≤ n1 ∧ n1 ≤ n + k, ⟨[], rfl, rfl, by simp, Nat.le_refl _, Nat.le_refl _⟩, fun k d acc n1 e hI => ?_, fun acc n1 hI => ?_⟩
  · obtain ⟨cs, e1, e2, e3, e4, e5⟩ := hI
    rw [e0] at e
    obtain ⟨j, hj, hm, rfl⟩ := map_at e
    have ej := hj
    obtain ⟨h2, h3⟩ := List.getElem?_eq_some_iff.mp ej
    rw [List.getElem_range] at h3
    subst h3
    refine step k (List.mem_range.mp hm) n1 e4 e5 _ fun v n2 hv a b => ⟨by simp, cs ++ [97 + v], by rw [e1]; simp, by simp [e2], fun c hc => ?_, by omega, by omega⟩
    rcases List.mem_append.mp hc with hc | hc
    · exact e3 c hc
    · rw [List.mem_singleton.mp hc]
      omega
  · obtain ⟨cs, e1, e2, e3, e4, e5⟩ := hI
    subst e1
    rw [len] at e2 e5
    exact q cs n1 e2 e3 e4 e5
end K45
/-! KP4 -/
set_option Elab.async false
set_option linter.all false
set_option maxRecDepth 100000
set_option maxHeartbeats 4000000
namespace K45
open PySem PySem.Spec PyProof.Rows L2
theorem sum_ones : ∀ cs : List Nat, ((cs.map fun c => (⟨#[c]⟩ : Str)).map (·.length)).sum = cs.length
  | [] => rfl
  | c :: cs => by
    have ih := sum_ones cs
    rw [List.map_cons, List.map_cons, List.sum_cons, ih, List.length_cons]
    show 1 + cs.length = cs.length + 1
    omega
def way1 (cs : List Nat) (first many : Nat) : List Str := (List.range many).map fun k => ⟨(cs.take (1 + (first + 3 * k) % 8)).toArray⟩
theorem str_len (l : List Nat) : (⟨l.toArray⟩ : Str).length = l.length := by simp [Str.length]
theorem way1_nd {cs : List Nat} (hl : cs.length = 8) {first many : Nat} (hf : first < 26) (hm : many < 8) : (way1 cs first many).Nodup := by
  refine nd_by (f := Str.length) ?_
  have e : (way1 cs first many).map Str.length = (List.range many).map fun k => 1 + (first + 3 * k) % 8 := by
    unfold way1
    rw [List.map_map]
    refine List.map_congr_left fun k _ => ?_
    show (⟨(cs.take (1 + (first + 3 * k) % 8)).toArray⟩ : Str).length = _
    rw [str_len, List.length_take, hl]
    omega
  rw [e]
  exact len_nd first hf many hm
theorem way1_ok {cs : List Nat} (hl : cs.length = 8) (hc : ∀ c ∈ cs, 97 ≤ c ∧ c ≤ 122) {first many : Nat} : ∀ x ∈ way1 cs first many, NameOk x := fun x hx => by
  obtain ⟨k, _, rfl⟩ := List.mem_map.mp hx
  refine ⟨?_, ?_, fun c h => hc c (List.mem_of_mem_take (by simpa using h))⟩
  · rw [str_len, List.length_take, hl]
    omega
  · rw [str_len, List.length_take, hl]
    omega
end K45
/-! KP5 -/
set_option Elab.async false
set_option linter.all false
set_option maxRecDepth 100000
set_option maxHeartbeats 4000000
namespace K45
open PySem PySem.Spec PyProof.Rows L2
def way2 (cs : List Nat) (at_ first many : Nat) : List Str := (List.range many).map fun k => ⟨(cs.take at_ ++ [97 + (first + 5 * k) % 26] ++ cs.drop at_).toArray⟩
theorem way2_nd {cs : List Nat} {at_ first many : Nat} (ha : at_ ≤ cs.length) (hf : first < 26) (hm : many < 8) : (way2 cs at_ first many).Nodup := by
  refine nd_by (f := fun z : Str => z.cps.toList.getD at_ 0 - 97) ?_
  have e : (way2 cs at_ first many).map (fun z : Str => z.cps.toList.getD at_ 0 - 97) = (List.range many).map fun k => (first + 5 * k) % 26 := by
    unfold way2
    rw [List.map_map]
    refine List.map_congr_left fun k _ => ?_
    show (cs.take at_ ++ [97 + (first + 5 * k) % 26] ++ cs.drop at_).getD at_ 0 - 97 = _
    have l1 : (cs.take at_).length = at_ := by rw [List.length_take]; omega
    rw [List.append_assoc, List.getD_eq_getElem?_getD, List.getElem?_append_right (by omega), l1]
    simp
  rw [e]
  exact let_nd first hf many hm
theorem way2_ok {cs : List Nat} {at_ first many : Nat} (hl : cs.length ≤ 7) (hc : ∀ c ∈ cs, 97 ≤ c ∧ c ≤ 122) : ∀ x ∈ way2 cs at_ first many, NameOk x := fun x hx => by
  obtain ⟨k, _, rfl⟩ := List.mem_map.mp hx
  have l1 : (cs.take at_ ++ [97 + (first + 5 * k) % 26] ++ cs.drop at_).length = cs.length + 1 := by
    simp only [List.length_append, List.length_take, List.length_drop, List.length_singleton]
    omega
  refine ⟨by rw [str_len, l1]; omega, by rw [str_len, l1]; omega, fun c h => ?_⟩
  have h' : c ∈ cs.take at_ ++ [97 + (first + 5 * k) % 26] ++ cs.drop at_ := by simpa using h
  rcases List.mem_append.mp h' with h2 | h2
  · rcases List.mem_append.mp h2 with h3 | h3
    · exact hc c (List.mem_of_mem_take h3)
    · rw [List.mem_singleton.mp h3]
      omega
  · exact hc c (List.mem_of_mem_drop h2)
end K45
/-! KN8 -/
set_option Elab.async false
set_option linter.all false
set_option maxRecDepth 100000
set_option maxHeartbeats 2000000
namespace K45
open PySem PySem.Spec PyProof.Rows L2
def gNames (ds : List PyData) (n : Nat) (P : PyData → Nat → Prop) : Prop := ∃ many : Nat, ds = [.int many] ∧ many ≤ 7 ∧ n + 50 < 2 ^ 60 ∧ ∀ (names : List Str) (n' : Nat), names.length = many → names.Nodup → (∀ x ∈ names, NameOk x) → n ≤ n' → n' ≤ n + 40 → P (.list (names.map .str)) n'
theorem wLc_rng {Wi : WI} {Wg : WG} {We : WE} {vs : List Nat} {r : Rv} {n many : Nat} {Q : PyData → Nat → Prop} (f : Nat → Str) (hs : ∀ A : List PyData → Nat → Prop, A (rangeD 0 ((many : Nat) : Int).toNat) n → Wi r n A) (hm : many ≤ 100)
    (h : ∀ k, k < many → ∀ P' : PyData → Nat → Prop, P' (.str (f k)) n → Wg (.int (k : Nat)) (wipeR r vs) fun r2 => We r2 n P') (q : Q (.list (((List.range many).map f).map .str)) n) : wLc Wi Wg wYes We vs r n Q := by
  have e0 : rangeD 0 ((many : Nat) : Int).toNat = (List.range many).map fun i => PyData.int ((i : Nat) : Int) := by rw [Int.toNat_natCast, range_d]
  refine wLc_map (rangeD 0 ((many : Nat) : Int).toNat) (fun d => match d with | .int k => .str (f k.toNat) | _ => .none) hs (by rw [e0]; simp; omega) (fun i d e P' q => ?_) (fun i d e => ?_) ?_
  · rw [e0] at e
    obtain ⟨j, hj, hm, rfl⟩ := map_at e
    exact h j (List.mem_range.mp hm) P' q
  · rw [e0] at e
    obtain ⟨j, hj, hm, rfl⟩ := map_at e
    simp
  · rw [e0, List.map_map]
    rw [List.map_map] at q
    exact q
theorem wLc_wi {Wi : WI} {Wg : WG} {Wt : WT} {We : WE} {vs : List Nat} {r : Rv} {n : Nat} {Q : PyData → Nat → Prop} (lim : Nat) (hs : ∀ A : List PyData → Nat → Prop, (∀ cnt n1 : Nat, cnt < lim → n ≤ n1 → n1 ≤ n + 1 → A (rangeD 0 ((cnt : Nat) : Int).toNat) n1) → Wi r n A)
    (h : ∀ cnt n1 : Nat, cnt < lim → n ≤ n1 → n1 ≤ n + 1 → wLc (fun _ n' A => A (rangeD 0 ((cnt : Nat) : Int).toNat) n') Wg Wt We vs r n1 Q) : wLc Wi Wg Wt We vs r n Q := by
  unfold wLc at h ⊢
  exact hs _ h
section
variable {P : Program} {w : World} {K : PySem.W.Frag} {mg : Str → Option Value} {base : Heap}
theorem ok_law_names {m : Addr} (T : Txt K mg) (C_law_next : Cal P w K mg base 1 "_law_next" ["_law_m", "_law_many"] (spM K (drawM K m) (.ref m) gNext)) : Cal P w K mg base 2 "_law_names" ["_law_m", "_law_many"] (spM K (drawM K m) (.ref m) gNames) := by
  obtain ⟨f, fd, F, hm⟩ := T.f_law_names
  refine okM (m := drawM K m) (a := .ref m) F sc_law_names hm (F.bindsN fun _ _ _ _ _ _ us hl => match us, hl with | [_, _], _ => rfl) rfl ?_ (by decide) (fun cdv A outer s H E hr => ?_)
  · rintro ds n Q ⟨many, rfl, _⟩
    rfl
  have hu := hr.units
  have hu1 := Nat.lt_of_le_of_lt (Nat.add_le_add_left (by decide : 1 ≤ 64) _) hu
  refine ⟨_, (dss_c (ds_set 2 sc_law_names.nd (by simp [drawM]) de_s)
      (dss_c (ds_set 3 sc_law_names.nd (by simp [drawM]) de_s)
      (dss_c (ds_asg (de_tup (da_c (de_draw (i := 0) C_law_next (MdLe.refl _) hr (by decide) (da_c de_i da_n) (List.mem_singleton.mpr rfl)) (da_c (de_draw (i := 0) C_law_next (MdLe.refl _) hr (by decide) (da_c de_i da_n) (List.mem_singleton.mpr rfl)) da_n))) (dg_t (n := 2) rfl (dgs_c (dg_n 4 sc_law_names.nd (by simp [drawM])) (dgs_c (dg_n 5 sc_law_names.nd (by simp [drawM])) dgs_n))))
      (dss_c (ds_if (dt_cmp (op_eqA hu) od_eq (de_v 4) de_i (nomark _)) (dss_1 (ds_ret (de_lc0 (m := (drawM K m)) [("_law_k", 6)] rfl sc_law_names.nd (di_r T.n_range (da_c (de_v 1) da_n)) (blkOk_by (N := ["_law_m", "_law_many", "_law_letters", "_law_own", "_law_way", "_law_first", "_law_k", "_law_base", "_law_rest", "_law_at"]) (sc := defScope s_law_names) (by decide +kernel)) (by simp [drawM]) (by decide) (fun _ _ _ _ _ => (dg_n 6 sc_law_names.nd (by simp [drawM]))) (fun _ _ _ _ _ => (de_ix ix_seq od_ix (de_split (de_v 3) de_s) (de_bin op_modN od_mod (de_bin op_addA od_add (de_v 5) (de_bin op_mul od_mul de_i (de_v 6))) de_i) (fun _ _ => rfl)))))) dss_n)
      (dss_c (ds_if (dt_cmp (op_eqA hu) od_eq (de_v 4) de_i (nomark _)) (dss_c (ds_set 7 sc_law_names.nd (by simp [drawM]) (de_join de_s (de_lc0 (m := (drawM K m)) [("_law_k", 6)] rfl sc_law_names.nd (di_r T.n_range (da_c de_i da_n)) (blkOk_by (N := ["_law_m", "_law_many", "_law_letters", "_law_own", "_law_way", "_law_first", "_law_k", "_law_base", "_law_rest", "_law_at"]) (sc := defScope s_law_names) (by decide +kernel)) (by simp [drawM]) (by decide) (fun _ _ _ _ _ => (dg_n 6 sc_law_names.nd (by simp [drawM]))) (fun _ _ _ _ _ => (de_ix ix_seq od_ix (de_v 2) (de_draw (i := 0) C_law_next (MdLe.refl _) hr (by decide) (da_c de_i da_n) (List.mem_singleton.mpr rfl)) (fun _ _ => rfl))))))
      (dss_1 (ds_ret (de_lc0 (m := (drawM K m)) [("_law_k", 6)] rfl sc_law_names.nd (di_r T.n_range (da_c (de_v 1) da_n)) (blkOk_by (N := ["_law_m", "_law_many", "_law_letters", "_law_own", "_law_way", "_law_first", "_law_k", "_law_base", "_law_rest", "_law_at"]) (sc := defScope s_law_names) (by decide +kernel)) (by simp [drawM]) (by decide) (fun _ _ _ _ _ => (dg_n 6 sc_law_names.nd (by simp [drawM]))) (fun _ _ _ _ _ => (de_sl (de_v 7) do_n (do_s (de_bin op_addA od_add de_i (de_bin op_modN od_mod (de_bin op_addA od_add (de_v 5) (de_bin op_mul od_mul de_i (de_v 6))) de_i))))))))) dss_n)
      (dss_c (ds_set 8 sc_law_names.nd (by simp [drawM]) (de_join de_s (de_lc0 (m := (drawM K m)) [("_law_k", 6)] rfl sc_law_names.nd (di_r T.n_range (da_c (de_draw (i := 0) C_law_next (MdLe.refl _) hr (by decide) (da_c de_i da_n) (List.mem_singleton.mpr rfl)) da_n)) (blkOk_by (N := ["_law_m", "_law_many", "_law_letters", "_law_own", "_law_way", "_law_first", "_law_k", "_law_base", "_law_rest", "_law_at"]) (sc := defScope s_law_names) (by decide +kernel)) (by simp [drawM]) (by decide) (fun _ _ _ _ _ => (dg_n 6 sc_law_names.nd (by simp [drawM]))) (fun _ _ _ _ _ => (de_ix ix_seq od_ix (de_v 2) (de_draw (i := 0) C_law_next (MdLe.refl _) hr (by decide) (da_c de_i da_n) (List.mem_singleton.mpr rfl)) (fun _ _ => rfl))))))
      (dss_c (ds_set 9 sc_law_names.nd (by simp [drawM]) (de_draw (i := 0) C_law_next (MdLe.refl _) hr (by decide) (da_c (de_bin op_addA od_add (de_cb call_len cd_len T.n_len (by decide +kernel) (da_c (de_v 8) da_n)) de_i) da_n) (List.mem_singleton.mpr rfl)))
      (dss_1 (ds_ret (de_lc0 (m := (drawM K m)) [("_law_k", 6)] rfl sc_law_names.nd (di_r T.n_range (da_c (de_v 1) da_n)) (blkOk_by (N := ["_law_m", "_law_many", "_law_letters", "_law_own", "_law_way", "_law_first", "_law_k", "_law_base", "_law_rest", "_law_at"]) (sc := defScope s_law_names) (by decide +kernel)) (by simp [drawM]) (by decide) (fun _ _ _ _ _ => (dg_n 6 sc_law_names.nd (by simp [drawM]))) (fun _ _ _ _ _ => (de_bin op_addA od_add (de_bin op_addA od_add (de_sl (de_v 8) do_n (do_s (de_v 9))) (de_ix ix_seq od_ix (de_v 2) (de_bin op_modN od_mod (de_bin op_addA od_add (de_v 5) (de_bin op_mul od_mul de_i (de_v 6))) de_i) (fun _ _ => rfl))) (de_sl (de_v 8) (do_s (de_v 9)) do_n))))))))))))), ?_⟩
  rintro ds n Q ⟨many, rfl, h7, hn, hq⟩
  refine ⟨3, rfl, by decide, by decide, by omega, fun way n1 hw a1 b1 => ?_⟩
  refine ⟨26, rfl, by decide, by decide, by omega, fun first n2 hf a2 b2 => ?_⟩
  refine ⟨by simp, _, rfl, rfl, _, _, rfl, _, _, rfl, rfl, ?_⟩
  refine ⟨_, rfl, _, rfl, .inl rfl, PyData.eqv (.int (way : Nat)) (.int 0), rfl, ite_b (fun hz => ?_) (fun hz => ?_)⟩
  · dsimp only [wRet]
    refine wLc_rng (fun k => w17.getD ((first + 5 * k) % 17) "in") (fun A q => ⟨_, rfl, _, rfl, ⟨by omega, by omega⟩, q⟩) (by omega) (fun k hk P' q => ?_) ?_
    · have e : (((first : Nat) : Int) + 5 * ((k : Nat) : Int)).fmod 17 = (((first + 5 * k) % 17 : Nat) : Int) := by
        rw [Int.fmod_eq_emod_of_nonneg _ (by decide)]
        omega
      have lt : (first + 5 * k) % 17 < w17.length := Nat.mod_lt _ (by decide)
      refine ⟨_, rfl, _, rfl, _, rfl, by decide, by decide, _, rfl, _, rfl, _, rfl, cmul_l (by decide) (by decide), _, rfl, trivial, _, rfl, (by decide : (17 : Int) ≠ 0), .str (w17.getD ((first + 5 * k) % 17) "in"), ?_, trivial, q⟩
      rw [own_split]
      show atI (w17.map PyData.str) ((((first : Nat) : Int) + 5 * ((k : Nat) : Int)).fmod 17) = _
      rw [e]
      refine at_n ?_
      rw [List.getElem?_map, List.getElem?_eq_getElem lt, List.getD_eq_getElem?_getD, List.getElem?_eq_getElem lt]
      rfl
    · exact hq (way0 first many) n2 (by simp [way0]) (way0_nd first hf many (by omega)) way0_ok (by omega) (by omega)
  · refine ⟨_, rfl, _, rfl, .inl rfl, PyData.eqv (.int (way : Nat)) (.int 1), rfl, ite_b (fun hy => ?_) (fun hy => ?_)⟩
    · dsimp only [wSeq, wAsg]
      refine ⟨"", rfl, wLc_let (cnt := 8) (fun A q => ⟨_, rfl, ⟨by omega, by omega⟩, q⟩) (by decide) (fun k hk n3 a3 b3 P' q => ?_) (fun cs n3 hl hc a3 b3 => ?_)⟩
      · refine ⟨_, rfl, 26, rfl, by decide, by decide, by omega, fun v n4 hv a4 b4 => ⟨.str ⟨#[97 + v]⟩, ?_, (by show _ ≤ 100000; decide +kernel), q v n4 hv a4 b4⟩⟩
        show (atI ("abcdefghijklmnopqrstuvwxyz" : Str).cps.toList ((v : Nat) : Int)).map (fun c => PyData.str ⟨#[c]⟩) = _
        rw [let_at hv]
        rfl
      · refine ⟨_, rfl, ?_, ?_⟩
        · rw [sum_ones, List.length_map, hl]
          decide +kernel
        · rw [join_cs]
          dsimp only [wRet]
          refine wLc_rng (fun k => ⟨(cs.take (1 + (first + 3 * k) % 8)).toArray⟩) (fun A q => ⟨_, rfl, _, rfl, ⟨by omega, by omega⟩, q⟩) (by omega) (fun k hk P' q => ?_) ?_
          · have e : (1 : Int) + (((first : Nat) : Int) + 3 * ((k : Nat) : Int)).fmod 8 = ((1 + (first + 3 * k) % 8 : Nat) : Int) := by
              rw [Int.fmod_eq_emod_of_nonneg _ (by decide)]
              omega
            refine ⟨_, rfl, _, rfl, _, rfl, _, rfl, cmul_l (by decide) (by decide), _, rfl, trivial, _, rfl, (by decide : (8 : Int) ≠ 0), _, rfl, trivial, _, rfl, .str ⟨(cs.take (1 + (first + 3 * k) % 8)).toArray⟩, ?_, ?_, q⟩
            · show some (PyData.str ⟨(cutL cs none (some ((1 : Int) + (((first : Nat) : Int) + 3 * ((k : Nat) : Int)).fmod 8))).toArray⟩) = _
              rw [e, cut_to]
            · show (⟨cs.toArray⟩ : Str).length ≤ 100000
              rw [str_len, hl]
              decide
          · exact hq (way1 cs first many) n3 (by simp [way1]) (way1_nd hl hf (by omega)) (way1_ok hl hc) (by omega) (by omega)
    · dsimp only [wSeq, wAsg]
      refine ⟨"", rfl, wLc_wi 8 (fun A q => ⟨8, rfl, by decide, by decide, by omega, fun v n' hv a b => ⟨_, rfl, ⟨by omega, by omega⟩, q v n' hv a b⟩⟩) fun cnt n3 hc3 a3 b3 => wLc_let (cnt := cnt) (fun A q => q) (by omega) (fun k hk n4 a4 b4 P' q => ?_) (fun cs n4 hl hc a4 b4 => ?_)⟩
      · refine ⟨_, rfl, 26, rfl, by decide, by decide, by omega, fun v n5 hv a5 b5 => ⟨.str ⟨#[97 + v]⟩, ?_, (by show _ ≤ 100000; decide +kernel), q v n5 hv a5 b5⟩⟩
        show (atI ("abcdefghijklmnopqrstuvwxyz" : Str).cps.toList ((v : Nat) : Int)).map (fun c => PyData.str ⟨#[c]⟩) = _
        rw [let_at hv]
        rfl
      · refine ⟨_, rfl, ?_, ?_⟩
        · rw [sum_ones, List.length_map, hl]
          show cnt + cnt * 0 ≤ 16777216
          omega
        · rw [join_cs]
          have sl : (⟨cs.toArray⟩ : Str).length ≤ 100000 := by rw [str_len, hl]; omega
          refine ⟨_, rfl, _, rfl, sl, _, rfl, trivial, cs.length + 1, by rw [str_len]; rfl, by omega, by omega, by omega, fun at_ n5 hat a5 b5 => ?_⟩
          dsimp only [wRet]
          refine wLc_rng (fun k => ⟨(cs.take at_ ++ [97 + (first + 5 * k) % 26] ++ cs.drop at_).toArray⟩) (fun A q => ⟨_, rfl, _, rfl, ⟨by omega, by omega⟩, q⟩) (by omega) (fun k hk P' q => ?_) ?_
          · have e : (((first : Nat) : Int) + 5 * ((k : Nat) : Int)).fmod 26 = (((first + 5 * k) % 26 : Nat) : Int) := by
              rw [Int.fmod_eq_emod_of_nonneg _ (by decide)]
              omega
            refine ⟨_, rfl, _, rfl, _, rfl, .str ⟨(cs.take at_).toArray⟩, ?_, sl, _, rfl, _, rfl, _, rfl, _, rfl, cmul_l (by decide) (by decide), _, rfl, trivial, _, rfl, (by decide : (26 : Int) ≠ 0), .str ⟨#[97 + (first + 5 * k) % 26]⟩, ?_, (by show _ ≤ 100000; decide +kernel), .str ⟨(cs.take at_ ++ [97 + (first + 5 * k) % 26]).toArray⟩, ?_, ?_, _, rfl, _, rfl, _, rfl, .str ⟨(cs.drop at_).toArray⟩, ?_, sl, .str ⟨(cs.take at_ ++ [97 + (first + 5 * k) % 26] ++ cs.drop at_).toArray⟩, ?_, ?_, q⟩
            · show some (PyData.str ⟨(cutL cs none (some ((at_ : Nat) : Int))).toArray⟩) = _
              rw [cut_to]
            · show (atI ("abcdefghijklmnopqrstuvwxyz" : Str).cps.toList ((((first : Nat) : Int) + 5 * ((k : Nat) : Int)).fmod 26)).map (fun c => PyData.str ⟨#[c]⟩) = _
              rw [e, let_at (Nat.mod_lt _ (by decide))]
              rfl
            · exact congrArg (fun z => some (PyData.str (Str.mk z))) (show (cs.take at_).toArray ++ #[97 + (first + 5 * k) % 26] = (cs.take at_ ++ [97 + (first + 5 * k) % 26]).toArray by simp)
            · show (⟨(cs.take at_).toArray⟩ : Str).length + 1 ≤ 100000
              rw [str_len, List.length_take]
              omega
            · show some (PyData.str ⟨(cutL cs (some ((at_ : Nat) : Int)) none).toArray⟩) = _
              rw [cut_from]
            · exact congrArg (fun z => some (PyData.str (Str.mk z))) (show (cs.take at_ ++ [97 + (first + 5 * k) % 26]).toArray ++ (cs.drop at_).toArray = (cs.take at_ ++ [97 + (first + 5 * k) % 26] ++ cs.drop at_).toArray by simp)
            · show (⟨(cs.take at_ ++ [97 + (first + 5 * k) % 26]).toArray⟩ : Str).length + (⟨(cs.drop at_).toArray⟩ : Str).length ≤ 100000
              rw [str_len, str_len]
              simp only [List.length_append, List.length_take, List.length_drop, List.length_singleton]
              omega
          · exact hq (way2 cs at_ first many) n5 (by simp [way2]) (way2_nd (by omega) hf (by omega)) (way2_ok (by omega) hc) (by omega) (by omega)
end
end K45
/-! KH1 -/
set_option Elab.async false
set_option linter.all false
set_option maxRecDepth 100000
set_option maxHeartbeats 4000000
/-! the mode of the hall: slots that hold lists, a dict of lists -/
namespace K45
open PySem PySem.Spec PyProof.Rows L2
abbrev RdyL := List (Str × Addr × Ws)
def rdyKv (L : RdyL) : List (Key × V) := L.map fun p => (Sum.inr p.1, V.ref p.2.1)
structure RdyS (d : Addr) (L : RdyL) (H : Hp) : Prop where
  dk : H d = some (.dK (rdyKv L))
  ls : ∀ p ∈ L, H p.2.1 = some (.lst (p.2.2.l.map V.str))
theorem RdyS.keep {d : Addr} {L : RdyL} {H H' : Hp} (h : RdyS d L H) (k : ∀ b o, (b = d ∨ ∃ p ∈ L, b = p.2.1) → H b = some o → H' b = some o) : RdyS d L H' :=
  ⟨k _ _ (.inl rfl) h.dk, fun p hp => k _ _ (.inr ⟨p, hp, rfl⟩) (h.ls p hp)⟩
theorem RdyS.up {d : Addr} {L : RdyL} {H : Hp} {l : Addr} {xs ys : List V} (h : RdyS d L H) (hl : H l = some (.lst xs)) (n : ∀ p ∈ L, p.2.1 ≠ l) : RdyS d L (upd H l (.lst ys)) :=
  h.keep fun b o hb e => by
    rcases hb with rfl | ⟨p, hp, rfl⟩
    · rw [upd_ne (fun z => by rw [z, hl] at e; cases e; have := h.dk; rw [z, hl] at this; cases this)]
      exact e
    · rw [upd_ne (n p hp)]
      exact e
structure HallS (K : PySem.W.Frag) (m : Addr) (R : List (Addr × RdyL)) (n : Nat) (H : Hp) : Prop where
  dr : DrawS K m n H
  rd : ∀ q ∈ R, RdyS q.1 q.2 H
theorem RdyS.nm {K : PySem.W.Frag} {m d : Addr} {n : Nat} {L : RdyL} {H : Hp} (h : RdyS d L H) (s : DrawS K m n H) : d ≠ m ∧ ∀ p ∈ L, p.2.1 ≠ m := by
  obtain ⟨sc, xs, k, left, h1, _⟩ := s.ex
  refine ⟨fun z => ?_, fun p hp z => ?_⟩
  · have e := h.dk
    rw [z, h1] at e
    have e2 := HO.dK.inj (Option.some.inj e)
    match L, e2 with
    | [], e2 => exact absurd (congrArg List.length e2) (by simp [rdyKv, mKv])
    | [p], e2 => exact absurd (congrArg List.length e2) (by simp [rdyKv, mKv])
    | p :: q :: L, e2 =>
      have e3 := congrArg Prod.snd (List.cons.inj (List.cons.inj e2).2).1
      cases e3
  · have e := h.ls p hp
    rw [z, h1] at e
    cases e
/-- slot 0 holds the drawing's dict, kp what else is held fast; R: what is ready -/
def hM (K : PySem.W.Frag) (m : Addr) (kp : List (Nat × V)) (R : List (Addr × RdyL)) : Md where
  out := [m]
  keep := (0, .ref m) :: kp
  S := HallS K m R
  sx := fun _ _ _ e h => ⟨h.dr.ex' e, fun q hq => (h.rd q hq).keep fun b o _ z => e b o z⟩
  sd := fun _ _ b h hb => by
    cases List.mem_singleton.mp hb
    exact h.dr.sd
  su := fun n0 H0 n H l xs ys h0 hn h hl => ⟨h.dr.up hl, fun q hq => (h.rd q hq).up hl fun p hp z => by
    have := (h0.rd q hq).ls p hp
    rw [z, hn] at this
    cases this⟩
theorem hM_le {K : PySem.W.Frag} {m : Addr} {kp : List (Nat × V)} {R : List (Addr × RdyL)} : MdLe (drawM K m) (hM K m kp R) :=
  ⟨fun _ _ h => h.dr, fun n n' H H' h x h' => ⟨h', fun q hq => (h.rd q hq).keep fun b o hb e => by
    have nm := (h.rd q hq).nm h.dr
    refine x b o (fun z => ?_) (fun z => by cases z) e
    have z := List.mem_singleton.mp z
    rcases hb with rfl | ⟨p, hp, rfl⟩
    · exact nm.1 z
    · exact nm.2 p hp z⟩, fun _ h => h, fun h => h⟩
theorem hM_mem {K : PySem.W.Frag} {m : Addr} {kp : List (Nat × V)} {R : List (Addr × RdyL)} : (0, V.ref m) ∈ (hM K m kp R).keep := List.mem_cons_self
theorem HallS.up {K : PySem.W.Frag} {m : Addr} {R : List (Addr × RdyL)} {n : Nat} {H : Hp} {l : Addr} {xs ys : List V} (h : HallS K m R n H) (hl : H l = some (.lst xs)) (hn : ∀ q ∈ R, ∀ p ∈ q.2, p.2.1 ≠ l) : HallS K m R n (upd H l (.lst ys)) :=
  ⟨h.dr.up hl, fun q hq => (h.rd q hq).up hl (hn q hq)⟩
section
variable {K : PySem.W.Frag} {m : Md} {n : Nat} {H : Hp} {s : L2.St} {r : Rv}
/-- other slots are held fast, more is known of the state -/
theorem Rst.mode {m' : Md} (R : Rst K m s H r n) (hk : ∀ p ∈ m'.keep, s[p.1]? = some (some p.2)) (hS : m'.S n H) : Rst K m' s H r n := ⟨R.dat, R.len, hk, hS⟩
theorem Rst.lst (R : Rst K m s H r n) {i : Nat} {ds : List PyData} (h : r[i]? = some (some (.list ds))) : ∃ a xs, s[i]? = some (some (.ref a)) ∧ H a = some (.lst xs) ∧ DqA K H xs ds := by
  obtain ⟨v, h1, h2⟩ := R.dat i _ h
  cases h2 with
  | @lst a xs _ hp ha => exact ⟨a, xs, h1, hp, ha⟩
theorem Rst.lstK (R : Rst K m s H r n) {i : Nat} {a : Addr} {ds : List PyData} (h : r[i]? = some (some (.list ds))) (hk : (i, V.ref a) ∈ m.keep) : ∃ xs, H a = some (.lst xs) ∧ DqA K H xs ds := by
  obtain ⟨b, xs, h1, h2, h3⟩ := R.lst h
  have e := R.kp _ hk
  have e2 : some (some (V.ref b)) = some (some (V.ref a)) := h1.symm.trans e
  cases e2
  exact ⟨xs, h2, h3⟩
/-- the list of a slot is written; all other lists that slots hold are elsewhere -/
theorem Rst.app (R : Rst K m s H r n) {i : Nat} {a : Addr} {ds : List PyData} {v : V} {d : PyData} (hi : (i, V.ref a) ∈ m.keep) (hr : r[i]? = some (some (.list ds))) (ht : tupDs ds = true) (hv : Dq K H v d) (hd : tupD d = true)
    (ho : ∀ (j : Nat) (dj : PyData), j ≠ i → r[j]? = some (some dj) → tupD dj = true ∨ ∃ b ys, (j, V.ref b) ∈ m.keep ∧ b ≠ a ∧ dj = .list ys ∧ tupDs ys = true) (hS : ∀ xs, H a = some (.lst xs) → m.S n (upd H a (.lst (xs ++ [v])))) :
    ∃ xs, H a = some (.lst xs) ∧ xs.length = ds.length ∧ Rst K m s (upd H a (.lst (xs ++ [v]))) (r.set i (some (.list (ds ++ [d])))) n := by
  obtain ⟨xs, hx, hq⟩ := R.lstK hr hi
  refine ⟨xs, hx, da_len hq, fun j e q => ?_, by rw [List.length_set, R.len], R.kp, hS xs hx⟩
  by_cases hj : i = j
  · subst hj
    have hl : i < r.length := (List.getElem?_eq_some_iff.mp hr).1
    rw [List.getElem?_set_self hl] at q
    have e2 := Option.some.inj (Option.some.inj q)
    subst e2
    refine ⟨.ref a, R.kp _ hi, .lst upd_same ?_⟩
    exact da_upd hx (by rw [tupDs_app, ht]; simp [tupDs, hd]) (da_app hq (.cons hv .nil))
  · rw [List.getElem?_set_ne hj] at q
    obtain ⟨u, h1, h2⟩ := R.dat j e q
    rcases ho j e (Ne.symm hj) q with z | ⟨b, ys, z1, z2, rfl, z3⟩
    · exact ⟨u, h1, dq_upd hx z h2⟩
    · obtain ⟨zs, hz, hw⟩ := R.lstK q z1
      have e := R.kp _ z1
      exact ⟨.ref b, e, .lst (by rw [upd_ne z2]; exact hz) (da_upd hx z3 hw)⟩
end
/-- xs.append(e), where e draws -/
theorem app_h {K : PySem.W.Frag} {m : Md} {We : WE} {te : TE} {D : Ends} {σ : L2.St} {H : Hp} {a : Addr} {i n : Nat} {xs : List V} {r : Rv} {P : PyData → Nat → Prop} (hs : σ[i]? = some (some (.ref a))) (he : ∀ Q, tW K m We σ H Q → te σ H Q) (R : Rst K m σ H r n) (w : We r n P) (ha : H a = some (.lst xs)) (hl : xs.length < 100000)
    (k : ∀ v H' d n', Xt m H H' → m.S n' H' → Dq K H' v d → P d n' → D.nx σ (upd H' a (.lst (xs ++ [v])))) : tDrop (tBM K "list" rAppend (tVar i) (tCons te tNil)) D σ H :=
  ⟨_, hs, .inl ⟨rfl, xs, SqL.of ha⟩, he _ ⟨r, n, P, R, w, fun v H' d n' x s hd p => ⟨a, xs, v, rfl, rfl, xt_m R.st x ha, Evl.sz_lt hl, k v H' d n' x s hd p⟩⟩⟩
/-- for .. in a list -/
theorem for_h {K : PySem.W.Frag} {m : Md} {We : WE} {te : TE} {g : TG} {tb : TS} {D : Ends} {σ : L2.St} {H : Hp} {n : Nat} {r : Rv} {P : PyData → Nat → Prop} (he : ∀ Q, tW K m We σ H Q → te σ H Q) (R : Rst K m σ H r n) (w : We r n P)
    (k : ∀ a H' d n', Xt m H H' → m.S n' H' → P d n' → Dq K H' (.ref a) d → ∃ xs, H' a = some (.lst xs) ∧ ∃ Pv : Nat → L2.St → Hp → Prop, Pv 0 σ H' ∧ (∀ i σ H, Pv i σ H → SqL K H a xs) ∧
      (∀ i x σ H, xs[i]? = some x → Pv i σ H → g x σ H fun σ2 H2 => tb { D with nx := Pv (i + 1), ct := Pv (i + 1), bk := D.nx } σ2 H2) ∧ ∀ σ H, Pv xs.length σ H → D.nx σ H) (hL : ∀ d n', P d n' → ∃ ds, d = .list ds) : tFor (iList K te) g tb D σ H :=
  he _ ⟨r, n, P, R, w, fun v H' d n' x s hd p => by
    obtain ⟨ds, rfl⟩ := hL d n' p
    cases hd with
    | @lst a ys _ hp ha =>
      obtain ⟨xs, hx, Pv, h0, hG, hs, hf⟩ := k a H' _ n' x s p (.lst hp ha)
      exact ⟨a, rfl, ⟨xs, SqL.of hx⟩, for_it walk_list Pv h0 (fun i σ H _ => hG i σ H) (fun i v σ H H2 hi q y => by
        obtain ⟨e1, e2⟩ := y
        subst e1
        exact hs i v σ _ e2 q) hf⟩⟩
end K45
/-! KH2 -/
set_option Elab.async false
set_option linter.all false
set_option maxRecDepth 100000
set_option maxHeartbeats 4000000
/-! rules the hall wants: int(truth), list * number, what is ready, xs[::-1], list(dict) -/
namespace K45
open PySem PySem.Spec PyProof.Rows L2
theorem cd_int1 {K : PySem.W.Frag} : CallD K (fun xs H Q => (∃ i, xs = [.int i] ∧ Q (.int i) H) ∨ ∃ k, xs = [.bl k] ∧ Q (.int (if k then 1 else 0)) H) intOfF okC := fun H xs ds d Q h e hc k => by
  match xs, ds, h, e with
  | [x], [.int i], .cons h .nil, e =>
    cases h
    cases e
    exact .inl ⟨i, rfl, k _ H (Ex.refl H) (.int i)⟩
  | [x], [.bool b], .cons h .nil, e =>
    cases h
    cases e
    exact .inr ⟨b, rfl, k _ H (Ex.refl H) (.int _)⟩
  | [], [], .nil, e => cases e
  | x :: y :: vs, d1 :: d2 :: ds, .cons _ (.cons _ _), e => simp [intOfF] at e
@[simp] def repF : PyData → PyData → Option PyData
  | .list ds, .int k => some (.list (List.replicate k.toNat ds).flatten)
  | _, _ => none
@[simp] def repC : PyData → PyData → Prop
  | .list ds, .int k => -(2 ^ 63) ≤ k ∧ k < 2 ^ 63 ∧ ds.length * k.toNat ≤ 100000
  | _, _ => True
theorem da_rep {K : PySem.W.Frag} {H : Hp} {xs : List V} {ds : List PyData} (h : DqA K H xs ds) : ∀ k : Nat, DqA K H (List.replicate k xs).flatten (List.replicate k ds).flatten
  | 0 => .nil
  | k + 1 => by
    rw [List.replicate_succ, List.replicate_succ, List.flatten_cons, List.flatten_cons]
    exact da_app h (da_rep h k)
theorem od_rep {K : PySem.W.Frag} : OpD K rRep repF repC := fun H x y a b d Q hx hy e hc k => by
  cases hx with
  | @lst p xs ds hp ha =>
    cases hy with
    | int j =>
      cases e
      obtain ⟨c1, c2, c3⟩ := hc
      exact ⟨p, j, xs, rfl, rfl, hp, c1, c2, Evl.sz_of (by rw [da_len ha]; exact c3), fun z hz => k _ _ (Ex.new hz) (.lst upd_same (da_ex (Ex.new hz) (da_rep ha _)))⟩
    | _ => cases e
  | _ => cases hy <;> cases e
section
variable {X : Cx} {m : Md} {e : Expr} {We : WE} {k : Nat} {p1 p2 p3 pos : Pos}
@[simp] def wRev (We : WE) : WE := fun r n P => We r n fun d n1 => ∃ ds, d = .list ds ∧ P (.list ds.reverse) n1
theorem de_rev (he : DE X m e We) : DE X m (.Subscript e (.Slice none none (some (.UnaryOp .USub (.Constant (.int 1) k p1) p2)) p3) pos) (wRev We) :=
  pe_by (pe_revL he) fun s H Q ⟨r, n, P, R, w, kk⟩ => ⟨r, n, _, R, w, fun v H1 d n1 x1 s1 h1 ⟨ds, ed, p⟩ => by
    subst ed
    cases h1 with
    | @lst a xs _ hp ha => exact ⟨a, xs, rfl, SqL.of hp, fun q hq => kk _ _ _ n1 (x1.trans (.of (Ex.new hq))) (m.sx _ _ _ (Ex.new hq) s1) (.lst upd_same (da_ex (Ex.new hq) (da_rev ha))) p⟩⟩
end
/-- the words ready at a name -/
def rdyAt (L : RdyL) (t : Str) : Option Ws := (L.find? fun p => p.1 == t).map fun p => p.2.2
theorem rdy_get : ∀ {L : RdyL} {t : Str} {w : Ws}, rdyAt L t = some w → ∃ a, (t, a, w) ∈ L ∧ valV (rdyKv L) (Sum.inr t) = some (.ref a)
  | [], t, w, h => by cases h
  | p :: L, t, w, h => by
    unfold rdyAt at h
    rw [List.find?_cons] at h
    by_cases e : p.1 = t
    · rw [show (p.1 == t) = true by simpa using e] at h
      have h2 : p.2.2 = w := Option.some.inj h
      refine ⟨p.2.1, ?_, ?_⟩
      · rw [← h2, ← e]
        exact List.mem_cons_self
      · exact valV_pos (congrArg Sum.inr e)
    · rw [show (p.1 == t) = false by simpa using e] at h
      obtain ⟨a, h1, h2⟩ := rdy_get (L := L) (t := t) (w := w) h
      refine ⟨a, List.mem_cons_of_mem _ h1, ?_⟩
      show valV ((Sum.inr p.1, V.ref p.2.1) :: rdyKv L) (Sum.inr t) = _
      rw [valV_neg (fun z => e (Sum.inr.inj z))]
      exact h2
section
variable {K : PySem.W.Frag} {X : Cx} {m d : Addr} {kp : List (Nat × V)} {L : RdyL} {x y : Str} {px py pos : Pos}
/-- ready[target] -/
theorem de_rdy (i j : Nat) (hu : X.A.units + 1 < cLine) (hk : (i, V.ref d) ∈ kp) (hN : X.N[i]? = some x := by rfl) (hv : Vis X.env.scope x := by first | exact Or.inl rfl | exact Or.inr (Or.inl rfl) | exact Or.inr (Or.inr rfl)) (hd : (x == ("__debug__" : Str)) = false := by decide) (hc : (x == ("__classdict__" : Str)) = false := by decide)
    (hN2 : X.N[j]? = some y := by rfl) (hv2 : Vis X.env.scope y := by first | exact Or.inl rfl | exact Or.inr (Or.inl rfl) | exact Or.inr (Or.inr rfl)) (hd2 : (y == ("__debug__" : Str)) = false := by decide) (hc2 : (y == ("__classdict__" : Str)) = false := by decide) :
    DE X (hM X.K m kp [(d, L)]) (.Subscript (.Name x px) (.Name y py) pos) (fun r n P => ∃ t w, r[j]? = some (some (.str t)) ∧ rdyAt L t = some w ∧ P (.list (w.l.map .str)) n) :=
  pe_by (pe_dget hu (pe_var hN hv hd hc) (pe_var hN2 hv2 hd2 hc2) (by intro _ _; rfl)) fun s H Q ⟨r, n, P, R, ⟨t, w, h1, h2, p⟩, kk⟩ => by
    obtain ⟨v, e1, e2⟩ := R.dat j _ h1
    cases e2
    have rd := R.st.rd (d, L) (List.mem_singleton.mpr rfl)
    obtain ⟨a, q1, q2⟩ := rdy_get h2
    refine ⟨.ref d, R.kp _ (List.mem_cons_of_mem _ hk), .str t, e1, d, .ref a, rfl, q2 ▸ DGet.k (k := Sum.inr t) rd.dk, ?_⟩
    exact kk _ H _ n (Xt.refl _ H) R.st (.lst (rd.ls _ q1) (strs_da _)) p
end
end K45
/-! KH3 -/
set_option Elab.async false
set_option linter.all false
set_option maxRecDepth 100000
set_option maxHeartbeats 4000000
/-! plain: a hall that grows is a hall -/
namespace K45
open PySem PySem.Spec PyProof.Rows L2
def due (w : Ws) (e : Entry) : Bool := e.on && (if e.i.edge then (e.fresh.and w).any else (e.i.asked.and w).any)
theorem due_eq {h : Hall} {e : Entry} (ok : e.Ok) : due (soW h e.i.target) e = dueB h e := by
  unfold due dueB dueW
  have s := ok.sub
  generalize soW h e.i.target = w
  obtain ⟨i, on, f⟩ := e
  obtain ⟨t, a, ed, o, al⟩ := i
  obtain ⟨a1, a2, a3⟩ := a
  obtain ⟨f1, f2, f3⟩ := f
  obtain ⟨w1, w2, w3⟩ := w
  have s1 : (f1 && a1) = f1 := congrArg Ws.i s
  have s2 : (f2 && a2) = f2 := congrArg Ws.o s
  have s3 : (f3 && a3) = f3 := congrArg Ws.g s
  simp only [Ws.and, Ws.any]
  cases ed
  · simp only [Bool.false_eq_true, if_false]
    simp only [Bool.and_comm]
  · simp only [if_true]
    revert s1 s2 s3
    cases a1 <;> cases a2 <;> cases a3 <;> cases f1 <;> cases f2 <;> cases f3 <;> simp <;> cases w1 <;> cases w2 <;> cases w3 <;> simp
def inW (s : SetD) : Ws := ⟨!s.row.isEmpty, false, false⟩
def wordsAt (ps : List Pipe) (ss : List SetD) : List (Str × Ws) := ps.map (fun p => (p.name, pipeW p)) ++ ss.map fun s => (s.name, inW s)
def keysOf (ps : List Pipe) (ss : List SetD) : List Str := ps.map Pipe.name ++ ss.map SetD.name
theorem keys_words (ps : List Pipe) (ss : List SetD) : (wordsAt ps ss).map (·.1) = keysOf ps ss := by simp [wordsAt, keysOf, Function.comp_def]
def wLk (W : List (Str × Ws)) (t : Str) : Option Ws := (W.find? fun p => p.1 == t).map (·.2)
def wOf (W : List (Str × Ws)) (t : Str) : Ws := (wLk W t).getD Ws.no
theorem wLk_mem {W : List (Str × Ws)} {t : Str} (h : t ∈ W.map (·.1)) : wLk W t = some (wOf W t) := by
  unfold wOf
  cases e : wLk W t with
  | some w => rfl
  | none =>
    unfold wLk at e
    rw [Option.map_eq_none_iff, List.find?_eq_none] at e
    obtain ⟨p, hp, rfl⟩ := List.mem_map.mp h
    exact absurd (by simp) (e p hp)
theorem wLk_nd : ∀ {W : List (Str × Ws)}, (W.map (·.1)).Nodup → ∀ {t : Str} {w : Ws}, (t, w) ∈ W → wLk W t = some w
  | [], _, _, _, h => by cases h
  | p :: W, nd, t, w, h => by
    rw [List.map_cons, List.nodup_cons] at nd
    unfold wLk
    rw [List.find?_cons]
    rcases List.mem_cons.mp h with e | h
    · subst e
      simp
    · have e : (p.1 == t) = false := by
        simp only [beq_eq_false_iff_ne]
        exact fun z => nd.1 (z ▸ List.mem_map.mpr ⟨_, h, rfl⟩)
      rw [e]
      exact wLk_nd nd.2 h
theorem wOf_nd {W : List (Str × Ws)} (nd : (W.map (·.1)).Nodup) {t : Str} {w : Ws} (h : (t, w) ∈ W) : wOf W t = w := by
  unfold wOf
  rw [wLk_nd nd h]
  rfl
/-- what is told at a name that stands ahead -/
theorem wOf_so {ps : List Pipe} {ss : List SetD} {k : Nat} (nd : (keysOf ps ss).Nodup) {t : Str} (h : t ∈ keysOf ps (ss.take k)) : wOf (wordsAt ps (ss.take k)) t = soW ⟨ps, ss⟩ t := by
  have ndp : (ps.map Pipe.name).Nodup := (List.nodup_append.mp nd).1
  have nds : (ss.map SetD.name).Nodup := (List.nodup_append.mp nd).2.1
  have dis := (List.nodup_append.mp nd).2.2
  have sub : (keysOf ps (ss.take k)).Nodup := by
    unfold keysOf
    refine nd.sublist ?_
    exact (List.Sublist.refl _).append ((List.take_sublist _ _).map _)
  have ndw : ((wordsAt ps (ss.take k)).map (·.1)).Nodup := by rw [keys_words]; exact sub
  unfold soW
  rcases List.mem_append.mp h with hp | hs
  · obtain ⟨p, hp2, rfl⟩ := List.mem_map.mp hp
    have e : ps.find? (fun q => q.name == p.name) = some p := find_nd (f := Pipe.name) ndp hp2
    rw [wOf_nd ndw (w := pipeW p) (List.mem_append_left _ (List.mem_map.mpr ⟨p, hp2, rfl⟩))]
    simp only [e]
  · obtain ⟨s, hs1, rfl⟩ := List.mem_map.mp hs
    have hs2 : s ∈ ss := List.mem_of_mem_take hs1
    have e : ps.find? (fun q => q.name == s.name) = none := by
      rw [List.find?_eq_none]
      intro p hp
      simp only [beq_iff_eq]
      exact fun z => dis _ (List.mem_map_of_mem hp) _ (List.mem_map_of_mem hs2) z
    rw [wOf_nd ndw (w := inW s) (List.mem_append_right _ (List.mem_map.mpr ⟨s, hs1, rfl⟩))]
    simp only [e]
    have e2 : (ss.any fun u => u.name == s.name && !u.row.isEmpty) = !s.row.isEmpty := by
      cases q : !s.row.isEmpty with
      | true =>
        rw [List.any_eq_true]
        exact ⟨s, hs2, by simp [q]⟩
      | false =>
        rw [List.any_eq_false]
        intro u hu
        by_cases z : u.name = s.name
        · have f1 := find_nd (f := SetD.name) nds hu
          have f2 := find_nd (f := SetD.name) nds hs2
          rw [z] at f1
          have : u = s := Option.some.inj (f1.symm.trans f2)
          subst this
          simp [q]
        · simp [z]
    rw [e2]
    rfl
/-- what is drawn so far -/
structure Grow (names : List Str) (ps : List Pipe) (ss : List SetD) : Prop where
  pn : ps.map Pipe.name = names.take ps.length
  p3 : ps.length ≤ 3
  po : ∀ p ∈ ps, p.Ok
  sn : ss.map SetD.name = (names.drop 3).take ss.length
  s4 : ss.length ≤ 4
  so : ∀ s ∈ ss, s.Ok
  web : ∀ (k : Nat) (s : SetD), ss[k]? = some s → ∀ e ∈ s.es, e.i.target ∈ keysOf ps (ss.take k) ∧ (e.i.target ∈ names.drop 3 → e.i.asked = ⟨true, false, false⟩)
  row : ∀ (k : Nat) (s : SetD), ss[k]? = some s → s.row.Perm ((s.es.filter fun e => due (wOf (wordsAt ps (ss.take k)) e.i.target) e).map fun e => e.i.target)
theorem Grow.nd {names : List Str} {ps : List Pipe} {ss : List SetD} (g : Grow names ps ss) (nd : names.Nodup) : (keysOf ps ss).Nodup := by
  unfold keysOf
  rw [g.pn, g.sn]
  have e : (names.take 3 ++ names.drop 3).Nodup := by rw [List.take_append_drop]; exact nd
  refine e.sublist (List.Sublist.append ?_ (List.take_sublist _ _))
  have := g.p3
  rw [show names.take ps.length = (names.take 3).take ps.length by rw [List.take_take, Nat.min_eq_left this]]
  exact List.take_sublist _ _
theorem Grow.ok {names : List Str} {ps : List Pipe} {ss : List SetD} (g : Grow names ps ss) (nd : names.Nodup) : Hall.Ok ⟨ps, ss⟩ := by
  have n := g.nd nd
  refine ⟨by have := g.p3; show ps.length ≤ 4; omega, g.s4, g.po, g.so, n, fun k s hs e he => ?_, fun s hs => ?_⟩
  · obtain ⟨a, b⟩ := g.web k s hs e he
    refine ⟨a, fun z => b ?_⟩
    have z : e.i.target ∈ ss.map SetD.name := z
    rw [g.sn] at z
    exact List.mem_of_mem_take z
  · obtain ⟨k, hk⟩ := List.mem_iff_getElem?.mp hs
    have p := g.row k s hk
    unfold dueT
    have e : (s.es.filter fun e => due (wOf (wordsAt ps (ss.take k)) e.i.target) e) = s.es.filter fun e => dueB ⟨ps, ss⟩ e := by
      refine List.filter_congr fun e he => ?_
      rw [wOf_so n (g.web k s hk e he).1, due_eq ((g.so s hs).es e he)]
    rw [e] at p
    exact p
/-- what is drawn of a set so far: j targets are asked -/
structure Ent (names keys : List Str) (W : List (Str × Ws)) (j : Nat) (es : List Entry) (row : List Str) : Prop where
  tg : (es.map fun e => e.i.target).Sublist (keys.take j)
  ok : ∀ e ∈ es, e.Ok
  inn : ∀ e ∈ es, e.i.target ∈ names.drop 3 → e.i.asked = ⟨true, false, false⟩
  row : row = (es.filter fun e => due (wOf W e.i.target) e).map fun e => e.i.target
theorem Ent.nil {names keys : List Str} {W : List (Str × Ws)} : Ent names keys W 0 [] [] := ⟨by simp, by simp, by simp, rfl⟩
theorem Ent.skip {names keys : List Str} {W : List (Str × Ws)} {j : Nat} {es : List Entry} {row : List Str} (h : Ent names keys W j es row) : Ent names keys W (j + 1) es row :=
  ⟨h.tg.trans (by rw [show keys.take j = (keys.take (j + 1)).take j by rw [List.take_take, Nat.min_eq_left (Nat.le_succ _)]]; exact List.take_sublist _ _), h.ok, h.inn, h.row⟩
theorem Ent.add {names keys : List Str} {W : List (Str × Ws)} {j : Nat} {es : List Entry} {row : List Str} (h : Ent names keys W j es row) {e : Entry} (ht : keys[j]? = some e.i.target) (ok : e.Ok) (hi : e.i.target ∈ names.drop 3 → e.i.asked = ⟨true, false, false⟩) :
    Ent names keys W (j + 1) (es ++ [e]) (row ++ if due (wOf W e.i.target) e = true then [e.i.target] else []) := by
  refine ⟨?_, fun u hu => ?_, fun u hu => ?_, ?_⟩
  · rw [List.map_append, take_succ_some ht]
    exact h.tg.append (List.Sublist.refl _)
  · rcases List.mem_append.mp hu with hu | hu
    · exact h.ok u hu
    · rw [List.mem_singleton.mp hu]
      exact ok
  · rcases List.mem_append.mp hu with hu | hu
    · exact h.inn u hu
    · rw [List.mem_singleton.mp hu]
      exact hi
  · rw [List.filter_append, List.map_append, ← h.row]
    cases q : due (wOf W e.i.target) e <;> simp [q]
theorem Ent.set {names keys : List Str} {W : List (Str × Ws)} {j : Nat} {es : List Entry} {row row' : List Str} (h : Ent names keys W j es row) {nm : Str} (hn : NameOk nm) (nd : keys.Nodup) (hk : keys.length ≤ 6) (hr : row'.Perm row) : SetD.Ok ⟨nm, es, row'⟩ := by
  have sub : (es.map fun e => e.i.target).Sublist keys := h.tg.trans (List.take_sublist _ _)
  have ndt : (es.map fun e => e.i.target).Nodup := nd.sublist sub
  have rs : row.Sublist (es.map fun e => e.i.target) := by rw [h.row]; exact (List.filter_sublist).map _
  refine ⟨hn, ?_, h.ok, ndt, hr.nodup_iff.mpr (ndt.sublist rs), fun x hx => rs.subset (hr.subset hx)⟩
  have := sub.length_le
  rw [List.length_map] at this
  exact Nat.le_trans this hk
theorem Grow.push {names : List Str} {ps : List Pipe} {ss : List SetD} (g : Grow names ps ss) {nm : Str} {es : List Entry} {row row' : List Str} (hn : (names.drop 3)[ss.length]? = some nm) (hs : SetD.Ok ⟨nm, es, row'⟩) (h4 : ss.length < 4) (h : Ent names (keysOf ps ss) (wordsAt ps ss) (keysOf ps ss).length es row) (hr : row'.Perm row) :
    Grow names ps (ss ++ [SetD.mk nm es row']) := by
  have old : ∀ {k : Nat} {s : SetD}, (ss ++ [SetD.mk nm es row'])[k]? = some s → (ss[k]? = some s ∧ (ss ++ [SetD.mk nm es row']).take k = ss.take k) ∨ (s = SetD.mk nm es row' ∧ (ss ++ [SetD.mk nm es row']).take k = ss) := fun {k s} e => by
    by_cases lt : k < ss.length
    · rw [List.getElem?_append_left lt] at e
      exact .inl ⟨e, List.take_append_of_le_length (by omega)⟩
    · have lt2 := (List.getElem?_eq_some_iff.mp e).1
      rw [List.length_append, List.length_singleton] at lt2
      have ek : k = ss.length := by omega
      subst ek
      rw [List.getElem?_append_right (Nat.le_refl _), Nat.sub_self] at e
      exact .inr ⟨(Option.some.inj e).symm, by simp⟩
  refine ⟨g.pn, g.p3, g.po, ?_, by rw [List.length_append]; show ss.length + 1 ≤ 4; omega, fun s hs' => ?_, fun k s e u hu => ?_, fun k s e => ?_⟩
  · rw [List.map_append, List.length_append, g.sn]
    show _ = (names.drop 3).take (ss.length + 1)
    rw [take_succ_some hn]
    rfl
  · rcases List.mem_append.mp hs' with z | z
    · exact g.so s z
    · rw [List.mem_singleton.mp z]
      exact hs
  · rcases old e with ⟨e1, e2⟩ | ⟨rfl, e2⟩
    · rw [e2]
      exact g.web k s e1 u hu
    · rw [e2]
      refine ⟨?_, h.inn u hu⟩
      exact (h.tg.trans (List.take_sublist _ _)).subset (List.mem_map.mpr ⟨u, hu, rfl⟩)
  · rcases old e with ⟨e1, e2⟩ | ⟨rfl, e2⟩
    · rw [e2]
      exact g.row k s e1
    · rw [e2, ← h.row]
      exact hr
theorem Grow.sub {names : List Str} {ps : List Pipe} {ss : List SetD} (g : Grow names ps ss) {t : Str} (h : t ∈ keysOf ps ss) : t ∈ names := by
  rcases List.mem_append.mp h with h | h
  · rw [g.pn] at h
    exact List.mem_of_mem_take h
  · rw [g.sn] at h
    exact List.mem_of_mem_drop (List.mem_of_mem_take h)
theorem Grow.new {names : List Str} {ps : List Pipe} {ss : List SetD} (g : Grow names ps ss) (nd : names.Nodup) {nm : Str} (h : (names.drop 3)[ss.length]? = some nm) : nm ∉ keysOf ps ss := by
  intro z
  have e : (names.take 3 ++ names.drop 3).Nodup := by rw [List.take_append_drop]; exact nd
  rcases List.mem_append.mp z with z | z
  · rw [g.pn] at z
    have z2 : nm ∈ names.take 3 := by
      have := g.p3
      rw [show names.take ps.length = (names.take 3).take ps.length by rw [List.take_take, Nat.min_eq_left this]] at z
      exact List.mem_of_mem_take z
    exact (List.nodup_append.mp e).2.2 _ z2 _ (List.mem_of_getElem? h) rfl
  · rw [g.sn] at z
    exact take_not (List.nodup_append.mp e).2.1 h z
end K45
/-! KH4 -/
set_option Elab.async false
set_option linter.all false
set_option maxRecDepth 100000
set_option maxHeartbeats 4000000
/-! the hall's modes, its promise -/
namespace K45
open PySem PySem.Spec PyProof.Rows L2
structure HQ where
  an : Addr
  ap : Addr
  d : Addr
  as_ : Addr
  fa : Addr
  ra : Addr
  L : RdyL
abbrev kp1 (q : HQ) : List (Nat × V) := [(1, .ref q.an), (2, .ref q.ap)]
abbrev kp2 (q : HQ) : List (Nat × V) := [(1, .ref q.an), (2, .ref q.ap), (5, .ref q.d), (7, .ref q.as_)]
abbrev kp3 (q : HQ) : List (Nat × V) := [(1, .ref q.an), (2, .ref q.ap), (5, .ref q.d), (7, .ref q.as_), (8, .ref q.fa), (9, .ref q.ra)]
abbrev m1 (K : PySem.W.Frag) (m : Addr) (q : HQ) : Md := hM K m (kp1 q) []
abbrev m2 (K : PySem.W.Frag) (m : Addr) (q : HQ) : Md := hM K m (kp2 q) [(q.d, q.L)]
abbrev m3 (K : PySem.W.Frag) (m : Addr) (q : HQ) : Md := hM K m (kp3 q) [(q.d, q.L)]
def gLHall (ds : List PyData) (n : Nat) (P : PyData → Nat → Prop) : Prop := ds = [] ∧ n + 1000 < 2 ^ 60 ∧ ∀ (h : Hall) (n' : Nat), h.Ok → 1 ≤ h.pipes.length → n ≤ n' → n' ≤ n + 500 → P h.d n'
section
variable {P : Program} {w : World} {K : PySem.W.Frag} {mg : Str → Option Value} {base : Heap}
/-- a def that draws, by any reading -/
theorem okMT {x : Str} {st : Stmt} {N ps : List Str} {k : Nat} {m : Md} {a : V} {g : List PyData → Nat → (PyData → Nat → Prop) → Prop} {f : Addr} {fd : FuncData} (F : FnP K x st f fd) (S : FnScope N ps (defScope st)) (hm : mg x = some (.ref f)) (hb : Binds K fd ps [])
    (hl : ∀ ds n Q, g ds n Q → ds.length + 1 = ps.length)
    (W : ∀ (cdv : Value) (A : Around) (outer : List Env) (s : Shared) (H : Hp) (E : XK), Room k (A.deeper (envOfC x (defScope st) s.heap.objs.size f cdv)) →
      ∃ t, PSs (cxOf CX0 P w K mg base N x (defScope st) f cdv A outer s H E).nox (defBody st) t ∧ ∀ (vs : List V) (ds : List PyData) (n : Nat) (Pd : PyData → Nat → Prop) (H0 : Hp) (Q : VK), DqA K H0 vs ds → m.S n H0 → g ds n Pd →
        (∀ v H' d n', Xt m H0 H' → m.S n' H' → Dq K H' v d → Pd d n' → Q v H') → t { nx := fun _ H' => Q .non H', rt := Q } (L2.start N (a :: vs)) H0) : Cal P w K mg base (k + 1) x ps (spM K m a g) := by
  refine ⟨f, fd, F.ok S (fun vs H Q E h => ?_) (fun cdv A outer s H vs Q E hr h => ?_), hm, F.kp, hb⟩
  · obtain ⟨us, ds, n, Q', e, h1, _, h2, _⟩ := h
    rw [e, List.length_cons, da_len h1]
    exact hl ds n Q' h2
  · obtain ⟨us, ds, n, Q', e, h1, h3, h2, kk⟩ := h
    subst e
    obtain ⟨t, ht, hR⟩ := W cdv A outer s H E hr
    exact ⟨t, ht.nox, hR us ds n Q' H Q h1 h3 h2 kk⟩
end
section
variable {X : Cx} {tg iter a b : Expr} {scope : Scope} {own : List (Str × Nat)} {x1 : Nat} {p2 pos : Pos} {wi : TI} {Wg : WG} {Wa Wb : WE} {sl : List Nat} {ι : Type}
/-- pairs, for each item: read in modes -/
theorem pe_lcPair (mo : ι → Md) (own : List (Str × Nat)) (hc : X.calm = true) (hN : X.N.Nodup) (hi : PI X tg iter wi) (ok : BlkOk X.N X.env.scope scope own)
    (hg : ∀ (q : ι) (s : Shared) (H : Hp) (C : Addr) (cl : List (Str × Addr)) (fp : List Addr), DG (X.blk s H scope (compEnvC scope cl C X.env) fp) (mo q) tg sl Wg)
    (ha : ∀ (q : ι) (s : Shared) (H : Hp) (C : Addr) (cl : List (Str × Addr)) (fp : List Addr), DE (X.blk s H scope (compEnvC scope cl C X.env) fp) (mo q) a Wa)
    (hb : ∀ (q : ι) (s : Shared) (H : Hp) (C : Addr) (cl : List (Str × Addr)) (fp : List Addr), DE (X.blk s H scope (compEnvC scope cl C X.env) fp) (mo q) b Wb)
    (hst : ∀ (s : Shared) (H : Hp) (C : Addr) (cl : List (Str × Addr)) (fp : List Addr), starEach [a, b] (X.blk s H scope (compEnvC scope cl C X.env) fp).env = (false, eval a (X.blk s H scope (compEnvC scope cl C X.env) fp).env) :: starEach [b] (X.blk s H scope (compEnvC scope cl C X.env) fp).env := by intro _ _ _ _ _; rfl)
    (hst2 : ∀ (s : Shared) (H : Hp) (C : Addr) (cl : List (Str × Addr)) (fp : List Addr), starEach [b] (X.blk s H scope (compEnvC scope cl C X.env) fp).env = (false, eval b (X.blk s H scope (compEnvC scope cl C X.env) fp).env) :: starEach [] (X.blk s H scope (compEnvC scope cl C X.env) fp).env := by intro _ _ _ _ _; rfl)
    (hs : ∀ x, foldedSetIterable iter X.env x = pure x := by intro _; rfl) :
    PE X (.ListComp (.Tuple [a, b] x1 p2) [⟨tg, iter, [], 0⟩] scope pos) (tLc wi (fun v σ H Q => ∃ q : ι, tWG X.K (mo q) sl Wg v σ H Q) tYes (tTup (tCons (fun σ H Q => ∃ q : ι, tW X.K (mo q) Wa σ H Q) (tCons (fun σ H Q => ∃ q : ι, tW X.K (mo q) Wb σ H Q) tNil))) (own.map (·.2))) :=
  pe_lc hc hN hi ok (fun s H C cl fp => pg_ex fun q => hg q s H C cl fp) (fun _ _ _ _ _ => pts_nil)
    (fun s H C cl fp => pe_tup (pa_cons (pe_ex fun q => ha q s H C cl fp) (pa_cons (pe_ex fun q => hb q s H C cl fp) pa_nil (hst2 s H C cl fp)) (hst s H C cl fp))) hs
end
/-! the state by slots -/
abbrev onx (f : Rv → Nat → Prop) : Outs := { nx := f, rt := fun _ _ => False }
theorem meetX {K : PySem.W.Frag} {m : Md} {f : Rv → Nat → Prop} {D : Ends} {H : Hp} (h : ∀ σ' H' r' n', Xt m H H' → Rst K m σ' H' r' n' → f r' n' → D.nx σ' H') : Meets K m (onx f) D H :=
  ⟨fun σ' H' r' n' x R e => h σ' H' r' n' x R e, fun _ _ _ _ _ _ _ z => z.elim, fun _ _ _ _ _ _ z => z.elim, fun _ _ _ _ _ _ z => z.elim⟩
abbrev sd (l : List Str) : PyData := .list (l.map .str)
abbrev rP (names : List Str) (ps : List Pipe) (x3 x4 : Option PyData) : Rv := [none, some (sd names), some (.list (ps.map Pipe.d)), x3, x4, none, none, none, none, none, none, none, none, none, none, none]
abbrev rS (names : List Str) (ps : List Pipe) (ss : List SetD) (x3 : Option PyData) : Rv := [none, some (sd names), some (.list (ps.map Pipe.d)), x3, none, none, none, some (.list (ss.map SetD.d)), none, none, none, none, none, none, none, none]
abbrev rI (names : List Str) (ps : List Pipe) (ss : List SetD) (nm : Str) (es : List Entry) (row : List Str) (x10 x11 x12 x13 x14 : Option PyData) : Rv :=
  [none, some (sd names), some (.list (ps.map Pipe.d)), some (.str nm), none, none, none, some (.list (ss.map SetD.d)), some (.list (es.map Entry.d)), some (sd row), x10, x11, x12, x13, x14, none]
theorem fresh0 {K : PySem.W.Frag} {m p : Addr} {n : Nat} {H0 H : Hp} (x : Xt (drawM K m) H0 H) (s : DrawS K m n H) (h : H p = none) : H0 p = none := by
  cases e : H0 p with
  | none => rfl
  | some o =>
    have nm : p ∉ (drawM K m).out := fun z => by
      have z := List.mem_singleton.mp z
      obtain ⟨_, _, _, _, h1, _⟩ := s.ex
      rw [z, h1] at h
      cases h
    have := x p o nm (fun z => by cases z) e
    rw [h] at this
    cases this
/-- what is written is new since H0 -/
theorem xt_new {K : PySem.W.Frag} {m p : Addr} {o : HO} {H0 H : Hp} (x : Xt (drawM K m) H0 H) (h : H0 p = none) : Xt (drawM K m) H0 (upd H p o) := fun b u hb ht e => by
  rw [upd_ne (ne_of_none e h)]
  exact x b u hb ht e
theorem pipe_tup (p : Pipe) : tupD p.d = true := by
  unfold Pipe.d
  simp
theorem strs_tups (l : List Str) : tupDs (l.map .str) = true := by
  rw [tupDs_all]
  simp
theorem pipes_tups (l : List Pipe) : tupDs (l.map Pipe.d) = true := by
  rw [tupDs_all]
  simp [pipe_tup]
theorem sets_tups (l : List SetD) : tupDs (l.map SetD.d) = true := by
  rw [tupDs_all]
  simp [set_tup]
theorem entries_tups (l : List Entry) : tupDs (l.map Entry.d) = true := by
  rw [tupDs_all]
  simp [entry_tup]
theorem da_strV {K : PySem.W.Frag} {H : Hp} : ∀ {l : List Str} {vs : List V}, DqA K H vs (l.map .str) → vs = l.map V.str
  | [], vs, h => by cases h; rfl
  | s :: l, vs, h => by
    cases h with
    | cons a b =>
      cases a
      rw [da_strV b]
      rfl
theorem pipe_ne {p : Pipe} (h : p.Ok) : (pipeW p).l ≠ [] := by
  have a := h.r1
  have b := h.h0
  unfold pipeW Ws.l
  cases p.shut
  · by_cases z : p.held < p.room
    · simp [z]
    · have : 0 < p.held := by omega
      simp [this]
  · simp
theorem merge_nd : ∀ (kvs acc : List (Key × V)), ((acc ++ kvs).map (·.1)).Nodup → mergeK acc kvs = acc ++ kvs
  | [], acc, _ => by simp [mergeK]
  | p :: kvs, acc, h => by
    have e : putK acc p.1 p.2 = acc ++ [p] := by
      unfold putK
      rw [if_neg]
      rw [List.any_eq_true]
      rintro ⟨q, hq, e⟩
      rw [List.map_append, List.nodup_append] at h
      exact h.2.2 _ (List.mem_map_of_mem hq) _ (by simp) (of_decide_eq_true e)
    have ih := merge_nd kvs (acc ++ [p]) (by rw [List.append_assoc]; exact h)
    show mergeK (putK acc p.1 p.2) kvs = _
    rw [e, ih, List.append_assoc]
    rfl
theorem kp_set {σ : L2.St} {i j : Nat} {v : Option V} {w : V} (h : i ≠ j) (k : σ[j]? = some (some w)) : (σ.set i v)[j]? = some (some w) := by
  rw [List.getElem?_set_ne h]
  exact k
theorem kp_self {σ : L2.St} {i : Nat} {v : V} (h : i < σ.length) : (σ.set i (some v))[i]? = some (some v) := List.getElem?_set_self h
theorem four_rooms {v : Nat} (h : v < 4) : ∃ room : Nat, atI [PyData.int 9, .int 1, .int 2, .int 3] ((v : Nat) : Int) = some (.int (room : Nat)) ∧ 1 ≤ room ∧ room ≤ 9 := by
  match v, h with
  | 0, _ => exact ⟨9, rfl, by decide, by decide⟩
  | 1, _ => exact ⟨1, rfl, by decide, by decide⟩
  | 2, _ => exact ⟨2, rfl, by decide, by decide⟩
  | 3, _ => exact ⟨3, rfl, by decide, by decide⟩
theorem nn {k j : Nat} {dj : PyData} (e : (List.replicate k (none : Option PyData))[j]? = some (some dj)) : False := by
  have := List.eq_of_mem_replicate (List.mem_of_getElem? e)
  cases this
theorem xt_tup {m : Md} {n : Nat} {H H' : Hp} {a : Addr} {xs : List V} (hS : m.S n H) (x : Xt m H H') (h : H a = some (.tup xs)) : H' a = some (.tup xs) := x a _ (fun hb => (m.sd n H a hS hb).2.1 xs (.inl h)) (fun _ _ z => by cases z) h
theorem paired_r {α β γ : Type} {F : α → β → Prop} {G : α → γ → Prop} {f : β → γ} (h : ∀ a b, F a b → G a (f b)) : ∀ {l : List α} {k : List β}, Paired F l k → Paired G l (k.map f)
  | _, _, .nil => .nil
  | _, _, .cons a b => .cons (h _ _ a) (paired_r h b)
theorem nd_map_inj {α β : Type} {f : α → β} : ∀ {l : List α}, l.Nodup → (∀ a b, f a = f b → a = b) → (l.map f).Nodup
  | [], _, _ => by simp
  | a :: l, h, i => by
    rw [List.nodup_cons] at h
    rw [List.map_cons, List.nodup_cons]
    refine ⟨fun z => ?_, nd_map_inj h.2 i⟩
    obtain ⟨b, hb, e⟩ := List.mem_map.mp z
    exact h.1 (i _ _ e ▸ hb)
/-- [.. for .. in a slot's list] -/
theorem lc_list {K : PySem.W.Frag} {g : TG} {tt : TT} {te : TE} {vs : List Nat} {σ : L2.St} {H : Hp} {Q : VK} {i : Nat} {a : Addr} {xs : List V} (hs : σ[i]? = some (some (.ref a))) (hx : SqL K H a xs) (Pv : Addr → Nat → Hp → Prop) (h0 : ∀ D, H D = none → Pv D 0 (upd H D (.lst []))) (hG : ∀ D i H', H D = none → Pv D i H' → SqL K H' a xs)
    (step : ∀ D i x H', H D = none → xs[i]? = some x → Pv D i H' → g x (L2.wipe σ vs) H' fun σ2 H2 => L2.wipe σ2 vs = L2.wipe σ vs ∧ tt σ2 H2 fun b H3 =>
      if b = true then te σ2 H3 fun y H4 => ∃ acc, H4 D = some (.lst acc) ∧ acc.length < sizeLine ∧ Pv D (i + 1) (upd H4 D (.lst (acc ++ [y]))) else Pv D (i + 1) H3) (fin : ∀ D H', H D = none → Pv D xs.length H' → Q (.ref D) H') : tLc (iList K (tVar i)) g tt te vs σ H Q :=
  ⟨_, hs, a, rfl, ⟨xs, hx⟩, fun D hD => lc_it walk_list (Pv D) (h0 D hD) (fun i H' _ p => hG D i H' hD p) (fun i x H' H2 hi p y => by
    obtain ⟨e1, e2⟩ := y
    subst e1
    exact step D i x _ hD e2 p) (fun H' p => fin D H' hD p)⟩
theorem rdy_paired {K : PySem.W.Frag} {H : Hp} : ∀ {Ts : List Addr} {L : RdyL}, Paired (fun t (p : Str × Addr × Ws) => H t = some (.tup [.str p.1, .ref p.2.1])) Ts L → Paired (fun p (kv : Key × V) => SqT K H p [kV kv.1, kv.2]) Ts (rdyKv L)
  | _, _, .nil => .nil
  | _, _, .cons a b => .cons (SqT.of a) (rdy_paired b)
theorem four_sets {v : Nat} (h : v < 4) : ∃ c : Nat, atI [PyData.int 1, .int 2, .int 2, .int 4] ((v : Nat) : Int) = some (.int (c : Nat)) ∧ 1 ≤ c ∧ c ≤ 4 := by
  match v, h with
  | 0, _ => exact ⟨1, rfl, by decide, by decide⟩
  | 1, _ => exact ⟨2, rfl, by decide, by decide⟩
  | 2, _ => exact ⟨2, rfl, by decide, by decide⟩
  | 3, _ => exact ⟨4, rfl, by decide, by decide⟩
/-- for .. in list(d) -/
theorem for_keys {K : PySem.W.Frag} {g : TG} {tb : TS} {D : Ends} {σ : L2.St} {H : Hp} {i : Nat} {d : Addr} {L : RdyL} (hs : σ[i]? = some (some (.ref d))) (hd : H d = some (.dK (rdyKv L)))
    (k : ∀ a, H a = none → ∃ Pv : Nat → L2.St → Hp → Prop, Pv 0 σ (upd H a (.lst ((L.map (·.1)).map V.str))) ∧ (∀ i σ H, Pv i σ H → SqL K H a ((L.map (·.1)).map V.str)) ∧
      (∀ i t σ H, (L.map (·.1))[i]? = some t → Pv i σ H → g (.str t) σ H fun σ2 H2 => tb { D with nx := Pv (i + 1), ct := Pv (i + 1), bk := D.nx } σ2 H2) ∧ ∀ σ H, Pv L.length σ H → D.nx σ H) :
    tFor (iList K (tCB (fun xs H Q => ∃ (a : Addr) (kvs : List (Key × V)), xs = [.ref a] ∧ Rd H a (.dK kvs) ∧ ∀ p, H p = none → Q (.ref p) (upd H p (.lst (kvs.map fun kv => kV kv.1)))) (tCons (tVar i) tNil))) g tb D σ H :=
  ⟨_, hs, d, rdyKv L, rfl, .inl hd, fun a ha => by
    obtain ⟨Pv, h0, hG, hs, hf⟩ := k a ha
    have e : (rdyKv L).map (fun kv => kV kv.1) = (L.map (·.1)).map V.str := by
      unfold rdyKv
      rw [List.map_map, List.map_map]
      rfl
    refine ⟨a, rfl, ⟨_, SqL.of upd_same⟩, ?_⟩
    rw [e]
    refine for_it (walk_list (K := K) (a := a) (xs := (L.map (·.1)).map V.str)) Pv h0 (fun i σ H _ => hG i σ H) (fun i v σ H H2 hi q y => ?_) (fun σ H q => hf σ H ?_)
    · obtain ⟨e1, e2⟩ := y
      subst e1
      rw [List.getElem?_map] at e2
      cases h : (L.map (·.1))[i]? with
      | none =>
        rw [h] at e2
        cases e2
      | some t =>
        rw [h] at e2
        cases e2
        exact hs i t σ _ h q
    · rw [List.length_map, List.length_map] at q
      exact q⟩
theorem rdyAt_wLk : ∀ (L : RdyL) (t : Str), rdyAt L t = wLk (L.map fun p => (p.1, p.2.2)) t
  | [], t => rfl
  | p :: L, t => by
    have ih := rdyAt_wLk L t
    unfold rdyAt wLk at ih ⊢
    rw [List.map_cons, List.find?_cons, List.find?_cons]
    cases e : p.1 == t with
    | true => rfl
    | false => exact ih
theorem ws_filt (a w : Ws) : (a.l.filter fun z => decide (z ∈ w.l)).isEmpty = !(a.and w).any := by
  obtain ⟨a1, a2, a3⟩ := a
  obtain ⟨w1, w2, w3⟩ := w
  revert a1 a2 a3 w1 w2 w3
  decide +kernel
theorem strs_nilL (l : List Str) : PyData.eqv (.list (l.map .str)) (.list []) = l.isEmpty := by
  cases l <;> rfl
theorem strs_lay2 : ∀ (l : List Str), (∀ x ∈ l, PyData.strOk x = true) → SeqAt.shaped (.list (l.map .str)) = true := fun l h => by
  have : ∀ l : List Str, (∀ x ∈ l, PyData.strOk x = true) → PyData.canLayAll0 (l.map .str) = true ∧ PyData.depthAll (l.map .str) = 0 := fun l => by
    induction l with
    | nil => exact fun _ => ⟨rfl, rfl⟩
    | cons x l ih =>
      intro h
      obtain ⟨a, b⟩ := ih fun y hy => h y (List.mem_cons_of_mem _ hy)
      exact ⟨by simp [PyData.canLayAll0, PyData.canLay0, a, h x List.mem_cons_self], by simp [PyData.depthAll, PyData.depth, b]⟩
  obtain ⟨a, b⟩ := this l h
  unfold SeqAt.shaped
  simp [PyData.canLay0, PyData.depth, a, b]
theorem ws_strOk {w : Ws} : ∀ x ∈ w.l, PyData.strOk x = true := by
  obtain ⟨w1, w2, w3⟩ := w
  revert w1 w2 w3
  decide +kernel
/-- the dict of what is ready is written: data stay -/
theorem dq_updK {K : PySem.W.Frag} {H : Hp} {d : Addr} {L : RdyL} {o : HO} {v : V} {x : PyData} (h : H d = some (.dK (rdyKv L))) (ne : L ≠ []) (q : Dq K H v x) : Dq K (upd H d o) v x := by
  refine dp_keep (fun a xs e => ?_) (fun a xs e => ?_) (fun a bs e => ?_) x v q
  · rw [upd_ne (fun z => by rw [z, h] at e; cases e)]
    exact e
  · rcases e with e | e
    · refine .inl (rd_keep e fun u z => ?_)
      rw [upd_ne (fun y => by
        rw [y] at e
        rcases rd_is h e with r | ⟨_, r⟩ <;> cases r)]
      exact z
    · exact .inr e
  · rw [upd_ne (fun z => by
      rw [z, h] at e
      have e2 := HO.dK.inj (Option.some.inj e)
      cases L with
      | nil => exact ne rfl
      | cons p L =>
        cases bs with
        | nil => cases e2
        | cons b bs =>
          have e3 := congrArg Prod.snd (List.cons.inj e2).1
          cases e3)]
    exact e
theorem put_new {L : RdyL} {nm : Str} {l : Addr} {w : Ws} (h : nm ∉ L.map (·.1)) : putK (rdyKv L) (Sum.inr nm) (.ref l) = rdyKv (L ++ [(nm, l, w)]) := by
  unfold putK
  rw [if_neg]
  · simp [rdyKv]
  · rw [List.any_eq_true]
    rintro ⟨q, hq, e⟩
    obtain ⟨p, hp, rfl⟩ := List.mem_map.mp hq
    have e := of_decide_eq_true e
    exact h (List.mem_map.mpr ⟨p, hp, Sum.inr.inj e⟩)
abbrev kp4h (q : HQ) : List (Nat × V) := [(1, .ref q.an), (2, .ref q.ap), (5, .ref q.d), (7, .ref q.as_), (8, .ref q.fa)]
abbrev m4 (K : PySem.W.Frag) (m : Addr) (q : HQ) : Md := hM K m (kp4h q) [(q.d, q.L)]
theorem ints_tupD (i : Interest) : tupD i.d = true := by
  unfold Interest.d
  simp [ws_tup]
/-- y = f([.. for .. in a slot's list]) -/
theorem asg_lc {K : PySem.W.Frag} {f : List V → Hp → VK → Prop} {g : TG} {tt : TT} {te : TE} {vs : List Nat} {σ : L2.St} {D : Ends} {H : Hp} {i j : Nat} {a : Addr} {xs : List V} (hs : σ[i]? = some (some (.ref a))) (hx : SqL K H a xs) (Pv : Addr → Nat → Hp → Prop) (h0 : ∀ D, H D = none → Pv D 0 (upd H D (.lst []))) (hG : ∀ D i H', H D = none → Pv D i H' → SqL K H' a xs)
    (step : ∀ D i x H', H D = none → xs[i]? = some x → Pv D i H' → g x (L2.wipe σ vs) H' fun σ2 H2 => L2.wipe σ2 vs = L2.wipe σ vs ∧ tt σ2 H2 fun b H3 =>
      if b = true then te σ2 H3 fun y H4 => ∃ acc, H4 D = some (.lst acc) ∧ acc.length < sizeLine ∧ Pv D (i + 1) (upd H4 D (.lst (acc ++ [y]))) else Pv D (i + 1) H3) (fin : ∀ L H', H L = none → Pv L xs.length H' → f [.ref L] H' fun v H2 => D.nx (σ.set j (some v)) H2) :
    tAsg (tCB f (tCons (tLc (iList K (tVar i)) g tt te vs) tNil)) (L2.gName j) D σ H :=
  lc_list (Q := fun x H1 => f [x] H1 fun v H2 => D.nx (σ.set j (some v)) H2) hs hx Pv h0 hG step fin
theorem DrawS.updK {K : PySem.W.Frag} {m d : Addr} {n : Nat} {H : Hp} {L : RdyL} {o : HO} (s : DrawS K m n H) (h : RdyS d L H) : DrawS K m n (upd H d o) := by
  have nm := (h.nm s).1
  obtain ⟨sc, xs, k, left, h1, h2, h3⟩ := s.ex
  refine ⟨sc, xs, k, left, by rw [upd_ne (Ne.symm nm)]; exact h1, h2.keep fun u q => ?_, h3⟩
  rw [upd_ne (fun z => by rw [z, h.dk] at q; cases q)]
  exact q
/-- a new word is ready -/
theorem HallS.put {K : PySem.W.Frag} {m d l : Addr} {n : Nat} {H : Hp} {L : RdyL} {nm : Str} {w : Ws} (s : HallS K m [(d, L)] n H) (hl : H l = some (.lst (w.l.map V.str))) : HallS K m [(d, L ++ [(nm, l, w)])] n (upd H d (.dK (rdyKv (L ++ [(nm, l, w)])))) := by
  have r := s.rd (d, L) (List.mem_singleton.mpr rfl)
  refine ⟨s.dr.updK r, fun q hq => ?_⟩
  rw [List.mem_singleton.mp hq]
  refine ⟨upd_same, fun p hp => ?_⟩
  have old : ∀ {a : Addr} {xs : List V}, H a = some (.lst xs) → upd H d (.dK (rdyKv (L ++ [(nm, l, w)]))) a = some (.lst xs) := fun {a xs} e => by
    rw [upd_ne (fun z => by rw [z, r.dk] at e; cases e)]
    exact e
  rcases List.mem_append.mp hp with hp | hp
  · exact old (r.ls p hp)
  · rw [List.mem_singleton.mp hp]
    exact old hl
end K45
/-! KH5 -/
set_option Elab.async false
set_option linter.all false
set_option maxRecDepth 100000
set_option maxHeartbeats 8000000
namespace K45
open PySem PySem.Spec PyProof.Rows L2
section
variable {P : Program} {w : World} {K : PySem.W.Frag} {mg : Str → Option Value} {base : Heap}
theorem ok_law_hall {m : Addr} (T : Txt K mg) (C_law_names : Cal P w K mg base 2 "_law_names" ["_law_m", "_law_many"] (spM K (drawM K m) (.ref m) gNames)) (C_law_next : Cal P w K mg base 1 "_law_next" ["_law_m", "_law_many"] (spM K (drawM K m) (.ref m) gNext)) (C_law_so : Cal P w K mg base 1 "_law_so" ["_law_pipe"] (spD K gLawSo)) (C_law_entry : Cal P w K mg base 2 "_law_entry" ["_law_m", "_law_interest_here"] (spM K (drawM K m) (.ref m) gLEnt)) (C_law_interest : Cal P w K mg base 3 "_law_interest" ["_law_m", "_law_target", "_law_is_pipe_name"] (spM K (drawM K m) (.ref m) gLInt)) : Cal P w K mg base 4 "_law_hall" ["_law_m"] (spM K (drawM K m) (.ref m) gLHall) := by
  obtain ⟨f, fd, F, hm⟩ := T.f_law_hall
  refine okMT (m := drawM K m) (a := .ref m) F sc_law_hall hm (F.bindsN fun _ _ _ _ _ _ us hl => match us, hl with | [_], _ => rfl) ?_ (fun cdv A outer s H E hr => ?_)
  · rintro ds n Q ⟨rfl, _⟩
    rfl
  have hu := hr.units
  have hu1 := Nat.lt_of_le_of_lt (Nat.add_le_add_left (by decide : 1 ≤ 64) _) hu
  have nd := sc_law_hall.nd
  refine ⟨_, pss_cons (ds_set (m := hM K m [] []) 1 sc_law_hall.nd (by simp [hM]) (de_draw (i := 0) C_law_names hM_le hr (by decide) (da_c de_i da_n) hM_mem))
    (pss_cons (ps_set (i := 2) nd rfl (by first | exact .inl rfl | exact .inr rfl) (pe_lst pa_nil))
    (pss_cons (ps_for PassesOwn.never rfl (pi_list (pe_ex fun q : HQ => (de_sl (m := m1 K m q) (de_v 1) do_n (do_s (de_bin op_addA od_add de_i (de_draw (i := 0) C_law_next hM_le hr (by decide) (da_c de_i da_n) hM_mem)))))) (pg_ex fun q : HQ => (dg_n (m := m1 K m q) 3 sc_law_hall.nd (by simp [m1, hM])))
      (pss_cons (ps_ex fun q : HQ => (ds_set (m := m1 K m q) 4 sc_law_hall.nd (by simp [m1, hM]) (de_ix ix_seq od_ix (de_lst (da_c de_i (da_c de_i (da_c de_i (da_c de_i da_n))))) (de_draw (i := 0) C_law_next hM_le hr (by decide) (da_c de_i da_n) hM_mem) (fun _ _ => rfl))))
        (pss_one (ps_expr (pe_bm PySem.F.plainAttrs_list PySem.F.slot_list_append PySem.F.type_list_append mt_append (pe_var (i := 2) rfl (by first | exact Or.inl rfl | exact Or.inr (Or.inl rfl)) (by decide) (by decide)) (pa_cons (pe_ex fun q : HQ => (de_tup (m := m1 K m q) (da_c (de_v 3) (da_c (de_v 4) (da_c (de_draw (i := 0) C_law_next hM_le hr (by decide) (da_c (de_bin op_addA od_add (de_v 4) de_i) da_n) hM_mem) (da_c (de_cmp (op_eqA hu) od_eq (de_draw (i := 0) C_law_next hM_le hr (by decide) (da_c de_i da_n) hM_mem) de_i (nomark _)) da_n)))))) pa_nil))))))
    (pss_cons (ps_set (i := 5) nd rfl (by first | exact .inl rfl | exact .inr rfl) (pe_callTy (call_dictP rfl) rfl T.n_dict (by decide +kernel) (pa_cons (pe_lcPair (fun q => m1 K m q) [("_law_pipe", 6)] rfl nd (pi_list (pe_var (i := 2) rfl (by first | exact Or.inl rfl | exact Or.inr (Or.inl rfl)) (by decide) (by decide))) (blkOk_by (N := ["_law_m", "_law_names_here", "_law_pipes", "_law_name", "_law_room", "_law_ready", "_law_pipe", "_law_sets", "_law_found", "_law_row", "_law_target", "_law_interest_here", "_law_on", "_law_fresh", "_law_words", "_law_word"]) (sc := defScope s_law_hall) (by decide +kernel)) (fun q _ _ _ _ _ => (dg_n 6 sc_law_hall.nd (by simp [m1, hM]))) (fun q _ _ _ _ _ => (de_ix ix_seq od_ix (de_v 6) de_i (fun _ _ => rfl))) (fun q _ _ _ _ _ => (de_call C_law_so hr (by decide) (da_c (de_v 6) da_n)))) pa_nil)))
    (pss_cons (ps_set (i := 7) nd rfl (by first | exact .inl rfl | exact .inr rfl) (pe_lst pa_nil))
    (pss_cons (ps_for PassesOwn.never rfl (pi_list (pe_ex fun q : HQ => (de_sl (m := m2 K m q) (de_v 1) (do_s de_i) (do_s (de_bin op_addA od_add de_i (de_ix ix_seq od_ix (de_lst (da_c de_i (da_c de_i (da_c de_i (da_c de_i da_n))))) (de_draw (i := 0) C_law_next hM_le hr (by decide) (da_c de_i da_n) hM_mem) (fun _ _ => rfl))))))) (pg_ex fun q : HQ => (dg_n (m := m2 K m q) 3 sc_law_hall.nd (by simp [m2, hM])))
      (pss_cons (ps_par (i := 8) (j := 9) rfl nd rfl rfl (by decide) rfl rfl (pa_cons (pe_lst pa_nil) (pa_cons (pe_lst pa_nil) pa_nil)) rfl)
      (pss_cons (ps_for PassesOwn.never rfl (pi_list (pe_callTy (call_listD rfl) rfl T.n_list (by decide +kernel) (pa_cons (pe_var (i := 5) rfl (by first | exact Or.inl rfl | exact Or.inr (Or.inl rfl)) (by decide) (by decide)) pa_nil))) (pg_ex fun q : HQ => (dg_n (m := m3 K m q) 10 sc_law_hall.nd (by simp [m3, hM]))) (pss_one (ps_if (pt_ex fun q : HQ => (dt_cmp (m := m3 K m q) op_gt od_gt (de_draw (i := 0) C_law_next hM_le hr (by decide) (da_c de_i da_n) hM_mem) de_i (nomark _)))
          (pss_cons (ps_ex fun q : HQ => (ds_asg (m := m3 K m q) (de_draw (i := 0) C_law_entry hM_le hr (by decide) (da_c (de_draw (i := 0) C_law_interest hM_le hr (by decide) (da_c (de_v 10) (da_c (de_cmp op_notInA (od_in true) (de_v 10) (de_sl (de_v 1) (do_s de_i) do_n) (by rfl)) da_n)) hM_mem) da_n) hM_mem) (dg_t (n := 3) rfl (dgs_c (dg_n 11 sc_law_hall.nd (by simp [m3, hM])) (dgs_c (dg_n 12 sc_law_hall.nd (by simp [m3, hM])) (dgs_c (dg_n 13 sc_law_hall.nd (by simp [m3, hM])) dgs_n))))))
          (pss_cons (ps_expr (pe_bm PySem.F.plainAttrs_list PySem.F.slot_list_append PySem.F.type_list_append mt_append (pe_var (i := 8) rfl (by first | exact Or.inl rfl | exact Or.inr (Or.inl rfl)) (by decide) (by decide)) (pa_cons (pe_ex fun q : HQ => (de_tup (m := m3 K m q) (da_c (de_v 11) (da_c (de_v 12) (da_c (de_v 13) da_n))))) pa_nil)))
          (pss_cons (ps_ex fun q : HQ => (ds_set (m := m3 K m q) 14 sc_law_hall.nd (by simp [m3, hM]) (de_if (dt_cmp (op_eqA hu) od_eq (de_ix ix_seq od_ix (de_v 11) de_i (fun _ _ => rfl)) de_s (nomark _)) (de_v 13) (de_ix ix_seq od_ix (de_v 11) de_i (fun _ _ => rfl)))))
          (pss_one (ps_set (i := 9) nd rfl (by first | exact .inl rfl | exact .inr rfl) (pe_op op_cat (pe_var (i := 9) rfl (by first | exact Or.inl rfl | exact Or.inr (Or.inl rfl)) (by decide) (by decide)) (pe_ex fun q : HQ => (de_bin (m := m3 K m q) op_rep od_rep (de_lst (da_c (de_v 10) da_n)) (de_ct call_int1 cd_int1 T.n_int (by decide +kernel) (da_c (de_and (de_v 12) (de_one (de_cmp (op_neA hu) od_ne (de_lc1 (m := (m3 K m q)) [("_law_word", 15)] rfl sc_law_hall.nd (di_t (de_v 14)) (blkOk_by (N := ["_law_m", "_law_names_here", "_law_pipes", "_law_name", "_law_room", "_law_ready", "_law_pipe", "_law_sets", "_law_found", "_law_row", "_law_target", "_law_interest_here", "_law_on", "_law_fresh", "_law_words", "_law_word"]) (sc := defScope s_law_hall) (by decide +kernel)) (by simp [m3, hM]) (by decide) (fun _ _ _ _ _ => (dg_n 15 sc_law_hall.nd (by simp [m3, hM]))) (fun _ _ _ _ _ => (dt_cmp op_inA (od_in false) (de_v 15) (de_rdy (kp := kp3 q) (d := q.d) (L := q.L) 5 10 hu1 (by simp [kp3])) (by rfl))) (fun _ _ _ _ _ => (de_v 15))) (de_lst da_n) (nomark _)))) da_n)))))))))) pss_nil)))
      (pss_cons (ps_expr (pe_bm PySem.F.plainAttrs_list PySem.F.slot_list_append PySem.F.type_list_append mt_append (pe_var (i := 7) rfl (by first | exact Or.inl rfl | exact Or.inr (Or.inl rfl)) (by decide) (by decide)) (pa_cons (pe_ex fun q : HQ => (de_tup (m := m3 K m q) (da_c (de_v 3) (da_c (de_ct call_tuple_of cd_tuple T.n_tuple (by decide +kernel) (da_c (de_v 8) da_n)) (da_c (de_ct call_tuple_of cd_tuple T.n_tuple (by decide +kernel) (da_c (de_if (dt_cmp op_gt od_gt (de_draw (i := 0) C_law_next hM_le hr (by decide) (da_c de_i da_n) hM_mem) de_i (nomark _)) (de_v 9) (de_rev (de_v 9))) da_n)) (da_c (de_tup da_n) (da_c (de_tup da_n) da_n))))))) pa_nil)))
      (pss_one (ps_dput hu1 (pe_var (i := 5) rfl (by first | exact Or.inl rfl | exact Or.inr (Or.inl rfl)) (by decide) (by decide)) (pe_ex fun q : HQ => (de_v (m := m3 K m q) 3)) (pe_ex fun q : HQ => (de_if (m := m3 K m q) (dt_cmp (op_neA hu) od_ne (de_v 9) (de_lst da_n) (nomark _)) (de_lst (da_c de_s da_n)) (de_lst da_n))) rfl))))))
    (pss_one (ps_ret (pe_ex fun q : HQ => (de_tup (m := m2 K m q) (da_c (de_ct call_tuple_of cd_tuple T.n_tuple (by decide +kernel) (da_c (de_v 2) da_n)) (da_c (de_ct call_tuple_of cd_tuple T.n_tuple (by decide +kernel) (da_c (de_v 7) da_n)) da_n))))))))))), ?_⟩
  rintro vs ds n Pd H0 Q hv hS0 ⟨rfl, hn, hq⟩ kk
  cases hv
  have R0 : Rst K (hM K m [] []) (L2.start ["_law_m", "_law_names_here", "_law_pipes", "_law_name", "_law_room", "_law_ready", "_law_pipe", "_law_sets", "_law_found", "_law_row", "_law_target", "_law_interest_here", "_law_on", "_law_fresh", "_law_words", "_law_word"] [V.ref m]) H0 (startM ["_law_m", "_law_names_here", "_law_pipes", "_law_name", "_law_room", "_law_ready", "_law_pipe", "_law_sets", "_law_found", "_law_row", "_law_target", "_law_interest_here", "_law_on", "_law_fresh", "_law_words", "_law_word"] []) n :=
    startM_rst (m := hM K m [] []) .nil (by decide) ⟨hS0, by simp⟩ rfl
  refine seq_i ⟨_, n, onx (fun r' n' => ∃ names : List Str, names.length = 7 ∧ names.Nodup ∧ (∀ x ∈ names, NameOk x) ∧ n ≤ n' ∧ n' ≤ n + 40 ∧ r' = [none, some (sd names), none, none, none, none, none, none, none, none, none, none, none, none, none, none]), R0, ?_, meetX ?_⟩
  · exact ⟨7, rfl, by decide, by omega, fun names n1 h1 h2 h3 h4 h5 => ⟨names, h1, h2, h3, h4, h5, rfl⟩⟩
  rintro σ1 H1 r1 n1 x1 R1 ⟨names, hl, hnd, hok, a1, b1, rfl⟩
  dsimp only
  refine seq_i ⟨Nat.zero_le _, fun ap hap => ?_⟩
  obtain ⟨an, nv, k1, hn1, hd1⟩ := R1.lst (i := 1) rfl
  have f_ap : H0 ap = none := fresh0 x1 R1.st.dr hap
  have an_ap : an ≠ ap := ne_of_none hn1 hap
  obtain ⟨q1, rfl, rfl⟩ : ∃ q : HQ, q.an = an ∧ q.ap = ap := ⟨⟨an, ap, ap, ap, ap, ap, []⟩, rfl, rfl⟩
  have R2 : Rst K (m1 K m q1) (σ1.set 2 (some (V.ref q1.ap))) (upd H1 q1.ap (.lst [])) (rP names [] none none) n1 :=
    ((R1.ex (Ex.new hap)).set (i := 2) (v := .ref q1.ap) (d := .list []) (.lst upd_same .nil) (by simp [hM])).mode (m' := m1 K m q1) (fun p hp => by
      have l1 : 2 < σ1.length := by rw [R1.len]; simp
      simp only [m1, hM, kp1, List.mem_cons, List.not_mem_nil, or_false] at hp
      rcases hp with rfl | rfl | rfl
      · exact kp_set (show 2 ≠ 0 by decide) (R1.kp _ hM_mem)
      · exact kp_set (show 2 ≠ 1 by decide) k1
      · exact kp_self l1) (R1.ex (Ex.new hap)).st
  have X2 : Xt (drawM K m) H0 (upd H1 q1.ap (.lst [])) := xt_new x1 f_ap
  dsimp only
  refine seq_i (for_h (m := m1 K m q1) (P := fun d n' => ∃ c : Nat, 1 ≤ c ∧ c ≤ 3 ∧ n1 ≤ n' ∧ n' ≤ n1 + 1 ∧ d = sd (names.take c)) (fun Q z => ⟨q1, z⟩) R2 ?_ ?_ ?_)
  · refine ⟨_, rfl, 3, rfl, by decide, by decide, by omega, fun v n2 hv a2 b2 => ⟨_, rfl, trivial, _, rfl, _, rfl, trivial, 1 + v, by omega, by omega, a2, b2, ?_⟩⟩
    show PyData.list (cutL (names.map PyData.str) none (some ((1 : Int) + ((v : Nat) : Int)))) = _
    rw [show ((1 : Int) + ((v : Nat) : Int)) = ((1 + v : Nat) : Int) by omega, cut_to, ← List.map_take]
  · rintro a H3 d n3 x3 s3 ⟨c, hc1, hc3, a3, b3, rfl⟩ hd
    cases hd with
    | @lst _ xs _ hp ha =>
    have exs := da_strV ha
    have a_ap : a ≠ q1.ap := fun z => by
      have e := xt_m R2.st x3 (a := q1.ap) (xs := []) (by rw [upd_same])
      rw [← z, hp] at e
      cases e
      have := da_len ha
      simp at this
      omega
    refine ⟨xs, hp, fun i σ H => ∃ (ps : List Pipe) (n' : Nat), ps.length = i ∧ ps.map Pipe.name = names.take i ∧ (∀ p ∈ ps, p.Ok) ∧ n3 ≤ n' ∧ n' ≤ n3 + 3 * i ∧ H a = some (.lst xs) ∧ Rst K (m1 K m q1) σ H (rP names ps none none) n' ∧ Xt (drawM K m) H0 H, ?_, ?_, ?_, ?_⟩
    · exact ⟨[], n3, rfl, rfl, by simp, Nat.le_refl _, Nat.le_refl _, hp, R2.go x3 s3, X2.trans x3⟩
    · rintro i σ H ⟨ps, n', _, _, _, _, _, h, _⟩
      exact SqL.of h
    · rintro i x σ4 H4 hx ⟨ps, n4, e1, e2, e3, a4, b4, ha4, R4, X4⟩
      rw [exs, List.getElem?_map] at hx
      cases hnm : (names.take c)[i]? with
      | none =>
        rw [hnm] at hx
        cases hx
      | some nm =>
      rw [hnm] at hx
      cases hx
      have ilt : i < c := by
        have := (List.getElem?_eq_some_iff.mp hnm).1
        rw [List.length_take] at this
        omega
      have hnm2 : names[i]? = some nm := by rw [List.getElem?_take_of_lt ilt] at hnm; exact hnm
      refine ⟨q1, _, n4, .str nm, fun r' => r' = rP names ps (some (.str nm)) none, R4, .str nm, rfl, fun σ5 H5 r5 e5 R5 er _ => ?_⟩
      subst er
      refine seq_i ⟨q1, _, n4, onx (fun r' n' => ∃ room : Nat, 1 ≤ room ∧ room ≤ 9 ∧ n4 ≤ n' ∧ n' ≤ n4 + 1 ∧ r' = rP names ps (some (.str nm)) (some (.int (room : Nat)))), R5, ?_, meetX ?_⟩
      · refine ⟨by simp, 4, rfl, by decide, by decide, by omega, fun v n6 hv a6 b6 => ?_⟩
        obtain ⟨room, er, r1, r9⟩ := four_rooms hv
        exact ⟨_, er, trivial, room, r1, r9, a6, b6, rfl⟩
      rintro σ6 H6 r6 n6 x6 R6 ⟨room, r1, r9, a6, b6, rfl⟩
      dsimp only
      obtain ⟨zs, hz, hdz⟩ := R6.lstK (i := 2) (a := q1.ap) rfl (by simp [hM])
      refine app_h (m := m1 K m q1) (P := fun d n' => ∃ p : Pipe, p.Ok ∧ p.name = nm ∧ d = p.d ∧ n6 ≤ n' ∧ n' ≤ n6 + 2) (R6.kp (2, .ref q1.ap) (by simp [hM])) (fun Q z => ⟨q1, z⟩) R6 ?_ hz (by rw [da_len hdz, List.length_map]; omega) ?_
      · refine ⟨_, rfl, _, rfl, _, rfl, _, rfl, trivial, room + 1, rfl, by omega, by omega, by omega, fun held n7 hh a7 b7 => ?_⟩
        refine ⟨9, rfl, by decide, by decide, by omega, fun v n8 hv a8 b8 => ⟨_, rfl, .inl rfl, by simp, ⟨nm, (room : Nat), (held : Nat), PyData.eqv (.int ((v : Nat) : Int)) (.int 0)⟩, ⟨hok nm (List.mem_of_getElem? hnm2), ?_, ?_, ?_, ?_⟩, rfl, rfl, by omega, by omega⟩⟩
        · show (1 : Int) ≤ ((room : Nat) : Int)
          omega
        · show ((room : Nat) : Int) ≤ 9
          omega
        · show (0 : Int) ≤ ((held : Nat) : Int)
          omega
        · show ((held : Nat) : Int) ≤ ((room : Nat) : Int)
          omega
      · rintro v H7 d n7 x7 s7 hd7 ⟨p, ok, rfl, rfl, a7, b7⟩
        have R7 := R6.go x7 s7
        have X7 : Xt (drawM K m) H0 H7 := ((X4.trans (.of e5)).trans x6).trans x7
        obtain ⟨ys, hy, ly, R8⟩ := R7.app (i := 2) (a := q1.ap) (ds := ps.map Pipe.d) (v := v) (d := p.d) (by simp [hM]) rfl (pipes_tups ps) hd7 (pipe_tup p) (fun j dj hj e => by
          rcases j with _ | _ | _ | _ | _ | j
          · cases Option.some.inj e
          · cases Option.some.inj (Option.some.inj e)
            exact .inr ⟨q1.an, _, by simp [hM], an_ap, rfl, strs_tups _⟩
          · exact absurd rfl hj
          · cases Option.some.inj (Option.some.inj e)
            exact .inl (by simp)
          · cases Option.some.inj (Option.some.inj e)
            exact .inl (by simp)
          · exact (nn (k := 11) (j := j) e).elim) (fun xs hxs => R7.st.up hxs (by simp))
        have hz7 := xt_m R6.st x7 hz
        obtain rfl : ys = zs := by
          rw [hy] at hz7
          exact HO.lst.inj (Option.some.inj hz7)
        refine ⟨ps ++ [p], n7, by simp [e1], ?_, ?_, by omega, by omega, ?_, ?_, xt_new X7 f_ap⟩
        · rw [List.map_append, take_succ_some hnm2, e2]
          rfl
        · intro u hu
          rcases List.mem_append.mp hu with hu | hu
          · exact e3 u hu
          · rw [List.mem_singleton.mp hu]
            exact ok
        · rw [upd_ne a_ap]
          exact xt_m R6.st x7 (xt_m R5.st x6 (e5 _ _ ha4))
        · refine R8.le ?_
          have e : (ps ++ [p]).map Pipe.d = ps.map Pipe.d ++ [p.d] := by simp
          unfold rP
          rw [e]
          exact le_same _ (le_same _ (le_same _ (le_none _ (le_none _ (Le.refl _)))))
    · rintro σ4 H4 ⟨ps, n4, e1, e2, e3, a4, b4, ha4, R4, X4⟩
      have lxs : xs.length = c := by
        rw [exs, List.length_map, List.length_take]
        omega
      rw [lxs] at e1 b4 e2
      rw [← e1] at e2
      have b4' : n4 ≤ n + 60 := by omega
      have a4' : n ≤ n4 := by omega
      have p1 : 1 ≤ ps.length := by omega
      have p3 : ps.length ≤ 3 := by omega
      clear a4 b4 b3 a3 x3 s3 lxs
      dsimp only
      obtain ⟨zs, hz, hdz⟩ := R4.lstK (i := 2) (a := q1.ap) rfl (by simp [hM])
      refine seq_i ?_
      refine asg_lc (i := 2) (a := q1.ap) (R4.kp (2, .ref q1.ap) (by simp [hM])) (SqL.of hz) (fun D i H' => ∃ (Ts : List Addr) (L : RdyL), Ts.length = i ∧ L.map (fun p => (p.1, p.2.2)) = (ps.take i).map (fun p => (p.name, pipeW p)) ∧
        H' D = some (.lst (Ts.map V.ref)) ∧ Paired (fun t (p : Str × Addr × Ws) => H' t = some (.tup [.str p.1, .ref p.2.1])) Ts L ∧ (∀ p ∈ L, H' p.2.1 = some (.lst (p.2.2.l.map V.str)) ∧ p.2.1 ≠ D) ∧ Xt (drawM K m) H4 H' ∧ HallS K m [] n4 H') ?_ ?_ ?_ ?_
      · intro D hD
        exact ⟨[], [], rfl, rfl, upd_same, .nil, by simp, .of (Ex.new hD), (hM K m [] []).sx _ _ _ (Ex.new hD) R4.st⟩
      · rintro D i H' hD ⟨_, _, _, _, _, _, _, x, s⟩
        exact SqL.of (xt_m R4.st x hz)
      · rintro D i x H5 hD hx ⟨Ts, L, f1, f2, f3, f4, f5, X5, S5⟩
        obtain ⟨d, hd1, hdx⟩ := da_get (da_xt R4.st X5 hdz) hx
        have ilt : i < ps.length := by
          have := (List.getElem?_eq_some_iff.mp hx).1
          rw [da_len hdz, List.length_map] at this
          exact this
        obtain ⟨p, hp1, hp2, rfl⟩ := map_at hd1
        have R5 : Rst K (m1 K m q1) (L2.wipe σ4 [6]) H5 (rP names ps none none) n4 := (R4.wipe (vs := [6]) (by simp [hM])).go X5 S5
        refine ⟨q1, _, n4, p.d, fun r' => r' = (rP names ps none none).set 6 (some p.d), R5, hdx, rfl, fun σ6 H6 r6 e6 R6 er wp => ⟨(wp [6] (by simp)).trans (wipe_idem _ _), ?_⟩⟩
        subst er
        refine ⟨q1, _, n4, fun d n' => n4 = n' ∧ d = .str p.name, R6, ⟨_, rfl, _, rfl, trivial, rfl, rfl⟩, ?_⟩
        rintro v1 H7 _ _ x7 s7 hd7 ⟨rfl, rfl⟩
        refine ⟨q1, _, _, fun d n' => n4 = n' ∧ d = sd (pipeW p).l, R6.go x7 s7, ⟨_, rfl, _, ⟨p, rfl, rfl⟩, rfl, rfl⟩, ?_⟩
        rintro v2 H8 _ _ x8 s8 hd8 ⟨rfl, rfl⟩
        refine ⟨Evl.sz_of (by simp), fun t ht => ?_⟩
        cases hd7
        cases hd8 with
        | @lst l ws _ hl8 hdl =>
        have hws := da_strV hdl
        subst hws
        have hD8 : H8 D = some (.lst (Ts.map V.ref)) := xt_m s7 x8 (xt_m R6.st x7 (e6 _ _ f3))
        have l_D : l ≠ D := fun z => by
          rw [z, hD8] at hl8
          have e := HO.lst.inj (Option.some.inj hl8)
          have ne := pipe_ne (e3 p hp2)
          cases hw : (pipeW p).l with
          | nil => exact ne hw
          | cons a b =>
            rw [hw] at e
            cases Ts with
            | nil => cases e
            | cons u us => cases e
        have t_D : t ≠ D := fun z => by rw [z, hD8] at ht; cases ht
        have l_t : l ≠ t := fun z => by rw [← z, hl8] at ht; cases ht
        have kept : ∀ {b : Addr} {o : HO}, b ≠ D → H5 b = some o → (∃ xs, o = .lst xs) ∨ (∃ xs, o = .tup xs) → upd (upd H8 t (.tup [.str p.name, .ref l])) D (.lst (Ts.map V.ref ++ [.ref t])) b = some o := fun {b o} nb hb ho => by
          have h8 : H8 b = some o := by
            rcases ho with ⟨xs, rfl⟩ | ⟨xs, rfl⟩
            · exact xt_m s7 x8 (xt_m R6.st x7 (e6 _ _ hb))
            · exact xt_tup s7 x8 (xt_tup R6.st x7 (e6 _ _ hb))
          rw [upd_ne nb, upd_ne (fun z => by rw [z, ht] at h8; cases h8)]
          exact h8
        refine ⟨Ts.map V.ref, by rw [upd_ne (Ne.symm t_D)]; exact hD8, by rw [List.length_map, f1]; exact Evl.sz_lt (by omega), Ts ++ [t], L ++ [(p.name, l, pipeW p)], by simp [f1], ?_, ?_, ?_, ?_, ?_, ?_⟩
        · rw [List.map_append, f2, take_succ_some hp1, List.map_append]
          rfl
        · rw [upd_same, List.map_append]
          rfl
        · refine (L2.Paired.mapP f4 fun a b h => kept (fun z => by rw [z, f3] at h; cases h) h (.inr ⟨_, rfl⟩)).snoc ?_
          rw [upd_ne t_D, upd_same]
        · intro u hu
          rcases List.mem_append.mp hu with hu | hu
          · exact ⟨kept (f5 u hu).2 (f5 u hu).1 (.inl ⟨_, rfl⟩), (f5 u hu).2⟩
          · rw [List.mem_singleton.mp hu]
            exact ⟨by rw [upd_ne l_D, upd_ne l_t]; exact hl8, l_D⟩
        · have x : Xt (drawM K m) H4 H8 := ((X5.trans (.of e6)).trans x7).trans x8
          refine fun b u hb htb e => ?_
          have h8 := x b u hb htb e
          rw [upd_ne (ne_of_none e hD), upd_ne (ne_of_none h8 ht)]
          exact h8
        · refine HallS.up (xs := Ts.map V.ref) ((hM K m [] []).sx _ _ _ (Ex.new ht) s8) (by rw [upd_ne (Ne.symm t_D)]; exact hD8) (by simp)
      · rintro D H5 hD ⟨Ts, L, f1, f2, f3, f4, f5, X5, S5⟩
        have lzs : zs.length = ps.length := by rw [da_len hdz, List.length_map]
        rw [lzs, List.take_length] at f2
        have kL : (rdyKv L).map (·.1) = (ps.map Pipe.name).map Sum.inr := by
          have e : L.map (·.1) = ps.map Pipe.name := by
            have := congrArg (List.map Prod.fst) f2
            simpa [Function.comp_def] using this
          rw [← e]
          simp [rdyKv, Function.comp_def]
        have ndn : (ps.map Pipe.name).Nodup := by rw [e2]; exact hnd.sublist (List.take_sublist _ _)
        have ndk : ((rdyKv L).map (·.1)).Nodup := by
          rw [kL]
          exact nd_map_inj ndn fun _ _ z => Sum.inr.inj z
        refine ⟨D, Ts, rdyKv L, rfl, SqL.of f3, rdy_paired f4, fun d hd => ?_⟩
        rw [merge_nd _ [] (by simpa using ndk), List.nil_append]
        show tSeq _ _ _ _ _
        refine seq_i ⟨Nat.zero_le _, fun as_ has => ?_⟩
        have nd_ : ∀ p ∈ L, p.2.1 ≠ d := fun p hp => ne_of_none (f5 p hp).1 hd
        have Ed : Ex H5 (upd H5 d (.dK (rdyKv L))) := Ex.new hd
        have Ea : Ex (upd H5 d (.dK (rdyKv L))) (upd (upd H5 d (.dK (rdyKv L))) as_ (.lst [])) := Ex.new has
        have f_d : H0 d = none := fresh0 (X4.trans X5) S5.dr hd
        have X6 : Xt (drawM K m) H0 (upd H5 d (.dK (rdyKv L))) := xt_new (X4.trans X5) f_d
        have S6 : HallS K m [(d, L)] n4 (upd H5 d (.dK (rdyKv L))) := ⟨((hM K m [] []).sx _ _ _ Ed S5).dr, fun q hq => by
          rw [List.mem_singleton.mp hq]
          exact ⟨upd_same, fun p hp => by rw [upd_ne (nd_ p hp)]; exact (f5 p hp).1⟩⟩
        have f_as : H0 as_ = none := fresh0 X6 S6.dr has
        have X7 := xt_new (o := .lst []) X6 f_as
        have an_as : q1.an ≠ as_ := by
          obtain ⟨ws, hw, _⟩ := ((R4.go X5 S5).ex Ed).lstK (i := 1) (a := q1.an) rfl (by simp [hM])
          exact ne_of_none hw has
        have ap_as : q1.ap ≠ as_ := by
          obtain ⟨ws, hw, _⟩ := ((R4.go X5 S5).ex Ed).lstK (i := 2) (a := q1.ap) rfl (by simp [hM])
          exact ne_of_none hw has
        have l_as : ∀ p ∈ L, p.2.1 ≠ as_ := fun p hp => ne_of_none ((S6.rd (d, L) (List.mem_singleton.mpr rfl)).ls p hp) has
        have R7 : Rst K (m2 K m ⟨q1.an, q1.ap, d, as_, as_, as_, L⟩) ((σ4.set 5 (some (V.ref d))).set 7 (some (V.ref as_))) (upd (upd H5 d (.dK (rdyKv L))) as_ (.lst [])) (rS names ps [] none) n4 :=
          (((((R4.go X5 S5).ex Ed).setN (i := 5) (some (V.ref d)) (by simp [hM])).ex Ea).set (i := 7) (v := .ref as_) (d := .list []) (.lst upd_same .nil) (by simp [hM])).mode (m' := m2 K m ⟨q1.an, q1.ap, d, as_, as_, as_, L⟩) (fun p hp => by
            have l5 : 5 < σ4.length := by rw [R4.len]; simp
            have l7 : 7 < (σ4.set 5 (some (V.ref d))).length := by rw [List.length_set, R4.len]; simp
            simp only [m2, hM, kp2, List.mem_cons, List.not_mem_nil, or_false] at hp
            rcases hp with rfl | rfl | rfl | rfl | rfl
            · exact kp_set (show 7 ≠ 0 by decide) (kp_set (show 5 ≠ 0 by decide) (R4.kp _ hM_mem))
            · exact kp_set (show 7 ≠ 1 by decide) (kp_set (show 5 ≠ 1 by decide) (R4.kp (1, .ref q1.an) (by simp [hM])))
            · exact kp_set (show 7 ≠ 2 by decide) (kp_set (show 5 ≠ 2 by decide) (R4.kp (2, .ref q1.ap) (by simp [hM])))
            · exact kp_set (show 7 ≠ 5 by decide) (kp_self l5)
            · exact kp_self l7) ((m2 K m ⟨q1.an, q1.ap, d, as_, as_, as_, L⟩).sx _ _ _ Ea S6)
        clear S6 X6
        dsimp only
        refine seq_i (for_h (m := m2 K m ⟨q1.an, q1.ap, d, as_, as_, as_, L⟩) (P := fun d n' => ∃ c : Nat, 1 ≤ c ∧ c ≤ 4 ∧ n4 ≤ n' ∧ n' ≤ n4 + 1 ∧ d = sd ((names.drop 3).take c)) (fun Q z => ⟨_, z⟩) R7 ?_ ?_ ?_)
        · refine ⟨_, rfl, _, rfl, by simp, 4, rfl, by decide, by decide, by omega, fun v n5 hv a5 b5 => ?_⟩
          obtain ⟨c2, ec, c21, c24⟩ := four_sets hv
          refine ⟨_, ec, trivial, _, rfl, trivial, _, rfl, _, rfl, trivial, c2, c21, c24, a5, b5, ?_⟩
          show PyData.list (cutL (names.map PyData.str) (some ((3 : Nat) : Int)) (some ((3 : Int) + ((c2 : Nat) : Int)))) = _
          rw [show ((3 : Int) + ((c2 : Nat) : Int)) = ((3 + c2 : Nat) : Int) by omega, cut_mid, ← List.map_take, ← List.map_drop, List.drop_take, Nat.add_sub_cancel_left]
        · rintro a2 H8 _ n5 x8 s8 ⟨c2, c21, c24, a5, b5, rfl⟩ hd8
          cases hd8 with
          | @lst _ xs2 _ hp2 ha2 =>
          have exs2 := da_strV ha2
          have a_as : a2 ≠ as_ := fun z => by
            have e := xt_m R7.st x8 (a := as_) (xs := []) (by rw [upd_same])
            rw [← z, hp2] at e
            cases e
            have := da_len ha2
            simp at this
            omega
          refine ⟨xs2, hp2, fun k σ H => ∃ (ss : List SetD) (L : RdyL) (n' : Nat), ss.length = k ∧ Grow names ps ss ∧ L.map (fun p => (p.1, p.2.2)) = wordsAt ps ss ∧ (∀ p ∈ L, p.2.1 ≠ as_) ∧ n5 ≤ n' ∧ n' ≤ n5 + 80 * k ∧ H a2 = some (.lst xs2) ∧
            Rst K (m2 K m ⟨q1.an, q1.ap, d, as_, as_, as_, L⟩) σ H (rS names ps ss none) n' ∧ Xt (drawM K m) H0 H, ?_, ?_, ?_, ?_⟩
          · refine ⟨[], L, n5, rfl, ⟨e2, p3, e3, by simp, by simp, by simp, by simp, by simp⟩, ?_, l_as, Nat.le_refl _, Nat.le_refl _, hp2, R7.go x8 s8, X7.trans x8⟩
            rw [f2]
            simp [wordsAt]
          · rintro i σ H ⟨_, _, _, _, _, _, _, _, _, h, _⟩
            exact SqL.of h
          · rintro i x σ9 H9 hx ⟨ss, L9, n9, g1, g2, g3, g4, a9, b9, h9, R9, X9⟩
            rw [exs2, List.getElem?_map] at hx
            cases hnm : ((names.drop 3).take c2)[i]? with
            | none =>
              rw [hnm] at hx
              cases hx
            | some nm =>
            rw [hnm] at hx
            cases hx
            have ilt : i < c2 := by
              have := (List.getElem?_eq_some_iff.mp hnm).1
              rw [List.length_take] at this
              omega
            have hnm2 : (names.drop 3)[ss.length]? = some nm := by rw [g1]; rw [List.getElem?_take_of_lt ilt] at hnm; exact hnm
            have i3 : i ≤ 3 := by omega
            have okn : NameOk nm := hok nm (List.mem_of_mem_drop (List.mem_of_getElem? hnm2))
            have ndk9 : (keysOf ps ss).Nodup := g2.nd hnd
            have kl9 : (keysOf ps ss).length ≤ 6 := by
              unfold keysOf
              rw [List.length_append, List.length_map, List.length_map]
              omega
            have kL9 : L9.map (·.1) = keysOf ps ss := by
              have := congrArg (List.map Prod.fst) g3
              rw [keys_words] at this
              rw [← this]
              simp [Function.comp_def]
            have nL9 : L9 ≠ [] := fun z => by
              have := congrArg List.length kL9
              rw [z] at this
              unfold keysOf at this
              rw [List.length_append, List.length_map, List.length_map] at this
              simp only [List.map_nil, List.length_nil] at this
              omega
            refine ⟨⟨q1.an, q1.ap, d, as_, as_, as_, L9⟩, _, n9, .str nm, fun r' => r' = rS names ps ss (some (.str nm)), R9, .str nm, rfl, fun σ10 H10 r10 e10 R10 er _ => ?_⟩
            subst er
            refine seq_i ⟨Nat.zero_le _, fun fa hfa => ⟨Nat.zero_le _, fun ra hra => ⟨_, _, rfl, ?_⟩⟩⟩
            have E1 : Ex H10 (upd H10 fa (.lst [])) := Ex.new hfa
            have E2 : Ex (upd H10 fa (.lst [])) (upd (upd H10 fa (.lst [])) ra (.lst [])) := Ex.new hra
            have X10 := X9.trans (.of e10)
            have f_fa : H0 fa = none := fresh0 X10 R10.st.dr hfa
            have S11 := (m2 K m ⟨q1.an, q1.ap, d, as_, as_, as_, L9⟩).sx _ _ _ E1 R10.st
            have X11 := xt_new (o := .lst []) X10 f_fa
            have f_ra : H0 ra = none := fresh0 X11 S11.dr hra
            have X12 := xt_new (o := .lst []) X11 f_ra
            have ra_fa : ra ≠ fa := fun z => by rw [z, upd_same] at hra; cases hra
            have hra2 : H10 ra = none := by rwa [upd_ne ra_fa] at hra
            have an_fa : q1.an ≠ fa := by
              obtain ⟨ws, hw, _⟩ := R10.lstK (i := 1) (a := q1.an) rfl (by simp [hM])
              exact ne_of_none hw hfa
            have ap_fa : q1.ap ≠ fa := by
              obtain ⟨ws, hw, _⟩ := R10.lstK (i := 2) (a := q1.ap) rfl (by simp [hM])
              exact ne_of_none hw hfa
            obtain ⟨wsa, hwsa, hwda⟩ := R10.lstK (i := 7) (a := as_) rfl (by simp [hM])
            have as_fa : as_ ≠ fa := ne_of_none hwsa hfa
            have ra_as : ra ≠ as_ := Ne.symm (ne_of_none hwsa hra2)
            have a2_fa : a2 ≠ fa := ne_of_none (e10 _ _ h9) hfa
            have l_fa : ∀ p ∈ L9, p.2.1 ≠ fa := fun p hp => ne_of_none ((R10.st.rd (d, L9) (List.mem_singleton.mpr rfl)).ls p hp) hfa
            have d5 := R10.kp (5, .ref d) (by simp [hM])
            have R12 : Rst K (m3 K m ⟨q1.an, q1.ap, d, as_, fa, ra, L9⟩) ((σ10.set 8 (some (V.ref fa))).set 9 (some (V.ref ra))) (upd (upd H10 fa (.lst [])) ra (.lst [])) (rI names ps ss nm [] [] none none none none none) n9 :=
              ((((R10.ex E1).set (i := 8) (v := .ref fa) (d := .list []) (.lst upd_same .nil) (by simp [hM])).ex E2).set (i := 9) (v := .ref ra) (d := .list []) (.lst upd_same .nil) (by simp [hM])).mode (m' := m3 K m ⟨q1.an, q1.ap, d, as_, fa, ra, L9⟩) (fun p hp => by
                have l8 : 8 < σ10.length := by rw [R10.len]; simp
                have l9 : 9 < (σ10.set 8 (some (V.ref fa))).length := by rw [List.length_set, R10.len]; simp
                simp only [m3, hM, kp3, List.mem_cons, List.not_mem_nil, or_false] at hp
                rcases hp with rfl | rfl | rfl | rfl | rfl | rfl | rfl
                · exact kp_set (show 9 ≠ 0 by decide) (kp_set (show 8 ≠ 0 by decide) (R10.kp _ hM_mem))
                · exact kp_set (show 9 ≠ 1 by decide) (kp_set (show 8 ≠ 1 by decide) (R10.kp (1, .ref q1.an) (by simp [hM])))
                · exact kp_set (show 9 ≠ 2 by decide) (kp_set (show 8 ≠ 2 by decide) (R10.kp (2, .ref q1.ap) (by simp [hM])))
                · exact kp_set (show 9 ≠ 5 by decide) (kp_set (show 8 ≠ 5 by decide) d5)
                · exact kp_set (show 9 ≠ 7 by decide) (kp_set (show 8 ≠ 7 by decide) (R10.kp (7, .ref as_) (by simp [hM])))
                · exact kp_set (show 9 ≠ 8 by decide) (kp_self l8)
                · exact kp_self l9) ((m2 K m ⟨q1.an, q1.ap, d, as_, as_, as_, L9⟩).sx _ _ _ E2 S11)
            have ha12 : (upd (upd H10 fa (.lst [])) ra (.lst [])) a2 = some (.lst xs2) := E2 _ _ (E1 _ _ (e10 _ _ h9))
            clear S11 X11 X10
            dsimp only
            refine seq_i (for_keys (d := d) (L := L9) (R12.kp (5, .ref d) (by simp [hM])) (R12.st.rd (d, L9) (List.mem_singleton.mpr rfl)).dk fun ka hka => ⟨fun j σ H => ∃ (es : List Entry) (row : List Str) (ra : Addr) (n' : Nat), Ent names (keysOf ps ss) (wordsAt ps ss) j es row ∧ n9 ≤ n' ∧ n' ≤ n9 + 12 * j ∧
              H ka = some (.lst ((L9.map (·.1)).map V.str)) ∧ H a2 = some (.lst xs2) ∧ Rst K (m3 K m ⟨q1.an, q1.ap, d, as_, fa, ra, L9⟩) σ H (rI names ps ss nm es row none none none none none) n' ∧ Xt (drawM K m) H0 H ∧ ra ≠ fa ∧ ra ≠ as_, ?_, ?_, ?_, ?_⟩)
            · have f_ka : H0 ka = none := fresh0 X12 R12.st.dr hka
              exact ⟨[], [], ra, n9, Ent.nil, Nat.le_refl _, Nat.le_refl _, upd_same, by rw [upd_ne (ne_of_none ha12 hka)]; exact ha12, R12.ex (Ex.new hka), xt_new X12 f_ka, ra_fa, ra_as⟩
            · rintro j σ H ⟨_, _, _, _, _, _, _, h, _⟩
              exact SqL.of h
            · rintro j t σ13 H13 ht ⟨es, row, rb, n13, en, a13, b13, hk13, ha13, R13, X13, rf, ras⟩
              rw [kL9] at ht
              have jl : j < 6 := by
                have := (List.getElem?_eq_some_iff.mp ht).1
                omega
              have tk : t ∈ keysOf ps ss := List.mem_of_getElem? ht
              have okt : NameOk t := hok t (g2.sub tk)
              have rdt : rdyAt L9 t = some (wOf (wordsAt ps ss) t) := by
                rw [rdyAt_wLk, g3]
                exact wLk_mem (by rw [keys_words]; exact tk)
              have lenr : row.length ≤ 6 := by
                have h1 : row.length ≤ es.length := by
                  rw [en.row, List.length_map]
                  exact List.length_filter_le _ _
                have h2 := en.tg.length_le
                rw [List.length_map, List.length_take] at h2
                omega
              have lene : es.length ≤ 6 := by
                have h2 := en.tg.length_le
                rw [List.length_map, List.length_take] at h2
                omega
              refine ⟨⟨q1.an, q1.ap, d, as_, fa, rb, L9⟩, _, n13, .str t, fun r' => r' = rI names ps ss nm es row (some (.str t)) none none none none, R13, .str t, rfl, fun σ14 H14 r14 e14 R14 er _ => ?_⟩
              subst er
              refine ⟨⟨q1.an, q1.ap, d, as_, fa, rb, L9⟩, _, n13, fun _ n' => n13 ≤ n' ∧ n' ≤ n13 + 1, R14, ?_, ?_⟩
              · exact ⟨4, rfl, by decide, by decide, by omega, fun v n' hv a b => ⟨_, rfl, trivial, _, rfl, a, b⟩⟩
              rintro b H15 n15 x15 s15 ⟨a15, b15⟩
              have R15 := R14.go x15 s15
              have X15 : Xt (drawM K m) H0 H15 := (X13.trans (.of e14)).trans x15
              have hk15 := xt_m R14.st x15 (e14 _ _ hk13)
              have ha15 := xt_m R14.st x15 (e14 _ _ ha13)
              cases b with
              | false =>
                rw [if_neg Bool.false_ne_true]
                exact ⟨es, row, rb, n15, en.skip, by omega, by omega, hk15, ha15, R15.le (le_same _ (le_same _ (le_same _ (le_same _ (le_same _ (le_same _ (le_same _ (le_same _ (le_same _ (le_same _ (le_none _ (Le.refl _)))))))))))), X15, rf, ras⟩
              | true =>
                rw [if_pos rfl]
                refine seq_i ⟨⟨q1.an, q1.ap, d, as_, fa, rb, L9⟩, _, n15, onx (fun r' n' => ∃ e : Entry, e.i.target = t ∧ e.Ok ∧ (t ∈ names.drop 3 → e.i.asked = ⟨true, false, false⟩) ∧ n15 ≤ n' ∧ n' ≤ n15 + 11 ∧ r' = rI names ps ss nm es row (some (.str t)) (some e.i.d) (some (.bool e.on)) (some e.fresh.d) none), R15, ?_, meetX ?_⟩
                · refine ⟨_, rfl, _, rfl, _, rfl, _, rfl, _, rfl, trivial, _, rfl, ⟨rfl, ?_⟩, t, _, rfl, by omega, fun i n16 ht16 hany hb a16 b16 => ⟨i, rfl, by omega, fun e n17 he hsub hlev a17 b17 => ⟨_, rfl, rfl, _, _, rfl, _, _, rfl, _, _, rfl, rfl, e, ?_, ?_, ?_, by omega, by omega, ?_⟩⟩⟩
                  · show (cutL (names.map PyData.str) (some ((3 : Nat) : Int)) none).all flatD = true
                    rw [cut_from, ← List.map_drop]
                    exact strs_flat _
                  · rw [he]
                    exact ht16
                  · exact ⟨⟨by rw [he, ht16]; exact okt, by rw [he]; exact hany⟩, by rw [he]; exact hsub, by rw [he]; exact hlev⟩
                  · intro z
                    rw [he]
                    refine hb ?_
                    show (!((cutL (names.map PyData.str) (some ((3 : Nat) : Int)) none).any fun y => PyData.eqv y (.str t))) = false
                    rw [cut_from, ← List.map_drop, any_str, decide_eq_true z]
                    rfl
                  · rfl
                rintro σ16 H16 r16 n16 x16 R16 ⟨e, rfl, oke, hin, a16, b16, rfl⟩
                have X16 : Xt (drawM K m) H0 H16 := X15.trans x16
                have hk16 := xt_m R15.st x16 hk15
                have ha16 := xt_m R15.st x16 ha15
                dsimp only
                obtain ⟨zf, hzf, hdf⟩ := R16.lstK (i := 8) (a := fa) rfl (by simp [hM])
                refine seq_i ?_
                refine app_h (i := 8) (m := m3 K m ⟨q1.an, q1.ap, d, as_, fa, rb, L9⟩) (P := fun d n' => n16 = n' ∧ d = e.d) (R16.kp (8, .ref fa) (by simp [hM])) (fun Q z => ⟨_, z⟩) R16 ?_ hzf (by rw [da_len hdf, List.length_map]; omega) ?_
                · exact ⟨_, rfl, _, rfl, _, rfl, by simp, rfl, rfl⟩
                rintro v H17 _ _ x17 s17 hd17 ⟨rfl, rfl⟩
                have R17 := R16.go x17 s17
                have X17 : Xt (drawM K m) H0 H17 := X16.trans x17
                have hk17 := xt_m R16.st x17 hk16
                have ha17 := xt_m R16.st x17 ha16
                have hzf17 := xt_m R16.st x17 hzf
                obtain ⟨ys, hy, ly, R18⟩ := R17.app (i := 8) (a := fa) (ds := es.map Entry.d) (v := v) (d := e.d) (by simp [hM]) rfl (entries_tups es) hd17 (entry_tup e) (fun j dj hj eq => by
                  rcases j with _ | _ | _ | _ | _ | _ | _ | _ | _ | _ | _ | _ | _ | _ | j
                  · cases Option.some.inj eq
                  · cases Option.some.inj (Option.some.inj eq)
                    exact .inr ⟨q1.an, _, by simp [hM], an_fa, rfl, strs_tups _⟩
                  · cases Option.some.inj (Option.some.inj eq)
                    exact .inr ⟨q1.ap, _, by simp [hM], ap_fa, rfl, pipes_tups _⟩
                  · cases Option.some.inj (Option.some.inj eq)
                    exact .inl (by simp)
                  · cases Option.some.inj eq
                  · cases Option.some.inj eq
                  · cases Option.some.inj eq
                  · cases Option.some.inj (Option.some.inj eq)
                    exact .inr ⟨as_, _, by simp [hM], as_fa, rfl, sets_tups _⟩
                  · exact absurd rfl hj
                  · cases Option.some.inj (Option.some.inj eq)
                    exact .inr ⟨rb, _, by simp [hM], rf, rfl, strs_tups _⟩
                  · cases Option.some.inj (Option.some.inj eq)
                    exact .inl (by simp)
                  · cases Option.some.inj (Option.some.inj eq)
                    exact .inl (ints_tupD _)
                  · cases Option.some.inj (Option.some.inj eq)
                    exact .inl (by simp)
                  · cases Option.some.inj (Option.some.inj eq)
                    exact .inl (ws_tup _)
                  · exact (nn (k := 2) (j := j) eq).elim) (fun xs hxs => R17.st.up hxs (fun q hq p hp => by
                    rw [List.mem_singleton.mp hq] at hp
                    exact l_fa p hp))
                obtain rfl : ys = zf := by
                  rw [hy] at hzf17
                  exact HO.lst.inj (Option.some.inj hzf17)
                have X18 := xt_new (o := .lst (ys ++ [v])) X17 f_fa
                have ka_fa : ka ≠ fa := Ne.symm (ne_of_none (E2 fa _ upd_same) hka)
                have hk18 : upd H17 fa (.lst (ys ++ [v])) ka = some (.lst ((L9.map (·.1)).map V.str)) := by
                  rw [upd_ne ka_fa]
                  exact hk17
                have ha18 : upd H17 fa (.lst (ys ++ [v])) a2 = some (.lst xs2) := by
                  rw [upd_ne a2_fa]
                  exact ha17
                have R18b : Rst K (m3 K m ⟨q1.an, q1.ap, d, as_, fa, rb, L9⟩) σ16 (upd H17 fa (.lst (ys ++ [v]))) (rI names ps ss nm (es ++ [e]) row (some (.str e.i.target)) (some e.i.d) (some (.bool e.on)) (some e.fresh.d) none) n16 := by
                  refine R18.le ?_
                  have ee : (es ++ [e]).map Entry.d = es.map Entry.d ++ [e.d] := by simp
                  unfold rI
                  rw [ee]
                  exact Le.refl _
                dsimp only
                refine seq_i ⟨⟨q1.an, q1.ap, d, as_, fa, rb, L9⟩, _, n16, onx (fun r' n' => n16 = n' ∧ r' = rI names ps ss nm (es ++ [e]) row (some (.str e.i.target)) (some e.i.d) (some (.bool e.on)) (some e.fresh.d) (some (if e.i.edge = true then e.fresh else e.i.asked).d)), R18b, ?_, meetX ?_⟩
                · refine ⟨_, rfl, _, rfl, trivial, _, rfl, .inl rfl, e.i.edge, congrArg PyData.bool (mode_edge e.i.edge), ite_b (fun h => ⟨_, rfl, rfl, ?_⟩) (fun h => ⟨_, rfl, _, rfl, trivial, rfl, ?_⟩)⟩
                  · rw [if_pos h]
                    rfl
                  · rw [if_neg (by rw [h]; exact Bool.false_ne_true)]
                    rfl
                rintro σ19 H19 r19 _ x19 R19 ⟨rfl, rfl⟩
                dsimp only
                have X19 : Xt (drawM K m) H0 H19 := X18.trans x19
                have hk19 := xt_m R18b.st x19 hk18
                have ha19 := xt_m R18b.st x19 ha18
                obtain ⟨zr, hzr, hdr⟩ := R19.lstK (i := 9) (a := rb) rfl (by simp [hM])
                have fin3 : ∀ b : Bool, b = due (wOf (wordsAt ps ss) e.i.target) e → PyData.list (List.replicate (if b = true then (1 : Int) else 0).toNat [PyData.str e.i.target]).flatten = sd (if due (wOf (wordsAt ps ss) e.i.target) e = true then [e.i.target] else []) := fun b hb => by
                  rw [← hb]
                  cases b <;> rfl
                have bnd3 : ∀ b : Bool, -(2 ^ 63) ≤ (if b = true then (1 : Int) else 0) ∧ (if b = true then (1 : Int) else 0) < 2 ^ 63 ∧ [PyData.str e.i.target].length * (if b = true then (1 : Int) else 0).toNat ≤ 100000 := fun b => by cases b <;> exact ⟨by decide, by decide, by simp⟩
                refine ⟨.ref rb, R19.kp (9, .ref rb) (by simp [hM]), ⟨q1.an, q1.ap, d, as_, fa, rb, L9⟩, _, n16, fun d n' => n16 = n' ∧ d = sd (if due (wOf (wordsAt ps ss) e.i.target) e = true then [e.i.target] else []), R19, ?_, ?_⟩
                · refine ⟨_, rfl, by simp, _, rfl, e.on, rfl, ite_b (fun hon => ?_) (fun hoff => ?_)⟩
                  · refine g_filtF (if e.i.edge = true then e.fresh else e.i.asked).l PyData.str PyData.str (fun z => decide (z ∈ (wOf (wordsAt ps ss) e.i.target).l)) (fun A q => ⟨_, rfl, _, rfl, q⟩) (by have := ws_len (if e.i.edge = true then e.fresh else e.i.asked); omega) (fun z hz P' P2 h1 h2 => ?_) (fun z hz _ => by simp) _ ?_
                    · refine ⟨_, rfl, e.i.target, _, rfl, rdt, _, rfl, ⟨rfl, strs_flat _⟩, decide (z ∈ (wOf (wordsAt ps ss) e.i.target).l), ?_, ite_b (fun hb => ⟨_, rfl, h1 hb⟩) (fun hb => h2 hb)⟩
                      refine congrArg PyData.bool ?_
                      simp only [Bool.false_eq_true, if_false]
                      exact any_str _ _
                    · refine ⟨by simp, _, rfl, .inr ⟨strs_lay2 _ fun x hx => ws_strOk x (List.mem_filter.mp hx).1, by decide +kernel⟩, _, rfl, trivial, _, rfl, bnd3 _, rfl, fin3 _ ?_⟩
                      rw [strs_nilL, ws_filt, Bool.not_not]
                      unfold due
                      rw [hon, Bool.true_and]
                      cases e.i.edge <;> rfl
                  · refine ⟨_, rfl, trivial, _, rfl, bnd3 false, rfl, fin3 false ?_⟩
                    unfold due
                    rw [hoff]
                    rfl
                rintro v20 H20 _ _ x20 s20 hd20 ⟨rfl, rfl⟩
                cases hd20 with
                | @lst b20 ws20 _ hp20 hdw20 =>
                have hzr20 := xt_m R19.st x20 hzr
                have hdr20 := da_xt R19.st x20 hdr
                have X20 : Xt (drawM K m) H0 H20 := X19.trans x20
                have R20 := R19.go x20 s20
                refine ⟨rb, b20, zr, ws20, rfl, rfl, hzr20, hp20, Evl.sz_of (by
                  rw [da_len hdr20, da_len hdw20, List.length_map, List.length_map]
                  have : (if due (wOf (wordsAt ps ss) e.i.target) e = true then [e.i.target] else []).length ≤ 1 := by split <;> simp
                  omega), fun nr hnr => ?_⟩
                have nr_fa : nr ≠ fa := by
                  obtain ⟨ws, hw, _⟩ := R20.lstK (i := 8) (a := fa) rfl (by simp [hM])
                  exact Ne.symm (ne_of_none hw hnr)
                have nr_as : nr ≠ as_ := by
                  obtain ⟨ws, hw, _⟩ := R20.lstK (i := 7) (a := as_) rfl (by simp [hM])
                  exact Ne.symm (ne_of_none hw hnr)
                have f_nr : H0 nr = none := fresh0 X20 s20.dr hnr
                refine ⟨es ++ [e], row ++ (if due (wOf (wordsAt ps ss) e.i.target) e = true then [e.i.target] else []), nr, n16, en.add ht oke hin, by omega, by omega, Ex.new hnr _ _ (xt_m R19.st x20 hk19), Ex.new hnr _ _ (xt_m R19.st x20 ha19), ?_, xt_new X20 f_nr, nr_fa, nr_as⟩
                have R21 := (((R20.mode (m' := m4 K m ⟨q1.an, q1.ap, d, as_, fa, rb, L9⟩) (fun p hp => R20.kp p (by
                  simp only [m4, m3, hM, kp4h, kp3, List.mem_cons, List.not_mem_nil, or_false] at hp ⊢
                  rcases hp with h | h | h | h | h | h <;> simp [h])) s20).ex (Ex.new (o := .lst (zr ++ ws20)) hnr)).set (i := 9) (v := .ref nr) (d := sd (row ++ (if due (wOf (wordsAt ps ss) e.i.target) e = true then [e.i.target] else []))) (.lst upd_same (da_ex (Ex.new hnr) (by rw [List.map_append]; exact da_app hdr20 hdw20))) (by simp [hM]))
                have R22 := R21.mode (m' := m3 K m ⟨q1.an, q1.ap, d, as_, fa, nr, L9⟩) (fun p hp => by
                  have l9 : 9 < σ19.length := by rw [R19.len]; simp
                  simp only [m3, hM, kp3, List.mem_cons, List.not_mem_nil, or_false] at hp
                  rcases hp with rfl | rfl | rfl | rfl | rfl | rfl | rfl
                  · exact kp_set (show 9 ≠ 0 by decide) (R20.kp _ hM_mem)
                  · exact kp_set (show 9 ≠ 1 by decide) (R20.kp (1, .ref q1.an) (by simp [hM]))
                  · exact kp_set (show 9 ≠ 2 by decide) (R20.kp (2, .ref q1.ap) (by simp [hM]))
                  · exact kp_set (show 9 ≠ 5 by decide) (R20.kp (5, .ref d) (by simp [hM]))
                  · exact kp_set (show 9 ≠ 7 by decide) (R20.kp (7, .ref as_) (by simp [hM]))
                  · exact kp_set (show 9 ≠ 8 by decide) (R20.kp (8, .ref fa) (by simp [hM]))
                  · exact kp_self l9) R21.st
                exact R22.le (le_same _ (le_same _ (le_same _ (le_same _ (le_same _ (le_same _ (le_same _ (le_same _ (le_same _ (le_same _ (le_none _ (le_none _ (le_none _ (le_none _ (le_none _ (Le.refl _))))))))))))))))
            · rintro σ13 H13 ⟨es, row, rb, n13, en, a13, b13, hk13, ha13, R13, X13, rf, ras⟩
              have lL9 : L9.length = (keysOf ps ss).length := by rw [← kL9, List.length_map]
              rw [lL9] at en b13
              have okr : ∀ x ∈ row, NameOk x := fun x hx => by
                rw [en.row] at hx
                obtain ⟨e, he, rfl⟩ := List.mem_map.mp hx
                have : e.i.target ∈ keysOf ps ss := (en.tg.trans (List.take_sublist _ _)).subset (List.mem_map.mpr ⟨e, (List.mem_filter.mp he).1, rfl⟩)
                exact hok _ (g2.sub this)
              dsimp only
              obtain ⟨zs7, hz7, hd7⟩ := R13.lstK (i := 7) (a := as_) rfl (by simp [hM])
              refine seq_i ?_
              refine app_h (i := 7) (m := m3 K m ⟨q1.an, q1.ap, d, as_, fa, rb, L9⟩) (P := fun d n' => n13 ≤ n' ∧ n' ≤ n13 + 1 ∧ ∃ row', row'.Perm row ∧ d = SetD.d ⟨nm, es, row'⟩) (R13.kp (7, .ref as_) (by simp [hM])) (fun Q z => ⟨_, z⟩) R13 ?_ hz7 (by rw [da_len hd7, List.length_map]; omega) ?_
              · refine ⟨_, rfl, _, rfl, _, rfl, trivial, 3, rfl, by decide, by decide, by omega, fun v n14 hv a14 b14 => ⟨_, rfl, trivial, decide ((0 : Int) < (v : Nat)), rfl, ite_b (fun h => ⟨_, rfl, _, rfl, trivial, by simp, by simp, by simp, by omega, by omega, row, List.Perm.refl _, rfl⟩) (fun h => ⟨_, rfl, _, rfl, _, rfl, trivial, by simp, by simp, by simp, by omega, by omega, row.reverse, List.reverse_perm _, ?_⟩)⟩⟩
                unfold SetD.d
                rw [List.map_reverse]
              rintro v14 H14 _ n14 x14 s14 hd14 ⟨a14, b14, row', hperm, rfl⟩
              have R14 := R13.go x14 s14
              have X14 : Xt (drawM K m) H0 H14 := X13.trans x14
              have ha14 := xt_m R13.st x14 ha13
              have hz14 := xt_m R13.st x14 hz7
              obtain ⟨ys, hy, ly, R15⟩ := R14.app (i := 7) (a := as_) (ds := ss.map SetD.d) (v := v14) (d := SetD.d ⟨nm, es, row'⟩) (by simp [hM]) rfl (sets_tups ss) hd14 (set_tup _) (fun j dj hj eq => by
                rcases j with _ | _ | _ | _ | _ | _ | _ | _ | _ | _ | j
                · cases Option.some.inj eq
                · cases Option.some.inj (Option.some.inj eq)
                  exact .inr ⟨q1.an, _, by simp [hM], an_as, rfl, strs_tups _⟩
                · cases Option.some.inj (Option.some.inj eq)
                  exact .inr ⟨q1.ap, _, by simp [hM], ap_as, rfl, pipes_tups _⟩
                · cases Option.some.inj (Option.some.inj eq)
                  exact .inl (by simp)
                · cases Option.some.inj eq
                · cases Option.some.inj eq
                · cases Option.some.inj eq
                · exact absurd rfl hj
                · cases Option.some.inj (Option.some.inj eq)
                  exact .inr ⟨fa, _, by simp [hM], Ne.symm as_fa, rfl, entries_tups _⟩
                · cases Option.some.inj (Option.some.inj eq)
                  exact .inr ⟨rb, _, by simp [hM], ras, rfl, strs_tups _⟩
                · exact (nn (k := 6) (j := j) eq).elim) (fun xs hxs => R14.st.up hxs (fun q hq p hp => by
                  rw [List.mem_singleton.mp hq] at hp
                  exact g4 p hp))
              obtain rfl : ys = zs7 := by
                rw [hy] at hz14
                exact HO.lst.inj (Option.some.inj hz14)
              have X15 := xt_new (o := .lst (ys ++ [v14])) X14 f_as
              have ha15 : upd H14 as_ (.lst (ys ++ [v14])) a2 = some (.lst xs2) := by
                rw [upd_ne a_as]
                exact ha14
              have has15 : upd H14 as_ (.lst (ys ++ [v14])) as_ = some (.lst (ys ++ [v14])) := upd_same
              have emp : row'.isEmpty = row.isEmpty := by
                have := hperm.length_eq
                cases row' <;> cases row <;> simp at this ⊢
              dsimp only
              refine ⟨⟨q1.an, q1.ap, d, as_, fa, rb, L9⟩, _, n14, fun d n' => n14 = n' ∧ d = sd (inW ⟨nm, es, row'⟩).l, R15, ?_, ?_⟩
              · refine ⟨_, rfl, by simp, _, rfl, .inr ⟨strs_shapedL okr, by decide +kernel⟩, !row.isEmpty, congrArg (fun b => PyData.bool (!b)) (strs_nilL row), ite_b (fun h => ⟨by simp, rfl, ?_⟩) (fun h => ⟨by simp, rfl, ?_⟩)⟩
                · unfold inW
                  simp only [emp, h]
                  rfl
                · unfold inW
                  simp only [emp, h]
                  rfl
              rintro v16 H16 _ _ x16 s16 hd16 ⟨rfl, rfl⟩
              cases hd16 with
              | @lst l16 ws16 _ hl16 hdl16 =>
              have ew := da_strV hdl16
              subst ew
              have has16 := xt_m R15.st x16 has15
              have R16 := R15.go x16 s16
              have l_as16 : l16 ≠ as_ := fun z => by
                rw [z, has16] at hl16
                have e := HO.lst.inj (Option.some.inj hl16)
                have hm2 : v14 ∈ (inW ⟨nm, es, row'⟩).l.map V.str := by
                  rw [← e]
                  simp
                obtain ⟨y, _, hy2⟩ := List.mem_map.mp hm2
                rw [← hy2] at hd14
                cases hd14
              refine ⟨.ref d, R16.kp (5, .ref d) (by simp [hM]), ⟨q1.an, q1.ap, d, as_, fa, rb, L9⟩, _, n14, fun d n' => n14 = n' ∧ d = .str nm, R16, ⟨_, rfl, rfl, rfl⟩, ?_⟩
              rintro v17 H17 _ _ x17 s17 hd17 ⟨rfl, rfl⟩
              cases hd17
              have R17 := R16.go x17 s17
              have rd17 := s17.rd (d, L9) (List.mem_singleton.mpr rfl)
              have X17 : Xt (drawM K m) H0 H17 := (X15.trans x16).trans x17
              have hl17 := xt_m s16 x17 hl16
              have nnm : nm ∉ L9.map (·.1) := by
                rw [kL9]
                exact g2.new hnd hnm2
              have e_d : ∀ {a : Addr} {xs : List V}, H17 a = some (.lst xs) → a ≠ d := fun {a xs} e z => by
                rw [z, rd17.dk] at e
                cases e
              have ha17 := xt_m s16 x17 (xt_m R15.st x16 ha15)
              refine ⟨d, _, rfl, DPut.k (k := Sum.inr nm) rd17.dk (by unfold rdyKv; rw [List.length_map, lL9]; exact Evl.sz_lt (by omega)), ?_⟩
              rw [put_new (w := inW ⟨nm, es, row'⟩) nnm]
              refine ⟨ss ++ [⟨nm, es, row'⟩], L9 ++ [(nm, l16, inW ⟨nm, es, row'⟩)], n14, by simp [g1], g2.push hnm2 (en.set okn ndk9 kl9 hperm) (by omega) en hperm, ?_, ?_, by omega, by omega, by rw [upd_ne (e_d ha17)]; exact ha17, ?_, xt_new X17 f_d⟩
              · rw [List.map_append, g3]
                simp [wordsAt]
              · intro p hp
                rcases List.mem_append.mp hp with hp | hp
                · exact g4 p hp
                · rw [List.mem_singleton.mp hp]
                  exact l_as16
              · have R18 : Rst K (m2 K m ⟨q1.an, q1.ap, d, as_, as_, as_, L9 ++ [(nm, l16, inW ⟨nm, es, row'⟩)]⟩) σ13 (upd H17 d (.dK (rdyKv (L9 ++ [(nm, l16, inW ⟨nm, es, row'⟩)])))) _ n14 :=
                  ⟨fun i x e => by
                    obtain ⟨u, h1, h2⟩ := R17.dat i x e
                    exact ⟨u, h1, dq_updK rd17.dk nL9 h2⟩, R17.len, fun p hp => R17.kp p (by
                    simp only [m2, m3, hM, kp2, kp3, List.mem_cons, List.not_mem_nil, or_false] at hp ⊢
                    rcases hp with h | h | h | h | h <;> simp [h]), s17.put hl17⟩
                refine R18.le ?_
                have ee : (ss ++ [SetD.mk nm es row']).map SetD.d = ss.map SetD.d ++ [SetD.d ⟨nm, es, row'⟩] := by simp
                unfold rS
                rw [ee]
                exact le_same _ (le_same _ (le_same _ (le_none _ (le_same _ (le_same _ (le_same _ (le_same _ (le_none _ (le_none _ (Le.refl _))))))))))
          · rintro σ9 H9 ⟨ss, L9, n9, g1, g2, g3, g4, a9, b9, h9, R9, X9⟩
            have lx : xs2.length ≤ 4 := by
              rw [exs2, List.length_map, List.length_take]
              omega
            refine ⟨⟨q1.an, q1.ap, d, as_, as_, as_, L9⟩, _, n9, fun d n' => n9 = n' ∧ d = Hall.d ⟨ps, ss⟩, R9, ?_, ?_⟩
            · exact ⟨_, rfl, _, rfl, trivial, _, rfl, _, rfl, trivial, by simp, rfl, rfl⟩
            · rintro v H' _ _ x s hd ⟨rfl, rfl⟩
              exact kk v H' _ _ (X9.trans x) s.dr hd (hq ⟨ps, ss⟩ n9 (g2.ok hnd) p1 (by omega) (by omega))
        · rintro d n' ⟨c, _, _, _, _, rfl⟩
          exact ⟨_, rfl⟩
  · rintro d n' ⟨c, _, _, _, _, rfl⟩
    exact ⟨_, rfl⟩
end
end K45
/-! KS1 -/
set_option Elab.async false
set_option linter.all false
set_option maxRecDepth 100000
set_option maxHeartbeats 4000000
/-! what is refused: _law_cannot of a lambda; is_stall with and without its keyword; a call at the very place -/
namespace K45
open PySem PySem.Spec PyProof.Rows L2
section
variable {K : PySem.W.Frag} {H H' : Hp} {m : Md} {n n' : Nat} {s : L2.St} {r : Rv}
theorem extN_t (e : LamX.ExtN H H') {a : Addr} {xs : List V} (h : SqT K H a xs) : SqT K H' a xs := by
  rcases h with h | h
  · exact .inl (rd_keep h fun o q => e a o q (rd_nt h (fun _ z => by cases z) q))
  · exact .inr h
theorem dq_extN (e : LamX.ExtN H H') {v : V} {d : PyData} (h : Dq K H v d) : Dq K H' v d :=
  dp_keep (fun a xs q => e a _ q (fun _ z => by cases z)) (fun a xs q => extN_t e q) (fun a bs q => e a _ q (fun _ z => by cases z)) d v h
theorem Rst.extN (R : Rst K pureM s H r n) (e : LamX.ExtN H H') : Rst K pureM s H' r n :=
  ⟨fun i d q => let ⟨v, h1, h2⟩ := R.dat i d q; ⟨v, h1, dq_extN e h2⟩, R.len, R.kp, trivial⟩
end
/-- the test whether a task that has ended is not refused -/
def tCannot (K : PySem.W.Frag) (T : List (Addr × Str)) : TT := fun σ H Q => LamX.Tabs T H ∧ ∃ r n s i t c, Rst K pureM σ H r n ∧ r[0]? = some (some (St3.pd s)) ∧ r[1]? = some (some (St3.sd s)) ∧ r[5]? = some (some (PyData.int ((i : Nat) : Int))) ∧ s.Ok ∧ At s i t c ∧ ¬ c.place < t.code.length ∧
  ∀ H', LamX.ExtN H H' → LamX.Tabs T H' → Q false H'
section
variable {X : Cx} {C g cc P : Addr} {fdg : FuncData} {params : Arguments} {scope : Scope} {x0 x1 x5 : Str} {p1 p2 p3 p4 p5 p6 p7 p8 p9 p10 p11 : Pos}
abbrev stepE (x0 x1 x5 : Str) (p1 p2 p3 p4 p5 : Pos) : Expr := .Call (.Name "step" p1) [.Name x0 p2, .Name x1 p3, .Name x5 p4] [] p5
theorem pt_cannot {Tl : List (Addr × Str)} (hTl : Tl = [(P, X.env.qual ++ "<lambda>")]) (hu : X.A.units + 64 < cLine) (Fc : FnP X.K "_law_cannot" s_law_cannot g fdg) (hmc : X.mg "_law_cannot" = some (.ref g)) (G : CgE X.K X.mg C) (Cst : CalC X.prog X.w X.K X.mg X.base 12 "step" ["program", "state", "number"] (spC X.K C gStep xNeedGoing))
    (TB : LamX.TabB X.base X.mg cc P) (hcode : X.env.code = .ref cc) (hr : Room 14 X.A) (L : LamX.LamS X.env.scope scope) (hgc : Gl X "_law_cannot")
    (hdef : defaultsOf params X.env = ([], [])) (hbind : ∀ (q : Str) (cl : List (Str × Addr)) (pm cv ctv : Value), bindArgs (PySem.W.kla_fn "<lambda>" q params (stepE x0 x1 x5 p1 p2 p3 p4 p5) scope cl pm cv ctv) ⟨[], []⟩ = pure [])
    (hN0 : X.N[0]? = some x0) (hN1 : X.N[1]? = some x1) (hN5 : X.N[5]? = some x5) (hv5 : Vis X.env.scope x5) (hf0 : scope.names.lookup x0 = some .free) (hf1 : scope.names.lookup x1 = some .free) (hf5 : scope.names.lookup x5 = some .free) (hgs : scope.names.lookup ("step" : Str) = some .globalImplicit)
    (d0 : (x0 == ("__debug__" : Str)) = false) (d1 : (x1 == ("__debug__" : Str)) = false) (d5 : (x5 == ("__debug__" : Str)) = false) (c0 : (x0 == ("__classdict__" : Str)) = false) (c1 : (x1 == ("__classdict__" : Str)) = false) (c5 : (x5 == ("__classdict__" : Str)) = false) :
    PT X (.Compare (.Call (.Name "_law_cannot" p6) [.Lambda params (stepE x0 x1 x5 p1 p2 p3 p4 p5) scope p7] [] p8) [.NotEq] [.List [.Name x5 p9] p10] p11) (tCannot X.K Tl) := by
  subst hTl
  obtain ⟨oc, od, dV, kV, doc, pm, an, cdv, ct, osl, rfl, lk, hcd, _, _⟩ := Fc.ex
  have hb : Binds X.K (PySem.W.fnOf "_law_cannot" "_law_cannot" (defArgs s_law_cannot) (defBody s_law_cannot) (defScope s_law_cannot) dV kV doc pm an cdv ct) ["_law_deed"] [] := Fc.bindsN fun _ _ _ _ _ _ us hl => match us, hl with
    | [_], _ => rfl
  obtain ⟨f, fd, F, hm, hkp, hbs⟩ := Cst.ok
  have call := LamX.pe_lamcall (X := X) (T := [(P, X.env.qual ++ "<lambda>")]) (TT := TTc C) (x := "_law_cannot") (a := "_law_deed") (p := p6) (lpos := p7) (pos := p8) (params := params) (body := stepE x0 x1 x5 p1 p2 p3 p4 p5) (scope := scope) (k := 12)
    (t := fun E => tCall (spC X.K C gStep xNeedGoing) [] E (tWA X.K pureM (waC (fun r n P => ∃ d, r[0]? = some (some d) ∧ P d n) (waC (fun r n P => ∃ d, r[1]? = some (some d) ∧ P d n) (waC (fun r n P => ∃ d, r[5]? = some (some d) ∧ P d n) waN)))))
    hgc hmc Fc.kp lk hcd hb sc_law_cannot rfl (.inl rfl) (cannot_gives G) TB hcode (List.mem_singleton.mpr rfl) (fun p hp _ => by rw [List.mem_singleton.mp hp]) hr L hdef hbind
    (fun A outer s H E f' c' hr2 => pe_call (E := E) F hr2 hgs hm hkp hbs .nil (passes_call (takes_of (X := LamX.lamCx X A outer s H E scope f' c') (E := E) rfl rfl rfl rfl) fun _ _ _ _ h => h)
      (da_c (m := pureM) (de_v 0 hN0 (.inr (.inr hf0)) d0 c0) (da_c (m := pureM) (de_v 1 hN1 (.inr (.inr hf1)) d1 c1) (da_c (m := pureM) (de_v 5 hN5 (.inr (.inr hf5)) d5 c5) da_n))))
  refine pt_by (pt_cmpR (op_neA hu) call (pe_lst (pa_cons (pe_var hN5 hv5 d5 c5) pa_nil)) (nomark _)) fun σ H Q h => ?_
  obtain ⟨hT, r, n, s, i, t, c, R, h0, h1, h5, ok, hat, hlt, k⟩ := h
  refine ⟨hT, fun H1 eN T1 Qn => ?_⟩
  have R1 := R.extN eN
  refine ⟨r, n, fun ds _ => ds = [s.pd, s.sd, .int ((i : Nat) : Int)], R1, ⟨_, h0, _, h1, _, h5, rfl⟩, fun vs H2 ds n2 x2 _ hd e => ?_⟩
  subst e
  rw [List.append_nil]
  have e2 : Ex H1 H2 := x2.pure
  refine ⟨_, hd, .inr ⟨(i : Nat), ⟨s, i, t, c, rfl, ok, hat, hlt, rfl⟩, fun dx H3 e3 hdx => ⟨dx, (i : Nat), rfl, rfl, hdx, fun l H4 e4 hl => ?_⟩⟩⟩
  obtain ⟨v5, k5, q5⟩ := R1.dat 5 _ h5
  cases q5
  refine ⟨_, k5, Evl.sz_of (by simp), fun p hp => ?_⟩
  have e5 : Ex H4 (upd H4 p (.lst [.int (i : Nat)])) := Ex.new hp
  have sh : SeqAt.shaped (.list [.int ((i : Nat) : Int)]) = true := ints_shaped' [((i : Nat) : Int)]
  refine od_ne _ _ _ (.list [.int ((i : Nat) : Int)]) (.list [.int ((i : Nat) : Int)]) (.bool false) _ (.lst (e5 _ _ hl) (.cons (.int _) .nil)) (.lst upd_same (.cons (.int _) .nil)) ?_ (.inr ⟨sh, sh⟩) fun v H6 e6 h6 => ?_
  · show some (PyData.bool (!PyData.eqv (.list [.int ((i : Nat) : Int)]) (.list [.int ((i : Nat) : Int)]))) = _
    rw [eqv_ll, eqvA_cc, eqv_ii]
    simp
  · cases h6
    have eA : Ex H1 H6 := (((e2.trans e3).trans e4).trans e5).trans e6
    exact ⟨false, rfl, k H6 (eN.trans (.of eA)) (T1.ext eA)⟩
end
end K45
/-! KS2 -/
set_option Elab.async false
set_option linter.all false
set_option maxRecDepth 100000
set_option maxHeartbeats 4000000
/-! calls that _law_right makes -/
namespace K45
open PySem PySem.Spec PyProof.Rows L2
section
variable {X : Cx} {m : Md} {e e1 e2 e3 : Expr} {es : List Expr} {As As2 : WA} {We : WE} {pos p kp : Pos} {j : Nat} {C f : Addr} {fd : FuncData}
/-- step, where it gives -/
theorem de_step (Cst : CalC X.prog X.w X.K X.mg X.base 12 "step" ["program", "state", "number"] (spC X.K C gStep xNeedGoing)) (hr : Room j X.A) (hk : 12 ≤ j) (ha : DA X m (e :: es) As) (hg : Gl X "step" := by rfl)
    (he : starEach (e :: es) X.env = (false, eval e X.env) :: starEach es X.env := by rfl) (hpl : (backTo pos (starEach es X.env)).any (·.1) = false := by rfl) : DE X m (.Call (.Name "step" p) (e :: es) [] pos) (wCall gStep As) := by
  obtain ⟨f, fd, F, hm, hkp, hb⟩ := Cst.ok
  refine pe_by (pe_call (E := fun _ _ _ => False) F (hr.mono hk) hg hm hkp hb .nil (passes_call LamX.takes0 fun _ _ _ _ h => h.elim) ha (by decide) he hpl) fun s H Q ⟨r, n, P, R, w, kk⟩ => ⟨r, n, _, R, w, fun vs H1 ds n1 x1 s1 h1 ⟨d, hgd, p⟩ => ?_⟩
  show spC X.K C gStep xNeedGoing (vs ++ []) H1 Q _
  rw [List.append_nil]
  exact ⟨ds, h1, .inl ⟨d, hgd, fun v H2 e2 h2 => kk v H2 d n1 (x1.trans (.of e2)) (m.sx _ _ _ e2 s1) h2 p⟩⟩
@[simp] def wStall0 (As : WA) : WE := fun r n P => As r n fun ds n1 => gStalls (ds ++ [.bool false]) (.bool false) ∧ P (.bool false) n1
theorem de_stall0 (S : StallAt X.K X.mg f fd) (F : FnOk X.prog X.w X.K X.mg X.base CX0 12 f fd ["program", "state", "lost"] (spD X.K gStalls)) (hr : Room j X.A) (hk : 12 ≤ j) (ha : DA X m (e :: es) As) (hg : Gl X "is_stall" := by rfl)
    (he : starEach (e :: es) X.env = (false, eval e X.env) :: starEach es X.env := by rfl) (hpl : (backTo pos (starEach es X.env)).any (·.1) = false := by rfl) : DE X m (.Call (.Name "is_stall" p) (e :: es) [] pos) (wStall0 As) := by
  obtain ⟨us, hd, hb⟩ := stall_b0 S
  refine pe_by (pe_call F (hr.mono hk) hg S.2 S.1.kp hb hd pass0 ha (by decide) he hpl) fun s H Q ⟨r, n, P, R, w, kk⟩ => ⟨r, n, _, R, w, fun vs H1 ds n1 x1 s1 h1 ⟨hgd, p⟩ => ?_⟩
  exact ⟨ds ++ [.bool false], .bool false, da_app h1 (.cons (.bl false) .nil), hgd, fun v H2 e2 h2 => kk v H2 _ n1 (x1.trans (.of e2)) (m.sx _ _ _ e2 s1) h2 p⟩
@[simp] def wStallK (As : WA) (We : WE) : WE := fun r n P => As r n fun ds n1 => We r n1 fun d n2 => ds.length = 2 ∧ gStalls (ds ++ [d]) (.bool false) ∧ P (.bool false) n2
theorem de_stallK (S : StallAt X.K X.mg f fd) (F : FnOk X.prog X.w X.K X.mg X.base CX0 12 f fd ["program", "state", "lost"] (spD X.K gStalls)) (hr : Room j X.A) (hk : 12 ≤ j) (ha : DA X m (e :: es) As) (hv : DE X m e3 We) (hg : Gl X "is_stall" := by rfl)
    (hall : (backToKw pos (keywordEach [⟨some "lost", e3, kp⟩] X.env)).all (·.1.isSome) = true := by rfl) (hks : (backToKw pos (keywordEach [⟨some "lost", e3, kp⟩] X.env)).filterMap (·.1) = ([("lost" : Str)] : List Str) := by rfl)
    (he : starEach (e :: es) X.env = (false, eval e X.env) :: starEach es X.env := by rfl)
    (hpl : ((backTo pos (starEach (e :: es) X.env)).any (·.1) || (backToKw pos (keywordEach [⟨some "lost", e3, kp⟩] X.env)).any (·.1.isNone)) = false := by rfl) : DE X m (.Call (.Name "is_stall" p) (e :: es) [⟨some "lost", e3, kp⟩] pos) (wStallK As We) := by
  refine pe_by (pe_callN F (hr.mono hk) hg S.2 S.1.kp (stall_bk S) pass0 ha (pk_cons hv pk_nil) hall hks (by decide) he hpl) fun s H Q ⟨r, n, P, R, w, kk⟩ => ⟨r, n, _, R, w, fun vs H1 ds n1 x1 s1 h1 w1 => ⟨r, n1, _, R.go x1 s1, w1, fun v H2 d n2 x2 s2 h2 ⟨hl, hgd, p⟩ => ?_⟩⟩
  refine ⟨by rw [da_len h1, hl], rfl, ds ++ [d], .bool false, da_app (da_xt s1 x2 h1) (.cons h2 .nil), hgd, fun u H3 e3 h3 => kk u H3 _ n2 ((x1.trans x2).trans (.of e3)) (m.sx _ _ _ e3 s2) h3 p⟩
end
/-- [n for n in a slot's list if test]: the test by its own reading -/
theorem pe_lcTest {X : Cx} {tg iter elt c : Expr} {scope : Scope} {pos : Pos} {wi : TI} {tt : TT} {sl : List Nat} {Wg : WG} {We : WE} {m : Md} (own : List (Str × Nat)) (hc : X.calm = true) (hN : X.N.Nodup) (hi : PI X tg iter wi) (ok : BlkOk X.N X.env.scope scope own)
    (hg : ∀ (s : Shared) (H : Hp) (C : Addr) (cl : List (Str × Addr)) (fp : List Addr), DG (X.blk s H scope (compEnvC scope cl C X.env) fp) m tg sl Wg)
    (ht : ∀ (s : Shared) (H : Hp) (C : Addr) (cl : List (Str × Addr)) (fp : List Addr), PT (X.blk s H scope (compEnvC scope cl C X.env) fp) c tt)
    (he : ∀ (s : Shared) (H : Hp) (C : Addr) (cl : List (Str × Addr)) (fp : List Addr), DE (X.blk s H scope (compEnvC scope cl C X.env) fp) m elt We) (hs : ∀ x, foldedSetIterable iter X.env x = pure x := by intro _; rfl) :
    PE X (.ListComp elt [⟨tg, iter, [c], 0⟩] scope pos) (tLc wi (tWG X.K m sl Wg) tt (tW X.K m We) (own.map (·.2))) :=
  pe_lc hc hN hi ok hg (fun s H C cl fp => pts_one (ht s H C cl fp)) he hs
/-- a def called at the very place: its body may ask what stands there -/
theorem pe_callS {X : Cx} {x : Str} {st : Stmt} {N ps : List Str} {k : Nat} {f : Addr} {fd : FuncData} {e : Expr} {es : List Expr} {t : TA} {sp : Sp} {p pos : Pos} (F : FnP X.K x st f fd) (S : FnScope N ps (defScope st)) (hm : X.mg x = some (.ref f)) (hb : Binds X.K fd ps []) (hr : Room (k + 1) X.A) (hl : ∀ vs H Q E, sp vs H Q E → vs.length = ps.length)
    (body : ∀ (cdv : Value) (s : Shared) (H : Hp) (vs : List V) (Q : VK), (∃ oc od dV kV doc pm an ct osl, X.K.lookup f = some ⟨oc, od, .func (PySem.W.fnOf x x (defArgs st) (defBody st) (defScope st) dV kV doc pm an cdv ct), osl⟩) → Room k (X.A.deeper (envOfC x (defScope st) s.heap.objs.size f cdv)) → sp vs H Q E0 →
      ∃ t, PSs (cxOf CX0 X.prog X.w X.K X.mg X.base N x (defScope st) f cdv X.A X.stack s H E0).nox (defBody st) t ∧ t { nx := fun _ H' => Q .non H', rt := Q } (start N vs) H)
    (ha : PA X (e :: es) t) (hg : Gl X x := by rfl) (hdb : (x == ("__debug__" : Str)) = false := by decide)
    (he : starEach (e :: es) X.env = (false, eval e X.env) :: starEach es X.env := by rfl) (hpl : (backTo pos (starEach es X.env)).any (·.1) = false := by rfl) :
    PE X (.Call (.Name x p) (e :: es) [] pos) (fun σ H Q => t σ H fun vs H1 => sp vs H1 Q E0) := by
  refine ⟨fun pins s σ H Q I h => ?_⟩
  refine wpAny_Call_Name_kw (ld_glob I hg hm ?_ hdb)
  refine PySem.W.callWith_K (h₀ := X.base) I.ok.mod.kin F.kp (thn (ha.run pos pins s σ H _ I h) fun us s1 ⟨vs, H1, I1, r, q⟩ => ⟨I1.kIn, ?_⟩) he hpl
  obtain ⟨oc, od, dV, kV, doc, pm, an, cdv, ct, osl, rfl, lk, hcd, _, _⟩ := F.ex
  have l1 : us.length = ps.length := by rw [← r.length]; exact hl _ _ _ _ q
  have bnd := hb s1 us I1.kIn (by rw [List.append_nil]; exact l1)
  rw [List.append_nil] at bnd
  have run := LamX.run_ofS (CX := CX0) (P := X.prog) (w := X.w) (mg := X.mg) (base := X.base) (vs := vs) (Q := Q) (E := E0) lk hcd S hr I1.env0 bnd r (hl _ _ _ _ q) fun hr' => by
    obtain ⟨t', ht', hq'⟩ := body cdv s1 H1 vs Q ⟨_, _, _, _, _, _, _, _, _, lk⟩ hr' q
    exact ⟨t', ht'.nox, hq'⟩
  refine wpAny_call (codeAny_mono run fun o s2 hq => ?_)
  cases o with
  | error _ => exact (show False from hq).elim
  | ok fl =>
    cases fl with
    | ret u => exact I1.after hq
    | next => exact False.elim hq
    | brk => exact False.elim hq
    | cont => exact False.elim hq
end K45
/-! KL1 -/
set_option Elab.async false
set_option linter.all false
set_option maxRecDepth 100000
set_option maxHeartbeats 2000000
namespace K45
open PySem PySem.Spec PyProof.Rows L2
theorem shaped_of {D W : Nat} {d : PyData} (h : Sm D W d) (k : D ≤ 64) : SeqAt.shaped d = true := by
  unfold SeqAt.shaped
  have := h.dep
  simp [h.can]
  omega
theorem sm_ins {n : Nat} (x : Ins) (h : x.Ok n) (hn : n ≤ 12) : Sm 1 36 x.d := by
  cases x with
  | jump t =>
    have h : t ≤ n := h
    exact (sm_tup (n := 2) (W := 8) (D := 0) (by simp) (all2 (sm_strL (by decide +kernel) (by decide +kernel)) (sm_int (by omega) (by omega)))).le (by decide) (by decide)
  | stop => exact (sm_tup (n := 1) (W := 8) (D := 0) (by simp) (fun y hy => by rw [List.mem_singleton.mp hy]; exact sm_strL (by decide +kernel) (by decide +kernel))).le (by decide) (by decide)
  | unl t =>
    have h : t ≤ n := h
    exact (sm_tup (n := 2) (W := 8) (D := 0) (by simp) (all2 (sm_strL (by decide +kernel) (by decide +kernel)) (sm_int (by omega) (by omega)))).le (by decide) (by decide)
  | told a b t =>
    obtain ⟨h1, h2, h3⟩ := h
    exact (sm_tup (n := 4) (W := 8) (D := 0) (by simp) (all4 (sm_strL (by decide +kernel) (by decide +kernel)) (sm_name h1) (sm_word (by rcases h2 with h | h | h <;> simp [h])) (sm_int (by omega) (by omega)))).le (by decide) (by decide)
  | put a => exact (sm_tup (n := 3) (W := 8) (D := 0) (by simp) (all3 (sm_strL (by decide +kernel) (by decide +kernel)) (sm_name h) (sm_int (by omega) (by omega)))).le (by decide) (by decide)
def Ins.isStop : Ins → Bool
  | .stop => true
  | _ => false
theorem eqv_hd {a b : PyData} (l m : List PyData) (h : PyData.eqv a b = false) : PyData.eqv (.tuple (a :: l)) (.tuple (b :: m)) = false := by
  rw [eqv_tt, eqvA_cc, h]
  rfl
theorem stop_eq (x : Ins) : PyData.eqv x.d (.tuple [.str "stop"]) = x.isStop := by
  cases x with
  | stop => decide +kernel
  | jump t => exact eqv_hd _ _ (by decide +kernel : PyData.eqv (.str "jump") (.str "stop") = false)
  | unl t => exact eqv_hd _ _ (by decide +kernel : PyData.eqv (.str "unless") (.str "stop") = false)
  | told a b t => exact eqv_hd _ _ (by decide +kernel : PyData.eqv (.str "told") (.str "stop") = false)
  | put a => exact eqv_hd _ _ (by decide +kernel : PyData.eqv (.str "put") (.str "stop") = false)
theorem sm_stop : Sm 1 36 (.tuple [.str "stop"]) := sm_ins (n := 0) .stop trivial (by decide)
def gLeads (ds : List PyData) (d : PyData) : Prop := ∃ (c : Ctr) (code : List Ins) (x : Ins), ds = [.tuple (code.map Ins.d), c.d] ∧ code[c.place]? = some x ∧ x.Ok code.length ∧ code.length ≤ 12 ∧ x.isPut = false ∧ d = .int (leadsTo code.length c x : Nat)
section
variable {P : Program} {w : World} {K : PySem.W.Frag} {mg : Str → Option Value} {base : Heap}
theorem ok_law_leads (T : Txt K mg) : Cal P w K mg base 1 "_law_leads" ["_law_code", "_law_counter"] (spD K gLeads) := by
  obtain ⟨f, fd, F, hm⟩ := T.f_law_leads
  refine okD F sc_law_leads hm (F.bindsN fun _ _ _ _ _ _ us hl => match us, hl with | [_, _], _ => rfl) ?_ (by decide) (fun cdv A outer s H E hr => ?_)
  · rintro ds d ⟨c, code, x, rfl, _⟩
    rfl
  have hu := hr.units
  refine ⟨_, (dss_c (ds_asg (de_v 1) (dg_t (n := 3) rfl (dgs_c (dg_n 2 sc_law_leads.nd (by intro p hp; cases hp)) (dgs_c (dg_n 3 sc_law_leads.nd (by intro p hp; cases hp)) (dgs_c (dg_n 4 sc_law_leads.nd (by intro p hp; cases hp)) dgs_n)))))
      (dss_c (ds_set 5 sc_law_leads.nd (by intro p hp; cases hp) (de_ix ix_seq od_ix (de_v 0) (de_v 2) (fun _ _ => rfl)))
      (dss_c (ds_if (dt_cmp (op_eqA hu) od_eq (de_v 5) (de_tup (da_c de_s da_n)) (nomark _)) (dss_1 (ds_ret (de_cb call_len cd_len T.n_len (by decide +kernel) (da_c (de_v 0) da_n)))) dss_n)
      (dss_c (ds_if (dt_cmp (op_eqA hu) od_eq (de_ix ix_seq od_ix (de_v 5) de_i (fun _ _ => rfl)) de_s (nomark _)) (dss_1 (ds_ret (de_if (dt_v (de_v 3)) (de_bin op_addA od_add (de_v 2) de_i) (de_ix ix_seq od_ix (de_v 5) de_i (fun _ _ => rfl))))) dss_n)
      (dss_c (ds_if (dt_cmp (op_eqA hu) od_eq (de_ix ix_seq od_ix (de_v 5) de_i (fun _ _ => rfl)) de_s (nomark _)) (dss_c (ds_for PassesOwn.never rfl (di_t (de_v 4)) (dg_t (n := 2) rfl (dgs_c (dg_n 6 sc_law_leads.nd (by intro p hp; cases hp)) (dgs_c (dg_n 7 sc_law_leads.nd (by intro p hp; cases hp)) dgs_n))) (dss_1 (ds_if (L2.PW.pt (dw_and (dt_cmp (op_eqA hu) od_eq (de_v 6) (de_ix ix_seq od_ix (de_v 5) de_i (fun _ _ => rfl)) (nomark _)) (dw_and1 (dt_cmp op_inA (od_in false) (de_ix ix_seq od_ix (de_v 5) de_i (fun _ _ => rfl)) (de_v 7) (by rfl))))) (dss_1 (ds_ret (de_ix ix_seq od_ix (de_v 5) de_i (fun _ _ => rfl)))) dss_n)))
      (dss_1 (ds_ret (de_bin op_addA od_add (de_v 2) de_i)))) dss_n)
      (dss_1 (ds_ret (de_ix ix_seq od_ix (de_v 5) de_i (fun _ _ => rfl))))))))), ?_⟩
  rintro ds d ⟨c, code, x, rfl, hx, hok, hn, hp, rfl⟩
  have e1 : atI (code.map Ins.d) ((c.place : Nat) : Int) = some x.d := at_n (by rw [List.getElem?_map, hx]; rfl)
  have sx := shaped_of (sm_ins x hok hn) (by decide)
  have ss := shaped_of sm_stop (by decide)
  refine ⟨_, rfl, _, rfl, rfl, _, _, rfl, _, _, rfl, _, _, rfl, rfl, ?_⟩
  refine ⟨_, rfl, _, rfl, _, e1, trivial, ?_⟩
  refine ⟨_, rfl, by simp, _, rfl, .inr ⟨sx, ss⟩, x.isStop, congrArg PyData.bool (stop_eq x), ?_⟩
  cases x with
  | stop =>
    refine iteT ⟨_, rfl, _, rfl, trivial, ?_⟩
    show PyData.int ((code.map Ins.d).length : Nat) = _
    rw [List.length_map]
    rfl
  | jump t =>
    refine iteF ?_
    refine ⟨_, rfl, _, rfl, trivial, _, rfl, .inl rfl, false, congrArg PyData.bool (by decide +kernel : PyData.eqv (.str "jump") (.str "unless") = false), iteF ?_⟩
    refine ⟨_, rfl, _, rfl, trivial, _, rfl, .inl rfl, false, congrArg PyData.bool (by decide +kernel : PyData.eqv (.str "jump") (.str "told") = false), iteF ?_⟩
    exact ⟨_, rfl, _, rfl, trivial, rfl⟩
  | unl t =>
    refine iteF ?_
    refine ⟨_, rfl, _, rfl, trivial, _, rfl, .inl rfl, true, congrArg PyData.bool (by decide +kernel : PyData.eqv (.str "unless") (.str "unless") = true), iteT ?_⟩
    refine ⟨_, rfl, c.good, rfl, ite_b (fun hg => ?_) (fun hg => ?_)⟩
    · refine ⟨_, rfl, _, rfl, trivial, ?_⟩
      show PyData.int _ = PyData.int _
      unfold leadsTo
      simp only [hg, if_true]
      all_goals rfl
    · refine ⟨_, rfl, _, rfl, trivial, ?_⟩
      show PyData.int _ = PyData.int _
      unfold leadsTo
      simp only [hg, Bool.false_eq_true, if_false]
      all_goals rfl
  | told a b t =>
    refine iteF ?_
    refine ⟨_, rfl, _, rfl, trivial, _, rfl, .inl rfl, false, congrArg PyData.bool (by decide +kernel : PyData.eqv (.str "told") (.str "unless") = false), iteF ?_⟩
    refine ⟨_, rfl, _, rfl, trivial, _, rfl, .inl rfl, true, congrArg PyData.bool (by decide +kernel : PyData.eqv (.str "told") (.str "told") = true), iteT ?_⟩
    dsimp only [wSeq]
    refine w_for0 (c.got.map fun p => .tuple [.str p.1, p.2.d]) (fun i => ∀ p ∈ c.got.take i, (p.1 == a && p.2.l.contains b) = false) (fun A q => ⟨_, rfl, _, rfl, q⟩) (by simp) (fun i d q pv => ?_) (fun pv => ?_)
    · obtain ⟨p, hp, hm, rfl⟩ := map_at q
      refine ⟨_, rfl, rfl, _, _, rfl, _, _, rfl, rfl, ?_⟩
      have last : ∀ {e : Bool}, (p.1 == a && p.2.l.contains b) = e → e = false → ∀ p' ∈ c.got.take (i + 1), (p'.1 == a && p'.2.l.contains b) = false := fun {e} h1 h2 p' hp' => by
        rw [take_succ_some hp, List.mem_append] at hp'
        rcases hp' with hp' | hp'
        · exact pv p' hp'
        · rw [List.mem_singleton.mp hp', h1, h2]
      refine ⟨_, rfl, _, rfl, _, rfl, trivial, _, rfl, .inl rfl, p.1 == a, rfl, ?_⟩
      refine ite_b (fun h1 => ?_) (fun h1 => ?_)
      · refine ⟨_, rfl, _, rfl, trivial, _, rfl, .bool (p.2.l.contains b), ?_, ⟨rfl, strs_flat _⟩, _, rfl, ?_⟩
        · refine congrArg (fun b => some (PyData.bool b)) ?_
          simp only [Bool.false_eq_true, if_false]
          rw [any_str']
        · refine ite_b (fun h2 => ?_) (fun h2 => ?_)
          · have e : toldB c.got a b = true := List.any_eq_true.mpr ⟨p, hm, by rw [h1, h2]; rfl⟩
            refine ⟨_, rfl, _, rfl, trivial, ?_⟩
            show PyData.int _ = PyData.int _
            unfold leadsTo
            simp only [e, if_true]
          · exact ⟨_, (le_same _ (le_same _ (le_same _ (le_same _ (le_same _ (le_same _ (le_none _ (le_none _ (Le.refl _))))))))), rfl, rfl, last (by rw [h1, h2]; rfl) rfl⟩
      · refine iteF ⟨_, (le_same _ (le_same _ (le_same _ (le_same _ (le_same _ (le_same _ (le_none _ (le_none _ (Le.refl _))))))))), rfl, rfl, last (by rw [h1]; rfl) rfl⟩
    · have e : toldB c.got a b = false := List.any_eq_false.mpr fun p hp => by
        have := pv p (by simpa using hp)
        simp only [this]
        simp
      refine ⟨_, rfl, _, rfl, trivial, ?_⟩
      show PyData.int _ = PyData.int _
      unfold leadsTo
      simp only [e, Bool.false_eq_true, if_false]
      all_goals rfl
  | put a => cases hp
end
end K45
/-! KS3 -/
set_option Elab.async false
set_option linter.all false
set_option maxRecDepth 100000
set_option maxHeartbeats 4000000
/-! plain: who has ended, who is left -/
namespace K45
open PySem PySem.Spec PyProof.Rows L2
def endP (s : St3) (p : Task × Nat) : Bool := match s.cs[p.2]? with
  | some c => c.place == p.1.code.length
  | none => false
def endL (s : St3) : List Nat := (s.ts.zipIdx.filter (endP s)).map (·.2)
theorem zip_ix {α : Type} {l : List α} {i : Nat} {x : α} : (x, i) ∈ l.zipIdx ↔ l[i]? = some x := by
  rw [List.mem_zipIdx_iff_getElem?]
theorem end_mem {s : St3} {i : Nat} (h : i ∈ endL s) : ∃ t c, At s i t c ∧ c.place = t.code.length := by
  obtain ⟨p, hp, rfl⟩ := List.mem_map.mp h
  obtain ⟨h1, h2⟩ := List.mem_filter.mp hp
  have ht := zip_ix.mp (show (p.1, p.2) ∈ s.ts.zipIdx from h1)
  unfold endP at h2
  cases hc : s.cs[p.2]? with
  | none =>
    rw [hc] at h2
    cases h2
  | some c =>
    rw [hc] at h2
    exact ⟨p.1, c, ⟨ht, hc⟩, by simpa using h2⟩
theorem end_iff {s : St3} {i : Nat} {t : Task} {c : Ctr} (h : At s i t c) : i ∈ endL s ↔ c.place = t.code.length := by
  refine ⟨fun z => ?_, fun z => ?_⟩
  · obtain ⟨t', c', h', e⟩ := end_mem z
    have e1 : t' = t := Option.some.inj (h'.t.symm.trans h.t)
    have e2 : c' = c := Option.some.inj (h'.c.symm.trans h.c)
    rw [← e1, ← e2]
    exact e
  · refine List.mem_map.mpr ⟨(t, i), List.mem_filter.mpr ⟨zip_ix.mpr h.t, ?_⟩, rfl⟩
    unfold endP
    dsimp only
    rw [h.c]
    simpa using z
theorem at_of {s : St3} (ok : s.Ok) {i : Nat} (h : i < s.ts.length) : ∃ t c, At s i t c ∧ c.place ≤ t.code.length := by
  have l2 : i < s.cs.length := by rw [ok.len]; exact h
  have h1 : s.ts[i]? = some s.ts[i] := List.getElem?_eq_getElem h
  have h2 : s.cs[i]? = some s.cs[i] := List.getElem?_eq_getElem l2
  exact ⟨_, _, ⟨h1, h2⟩, (ok.cs i _ _ h2 h1).place⟩
theorem left_eq {s : St3} (ok : s.Ok) : ((List.range s.ts.length).filter fun i => !decide (i ∈ endL s)) = leftL s := by
  unfold leftL
  refine List.filter_congr fun i hi => ?_
  obtain ⟨t, c, h, hp⟩ := at_of ok (List.mem_range.mp hi)
  rw [h.c, h.t]
  have e := end_iff h
  show (!decide (i ∈ endL s)) = decide (c.place < t.code.length)
  by_cases z : c.place = t.code.length
  · rw [decide_eq_true (e.mpr z), decide_eq_false (by omega)]
    rfl
  · rw [decide_eq_false (fun y => z (e.mp y)), decide_eq_true (by omega)]
    rfl
theorem left_mem {s : St3} {i : Nat} (h : i ∈ leftL s) : ∃ t c x, At s i t c ∧ t.code[c.place]? = some x := by
  unfold leftL at h
  obtain ⟨_, h2⟩ := List.mem_filter.mp h
  cases hc : s.cs[i]? with
  | none =>
    rw [hc] at h2
    cases h2
  | some c =>
    cases ht : s.ts[i]? with
    | none =>
      rw [hc, ht] at h2
      cases h2
    | some t =>
      rw [hc, ht] at h2
      have lt := of_decide_eq_true h2
      exact ⟨t, c, _, ⟨ht, hc⟩, List.getElem?_eq_getElem lt⟩
theorem ended_eq {s : St3} (ok : s.Ok) : endedB s = (leftL s).isEmpty := by
  cases h : endedB s with
  | false =>
    have := left_some ok h
    cases hl : leftL s with
    | nil => exact absurd hl this
    | cons a b => rfl
  | true =>
    cases hl : leftL s with
    | nil => rfl
    | cons a b =>
      have hm : a ∈ leftL s := by rw [hl]; exact List.mem_cons_self
      obtain ⟨t, c, x, hat, hx⟩ := left_mem hm
      have lt := (List.getElem?_eq_some_iff.mp hx).1
      unfold endedB at h
      rw [List.all_eq_true] at h
      have hz : (c, t) ∈ s.cs.zip s.ts := List.mem_of_getElem? (i := a) (List.getElem?_zip_eq_some.mpr ⟨hat.c, hat.t⟩)
      have e : c.place = t.code.length := by simpa using h _ hz
      omega
theorem left_lt {s : St3} {i : Nat} (h : i ∈ leftL s) : i < s.ts.length := by
  unfold leftL at h
  exact List.mem_range.mp (List.mem_filter.mp h).1
theorem left_len (s : St3) : (leftL s).length ≤ s.ts.length := by
  unfold leftL
  refine Nat.le_trans (List.length_filter_le _ _) ?_
  rw [List.length_range]
  exact Nat.le_refl _
theorem any_int (l : List Nat) (i : Nat) : ((l.map fun j => PyData.int ((j : Nat) : Int)).any fun y => PyData.eqv y (.int ((i : Nat) : Int))) = decide (i ∈ l) := by
  induction l with
  | nil => rfl
  | cons a l ih =>
    rw [List.map_cons, List.any_cons, ih, eqv_ii]
    by_cases h : a = i
    · subst h
      simp
    · have e : (((a : Nat) : Int) == ((i : Nat) : Int)) = false := by
        simp only [beq_eq_false_iff_ne]
        omega
      have h2 : ¬ i = a := fun z => h z.symm
      rw [e]
      simp [h2]
theorem ints_flat (l : List Nat) : (l.map fun j => PyData.int ((j : Nat) : Int)).all flatD = true := by simp
theorem ints_nil (l : List Nat) : PyData.eqv (.list (l.map fun j => .int ((j : Nat) : Int))) (.list []) = l.isEmpty := by
  cases l <;> rfl
theorem en_src (ts : List Task) : enumD (ts.map Task.d) = ts.zipIdx.map fun p => .tuple [.int ((p.2 : Nat) : Int), p.1.d] := by
  unfold enumD
  rw [List.zipIdx_map, List.map_map]
  rfl
def Ins.tag : Ins → Str
  | .jump _ => "jump"
  | .stop => "stop"
  | .unl _ => "unless"
  | .told _ _ _ => "told"
  | .put _ => "put"
theorem ins_hd (x : Ins) : ixF x.d (.int 0) = some (.str x.tag) := by cases x <;> rfl
theorem ins_put (x : Ins) : (x.tag == ("put" : Str)) = x.isPut := by
  cases x with
  | jump t => exact (by decide +kernel : (("jump" : Str) == "put") = false)
  | stop => exact (by decide +kernel : (("stop" : Str) == "put") = false)
  | unl t => exact (by decide +kernel : (("unless" : Str) == "put") = false)
  | told a b t => exact (by decide +kernel : (("told" : Str) == "put") = false)
  | put a => exact (by decide +kernel : (("put" : Str) == "put") = true)
theorem cut_cs_to (cs : List Ctr) (i : Nat) : slF (.tuple (cs.map Ctr.d)) none (some ((i : Nat) : Int)) = some (.tuple ((cs.take i).map Ctr.d)) := by
  show some (PyData.tuple (cutL (cs.map Ctr.d) none (some ((i : Nat) : Int)))) = _
  rw [cut_to, List.map_take]
theorem cut_cs_from (cs : List Ctr) (i : Nat) : slF (.tuple (cs.map Ctr.d)) (some (((i : Nat) : Int) + 1)) none = some (.tuple ((cs.drop (i + 1)).map Ctr.d)) := by
  show some (PyData.tuple (cutL (cs.map Ctr.d) (some (((i : Nat) : Int) + 1)) none)) = _
  rw [show (((i : Nat) : Int) + 1) = ((i + 1 : Nat) : Int) by omega, cut_from, List.map_drop]
theorem cut_ctr (c : Ctr) : slF c.d (some 1) none = some (.tuple [.bool c.good, telD c.got]) := by
  show some (PyData.tuple (cutL [.int ((c.place : Nat) : Int), .bool c.good, telD c.got] (some ((1 : Nat) : Int)) none)) = _
  rw [cut_from]
  rfl
theorem leads_le {c : Ctr} {x : Ins} {n : Nat} (h : x.Ok n) (hc : c.place < n) : leadsTo n c x ≤ n := by
  unfold leadsTo
  cases x with
  | jump t => exact h
  | stop => exact Nat.le_refl _
  | unl t =>
    dsimp only
    have h : t ≤ n := h
    split <;> omega
  | told a b t =>
    dsimp only
    have h : t ≤ n := h.2.2
    split <;> omega
  | put a => exact Nat.zero_le _
end K45
/-! KS4 -/
set_option Elab.async false
set_option linter.all false
set_option maxRecDepth 100000
set_option maxHeartbeats 8000000
namespace K45
open PySem PySem.Spec PyProof.Rows L2
abbrev N_right : List Str := ["_law_program", "_law_state", "_law_hall_here", "_law_counters", "_law_ended", "_law_number", "_law_task", "_law_left", "_law_code", "_law_counter", "_law_own", "_law_due"]
/-- the name of the lambda in _law_right -/
def qLam : Str := (envOfC "_law_right" (defScope s_law_right) 0 0 .none).qual ++ "<lambda>"
def spRight (K : PySem.W.Frag) (Pt : Addr) : Sp := fun vs H Q _ => ∃ s : St3, DqA K H vs [s.pd, s.sd] ∧ s.Ok ∧ LamX.Tabs [(Pt, qLam)] H ∧ ∀ H', LamX.ExtN H H' → LamX.Tabs [(Pt, qLam)] H' → Q (.bl true) H'
section
variable {P : Program} {w : World} {K : PySem.W.Frag} {mg : Str → Option Value} {base : Heap}
theorem right_body {C cc Pt g fs f : Addr} {fdg fds : FuncData} (T : Txt K mg) (S : StallAt K mg fs fds) (Fst : FnOk P w K mg base CX0 12 fs fds ["program", "state", "lost"] (spD K gStalls)) (Fc : FnP K "_law_cannot" s_law_cannot g fdg) (hmc : mg "_law_cannot" = some (.ref g)) (G : CgE K mg C)
    (Cst : CalC P w K mg base 12 "step" ["program", "state", "number"] (spC K C gStep xNeedGoing)) (C_can_go : Cal P w K mg base 12 "can_go" ["program", "state"] (spD K gGoing)) (C_is_ended : Cal P w K mg base 12 "is_ended" ["program", "state"] (spD K gEnded))
    (C_law_leads : Cal P w K mg base 1 "_law_leads" ["_law_code", "_law_counter"] (spD K gLeads)) (TB : LamX.TabB base mg cc Pt) {A : Around} (hgd0 : A.guards = some []) (outer : List Env) (s0 : Shared) (H : Hp) (vs : List V) (Q : VK)
    (hr : Room 14 (A.deeper (envOfC "_law_right" (defScope s_law_right) s0.heap.objs.size f (.ref cc)))) (h : spRight K Pt vs H Q E0) :
    ∃ t, PSs (cxOf CX0 P w K mg base N_right "_law_right" (defScope s_law_right) f (.ref cc) A outer s0 H E0).nox (defBody s_law_right) t ∧ t { nx := fun _ H' => Q .non H', rt := Q } (L2.start N_right vs) H := by
  have hu := hr.units
  have nd := sc_law_right.nd
  have hgd : (A.deeper (envOfC "_law_right" (defScope s_law_right) s0.heap.objs.size f (.ref cc))).guards = some [] := by
    first | exact hgd0 | (rw [show (A.deeper (envOfC "_law_right" (defScope s_law_right) s0.heap.objs.size f (.ref cc))).guards = A.guards from rfl]; exact hgd0)
  refine ⟨_, pss_cons (ds_asg (m := pureM) (de_v 1) (dg_t (n := 2) rfl (dgs_c (dg_n 2 sc_law_right.nd (by intro p hp; cases hp)) (dgs_c (dg_n 3 sc_law_right.nd (by intro p hp; cases hp)) dgs_n))))
    (pss_cons (ds_set (m := pureM) 4 nd (by intro p hp; cases hp) (de_lc1 (m := pureM) [("_law_number", 5), ("_law_task", 6)] rfl sc_law_right.nd (di_en T.n_enumerate (da_c (de_ix ix_seq od_ix (de_v 0) de_i (fun _ _ => rfl)) da_n)) (blkOk_by (N := ["_law_program", "_law_state", "_law_hall_here", "_law_counters", "_law_ended", "_law_number", "_law_task", "_law_left", "_law_code", "_law_counter", "_law_own", "_law_due"]) (sc := defScope s_law_right) (by decide +kernel)) (by intro p hp; cases hp) (by decide) (fun _ _ _ _ _ => (dg_t (n := 2) rfl (dgs_c (dg_n 5 sc_law_right.nd (by intro p hp; cases hp)) (dgs_c (dg_n 6 sc_law_right.nd (by intro p hp; cases hp)) dgs_n)))) (fun _ _ _ _ _ => (dt_cmp (op_eqA hu) od_eq (de_ix ix_seq od_ix (de_ix ix_seq od_ix (de_v 3) (de_v 5) (fun _ _ => rfl)) de_i (fun _ _ => rfl)) (de_cb call_len cd_len T.n_len (by decide +kernel) (da_c (de_ix ix_seq od_ix (de_v 6) de_i (fun _ _ => rfl)) da_n)) (nomark _))) (fun _ _ _ _ _ => (de_v 5))))
    (pss_cons (ds_lc1 (m := pureM) [("_law_number", 5)] 7 rfl sc_law_right.nd (by intro p hp; cases hp) (sw_true rfl rfl rfl (by decide +kernel)) (di_r T.n_range (da_c (de_cb call_len cd_len T.n_len (by decide +kernel) (da_c (de_ix ix_seq od_ix (de_v 0) de_i (fun _ _ => rfl)) da_n)) da_n)) (blkOk_by (N := ["_law_program", "_law_state", "_law_hall_here", "_law_counters", "_law_ended", "_law_number", "_law_task", "_law_left", "_law_code", "_law_counter", "_law_own", "_law_due"]) (sc := defScope s_law_right) (by decide +kernel)) (by intro p hp; cases hp) (by decide) (fun _ _ _ _ _ => (dg_n 5 sc_law_right.nd (by intro p hp; cases hp))) (fun _ _ _ _ _ => (dt_cmp op_notInA (od_in true) (de_v 5) (de_v 4) (by rfl))) (fun _ _ _ _ _ => (de_v 5)))
    (pss_cons (ds_if (m := pureM) (dt_cmp (op_neA hu) od_ne (de_cb (call_repr hgd hu) cd_repr T.n_repr (by decide +kernel) (da_c (de_lst (da_c (de_call C_can_go hr (by decide) (da_c (de_v 0) (da_c (de_v 1) da_n))) (da_c (de_call C_is_ended hr (by decide) (da_c (de_v 0) (da_c (de_v 1) da_n))) da_n))) da_n)) (de_cb (call_repr hgd hu) cd_repr T.n_repr (by decide +kernel) (da_c (de_lst (da_c (de_v 7) (da_c (de_cmp (op_eqA hu) od_eq (de_v 7) (de_lst da_n) (nomark _)) da_n))) da_n)) (nomark _)) (dss_1 (ds_ret de_b)) dss_n)
    (pss_cons (ds_if (m := pureM) (L2.PW.pt (dw_or (dt_cmp op_notA od_isnot (de_stall0 S Fst hr (by decide) (da_c (de_v 0) (da_c (de_v 1) da_n))) de_b (nomark _)) (dw_or1 (dt_cmp op_notA od_isnot (de_stallK S Fst hr (by decide) (da_c (de_v 0) (da_c (de_v 1) da_n)) de_b) de_b (nomark _))))) (dss_1 (ds_ret de_b)) dss_n)
    (pss_cons (ps_if (pt_cmpR (op_neA hu) (pe_lcTest (m := pureM) (tt := tCannot K [(Pt, qLam)]) [("_law_number", 5)] rfl nd (pi_list (pe_var (i := 4) rfl (by first | exact Or.inl rfl | exact Or.inr (Or.inl rfl)) (by decide) (by decide))) (blkOk_by (N := ["_law_program", "_law_state", "_law_hall_here", "_law_counters", "_law_ended", "_law_number", "_law_task", "_law_left", "_law_code", "_law_counter", "_law_own", "_law_due"]) (sc := defScope s_law_right) (by decide +kernel)) (fun _ _ _ _ _ => (dg_n 5 sc_law_right.nd (by intro p hp; cases hp))) (fun _ _ _ _ _ => (pt_cannot (by rfl) hu Fc hmc G Cst TB (by rfl) hr (LamX.lamS_by (by rfl)) (by rfl) (by rfl) (by intro _ _ _ _ _; rfl) (by rfl) (by rfl) (by rfl) (by first | exact Or.inl rfl | exact Or.inr (Or.inl rfl) | exact Or.inr (Or.inr rfl)) (by rfl) (by rfl) (by rfl) (by rfl) (by decide) (by decide) (by decide) (by decide) (by decide) (by decide))) (fun _ _ _ _ _ => (de_v 5))) (pe_lst pa_nil) (nomark _)) (dss_1 (m := pureM) (ds_ret de_b)) pss_nil)
    (pss_cons (ds_for (m := pureM) PassesOwn.never rfl (di_l (de_v 7)) (dg_n 5 sc_law_right.nd (by intro p hp; cases hp)) (dss_c (ds_par 8 9 rfl sc_law_right.nd (by intro p hp; cases hp) (by intro p hp; cases hp) (by decide) (da_c (de_ix ix_seq od_ix (de_ix ix_seq od_ix (de_ix ix_seq od_ix (de_v 0) de_i (fun _ _ => rfl)) (de_v 5) (fun _ _ => rfl)) de_i (fun _ _ => rfl)) (da_c (de_ix ix_seq od_ix (de_v 3) (de_v 5) (fun _ _ => rfl)) da_n)))
      (dss_1 (ds_if (dt_cmp (op_neA hu) od_ne (de_ix ix_seq od_ix (de_ix ix_seq od_ix (de_v 8) (de_ix ix_seq od_ix (de_v 9) de_i (fun _ _ => rfl)) (fun _ _ => rfl)) de_i (fun _ _ => rfl)) de_s (nomark _)) (dss_c (ds_set 10 sc_law_right.nd (by intro p hp; cases hp) (de_bin op_addA od_add (de_tup (da_c (de_call C_law_leads hr (by decide) (da_c (de_v 8) (da_c (de_v 9) da_n))) da_n)) (de_sl (de_v 9) (do_s de_i) do_n)))
      (dss_c (ds_set 11 sc_law_right.nd (by intro p hp; cases hp) (de_tup (da_c (de_tup (da_c (de_v 2) (da_c (de_bin op_addA od_add (de_bin op_addA od_add (de_sl (de_v 3) do_n (do_s (de_v 5))) (de_tup (da_c (de_v 10) da_n))) (de_sl (de_v 3) (do_s (de_bin op_addA od_add (de_v 5) de_i)) do_n)) da_n))) (da_c (de_tup (da_c de_s (da_c (de_tup da_n) da_n))) da_n))))
      (dss_1 (ds_if (dt_cmp (op_neA hu) od_ne (de_cb (call_repr hgd hu) cd_repr T.n_repr (by decide +kernel) (da_c (de_step Cst hr (by decide) (da_c (de_v 0) (da_c (de_v 1) (da_c (de_v 5) da_n)))) da_n)) (de_cb (call_repr hgd hu) cd_repr T.n_repr (by decide +kernel) (da_c (de_v 11) da_n)) (nomark _)) (dss_1 (ds_ret de_b)) dss_n)))) dss_n))))
    (pss_one (ds_ret (m := pureM) de_b)))))))), ?_⟩
  obtain ⟨s, hv, ok, hT, k⟩ := h
  have R0 : Rst K pureM (L2.start N_right vs) H (startR N_right [s.pd, s.sd]) 0 := start_rst hv (by simp) trivial rfl
  have h4 := ok.ts.hi
  have hl := ok.len
  refine seq_i ⟨_, 0, onx (fun r' _ => r' = [some s.pd, some s.sd, some s.h.d, some (ctrsD s.cs), none, none, none, none, none, none, none, none]), R0, ?_, meetX ?_⟩
  · exact ⟨_, rfl, _, rfl, rfl, _, _, rfl, _, _, rfl, rfl, rfl⟩
  rintro σ1 H1 r1 n1 x1 R1 rfl
  dsimp only
  refine seq_i ⟨_, n1, onx (fun r' _ => r' = [some s.pd, some s.sd, some s.h.d, some (ctrsD s.cs), some (.list ((endL s).map fun i => .int ((i : Nat) : Int))), none, none, none, none, none, none, none]), R1, ?_, meetX ?_⟩
  · have e : (endL s).map (fun i => PyData.int ((i : Nat) : Int)) = (s.ts.zipIdx.filter (endP s)).map fun p => .int ((p.2 : Nat) : Int) := by
      unfold endL
      rw [List.map_map]
      rfl
    rw [e]
    refine g_filtF s.ts.zipIdx (fun p => .tuple [.int ((p.2 : Nat) : Int), p.1.d]) (fun p => .int ((p.2 : Nat) : Int)) (endP s) (fun A q => ?_) (by rw [List.length_zipIdx]; omega) (fun p hp P' P2 h1 h2 => ?_) (fun p _ _ => by simp) _ rfl
    · exact ⟨_, rfl, _, rfl, trivial, _, rfl, by rw [en_src]; exact q⟩
    · have ht := zip_ix.mp (show (p.1, p.2) ∈ s.ts.zipIdx from hp)
      obtain ⟨t, c, hat, _⟩ := at_of ok (List.getElem?_eq_some_iff.mp ht).1
      have e1 : t = p.1 := Option.some.inj (hat.t.symm.trans ht)
      subst e1
      refine ⟨_, rfl, rfl, _, _, rfl, _, _, rfl, rfl, ?_⟩
      refine ⟨_, rfl, _, rfl, c.d, (at_n (by rw [List.getElem?_map, hat.c]; rfl) : atI (s.cs.map Ctr.d) ((p.2 : Nat) : Int) = some c.d), trivial, _, rfl, trivial, _, rfl, _, rfl, trivial, _, rfl, trivial, _, rfl, .inl rfl, endP s p, ?_, ite_b (fun h => ⟨_, rfl, h1 h⟩) (fun h => h2 h)⟩
      refine congrArg PyData.bool ?_
      show (((c.place : Nat) : Int) == (((p.1.code.map Ins.d).length : Nat) : Int)) = endP s p
      unfold endP
      rw [hat.c, List.length_map]
      dsimp only
      by_cases z : c.place = p.1.code.length
      · rw [z]
        simp
      · have z2 : ¬ ((c.place : Nat) : Int) = ((p.1.code.length : Nat) : Int) := by omega
        rw [beq_false_of_ne z2, beq_false_of_ne z]
  rintro σ2 H2 r2 n2 x2 R2 rfl
  dsimp only
  refine seq_i ⟨_, n2, onx (fun r' _ => r' = [some s.pd, some s.sd, some s.h.d, some (ctrsD s.cs), some (.list ((endL s).map fun i => .int ((i : Nat) : Int))), none, none, some (.list ((leftL s).map fun i => .int ((i : Nat) : Int))), none, none, none, none]), R2, ?_, meetX ?_⟩
  · rw [← left_eq ok]
    refine g_filtF (List.range s.ts.length) (fun i => .int ((i : Nat) : Int)) (fun i => .int ((i : Nat) : Int)) (fun i => !decide (i ∈ endL s)) (fun A q => ?_) (by rw [List.length_range]; omega) (fun i hi P' P2 h1 h2 => ?_) (fun p _ _ => by simp) _ rfl
    · refine ⟨_, rfl, _, rfl, trivial, _, rfl, trivial, _, rfl, ⟨by omega, ?_⟩, ?_⟩
      · show (((s.ts.map Task.d).length : Nat) : Int) ≤ 100000
        rw [List.length_map]
        omega
      · show A (rangeD 0 (((s.ts.map Task.d).length : Nat) : Int).toNat) n2
        rw [List.length_map, Int.toNat_natCast, range_d]
        exact q
    · refine ⟨_, rfl, _, rfl, _, rfl, ⟨rfl, ints_flat _⟩, !decide (i ∈ endL s), ?_, ite_b (fun h => ⟨_, rfl, h1 h⟩) (fun h => h2 h)⟩
      refine congrArg PyData.bool ?_
      simp only [if_true]
      rw [any_int]
  rintro σ3 H3 r3 n3 x3 R3 rfl
  dsimp only
  refine seq_i ⟨_, n3, onx (fun r' _ => r' = [some s.pd, some s.sd, some s.h.d, some (ctrsD s.cs), some (.list ((endL s).map fun i => .int ((i : Nat) : Int))), none, none, some (.list ((leftL s).map fun i => .int ((i : Nat) : Int))), none, none, none, none]), R3, ?_, meetX ?_⟩
  · have l4 : (leftL s).length ≤ 4 := Nat.le_trans (left_len s) h4
    have i4 : ∀ i ∈ leftL s, i < 4 := fun i hi => Nat.lt_of_lt_of_le (left_lt hi) h4
    refine ⟨_, rfl, _, rfl, _, ⟨s, rfl, ok, rfl⟩, _, rfl, _, rfl, _, ⟨s, rfl, ok, rfl⟩, by simp, _, rfl, rp_left l4 i4, _, rfl, _, rfl, by simp, _, rfl, .inr ⟨ints_shaped _, by decide +kernel⟩, by simp, _, rfl, rp_left l4 i4, _, rfl, .inl rfl, false, ?_, iteF rfl⟩
    refine congrArg PyData.bool ?_
    rw [ints_nil, ← ended_eq ok]
    show (!(_ == _)) = false
    simp
  rintro σ4 H4 r4 n4 x4 R4 rfl
  dsimp only
  refine seq_i ⟨_, n4, onx (fun r' _ => r' = [some s.pd, some s.sd, some s.h.d, some (ctrsD s.cs), some (.list ((endL s).map fun i => .int ((i : Nat) : Int))), none, none, some (.list ((leftL s).map fun i => .int ((i : Nat) : Int))), none, none, none, none]), R4, ?_, meetX ?_⟩
  · exact ⟨_, rfl, _, rfl, ⟨s, false, rfl, ok, rfl⟩, _, rfl, trivial, false, rfl, iteF ⟨_, rfl, _, rfl, rfl, ⟨s, true, rfl, ok, rfl⟩, _, rfl, trivial, false, rfl, iteF rfl⟩⟩
  rintro σ5 H5 r5 n5 x5 R5 rfl
  dsimp only
  have E5 : Ex H H5 := (((x1.pure.trans x2.pure).trans x3.pure).trans x4.pure).trans x5.pure
  have T5 := hT.ext E5
  obtain ⟨ae, xe, ke, he, de⟩ := R5.lst (i := 4) rfl
  refine seq_i ?_
  unfold tIfS tTest tOp
  refine lc_list (i := 4) (a := ae) ke (SqL.of he) (fun D i H' => H' D = some (.lst []) ∧ LamX.ExtN H5 H' ∧ LamX.Tabs [(Pt, qLam)] H') ?_ ?_ ?_ ?_
  · intro D hD
    exact ⟨upd_same, .of (Ex.new hD), T5.ext (Ex.new hD)⟩
  · rintro D i H' hD ⟨_, eN, _⟩
    exact SqL.of (eN _ _ he (fun _ z => by cases z))
  · rintro D i x H' hD hx ⟨hDl, eN, T6⟩
    obtain ⟨d, hd1, hd2⟩ := da_get de hx
    obtain ⟨j, _, hj, rfl⟩ := map_at hd1
    obtain ⟨t, c, hat, hpl⟩ := end_mem hj
    have R6 := (R5.wipe (vs := [5]) (by intro p hp; cases hp)).extN eN
    cases hd2
    refine ⟨_, n5, .int ((j : Nat) : Int), fun r' => r' = [some s.pd, some s.sd, some s.h.d, some (ctrsD s.cs), some (.list ((endL s).map fun i => .int ((i : Nat) : Int))), some (.int ((j : Nat) : Int)), none, some (.list ((leftL s).map fun i => .int ((i : Nat) : Int))), none, none, none, none], R6, .int _, rfl, fun σ7 H7 r7 e7 R7 er wp => ⟨(wp [5] (by simp)).trans (wipe_idem _ _), ?_⟩⟩
    subst er
    refine ⟨T6.ext e7, _, n5, s, j, t, c, R7, rfl, rfl, rfl, ok, hat, by omega, fun H8 eN8 T8 => ?_⟩
    refine iteF ?_
    exact ⟨eN8 _ _ (e7 _ _ hDl) (fun _ z => by cases z), (eN.trans (.of e7)).trans eN8, T8⟩
  rintro D H6 hD ⟨hDl, eN, T6⟩
  refine ⟨Evl.sz_of (by simp), fun p hp => ?_⟩
  have e7 : Ex H6 (upd H6 p (.lst [])) := Ex.new hp
  refine od_ne _ _ _ (.list []) (.list []) (.bool false) _ (.lst (e7 _ _ hDl) .nil) (.lst upd_same .nil) rfl (.inr ⟨by decide +kernel, by decide +kernel⟩) fun v H7 e8 h8 => ?_
  cases h8
  refine ⟨false, rfl, iteF ?_⟩
  have R7 := (R5.extN eN).ex (e7.trans e8)
  have T7 := T6.ext (e7.trans e8)
  have EN : LamX.ExtN H H7 := ((LamX.ExtN.of E5).trans eN).trans (.of (e7.trans e8))
  refine seq_i ⟨_, n5, onx (fun _ _ => True), R7, ?_, meetX ?_⟩
  · refine w_for0 ((leftL s).map fun i => .int ((i : Nat) : Int)) (fun _ => True) (fun A q => ⟨_, rfl, _, rfl, q⟩) trivial (fun j d e _ => ?_) (fun _ => trivial)
    obtain ⟨i, _, hm, rfl⟩ := map_at e
    obtain ⟨t, c, x, hat, hx⟩ := left_mem hm
    have okt := ok.ts.ok t (List.mem_of_getElem? hat.t)
    have okx := okt.code x (List.mem_of_getElem? hx)
    have okc := ok.cs i c t hat.c hat.t
    have clt := (List.getElem?_eq_some_iff.mp hx).1
    have i5 : i < s.cs.length := (List.getElem?_eq_some_iff.mp hat.c).1
    have at1 : atI (s.ts.map Task.d) ((i : Nat) : Int) = some t.d := at_n (by rw [List.getElem?_map, hat.t]; rfl)
    have at2 : atI (s.cs.map Ctr.d) ((i : Nat) : Int) = some c.d := at_n (by rw [List.getElem?_map, hat.c]; rfl)
    have at3 : atI (t.code.map Ins.d) ((c.place : Nat) : Int) = some x.d := at_n (by rw [List.getElem?_map, hx]; rfl)
    refine ⟨_, rfl, _, rfl, trivial, _, rfl, t.d, at1, trivial, _, rfl, trivial, _, rfl, _, rfl, c.d, at2, trivial, _, _, rfl, ?_⟩
    refine ⟨_, rfl, _, rfl, _, rfl, trivial, x.d, at3, trivial, _, ins_hd x, by cases x <;> trivial, _, rfl, .inl rfl, !x.isPut, congrArg (fun b => PyData.bool (!b)) (ins_put x), ite_b (fun hp => ?_) (fun _ => ?_)⟩
    · have np : x.isPut = false := by simpa using hp
      have lp := leads_le okx clt
      refine ⟨_, rfl, _, rfl, _, ⟨c, t.code, x, rfl, hx, okx, okt.hi, np, rfl⟩, by simp, _, rfl, _, rfl, _, cut_ctr c, trivial, Ctr.d { c with place := leadsTo t.code.length c x }, rfl, by simp, ?_⟩
      refine ⟨_, rfl, _, rfl, _, rfl, _, rfl, _, cut_cs_to s.cs i, trivial, _, rfl, by simp, _, rfl, ?_, _, rfl, _, rfl, _, rfl, trivial, _, rfl, _, cut_cs_from s.cs i, trivial, _, rfl, ?_, by simp, by simp, by simp, by simp, ?_⟩
      · simp
        omega
      · simp
        omega
      · have hdue : PyData.tuple [PyData.tuple [s.h.d, PyData.tuple (((s.cs.take i).map Ctr.d ++ [Ctr.d { c with place := leadsTo t.code.length c x }]) ++ (s.cs.drop (i + 1)).map Ctr.d)], PyData.tuple [.str "goes", .tuple []]] = stepD s i { c with place := leadsTo t.code.length c x } := by
          unfold stepD
          rw [List.map_append, List.map_append]
          rfl
        have rp : Rp (stepD s i { c with place := leadsTo t.code.length c x }) := rp_step ok i5 (Nat.le_trans lp okt.hi) okc.got
        refine ⟨_, rfl, _, rfl, _, rfl, _, ⟨s, i, t, c, x, rfl, ok, hat, hx, np, rfl⟩, _, rfl, rp, _, rfl, _, rfl, ?_, _, rfl, .inl rfl, false, ?_, iteF ?_⟩
        · show Rp (PyData.tuple [PyData.tuple [s.h.d, PyData.tuple (((s.cs.take i).map Ctr.d ++ [Ctr.d { c with place := leadsTo t.code.length c x }]) ++ (s.cs.drop (i + 1)).map Ctr.d)], PyData.tuple [.str "goes", .tuple []]])
          rw [hdue]
          exact rp
        · show PyData.bool (!((stepD s i { c with place := leadsTo t.code.length c x }).shown == (PyData.tuple [PyData.tuple [s.h.d, PyData.tuple (((s.cs.take i).map Ctr.d ++ [Ctr.d { c with place := leadsTo t.code.length c x }]) ++ (s.cs.drop (i + 1)).map Ctr.d)], PyData.tuple [.str "goes", .tuple []]]).shown)) = .bool false
          rw [hdue]
          simp
        · exact ⟨_, le_same _ (le_same _ (le_same _ (le_same _ (le_same _ (le_none _ (le_same _ (le_same _ (le_none _ (le_none _ (le_none _ (le_none _ (Le.refl _)))))))))))), rfl, rfl, trivial⟩
    · exact ⟨_, le_same _ (le_same _ (le_same _ (le_same _ (le_same _ (le_none _ (le_same _ (le_same _ (le_none _ (le_none _ (le_same _ (le_same _ (Le.refl _)))))))))))), rfl, rfl, trivial⟩
  rintro σ8 H8 r8 n8 x8 R8 _
  refine ⟨_, n8, { nx := fun _ _ => False, rt := fun d _ => d = .bool true }, R8, rfl, ⟨fun _ _ _ _ _ _ z => z.elim, fun v H9 d9 n9 x9 _ h9 e9 => ?_, fun _ _ _ _ _ _ z => z.elim, fun _ _ _ _ _ _ z => z.elim⟩⟩
  subst e9
  cases h9
  exact k H9 (EN.trans (.of (x8.pure.trans x9.pure))) (T7.ext (x8.pure.trans x9.pure))
end
end K45
/-! KT1 -/
set_option Elab.async false
set_option linter.all false
set_option maxRecDepth 100000
set_option maxHeartbeats 4000000
/-! the mode of the law itself -/
namespace K45
open PySem PySem.Spec PyProof.Rows L2
structure LawS (K : PySem.W.Frag) (m sc Pt : Addr) (xs : List V) (n : Nat) (H : Hp) : Prop where
  dr : DrawS K m n H
  tb : LamX.Tabs [(Pt, qLam)] H
  sl : ScL K H sc xs
  few : xs.length ≤ 63
theorem tabs_keep {Pt : Addr} {q : Str} {H H' : Hp} (t : LamX.Tabs [(Pt, q)] H) (k : ∀ b o, H b = some o → (∀ xs, o ≠ .lst xs) → (∀ kvs, o ≠ .dK kvs) → H' b = some o) : LamX.Tabs [(Pt, q)] H' := fun p hp => by
  obtain ⟨ps, h1, h2, h3⟩ := t p hp
  refine ⟨ps, k _ _ h1 (fun _ z => by cases z) (fun _ z => by cases z), h2, fun pos cv hc => ?_⟩
  obtain ⟨c, e1, e2⟩ := h3 pos cv hc
  refine ⟨c, e1, k _ _ e2 (fun _ z => ?_) (fun _ z => ?_)⟩
  · unfold LamX.CodeO at z
    cases z
  · unfold LamX.CodeO at z
    cases z
/-- slot 1 holds the drawing's dict, slot 0 the script; tables may grow -/
def mL (K : PySem.W.Frag) (m sc Pt : Addr) (xs : List V) : Md where
  out := [m]
  keep := [(1, .ref m), (0, .ref sc)]
  S := LawS K m sc Pt xs
  sx := fun _ _ _ e h => ⟨h.dr.ex' e, h.tb.ext e, h.sl.keep fun o q => e _ _ q, h.few⟩
  sd := fun _ _ b h hb => by
    cases List.mem_singleton.mp hb
    exact h.dr.sd
  su := fun n0 H0 n H l ys zs _ _ h hl => ⟨h.dr.up hl, tabs_keep h.tb fun b o e n1 _ => by
    rw [upd_ne (fun z => by rw [z, hl] at e; exact n1 _ (Option.some.inj e).symm)]
    exact e, h.sl.keep fun o q => by
    rw [upd_ne (fun z => by rw [z, hl] at q; cases q)]
    exact q, h.few⟩
  tb := true
section
variable {K : PySem.W.Frag} {m sc Pt : Addr} {xs : List V}
theorem mL_le : MdLe (drawM K m) (mL K m sc Pt xs) :=
  ⟨fun _ _ h => h.dr, fun n n' H H' h x h' => by
    obtain ⟨sc', ys, k, l, h1, _⟩ := h.dr.ex
    have kept : ∀ b o, H b = some o → (∀ kvs, o ≠ .dK kvs) → H' b = some o := fun b o e nd => x b o (fun z => by
      rw [List.mem_singleton.mp z, h1] at e
      exact nd _ (Option.some.inj e).symm) (fun z => by cases z) e
    exact ⟨h', tabs_keep h.tb fun b o e _ n2 => kept b o e n2, h.sl.keep fun o q => kept _ _ q fun _ z => (by cases z), h.few⟩, fun _ h => h, fun h => by cases h⟩
theorem mL_mem : (1, V.ref m) ∈ (mL K m sc Pt xs).keep := List.mem_cons_self
/-- by a call that makes functions of a table -/
theorem LawS.extN {n : Nat} {H H' : Hp} (h : LawS K m sc Pt xs n H) (e : LamX.ExtN H H') (t : LamX.Tabs [(Pt, qLam)] H') : LawS K m sc Pt xs n H' := by
  obtain ⟨sc', ys, k, l, h1, h2, h3⟩ := h.dr.ex
  exact ⟨⟨sc', ys, k, l, e _ _ h1 (fun _ z => by cases z), h2.keep fun o q => e _ _ q (fun _ z => by cases z), h3⟩, t, h.sl.keep fun o q => e _ _ q (fun _ z => by cases z), h.few⟩
theorem xtN {n : Nat} {H H' : Hp} (e : LamX.ExtN H H') : Xt (mL K m sc Pt xs) H H' := fun b o _ ht q => e b o q (ht rfl)
end
section
variable {X : Cx} {m sc Pt : Addr} {xs : List V} {x : Str} {p p2 pos : Pos}
/-- len(script) -/
theorem de_slen (hm : X.mg "len" = none) (hN : X.N[0]? = some x := by rfl) (hv : Vis X.env.scope x := by first | exact Or.inl rfl | exact Or.inr (Or.inl rfl)) (hd : (x == ("__debug__" : Str)) = false := by decide) (hc : (x == ("__classdict__" : Str)) = false := by decide) (hg : Gl X "len" := by rfl)
    (he : starEach [.Name x p] X.env = (false, eval (.Name x p) X.env) :: starEach [] X.env := by rfl) : DE X (mL X.K m sc Pt xs) (.Call (.Name "len" p2) [.Name x p] [] pos) (fun _ n P => ∀ c : Nat, c ≤ 63 → P (.int ((c : Nat) : Int)) n) :=
  pe_by (pe_callB call_len hg hm boot_len (pa_cons (pe_var hN hv hd hc) pa_nil he) (by decide) (by decide) he rfl) fun s H Q ⟨r, n, P, R, w, k⟩ =>
    ⟨_, R.kp (0, .ref sc) (by simp [mL]), .ref sc, xs.length, rfl, .inl ⟨_, R.st.sl.sq, rfl⟩, k _ H _ n (Xt.refl _ H) R.st (.int _) (w xs.length R.st.few)⟩
@[simp] def wRight (As : WA) : WE := fun r n P => As r n fun ds n1 => ∃ s : St3, ds = [s.pd, s.sd] ∧ s.Ok ∧ P (.bool true) n1
/-- _law_right(..) -/
theorem de_right {C cc g fs f : Addr} {fd fdg fds : FuncData} {e : Expr} {es : List Expr} {As : WA} (T : Txt X.K X.mg) (S : StallAt X.K X.mg fs fds) (Fst : FnOk X.prog X.w X.K X.mg X.base CX0 12 fs fds ["program", "state", "lost"] (spD X.K gStalls)) (Fc : FnP X.K "_law_cannot" s_law_cannot g fdg) (hmc : X.mg "_law_cannot" = some (.ref g)) (G : CgE X.K X.mg C)
    (Cst : CalC X.prog X.w X.K X.mg X.base 12 "step" ["program", "state", "number"] (spC X.K C gStep xNeedGoing)) (C_can_go : Cal X.prog X.w X.K X.mg X.base 12 "can_go" ["program", "state"] (spD X.K gGoing)) (C_is_ended : Cal X.prog X.w X.K X.mg X.base 12 "is_ended" ["program", "state"] (spD X.K gEnded))
    (C_law_leads : Cal X.prog X.w X.K X.mg X.base 1 "_law_leads" ["_law_code", "_law_counter"] (spD X.K gLeads)) (TB : LamX.TabB X.base X.mg cc Pt) (hgd : X.A.guards = some [])
    (F : FnP X.K "_law_right" s_law_right f fd) (hcc : fd.code = .ref cc) (hmf : X.mg "_law_right" = some (.ref f)) (hr : Room 15 X.A) (ha : DA X (mL X.K m sc Pt xs) (e :: es) As) (hg : Gl X "_law_right" := by rfl)
    (he : starEach (e :: es) X.env = (false, eval e X.env) :: starEach es X.env := by rfl) (hpl : (backTo pos (starEach es X.env)).any (·.1) = false := by rfl) :
    DE X (mL X.K m sc Pt xs) (.Call (.Name "_law_right" p) (e :: es) [] pos) (wRight As) := by
  obtain ⟨oc, od, dV, kV, doc, pm, an, cdv, ct, osl, rfl, lk, hcd, _, _⟩ := F.ex
  have ec : cdv = .ref cc := hcc
  subst ec
  have call := pe_callS (X := X) (p := p) (pos := pos) (sp := spRight X.K Pt) (N := N_right) F sc_law_right hmf (F.bindsN fun _ _ _ _ _ _ us hl => match us, hl with | [_, _], _ => rfl) hr (fun vs H Q E h => by
      obtain ⟨s, h1, _⟩ := h
      exact da_len h1) (fun cdv s H vs Q lk2 hr' h => by
      obtain ⟨oc2, od2, dV2, kV2, doc2, pm2, an2, ct2, osl2, lk2⟩ := lk2
      rw [lk] at lk2
      have ec : cdv = .ref cc := by
        have e1 := congrArg Obj.data (Option.some.inj lk2)
        have e2 : PySem.W.fnOf "_law_right" "_law_right" (defArgs s_law_right) (defBody s_law_right) (defScope s_law_right) dV kV doc pm an (.ref cc) ct = PySem.W.fnOf "_law_right" "_law_right" (defArgs s_law_right) (defBody s_law_right) (defScope s_law_right) dV2 kV2 doc2 pm2 an2 cdv ct2 := Data.func.inj e1
        exact (congrArg FuncData.code e2).symm
      subst ec
      exact right_body T S Fst Fc hmc G Cst C_can_go C_is_ended C_law_leads TB hgd X.stack s H vs Q hr' h) ha hg (by decide) he hpl
  refine pe_by call fun s H Q ⟨r, n, P, R, w, k⟩ => ⟨r, n, _, R, w, fun vs H1 ds n1 x1 s1 h1 ⟨st, ed, ok, p⟩ => ?_⟩
  subst ed
  exact ⟨st, h1, ok, s1.tb, fun H2 eN t2 => k _ H2 _ n1 (x1.trans (xtN (n := n1) eN)) (s1.extN eN t2) (.bl true) p⟩
end
/-! readings of loops whose number is drawn -/
theorem w_forA {Wi : WI} {Wg : WG} {Wb : WS} {O : Outs} {r : Rv} {n : Nat} (h : Wi r n fun items n1 => ∃ Iv : Nat → Rv → Nat → Prop, Iv 0 r n1 ∧
    (∀ (i : Nat) (d : PyData) (r1 : Rv) (n1 : Nat), items[i]? = some d → Iv i r1 n1 → Wg d r1 fun r2 => Wb { nx := fun r3 n3 => ∃ r4, Le r4 r3 ∧ Iv (i + 1) r4 n3, ct := fun r3 n3 => ∃ r4, Le r4 r3 ∧ Iv (i + 1) r4 n3, bk := O.nx, rt := O.rt } r2 n1) ∧
    ∀ r1 n1, Iv items.length r1 n1 → O.nx r1 n1) : wFor Wi Wg Wb O r n := by
  unfold wFor
  exact h
theorem rng_at {cnt i : Nat} {d : PyData} (h : (rangeD 0 ((cnt : Nat) : Int).toNat)[i]? = some d) : d = .int ((i : Nat) : Int) ∧ i < cnt := by
  rw [Int.toNat_natCast, range_d] at h
  obtain ⟨j, hj, hm, rfl⟩ := map_at h
  obtain ⟨h2, h3⟩ := List.getElem?_eq_some_iff.mp hj
  rw [List.getElem_range] at h3
  subst h3
  exact ⟨rfl, List.mem_range.mp hm⟩
theorem rng_len (cnt : Nat) : (rangeD 0 ((cnt : Nat) : Int).toNat).length = cnt := by
  rw [Int.toNat_natCast, range_d]
  simp
/-- things drawn one by one -/
theorem wLc_gen {α : Type} {Wi : WI} {Wg : WG} {We : WE} {vs : List Nat} {r : Rv} {n cnt : Nat} {Q : PyData → Nat → Prop} (f : α → PyData) (ok : α → Prop) (st : Nat) (hs : ∀ A : List PyData → Nat → Prop, A (rangeD 0 ((cnt : Nat) : Int).toNat) n → Wi r n A) (hc : cnt ≤ 100) (ht : ∀ a, tupD (f a) = true)
    (step : ∀ k n1, k < cnt → n ≤ n1 → n1 ≤ n + st * k → ∀ P' : PyData → Nat → Prop, (∀ a n2, ok a → n1 ≤ n2 → n2 ≤ n1 + st → P' (f a) n2) → Wg (.int ((k : Nat) : Int)) (wipeR r vs) fun r2 => We r2 n1 P')
    (q : ∀ (l : List α) (n' : Nat), l.length = cnt → (∀ a ∈ l, ok a) → n ≤ n' → n' ≤ n + st * cnt → Q (.list (l.map f)) n') : wLc Wi Wg wYes We vs r n Q := by
  unfold wLc
  refine hs _ ⟨by rw [rng_len]; omega, fun k acc n1 => ∃ l : List α, acc = l.map f ∧ l.length = k ∧ (∀ a ∈ l, ok a) ∧ n ≤ n1 ∧ n1 ≤ n + st * k, ⟨[], rfl, rfl, by simp, Nat.le_refl _, Nat.le_refl _⟩, fun k d acc n1 e hI => ?_, fun acc n1 hI => ?_⟩
  · obtain ⟨l, e1, e2, e3, e4, e5⟩ := hI
    obtain ⟨rfl, lt⟩ := rng_at e
    refine step k n1 lt e4 e5 _ fun a n2 h a1 b1 => ⟨ht a, l ++ [a], by rw [e1]; simp, by simp [e2], fun c hc => ?_, by omega, by rw [Nat.mul_add, Nat.mul_one]; omega⟩
    rcases List.mem_append.mp hc with hc | hc
    · exact e3 c hc
    · rw [List.mem_singleton.mp hc]
      exact h
  · obtain ⟨l, e1, e2, e3, e4, e5⟩ := hI
    subst e1
    rw [rng_len] at e2 e5
    exact q l n1 e2 e3 e4 e5
theorem nowhere_ok : NameOk "nowhere" := by
  have h : 1 ≤ ("nowhere" : Str).length ∧ ("nowhere" : Str).length ≤ 8 ∧ ∀ c ∈ ("nowhere" : Str).cps.toList, 97 ≤ c ∧ c ≤ 122 := by decide +kernel
  exact ⟨h.1, h.2.1, h.2.2⟩
theorem Hall.Ok.name {h : Hall} (o : h.Ok) {x : Str} (hx : x ∈ h.names) : NameOk x := by
  rcases List.mem_append.mp hx with z | z
  · obtain ⟨p, hp, rfl⟩ := List.mem_map.mp z
    exact (o.po p hp).name
  · obtain ⟨s, hs, rfl⟩ := List.mem_map.mp z
    exact (o.so s hs).name
abbrev rT (x2 : Option PyData) (h : Hall) (ts : List Task) (x5 : Option PyData) (nh : List Str) (x9 x10 x11 x13 x14 x15 : Option PyData) : Rv :=
  [none, none, x2, some h.d, some (tasksD ts), x5, some (sd nh), none, none, x9, x10, x11, none, x13, x14, x15]
end K45
/-! KT2 -/
set_option Elab.async false
set_option linter.all false
set_option maxRecDepth 100000
set_option maxHeartbeats 8000000
namespace K45
open PySem PySem.Spec PyProof.Rows L2
abbrev N_law : List Str := ["_law_script", "_law_m", "_law_k", "_law_hall_here", "_law_tasks", "_law_counters", "_law_names_here", "_law_pipe", "_law_one", "_law_name", "_law_size", "_law_code", "_law_j", "_law_turn", "_law_place", "_law_good"]
def spLaw (K : PySem.W.Frag) (Pt : Addr) : Sp := fun vs H Q _ => ∃ (sc : Addr) (ns : List Int), vs = [.ref sc] ∧ ScL K H sc (ns.map V.int) ∧ ns.length ≤ 63 ∧ LamX.Tabs [(Pt, qLam)] H ∧ ∀ H', Q (.bl true) H'
section
variable {P : Program} {w : World} {K : PySem.W.Frag} {mg : Str → Option Value} {base : Heap}
theorem law_body {C cc Pt g fs fr f : Addr} {cdv : Value} {fdg fds fdr : FuncData} (T : Txt K mg) (S : StallAt K mg fs fds) (Fst : FnOk P w K mg base CX0 12 fs fds ["program", "state", "lost"] (spD K gStalls)) (Fc : FnP K "_law_cannot" s_law_cannot g fdg) (hmc : mg "_law_cannot" = some (.ref g)) (G : CgE K mg C)
    (Cst : CalC P w K mg base 12 "step" ["program", "state", "number"] (spC K C gStep xNeedGoing)) (C_can_go : Cal P w K mg base 12 "can_go" ["program", "state"] (spD K gGoing)) (C_is_ended : Cal P w K mg base 12 "is_ended" ["program", "state"] (spD K gEnded))
    (C_law_leads : Cal P w K mg base 1 "_law_leads" ["_law_code", "_law_counter"] (spD K gLeads)) (TB : LamX.TabB base mg cc Pt) (Fr : FnP K "_law_right" s_law_right fr fdr) (hcc : fdr.code = .ref cc) (hmr : mg "_law_right" = some (.ref fr))
    (C_law_begun : Cal P w K mg base 1 "_law_begun" ["_law_script"] (spBegun K)) (C_law_hall : ∀ m : Addr, Cal P w K mg base 4 "_law_hall" ["_law_m"] (spM K (drawM K m) (.ref m) gLHall)) (C_law_names : ∀ m : Addr, Cal P w K mg base 2 "_law_names" ["_law_m", "_law_many"] (spM K (drawM K m) (.ref m) gNames)) (C_law_next : ∀ m : Addr, Cal P w K mg base 1 "_law_next" ["_law_m", "_law_many"] (spM K (drawM K m) (.ref m) gNext)) (C_law_jump : ∀ m : Addr, Cal P w K mg base 3 "_law_jump" ["_law_m", "_law_size", "_law_names_here"] (spM K (drawM K m) (.ref m) gJump)) (C_law_telling : ∀ m : Addr, Cal P w K mg base 3 "_law_telling" ["_law_m", "_law_names_here"] (spM K (drawM K m) (.ref m) gTelling)) 
    {A : Around} (hgd0 : A.guards = some []) (outer : List Env) (s0 : Shared) (H : Hp) (vs : List V) (Q : VK)
    (hr : Room 15 (A.deeper (envOfC "law" (defScope s_law) s0.heap.objs.size f cdv))) (h : spLaw K Pt vs H Q E0) :
    ∃ t, PSs (cxOf CX0 P w K mg base N_law "law" (defScope s_law) f cdv A outer s0 H E0).nox (defBody s_law) t ∧ t { nx := fun _ H' => Q .non H', rt := Q } (L2.start N_law vs) H := by
  have hu := hr.units
  have hu1 := Nat.lt_of_le_of_lt (Nat.add_le_add_left (by decide : 1 ≤ 64) _) hu
  have nd := sc_law.nd
  have hgd : (A.deeper (envOfC "law" (defScope s_law) s0.heap.objs.size f cdv)).guards = some [] := by
    first | exact hgd0 | (rw [show (A.deeper (envOfC "law" (defScope s_law) s0.heap.objs.size f cdv)).guards = A.guards from rfl]; exact hgd0)
  obtain ⟨sc, ns, rfl, hsc, hfew, hT, hq⟩ := h
  obtain ⟨xs, hxs⟩ : ∃ xs : List V, xs = ns.map V.int := ⟨_, rfl⟩
  obtain ⟨fb, fdb, Fb, hmb, hkb, hbb⟩ := C_law_begun.ok
  refine ⟨_, pss_cons (ps_set (i := 1) nd rfl (by first | exact .inl rfl | exact .inr rfl) (pe_call Fb (hr.mono (by decide)) (by rfl) hmb hkb hbb .nil pass0 (pa_cons (pe_var (i := 0) rfl (by first | exact Or.inl rfl | exact Or.inr (Or.inl rfl)) (by decide) (by decide)) pa_nil))) (pss_ex fun m : Addr => (dss_c (ds_for (m := mL K m sc Pt xs) PassesOwn.never rfl (di_r T.n_range (da_c (de_bin op_addA od_add de_i (de_cb (call_min2 rfl) cd_min T.n_min (by decide +kernel) (da_c de_i (da_c (de_slen T.n_len) da_n)))) da_n)) (dg_n 2 sc_law.nd (by simp [mL])) (dss_c (ds_par3 3 4 5 rfl sc_law.nd (by simp [mL]) (by simp [mL]) (by simp [mL]) (by decide) (by decide) (by decide) (da_c (de_draw (i := 1) (C_law_hall m) mL_le hr (by decide) da_n mL_mem) (da_c (de_tup da_n) (da_c (de_tup da_n) da_n))))
      (dss_c (ds_set 6 sc_law.nd (by simp [mL]) (de_bin op_addA od_add (de_bin op_addA od_add (de_lc0 (m := (mL K m sc Pt xs)) [("_law_pipe", 7)] rfl sc_law.nd (di_t (de_ix ix_seq od_ix (de_v 3) de_i (fun _ _ => rfl))) (blkOk_by (N := ["_law_script", "_law_m", "_law_k", "_law_hall_here", "_law_tasks", "_law_counters", "_law_names_here", "_law_pipe", "_law_one", "_law_name", "_law_size", "_law_code", "_law_j", "_law_turn", "_law_place", "_law_good"]) (sc := defScope s_law) (by decide +kernel)) (by simp [mL]) (by decide) (fun _ _ _ _ _ => (dg_n 7 sc_law.nd (by simp [mL]))) (fun _ _ _ _ _ => (de_ix ix_seq od_ix (de_v 7) de_i (fun _ _ => rfl)))) (de_lc0 (m := (mL K m sc Pt xs)) [("_law_one", 8)] rfl sc_law.nd (di_t (de_ix ix_seq od_ix (de_v 3) de_i (fun _ _ => rfl))) (blkOk_by (N := ["_law_script", "_law_m", "_law_k", "_law_hall_here", "_law_tasks", "_law_counters", "_law_names_here", "_law_pipe", "_law_one", "_law_name", "_law_size", "_law_code", "_law_j", "_law_turn", "_law_place", "_law_good"]) (sc := defScope s_law) (by decide +kernel)) (by simp [mL]) (by decide) (fun _ _ _ _ _ => (dg_n 8 sc_law.nd (by simp [mL]))) (fun _ _ _ _ _ => (de_ix ix_seq od_ix (de_v 8) de_i (fun _ _ => rfl))))) (de_lst (da_c de_s da_n))))
      (dss_c (ds_for PassesOwn.never rfl (di_l (de_sl (de_draw (i := 1) (C_law_names m) mL_le hr (by decide) (da_c de_i da_n) mL_mem) do_n (do_s (de_bin op_addA od_add de_i (de_draw (i := 1) (C_law_next m) mL_le hr (by decide) (da_c de_i da_n) mL_mem))))) (dg_n 9 sc_law.nd (by simp [mL])) (dss_c (ds_set 10 sc_law.nd (by simp [mL]) (de_bin op_addA od_add de_i (de_draw (i := 1) (C_law_next m) mL_le hr (by decide) (da_c de_i da_n) mL_mem)))
      (dss_c (ds_lc0 (m := (mL K m sc Pt xs)) [("_law_j", 12)] 11 rfl sc_law.nd (by simp [mL]) (sw_true rfl rfl rfl (by decide +kernel)) (di_r T.n_range (da_c (de_v 10) da_n)) (blkOk_by (N := ["_law_script", "_law_m", "_law_k", "_law_hall_here", "_law_tasks", "_law_counters", "_law_names_here", "_law_pipe", "_law_one", "_law_name", "_law_size", "_law_code", "_law_j", "_law_turn", "_law_place", "_law_good"]) (sc := defScope s_law) (by decide +kernel)) (by simp [mL]) (by decide) (fun _ _ _ _ _ => (dg_n 12 sc_law.nd (by simp [mL]))) (fun _ _ _ _ _ => (de_draw (i := 1) (C_law_jump m) mL_le hr (by decide) (da_c (de_v 10) (da_c (de_v 6) da_n)) mL_mem)))
      (dss_1 (ds_set 4 sc_law.nd (by simp [mL]) (de_bin op_addA od_add (de_v 4) (de_tup (da_c (de_tup (da_c (de_v 9) (da_c (de_ct call_tuple_of cd_tuple T.n_tuple (by decide +kernel) (da_c (de_v 11) da_n)) da_n))) da_n))))))))
      (dss_1 (ds_for PassesOwn.never rfl (di_r T.n_range (da_c de_i da_n)) (dg_n 13 sc_law.nd (by simp [mL])) (dss_c (ds_set 5 sc_law.nd (by simp [mL]) (de_tup da_n))
      (dss_c (ds_for PassesOwn.never rfl (di_t (de_v 4)) (dg_t (n := 2) rfl (dgs_c (dg_n 9 sc_law.nd (by simp [mL])) (dgs_c (dg_n 11 sc_law.nd (by simp [mL])) dgs_n))) (dss_c (ds_par 14 15 rfl sc_law.nd (by simp [mL]) (by simp [mL]) (by decide) (da_c (de_draw (i := 1) (C_law_next m) mL_le hr (by decide) (da_c (de_bin op_addA od_add (de_cb call_len cd_len T.n_len (by decide +kernel) (da_c (de_v 11) da_n)) de_i) da_n) mL_mem) (da_c (de_cmp (op_eqA hu) od_eq (de_draw (i := 1) (C_law_next m) mL_le hr (by decide) (da_c de_i da_n) mL_mem) de_i (nomark _)) da_n)))
      (dss_1 (ds_set 5 sc_law.nd (by simp [mL]) (de_bin op_addA od_add (de_v 5) (de_tup (da_c (de_tup (da_c (de_v 14) (da_c (de_v 15) (da_c (de_draw (i := 1) (C_law_telling m) mL_le hr (by decide) (da_c (de_v 6) da_n) mL_mem) da_n)))) da_n)))))))
      (dss_1 (ds_if (dt_not (dt_v (de_right T S Fst Fc hmc G Cst C_can_go C_is_ended C_law_leads TB hgd Fr hcc hmr hr (da_c (de_tup (da_c (de_v 3) (da_c (de_v 4) da_n))) (da_c (de_tup (da_c (de_v 3) (da_c (de_v 5) da_n))) da_n))))) (dss_1 (ds_ret de_b)) dss_n))))))))))
      (dss_1 (ds_ret de_b)))), ?_⟩
  refine seq_i ⟨.ref sc, rfl, sc, rfl, fun m hm => ?_⟩
  have eM : Ex H (upd H m (.dK (mKv sc 0 0))) := Ex.new hm
  have R0 : Rst K (mL K m sc Pt xs) ((L2.start N_law [V.ref sc]).set 1 (some (V.ref m))) (upd H m (.dK (mKv sc 0 0))) (List.replicate 16 none) 0 := by
    refine ⟨fun i d e => ?_, rfl, fun p hp => ?_, ⟨⟨sc, ns, 0, 0, upd_same, hsc.keep fun o z => eM _ _ z, hfew, Nat.le_refl _⟩, hT.ext eM, ?_, ?_⟩⟩
    · have := List.eq_of_mem_replicate (List.mem_of_getElem? e)
      cases this
    · simp only [mL, List.mem_cons, List.not_mem_nil, or_false] at hp
      rcases hp with rfl | rfl <;> rfl
    · rw [hxs]
      exact hsc.keep fun o z => eM _ _ z
    · rw [hxs, List.length_map]
      exact hfew
  refine ⟨m, _, 0, { nx := fun _ _ => False, rt := fun d _ => d = .bool true }, R0, ?_, ⟨fun _ _ _ _ _ _ z => z.elim, fun v H9 d9 n9 _ _ h9 e9 => ?_, fun _ _ _ _ _ _ z => z.elim, fun _ _ _ _ _ _ z => z.elim⟩⟩
  · dsimp only [wSeq]
    refine w_forA fun c hc => ?_
    obtain ⟨cnt, hcnt, hcr⟩ : ∃ cnt : Nat, cnt ≤ 4 ∧ (1 : Int) + (if ((c : Nat) : Int) < 3 then ((c : Nat) : Int) else 3) = ((cnt : Nat) : Int) := by
      by_cases h : ((c : Nat) : Int) < 3
      · exact ⟨1 + c, by omega, by rw [if_pos h]; omega⟩
      · exact ⟨4, by omega, by rw [if_neg h]; rfl⟩
    refine ⟨_, rfl, trivial, .int ((cnt : Nat) : Int), congrArg (fun z => some (PyData.int z)) hcr, trivial, _, rfl, ⟨by omega, by omega⟩, fun i r n => r = List.replicate 16 none ∧ n ≤ 3000 * i, ⟨rfl, Nat.zero_le _⟩, fun i d r1 n1 e hI => ?_, fun r1 n1 hI => rfl⟩
    obtain ⟨rfl, hb⟩ := hI
    obtain ⟨rfl, lt⟩ := rng_at e
    have i4 : i < 4 := by omega
    dsimp only [wgN, wSeq]
    refine ⟨rfl, by omega, fun h n2 okh p1 a2 b2 => ⟨by simp, by simp, _, _, _, rfl, ?_⟩⟩
    have hp4 := okh.p4
    have hs4 := okh.s4
    obtain ⟨nh, enh⟩ : ∃ nh : List Str, nh = h.names ++ [("nowhere" : Str)] := ⟨_, rfl⟩
    have nhl : nh.length ≤ 100 := by
      rw [enh]
      simp [Hall.names]
      omega
    have nh1 : 1 ≤ nh.length := by
      rw [enh]
      simp
    have nhok : ∀ x ∈ nh, NameOk x := fun x hx => by
      rw [enh] at hx
      rcases List.mem_append.mp hx with z | z
      · exact okh.name z
      · rw [List.mem_singleton.mp z]
        exact nowhere_ok
    dsimp only [wAsg, wOp]
    refine g_mapF h.pipes Pipe.d (fun p => .str p.name) (fun A q => ⟨_, rfl, _, rfl, trivial, _, rfl, q⟩) (by omega) (fun p _ P' q => ⟨_, rfl, _, rfl, trivial, q⟩) (fun p _ => by simp) _ ?_
    refine g_mapF h.sets SetD.d (fun p => .str p.name) (fun A q => ⟨_, rfl, _, rfl, trivial, _, rfl, q⟩) (by omega) (fun p _ P' q => ⟨_, rfl, _, rfl, trivial, q⟩) (fun p _ => by simp) _ ?_
    refine ⟨_, rfl, ?_, by simp, sd nh, ?_, ?_, ?_⟩
    · show (h.pipes.map fun p => PyData.str p.name).length + (h.sets.map fun p => PyData.str p.name).length ≤ 100000
      rw [List.length_map, List.length_map]
      omega
    · show some (PyData.list (((h.pipes.map fun p => PyData.str p.name) ++ (h.sets.map fun p => PyData.str p.name)) ++ [.str "nowhere"])) = some (sd nh)
      rw [enh]
      simp [Hall.names, Function.comp_def]
    · show ((h.pipes.map fun p => PyData.str p.name) ++ (h.sets.map fun p => PyData.str p.name)).length + 1 ≤ 100000
      rw [List.length_append, List.length_map, List.length_map]
      omega
    show wFor _ _ _ _ (rT (some (.int ((i : Nat) : Int))) h [] (some (.tuple [])) nh none none none none none none) n2
    refine w_forA ⟨4, rfl, by decide, by omega, fun nms n3 hl hnd hok a3 b3 => ⟨4, rfl, by decide, by decide, by omega, fun v n4 hv a4 b4 => ⟨_, rfl, trivial, _, rfl, _, rfl, trivial, _, rfl,
      fun j r n => ∃ ts : List Task, ts.length = j ∧ ts.map Task.name = nms.take j ∧ (∀ t ∈ ts, t.Ok) ∧ r = rT (some (.int ((i : Nat) : Int))) h ts (some (.tuple [])) nh none none none none none none ∧ n4 ≤ n ∧ n ≤ n4 + 49 * j, ⟨[], rfl, rfl, by simp, rfl, Nat.le_refl _, Nat.le_refl _⟩, fun j d r5 n5 e5 hI => ?_, fun r5 n5 hI => ?_⟩⟩⟩
    · obtain ⟨ts, e1, e2, e3, rfl, a5, b5⟩ := hI
      have e5' : ((nms.take (1 + v)).map PyData.str)[j]? = some d := by
        have z : (cutL (nms.map PyData.str) none (some ((1 : Int) + ((v : Nat) : Int))))[j]? = some d := e5
        rw [show ((1 : Int) + ((v : Nat) : Int)) = ((1 + v : Nat) : Int) by omega, cut_to, ← List.map_take] at z
        exact z
      obtain ⟨nm, hnm, _, rfl⟩ := map_at e5'
      have jl : j < 1 + v := by
        have := (List.getElem?_eq_some_iff.mp hnm).1
        rw [List.length_take] at this
        omega
      have hnm2 : nms[j]? = some nm := by rw [List.getElem?_take_of_lt jl] at hnm; exact hnm
      dsimp only [wgN, wSeq, wAsg]
      refine ⟨12, rfl, by decide, by decide, by omega, fun u n6 hu6 a6 b6 => ⟨.int ((1 + u : Nat) : Int), congrArg (fun z => some (PyData.int z)) (show (1 : Int) + ((u : Nat) : Int) = ((1 + u : Nat) : Int) by omega), trivial, ?_⟩⟩
      refine wLc_gen Ins.d (fun x : Ins => x.Ok (1 + u)) 4 (cnt := 1 + u) (fun A q => ⟨_, rfl, _, rfl, ⟨by omega, by omega⟩, q⟩) (by omega) ins_tup (fun k n7 hk a7 b7 P' q => ?_) (fun code n7 hl7 hok7 a7 b7 => ?_)
      · exact ⟨_, rfl, _, rfl, 1 + u, nh, rfl, by omega, nh1, nhl, nhok, by omega, fun x n8 hx a8 b8 => q x n8 hx a8 b8⟩
      · refine ⟨_, rfl, _, rfl, _, rfl, _, rfl, trivial, by simp, by simp, tasksD (ts ++ [⟨nm, code⟩]), ?_, ?_, ?_⟩
        · show some (PyData.tuple (ts.map Task.d ++ [Task.d ⟨nm, code⟩])) = _
          unfold tasksD
          rw [List.map_append]
          rfl
        · show (ts.map Task.d).length + 1 ≤ 100000
          rw [List.length_map]
          omega
        · refine ⟨rT (some (.int ((i : Nat) : Int))) h (ts ++ [⟨nm, code⟩]) (some (.tuple [])) nh none none none none none none, ?_, ts ++ [⟨nm, code⟩], by simp [e1], ?_, ?_, rfl, by omega, by omega⟩
          · exact le_same _ (le_same _ (le_same _ (le_same _ (le_same _ (le_same _ (le_same _ (le_same _ (le_same _ (le_none _ (le_none _ (le_none _ (Le.refl _))))))))))))
          · rw [List.map_append, e2, take_succ_some hnm2]
            rfl
          · intro t ht
            rcases List.mem_append.mp ht with ht | ht
            · exact e3 t ht
            · rw [List.mem_singleton.mp ht]
              refine ⟨hok nm (List.mem_of_getElem? hnm2), ?_, ?_, ?_⟩
              · show 1 ≤ code.length
                omega
              · show code.length ≤ 12
                omega
              · show ∀ x ∈ code, x.Ok code.length
                rw [hl7]
                exact hok7
    · obtain ⟨ts, e1, e2, e3, rfl, a5, b5⟩ := hI
      have e1' : ts.length ≤ 4 ∧ n5 ≤ n4 + 196 := by
        have z : (cutL (nms.map PyData.str) none (some ((1 : Int) + ((v : Nat) : Int)))).length ≤ 4 := by
          rw [show ((1 : Int) + ((v : Nat) : Int)) = ((1 + v : Nat) : Int) by omega, cut_to, List.length_take, List.length_map]
          omega
        have e1z : ts.length = (cutL (nms.map PyData.str) none (some ((1 : Int) + ((v : Nat) : Int)))).length := e1
        have b5z : n5 ≤ n4 + 49 * (cutL (nms.map PyData.str) none (some ((1 : Int) + ((v : Nat) : Int)))).length := b5
        omega
      have okts : TasksOk ts := ⟨e1'.1, e3, by rw [e2]; exact hnd.sublist (List.take_sublist _ _)⟩
      have tl4 := e1'.1
      have b5' := e1'.2
      clear e1 e1' b5
      dsimp only
      refine w_forA ⟨_, rfl, ⟨by decide, by decide⟩, fun k r n => ∃ x5, r = rT (some (.int ((i : Nat) : Int))) h ts x5 nh none none none none none none ∧ n5 ≤ n ∧ n ≤ n5 + 88 * k, ⟨_, rfl, Nat.le_refl _, Nat.le_refl _⟩, fun k d r7 n7 e7 hI => ?_, fun r7 n7 hI => ?_⟩
      · obtain ⟨x5, rfl, a7, b7⟩ := hI
        obtain ⟨rfl, klt⟩ := rng_at (cnt := 4) e7
        dsimp only [wgN, wSeq, wAsg]
        refine ⟨by simp, ?_⟩
        refine w_forA ⟨_, rfl, _, rfl, fun l r n => ∃ cs : List Ctr, cs.length = l ∧ (∀ (k : Nat) (c : Ctr) (t : Task), cs[k]? = some c → ts[k]? = some t → c.Ok t.code.length) ∧ r = rT (some (.int ((i : Nat) : Int))) h ts (some (ctrsD cs)) nh none none none (some (.int ((k : Nat) : Int))) none none ∧ n7 ≤ n ∧ n ≤ n7 + 22 * l,
          ⟨[], rfl, by simp, rfl, Nat.le_refl _, Nat.le_refl _⟩, fun l d r8 n8 e8 hI => ?_, fun r8 n8 hI => ?_⟩
        · obtain ⟨cs, f1, f2, rfl, a8, b8⟩ := hI
          obtain ⟨t, ht, htm, rfl⟩ := map_at (f := Task.d) (l := ts) e8
          have ll : l < ts.length := (List.getElem?_eq_some_iff.mp ht).1
          have okt := okts.ok t htm
          have tc := okt.hi
          dsimp only [wgN, wSeq, wAsg]
          refine ⟨_, rfl, rfl, _, _, rfl, _, _, rfl, rfl, ?_⟩
          refine ⟨_, rfl, _, rfl, trivial, _, rfl, trivial, t.code.length + 1, ?_, by omega, by omega, by omega, fun pl n9 hpl a9 b9 => ⟨2, rfl, by decide, by decide, by omega, fun gd n10 hgd a10 b10 => ⟨_, rfl, .inl rfl, _, _, rfl, ?_⟩⟩⟩
          · show [PyData.int ((((t.code.map Ins.d).length : Nat) : Int) + 1)] = _
            rw [List.length_map]
            rfl
          refine ⟨_, rfl, _, rfl, _, rfl, _, rfl, nh, rfl, nh1, nhl, nhok, by omega, fun tl n11 htl a11 b11 => ⟨by simp, by simp, ctrsD (cs ++ [⟨pl, PyData.eqv (.int ((gd : Nat) : Int)) (.int 0), tl⟩]), ?_, ?_, ?_⟩⟩
          · show some (PyData.tuple (cs.map Ctr.d ++ [Ctr.d ⟨pl, PyData.eqv (.int ((gd : Nat) : Int)) (.int 0), tl⟩])) = _
            unfold ctrsD
            rw [List.map_append]
            rfl
          · show (cs.map Ctr.d).length + 1 ≤ 100000
            rw [List.length_map]
            omega
          · refine ⟨rT (some (.int ((i : Nat) : Int))) h ts (some (ctrsD (cs ++ [⟨pl, PyData.eqv (.int ((gd : Nat) : Int)) (.int 0), tl⟩]))) nh none none none (some (.int ((k : Nat) : Int))) none none, ?_, cs ++ [⟨pl, PyData.eqv (.int ((gd : Nat) : Int)) (.int 0), tl⟩], by simp [f1], ?_, rfl, by omega, by omega⟩
            · exact le_same _ (le_same _ (le_same _ (le_same _ (le_same _ (le_same _ (le_same _ (le_same _ (le_same _ (le_none _ (le_same _ (le_none _ (le_same _ (le_same _ (le_none _ (le_none _ (Le.refl _))))))))))))))))
            · intro k2 c2 t2 hc2 ht2
              by_cases z : k2 < cs.length
              · rw [List.getElem?_append_left z] at hc2
                exact f2 k2 c2 t2 hc2 ht2
              · have z2 := (List.getElem?_eq_some_iff.mp hc2).1
                rw [List.length_append, List.length_singleton] at z2
                have ek : k2 = cs.length := by omega
                subst ek
                rw [List.getElem?_append_right (Nat.le_refl _), Nat.sub_self] at hc2
                have ec := Option.some.inj hc2
                subst ec
                rw [f1, ht] at ht2
                have et := Option.some.inj ht2
                subst et
                exact ⟨by show pl ≤ t.code.length; omega, htl⟩
        · obtain ⟨cs, f1, f2, rfl, a8, b8⟩ := hI
          have f1' : cs.length = ts.length := by
            have z : cs.length = (ts.map Task.d).length := f1
            rw [List.length_map] at z
            exact z
          have b8' : n8 ≤ n7 + 88 := by
            have z : n8 ≤ n7 + 22 * (ts.map Task.d).length := b8
            rw [List.length_map] at z
            omega
          dsimp only
          refine ⟨_, rfl, _, rfl, by simp, _, rfl, _, rfl, by simp, ⟨h, ts, cs⟩, rfl, ⟨okh, okts, f1', f2⟩, true, rfl, iteF ?_⟩
          refine ⟨rT (some (.int ((i : Nat) : Int))) h ts (some (ctrsD cs)) nh none none none none none none, ?_, _, rfl, by omega, by omega⟩
          exact le_same _ (le_same _ (le_same _ (le_same _ (le_same _ (le_same _ (le_same _ (le_same _ (le_same _ (le_same _ (le_same _ (le_same _ (le_same _ (le_none _ (Le.refl _))))))))))))))
      · obtain ⟨x5, rfl, a7, b7⟩ := hI
        have b7' : n7 ≤ n5 + 352 := b7
        dsimp only
        refine ⟨List.replicate 16 none, ⟨rfl, fun j d e => (nn e).elim⟩, rfl, by omega⟩
  · subst e9
    cases h9
    exact hq H9
end
end K45
/-! KE1 -/
set_option Elab.async false
set_option linter.all false
set_option maxRecDepth 100000
set_option maxHeartbeats 4000000
/-! the end: the law is called where nothing else runs -/
namespace K45
open PySem PySem.Spec PyProof.Rows L2
/-- what the head leaves, and what the law asks of it -/
structure EndAt (P : Program) (w : World) (K : PySem.W.Frag) (mg : Str → Option Value) (fa cc Pt : Addr) (fd : FuncData) : Prop where
  F : FnP K "law" s_law fa fd
  body : ∀ base : Heap, K.In base → base.Ns mainGlobals mg → LamX.TabB base mg cc Pt → ∀ (cdv : Value) (s0 : Shared) (H : Hp) (vs : List V) (Q : VK), Room 15 (callerA.deeper (envOfC "law" (defScope s_law) s0.heap.objs.size fa cdv)) → spLaw K Pt vs H Q E0 →
    ∃ t, PSs (cxOf CX0 P w K mg base N_law "law" (defScope s_law) fa cdv callerA [] s0 H E0).nox (defBody s_law) t ∧ t { nx := fun _ H' => Q .non H', rt := Q } (L2.start N_law vs) H
section
variable {P : Program} {w : World} {K : PySem.W.Frag} {mg mb : Str → Option Value} {fa a cc Pt : Addr} {fd : FuncData} {s : Shared} {vs : List Value} {ns : List Int}
/-- of an abstract heap that tracks the table, the script, and nothing else -/
theorem end_at (EA : EndAt P w K mg fa cc Pt fd) (KX : K.In s.heap) (hns : s.heap.Ns mainGlobals mg) (hb : s.heap.Ns builtinsNs mb) (hbb : ∀ x : Str, x ≠ "__name__" → mb x = bootBuiltins x) (hlim : s.heap.NoLimit) (hg : s.gens = #[])
    (hT : s.heap.get? Pt = some { cls := .none, data := .fields #[] }) (nT : K.lookup Pt = none) (Cd : PySem.W.CodeHd s.heap cc Pt)
    (hbm : ∃ (bm : Addr) (ob : Obj), mg "__builtins__" = some (.ref bm) ∧ bm ≠ builtinsNs ∧ s.heap.get? bm = some ob ∧ ob.cls = .type "module" ∧ ob.dict = some builtinsNs ∧ ob.data = .plain)
    (ha : s.heap.get? a = some { cls := .type "list", data := .seq vs.toArray }) (hl : ns.length ≤ 63) (hr : Room 16 callerA) (H : Hp) (hHT : H Pt = some (.tbl #[])) (hO : ∀ b, H b = none ∨ b = Pt ∨ ∃ o xs, H b = some (.frz o (.lst xs))) (hS : ScL K H a (ns.map V.int)) (hok : HOk P w H s.heap)
    (hA : ∀ b, H b ≠ none → b = a ∨ b = Pt) (hK : H a ≠ none → K.lookup a = none) :
    codeAny (model P w) callerA (.call (.ref fa) ⟨[.ref a], []⟩) (fun r s' => r = .ok (.ret (.bool true)) ∧ OldK s.heap s'.heap ∧ s'.os = s.os ∧ AllBare s'.gens) s := by
  have up : ∀ {b : Addr} {o : Obj}, s.heap.get? b = some o → H b = none → (hidT s.heap H).get? b = some o := fun e n => hidT_get e n
  have off : ∀ {b : Addr} {o : Obj}, s.heap.get? b = some o → (∀ xs n, o.data ≠ .seq xs n) → o.data ≠ .fields #[] → H b = none := fun {b o} e h1 h2 => by
    cases q : H b with
    | none => rfl
    | some u =>
      rcases hA b (by rw [q]; simp) with rfl | rfl
      · rw [ha] at e
        cases e
        exact absurd rfl (h1 _ _)
      · rw [hT] at e
        cases e
        exact absurd rfl h2
  have offD : ∀ {b : Addr} {o : Obj} {es : Array DictEntry} {ep : Nat}, s.heap.get? b = some o → o.data = .dict es ep → H b = none := fun e d => off e (fun _ _ z => by rw [d] at z; cases z) (fun z => by rw [d] at z; cases z)
  have nsU : ∀ {b : Addr} {f : Str → Option Value}, s.heap.Ns b f → (hidT s.heap H).Ns b f := fun ⟨o, es, ep, e, d, r⟩ => ⟨o, es, ep, up e (offD e d), d, r⟩
  have KU : K.In (hidT s.heap H) := fun b o e => up (KX b o e) (by
    cases q : H b with
    | none => rfl
    | some u =>
      rcases hA b (by rw [q]; simp) with rfl | rfl
      · have := hK (by rw [q]; simp)
        rw [this] at e
        cases e
      · rw [nT] at e
        cases e)
  have MU : L2.Mod K mg (hidT s.heap H) := ⟨KU, nsU hns, ⟨mb, nsU hb, hbb⟩, let ⟨mc, h1, h2⟩ := hlim; ⟨mc, nsU h1, h2⟩⟩
  have TB : LamX.TabB (hidT s.heap H) mg cc Pt := by
    refine ⟨?_, ?_, fun z => ?_⟩
    · obtain ⟨o, us, file, tf, flags, tg, inF, text, tt, e1, r1, r2, r3, rest⟩ := Cd
      refine ⟨o, us, file, tf, flags, tg, inF, text, tt, up e1 (off e1 (fun _ _ z => by rw [r2] at z; cases z) fun z => ?_), r1, r2, r3, rest⟩
      rw [r2] at z
      cases z
      simp at r3
    · obtain ⟨bm, ob, b1, b2, b3, b4, b5, b6⟩ := hbm
      refine ⟨bm, ob, b1, b2, fun q => ?_, fun q => ?_, up b3 (off b3 (fun _ _ z => by rw [b6] at z; cases z) fun z => by rw [b6] at z; cases z), b4, b5, b6⟩
      · obtain ⟨o, es, ep, e, hd, _⟩ := hns
        rw [q, e] at b3
        cases b3
        rw [hd] at b6
        cases b6
      · rw [q, hT] at b3
        cases b3
        cases b6
    · obtain ⟨o, es, ep, e, hd, _⟩ := hns
      rw [z, hT] at e
      cases e
      cases hd
  have e0 : Env0 P w K mg (hidT s.heap H) callerA [] s H := ⟨rfl, MU, fun b o e => of_hidT e, Nat.le_of_eq (hidT_size _ _), trivial, fun b hb => absurd (show b ∈ ([] : List Addr) from hb) (by simp), hok, .of_eq hg⟩
  obtain ⟨oc, od, dV, kV, doc, pm, an, cdv, ct, osl, efd, lk, hcd, _, _⟩ := EA.F.ex
  have bnd : ∀ us : List Value, us.length = 1 → BindsTo s fd ⟨us, []⟩ (([("_law_script" : Str)] : List Str).zip us) := EA.F.bindsA (ps := ["_law_script"]) (fun _ _ _ _ _ _ us hl => match us, hl with | [_], _ => rfl) s
  subst efd
  have hT0 : LamX.Tabs [(Pt, qLam)] H := fun p hp => by
    rw [List.mem_singleton.mp hp]
    exact LamX.TabS.nil hHT
  have run := LamX.run_ofS (CX := CX0) (P := P) (w := w) (mg := mg) (base := hidT s.heap H) (vs := [V.ref a]) (us := [Value.ref a]) (Q := fun v _ => v = .bl true) (E := E0) lk hcd sc_law hr e0 (bnd [.ref a] rfl) (.cons rfl .nil) rfl fun hr' => by
    obtain ⟨t', ht', hq'⟩ := EA.body _ KU (nsU hns) TB cdv s H [.ref a] (fun v _ => v = .bl true) hr' ⟨a, ns, rfl, hS, hl, hT0, fun _ => rfl⟩
    exact ⟨t', ht'.nox, hq'⟩
  refine codeAny_mono run fun r s' h => ?_
  cases r with
  | error e => exact (show False from h).elim
  | ok fl =>
    cases fl with
    | next => exact False.elim h
    | brk => exact False.elim h
    | cont => exact False.elim h
    | ret u =>
      obtain ⟨v, H', os, bare, un, hok', r', q⟩ := h
      have q' : v = .bl true := q
      subst q'
      obtain rfl : u = Value.bool true := r'
      have keep : ∀ b o, b ≠ Pt → s.heap.get? b = some o → s'.heap.get? b = some o := fun b o nb e => by
        rcases hO b with z | z | ⟨ob, xs, z⟩
        · exact un.keep b o e z (fun y => absurd (show b ∈ ([] : List Addr) from y) (by simp)) (by simp)
        · exact absurd z nb
        · obtain ⟨e1, _⟩ := hok b _ z
          obtain ⟨e2, _⟩ := hok' b _ (un.frzs b ob _ z)
          rw [e] at e1
          cases e1
          exact e2
      obtain ⟨more, hm⟩ := un.tbls Pt #[] hHT
      have hm' := hok' Pt _ hm
      refine ⟨rfl, ⟨fun b o e => ?_, fun b o e => ?_⟩, os, bare⟩
      · by_cases hb : b = Pt
        · subst hb
          rw [hT] at e
          cases e
          exact .inr (.inl ⟨(Cd.tab hT).isCodeTable, rfl, #[], _, rfl, by rw [Array.empty_append]; exact hm'⟩)
        · exact .inl (keep b o hb e)
      · by_cases hb : b = Pt
        · subst hb
          exact ⟨_, hm'⟩
        · exact ⟨o, keep b o hb e⟩
/-- the law's call, from what the head leaves -/
theorem call_at (EA : EndAt P w K mg fa cc Pt fd) (KX : K.In s.heap) (hns : s.heap.Ns mainGlobals mg) (hb : s.heap.Ns builtinsNs mb) (hbb : ∀ x : Str, x ≠ "__name__" → mb x = bootBuiltins x) (hlim : s.heap.NoLimit) (hg : s.gens = #[])
    (hT : s.heap.get? Pt = some { cls := .none, data := .fields #[] }) (nT : K.lookup Pt = none) (Cd : PySem.W.CodeHd s.heap cc Pt)
    (hbm : ∃ (bm : Addr) (ob : Obj), mg "__builtins__" = some (.ref bm) ∧ bm ≠ builtinsNs ∧ s.heap.get? bm = some ob ∧ ob.cls = .type "module" ∧ ob.dict = some builtinsNs ∧ ob.data = .plain)
    (ha : s.heap.get? a = some { cls := .type "list", data := .seq vs.toArray }) (hi : IntsAre vs ns) (hl : ns.length ≤ 63) (hr : Room 16 callerA) :
    codeAny (model P w) callerA (.call (.ref fa) ⟨[.ref a], []⟩) (fun r s' => r = .ok (.ret (.bool true)) ∧ OldK s.heap s'.heap ∧ s'.os = s.os ∧ AllBare s'.gens) s := by
  have rv := vals_ints hi
  have lv := hi.length
  have lz : ns.length ≤ sizeLine := Nat.le_trans hl (by rw [sizeLine_eq]; decide)
  have aP : a ≠ Pt := fun z => by
    rw [z, hT] at ha
    have e := congrArg Obj.data (Option.some.inj ha)
    cases e
  cases hk : K.lookup a with
  | some o =>
    have e := KX a o hk
    rw [ha] at e
    cases e
    refine end_at EA KX hns hb hbb hlim hg hT nT Cd hbm ha hl hr (fun b => if b = Pt then some (.tbl #[]) else none) (if_pos rfl) (fun b => ?_) (.inr (.inr ⟨_, vs.toArray, _, hk, rfl, rfl, rfl, by rw [List.size_toArray, lv]; exact lz, by simpa using rv⟩)) (fun b u z => ?_) (fun b z => ?_) (fun z => absurd (if_neg aP) z)
    · by_cases q : b = Pt
      · exact .inr (.inl q)
      · exact .inl (if_neg q)
    · by_cases q : b = Pt
      · subst q
        have z2 := (if_pos rfl).symm.trans z
        cases z2
        exact hT
      · have z2 := (if_neg q).symm.trans z
        cases z2
    · by_cases q : b = Pt
      · exact .inr q
      · exact absurd (if_neg q) z
  | none =>
    refine end_at EA KX hns hb hbb hlim hg hT nT Cd hbm ha hl hr (fun b => if b = Pt then some (.tbl #[]) else if b = a then some (.frz { cls := .type "list", data := .seq vs.toArray } (.lst (ns.map V.int))) else none) (if_pos rfl) (fun b => ?_)
      (.inl ⟨{ cls := .type "list", data := .seq vs.toArray }, (if_neg aP).trans (if_pos rfl)⟩) (fun b u z => ?_) (fun b z => ?_) (fun _ => hk)
    · by_cases q : b = Pt
      · exact .inr (.inl q)
      · by_cases q2 : b = a
        · exact .inr (.inr ⟨_, _, (if_neg q).trans (if_pos q2)⟩)
        · exact .inl ((if_neg q).trans (if_neg q2))
    · by_cases q : b = Pt
      · subst q
        have z2 := (if_pos rfl).symm.trans z
        cases z2
        exact hT
      · have z1 := (if_neg q).symm.trans z
        by_cases q2 : b = a
        · subst q2
          have z2 := (if_pos rfl).symm.trans z1
          cases z2
          exact ⟨ha, by rw [List.length_map]; exact lz, vs, _, rv, ha⟩
        · have z2 := (if_neg q2).symm.trans z1
          cases z2
    · by_cases q : b = Pt
      · exact .inr q
      · by_cases q2 : b = a
        · exact .inl q2
        · exact absurd ((if_neg q).trans (if_neg q2)) z
end
/-- the walk, by what the head tells -/
theorem walk45 {l : PySem.W.OpenLaw} {q : Program} {loose : List Str} {XP : (Str → Option Value) → Heap → Prop} {YP : World → Heap → Prop} {d : DefRec} (hn : l.most = some 63) (hdf : d.params.defaults = []) (hr : Room 16 callerA)
    (F : ∀ (w : World) (mg : Str → Option Value) (fa : Addr) (h : Heap), YP w h → h.Ns mainGlobals mg → mg d.name = some (.ref fa) →
      ∃ (K : PySem.W.Frag) (cc Pt : Addr) (fd : FuncData), K.In h ∧ EndAt l.prog w K mg fa cc Pt fd ∧ h.get? Pt = some { cls := .none, data := .fields #[] } ∧ K.lookup Pt = none ∧ PySem.W.CodeHd h cc Pt) :
    PySem.W.WalkO q loose XP YP l.row.toRowW d [] (fun f vs => PySem.call f vs) := by
  refine Att.attach_callB hn hdf fun w s₀ s₁ mg mb fa o pm cd doc a vs ns G Y ho hd hcd hmg hobj hints hlen hbits hg => ?_
  obtain ⟨K, cc, Pt, fd, KX, EA, hT, nT, Cd⟩ := F w mg fa _ Y G.T.g hmg
  exact call_at EA KX G.T.g G.T.b G.T.builtins G.T.nolimit hg hT nT Cd G.T.bmain hobj hints hlen hr
end K45
/-! KF1 -/
set_option Elab.async false
set_option linter.all false
set_option maxRecDepth 100000
set_option maxHeartbeats 4000000
/-! from what the head tells to what the end asks -/
namespace K45
open PySem PySem.Spec PyProof.Rows L2
theorem end_of {P : Program} {w : World} {K : PySem.W.Frag} {mg : Str → Option Value} {fa cc Pt C fI fs g fr : Addr} {fd fdI fds fdg fdr : FuncData} (T : Txt K mg) (DD : KNum K w mg "DEEDS" deedsF) (DL : KNum K w mg "LENGTHS" lengthsF) (S : StallAt K mg fs fds) (G : CgAt K mg C fI fdI) (GE : CgE K mg C)
    (Fc : FnP K "_law_cannot" s_law_cannot g fdg) (hmc : mg "_law_cannot" = some (.ref g)) (Fr : FnP K "_law_right" s_law_right fr fdr) (hmr : mg "_law_right" = some (.ref fr)) (hcc : fdr.code = .ref cc) (Fl : FnP K "law" s_law fa fd) : EndAt P w K mg fa cc Pt fd := by
  refine ⟨Fl, fun base _ _ TB cdv s0 H vs Q hr h => ?_⟩
  have C_is_number := ok_is_number (P := P) (w := w) (K := K) (mg := mg) (base := base) T
  have C_is_tuple_of := ok_is_tuple_of (P := P) (w := w) (K := K) (mg := mg) (base := base) T
  have C_are_up_to := ok_are_up_to (P := P) (w := w) (K := K) (mg := mg) (base := base) T
  have C_is_name := ok_is_name (P := P) (w := w) (K := K) (mg := mg) (base := base) T
  have C_are_words := ok_are_words (P := P) (w := w) (K := K) (mg := mg) (base := base) T C_are_up_to
  have C_is_interest := ok_is_interest (P := P) (w := w) (K := K) (mg := mg) (base := base) T C_is_tuple_of C_are_words C_is_name
  have C_is_entry := ok_is_entry (P := P) (w := w) (K := K) (mg := mg) (base := base) T C_is_interest C_is_tuple_of C_are_words
  have C_is_pipe := ok_is_pipe (P := P) (w := w) (K := K) (mg := mg) (base := base) T C_is_number C_is_name C_is_tuple_of
  have C_are_waiting := ok_are_waiting (P := P) (w := w) (K := K) (mg := mg) (base := base) T C_are_up_to C_is_number C_is_name C_is_tuple_of
  have C_targets_of := ok_targets_of (P := P) (w := w) (K := K) (mg := mg) (base := base) T
  have C_is_set := ok_is_set (P := P) (w := w) (K := K) (mg := mg) (base := base) T C_are_up_to C_is_name C_is_tuple_of C_are_waiting C_is_entry C_targets_of
  have C_waiting_at := ok_waiting_at (P := P) (w := w) (K := K) (mg := mg) (base := base) T
  have C_so_words := ok_so_words (P := P) (w := w) (K := K) (mg := mg) (base := base) T
  have C_due_words := ok_due_words (P := P) (w := w) (K := K) (mg := mg) (base := base) T C_so_words
  have C_due_targets := ok_due_targets (P := P) (w := w) (K := K) (mg := mg) (base := base) T C_due_words
  have C_has_forms := ok_has_forms (P := P) (w := w) (K := K) (mg := mg) (base := base) T C_is_pipe C_is_set C_waiting_at
  have C_below := ok_below (P := P) (w := w) (K := K) (mg := mg) (base := base) T C_targets_of
  have C_need_webs := ok_need_webs (P := P) (w := w) (K := K) (mg := mg) (base := base) T C_are_up_to C_has_forms C_below
  have C_need_hall := ok_need_hall (P := P) (w := w) (K := K) (mg := mg) (base := base) T C_is_tuple_of C_need_webs C_due_targets
  have C_waiters_of := ok_waiters_of (P := P) (w := w) (K := K) (mg := mg) (base := base) T C_need_hall
  have C_is_deed := ok_is_deed (P := P) (w := w) (K := K) (mg := mg) (base := base) T DD C_is_name C_is_number C_is_interest
  have C_is_task := ok_is_task (P := P) (w := w) (K := K) (mg := mg) (base := base) T C_is_name C_is_tuple_of
  have C_is_instruction := ok_is_instruction (P := P) (w := w) (K := K) (mg := mg) (base := base) T DL C_is_deed C_is_name C_is_number
  have C_need_tasks := ok_need_tasks (P := P) (w := w) (K := K) (mg := mg) (base := base) T C_are_up_to C_is_task C_is_instruction
  have C_is_telling := ok_is_telling (P := P) (w := w) (K := K) (mg := mg) (base := base) T C_are_up_to C_are_words C_is_name C_is_tuple_of
  have C_is_counter := ok_is_counter (P := P) (w := w) (K := K) (mg := mg) (base := base) T C_is_number C_is_tuple_of C_is_telling
  have C_is_state_form := ok_is_state_form (P := P) (w := w) (K := K) (mg := mg) (base := base) T C_is_tuple_of C_is_counter
  have C_need_program := ok_need_program (P := P) (w := w) (K := K) (mg := mg) (base := base) T C_is_tuple_of C_need_hall C_waiters_of C_need_tasks
  have C_need_state := ok_need_state (P := P) (w := w) (K := K) (mg := mg) (base := base) T C_need_program C_is_state_form C_need_hall C_waiters_of
  have C_where_waits := ok_where_waits (P := P) (w := w) (K := K) (mg := mg) (base := base) T
  have C_goes := ok_goes (P := P) (w := w) (K := K) (mg := mg) (base := base) T C_where_waits
  have C_going := ok_going (P := P) (w := w) (K := K) (mg := mg) (base := base) T C_goes
  have C_can_go := ok_can_go (P := P) (w := w) (K := K) (mg := mg) (base := base) T C_going C_need_state
  have C_have_ended := ok_have_ended (P := P) (w := w) (K := K) (mg := mg) (base := base) T
  have C_is_ended := ok_is_ended (P := P) (w := w) (K := K) (mg := mg) (base := base) T C_have_ended C_need_state
  have C_went := ok_went (P := P) (w := w) (K := K) (mg := mg) (base := base) T
  have C_stepped := ok_stepped (P := P) (w := w) (K := K) (mg := mg) (base := base) T C_where_waits C_went
  have C_stalls := ok_stalls (P := P) (w := w) (K := K) (mg := mg) (base := base) T C_going C_have_ended
  have Fst := stall_fn (P := P) (w := w) (base := base) S C_need_state C_stalls
  have C_need_going := ok_need_going (P := P) (w := w) (K := K) (mg := mg) (base := base) T G C_is_number C_goes
  have C_step := ok_step (P := P) (w := w) (K := K) (mg := mg) (base := base) T G C_need_state C_need_going C_stepped
  have C_law_begun := ok_law_begun (P := P) (w := w) (K := K) (mg := mg) (base := base) T
  have C_law_leads := ok_law_leads (P := P) (w := w) (K := K) (mg := mg) (base := base) T
  have C_law_so := ok_law_so (P := P) (w := w) (K := K) (mg := mg) (base := base) T
  have C_law_next := fun m : Addr => ok_law_next (P := P) (w := w) (K := K) (mg := mg) (base := base) (m := m) T
  have C_law_of := fun m : Addr => ok_law_of (P := P) (w := w) (K := K) (mg := mg) (base := base) (m := m) T (C_law_next m)
  have C_law_interest := fun m : Addr => ok_law_interest (P := P) (w := w) (K := K) (mg := mg) (base := base) (m := m) T (C_law_of m) (C_law_next m)
  have C_law_entry := fun m : Addr => ok_law_entry (P := P) (w := w) (K := K) (mg := mg) (base := base) (m := m) T (C_law_next m)
  have C_law_names := fun m : Addr => ok_law_names (P := P) (w := w) (K := K) (mg := mg) (base := base) (m := m) T (C_law_next m)
  have C_law_hall := fun m : Addr => ok_law_hall (P := P) (w := w) (K := K) (mg := mg) (base := base) (m := m) T (C_law_names m) (C_law_next m) C_law_so (C_law_entry m) (C_law_interest m)
  have C_law_jump := fun m : Addr => ok_law_jump (P := P) (w := w) (K := K) (mg := mg) (base := base) (m := m) T (C_law_next m) (C_law_of m)
  have C_law_telling := fun m : Addr => ok_law_telling (P := P) (w := w) (K := K) (mg := mg) (base := base) (m := m) T (C_law_next m) (C_law_of m)
  exact law_body T S Fst Fc hmc GE C_step C_can_go C_is_ended C_law_leads TB Fr hcc hmr C_law_begun C_law_hall C_law_names C_law_next C_law_jump C_law_telling rfl [] s0 H vs Q hr h
section
variable {w : World} {h : Heap} {K : PySem.W.Frag} {mg : Str → Option Value}
theorem fn_at (X : K.In h) (Gs : h.Ns mainGlobals mg) (c : He.SaysD headFa headFn K) {x : Str} {st : Stmt} (i j : Nat) (hd : headFn[i]? = some ⟨(x, none), x, x, defArgs st, defBody st, defScope st, [], []⟩) (hf : headFa[j]? = some (.glo x)) : FnAt K mg x st := by
  obtain ⟨fd, F⟩ := c.def_ i hd
  exact ⟨He.ga K x, fd, F, He.glo_ok X Gs (c.fact j hf)⟩
theorem int_at (X : K.In h) (Gs : h.Ns mainGlobals mg) (c : He.SaysD headFa headFn K) {x : Str} {i : Int} (j : Nat) (hf : headFa[j]? = some (.int x i)) : KAt K mg x (.int i) := by
  obtain ⟨t, e⟩ := He.int_ok X Gs (c.fact j hf)
  exact ⟨_, .int i, e, ⟨t, rfl⟩, fun H => .int i⟩
theorem str_at (X : K.In h) (Gs : h.Ns mainGlobals mg) (c : He.SaysD headFa headFn K) {x z : Str} (j : Nat) (hf : headFa[j]? = some (.str x z)) : KAt K mg x (.str z) := by
  obtain ⟨t, e⟩ := He.str_ok X Gs (c.fact j hf)
  exact ⟨_, .str z, e, ⟨t, rfl⟩, fun H => .str z⟩
theorem tup_at (X : K.In h) (Gs : h.Ns mainGlobals mg) (c : He.SaysD headFa headFn K) {x : Str} {zs : List Str} {vs : List He.Dv} (j : Nat) (hf : headFa[j]? = some (.glo x)) (ht : He.tupB K x vs = true) (e : vs.map (He.Dv.v K) = zs.map V.str) : KAt K mg x (.tuple (zs.map .str)) := by
  refine ⟨_, .ref (He.ga K x), He.glo_ok X Gs (c.fact j hf), rfl, fun H => .tup (He.tupB_ok ht H) ?_⟩
  rw [e]
  exact strs_da zs
theorem free_at (X : K.In h) (Gs : h.Ns mainGlobals mg) (c : He.SaysD headFa headFn K) {x : Str} (j : Nat) (hf : headFa[j]? = some (.free x)) : mg x = none := He.free_ok X Gs (c.fact j hf)
theorem lookup_if {β : Type} (k a : Str) (v : β) (l : List (Str × β)) : List.lookup k ((a, v) :: l) = if k = a then some v else List.lookup k l := by
  rw [List.lookup_cons]
  by_cases h : k = a
  · subst h
    simp
  · rw [if_neg h, show (k == a) = false by simpa using h]
theorem deeds_eq (k : Str) : kvs_DEEDS.lookup k = deedsF k := by
  unfold kvs_DEEDS deedsF
  simp only [lookup_if]
  rfl
theorem lengths_eq (k : Str) : kvs_LENGTHS.lookup k = lengthsF k := by
  unfold kvs_LENGTHS lengthsF
  simp only [lookup_if]
  rfl
theorem txt_of (X : K.In h) (Gs : h.Ns mainGlobals mg) (c : He.SaysD headFa headFn K) (ex : headEx K = true) : Txt K mg := by
  unfold headEx at ex
  simp only [Bool.and_eq_true] at ex
  obtain ⟨ex1, ex2, _⟩ := ex
  exact {
    f_is_number := fn_at X Gs c 0 0 rfl rfl,
    f_is_name := fn_at X Gs c 1 1 rfl rfl,
    f_is_tuple_of := fn_at X Gs c 2 2 rfl rfl,
    f_are_up_to := fn_at X Gs c 3 3 rfl rfl,
    f_are_words := fn_at X Gs c 4 4 rfl rfl,
    f_is_interest := fn_at X Gs c 5 5 rfl rfl,
    f_is_entry := fn_at X Gs c 6 6 rfl rfl,
    f_is_pipe := fn_at X Gs c 7 7 rfl rfl,
    f_are_waiting := fn_at X Gs c 8 8 rfl rfl,
    f_targets_of := fn_at X Gs c 9 9 rfl rfl,
    f_is_set := fn_at X Gs c 10 10 rfl rfl,
    f_waiting_at := fn_at X Gs c 11 11 rfl rfl,
    f_so_words := fn_at X Gs c 12 12 rfl rfl,
    f_due_words := fn_at X Gs c 13 13 rfl rfl,
    f_due_targets := fn_at X Gs c 14 14 rfl rfl,
    f_below := fn_at X Gs c 15 15 rfl rfl,
    f_has_forms := fn_at X Gs c 16 16 rfl rfl,
    f_need_webs := fn_at X Gs c 17 17 rfl rfl,
    f_need_hall := fn_at X Gs c 18 18 rfl rfl,
    f_waiters_of := fn_at X Gs c 19 19 rfl rfl,
    f_is_deed := fn_at X Gs c 20 20 rfl rfl,
    f_is_instruction := fn_at X Gs c 21 21 rfl rfl,
    f_is_task := fn_at X Gs c 22 22 rfl rfl,
    f_need_tasks := fn_at X Gs c 23 23 rfl rfl,
    f_need_program := fn_at X Gs c 24 24 rfl rfl,
    f_is_telling := fn_at X Gs c 25 25 rfl rfl,
    f_is_counter := fn_at X Gs c 26 26 rfl rfl,
    f_is_state_form := fn_at X Gs c 27 27 rfl rfl,
    f_need_state := fn_at X Gs c 28 28 rfl rfl,
    f_where_waits := fn_at X Gs c 29 29 rfl rfl,
    f_goes := fn_at X Gs c 30 30 rfl rfl,
    f_going := fn_at X Gs c 31 31 rfl rfl,
    f_can_go := fn_at X Gs c 32 32 rfl rfl,
    f_went := fn_at X Gs c 33 33 rfl rfl,
    f_stepped := fn_at X Gs c 34 34 rfl rfl,
    f_need_going := fn_at X Gs c 35 35 rfl rfl,
    f_step := fn_at X Gs c 36 36 rfl rfl,
    f_have_ended := fn_at X Gs c 37 37 rfl rfl,
    f_is_ended := fn_at X Gs c 38 38 rfl rfl,
    f_stalls := fn_at X Gs c 39 39 rfl rfl,
    f_law_begun := fn_at X Gs c 41 41 rfl rfl,
    f_law_next := fn_at X Gs c 42 42 rfl rfl,
    f_law_of := fn_at X Gs c 43 43 rfl rfl,
    f_law_names := fn_at X Gs c 44 44 rfl rfl,
    f_law_so := fn_at X Gs c 45 45 rfl rfl,
    f_law_interest := fn_at X Gs c 46 46 rfl rfl,
    f_law_entry := fn_at X Gs c 47 47 rfl rfl,
    f_law_hall := fn_at X Gs c 48 48 rfl rfl,
    f_law_jump := fn_at X Gs c 49 49 rfl rfl,
    f_law_telling := fn_at X Gs c 50 50 rfl rfl,
    f_law_leads := fn_at X Gs c 51 51 rfl rfl,
    f_law_cannot := fn_at X Gs c 52 52 rfl rfl,
    f_law_right := fn_at X Gs c 53 53 rfl rfl,
    f_law := fn_at X Gs c 54 54 rfl rfl,
    k_MOST_LETTERS := int_at X Gs c 78 rfl,
    k_MOST_ROOM := int_at X Gs c 79 rfl,
    k_MOST_ENTRIES := int_at X Gs c 80 rfl,
    k_MOST_WAITERS := int_at X Gs c 81 rfl,
    k_MOST_PIPES := int_at X Gs c 82 rfl,
    k_MOST_SETS := int_at X Gs c 83 rfl,
    k_MOST_TASKS := int_at X Gs c 84 rfl,
    k_MOST_INSTRUCTIONS := int_at X Gs c 85 rfl,
    k_SMALL := str_at X Gs c 86 rfl,
    k_LEVEL := str_at X Gs c 87 rfl,
    k_EDGE := str_at X Gs c 88 rfl,
    k_WORDS := tup_at (zs := ["in", "out", "gone"]) X Gs c 56 rfl ex1 rfl,
    k_DEED_WORDS := tup_at (zs := ["put", "take", "shut", "add", "change", "arm", "drop"]) X Gs c 57 rfl ex2 rfl,
    n_all := free_at X Gs c 60 rfl,
    n_any := free_at X Gs c 61 rfl,
    n_bool := free_at X Gs c 62 rfl,
    n_dict := free_at X Gs c 63 rfl,
    n_enumerate := free_at X Gs c 64 rfl,
    n_int := free_at X Gs c 65 rfl,
    n_isinstance := free_at X Gs c 66 rfl,
    n_len := free_at X Gs c 67 rfl,
    n_list := free_at X Gs c 68 rfl,
    n_min := free_at X Gs c 69 rfl,
    n_range := free_at X Gs c 70 rfl,
    n_repr := free_at X Gs c 71 rfl,
    n_set := free_at X Gs c 72 rfl,
    n_sorted := free_at X Gs c 73 rfl,
    n_str := free_at X Gs c 74 rfl,
    n_tuple := free_at X Gs c 75 rfl,
    n_zip := free_at X Gs c 76 rfl }
theorem says_end {P : Program} {fa : Addr} (X : K.In h) (Gs : h.Ns mainGlobals mg) (c : He.SaysX headFa headFn headTs headTf headEx w h K) (hfa : mg "law" = some (.ref fa)) :
    ∃ (cc Pt : Addr) (fd : FuncData), EndAt P w K mg fa cc Pt fd ∧ h.get? Pt = some { cls := .none, data := .fields #[] } ∧ K.lookup Pt = none ∧ PySem.W.CodeHd h cc Pt := by
  have d := c.t.d
  have T := txt_of X Gs d c.more
  have ex := c.more
  unfold headEx at ex
  simp only [Bool.and_eq_true, decide_eq_true_eq] at ex
  obtain ⟨_, _, x3, x4, x5, x6, x7, x8, x9, x10, x11, x12, x13⟩ := ex
  have DD : KNum K w mg "DEEDS" deedsF := by
    obtain ⟨es, n, kd⟩ := c.t.tab 0 rfl
    refine ⟨_, es, n, He.glo_ok X Gs (d.fact 58 rfl), kd, fun k => .inr ?_⟩
    rw [← deeds_eq]
    exact numB_ok x3 k
  have DL : KNum K w mg "LENGTHS" lengthsF := by
    obtain ⟨es, n, kd⟩ := c.t.tab 1 rfl
    refine ⟨_, es, n, He.glo_ok X Gs (d.fact 59 rfl), kd, fun k => .inr ?_⟩
    rw [← lengths_eq]
    exact numB_ok x4 k
  obtain ⟨fds, FS⟩ := d.def_ 40 rfl
  have S : StallAt K mg (He.ga K "is_stall") fds := ⟨FS, He.glo_ok X Gs (d.fact 40 rfl)⟩
  obtain ⟨fdI, FI⟩ := d.def_ 55 rfl
  have hC := He.glo_ok X Gs (d.fact 55 (f := .glo "CannotGo") rfl)
  have G : CgAt K mg (He.ga K "CannotGo") (He.ma K (He.ga K "CannotGo") "__init__") fdI :=
    ⟨hC, ⟨cgB_ok x5, x8, x9, x10, x7⟩, x11, x12, He.noat_ok (d.fact 90 (f := .noat "CannotGo" "number") rfl), FI, He.free_ok X Gs (d.fact 77 (f := .free "RuntimeError") rfl), rtInitB_ok x13⟩
  have GE : CgE K mg (He.ga K "CannotGo") := ⟨hC, xfB_ok x6, He.noat_ok (d.fact 90 (f := .noat "CannotGo" "number") rfl), He.exm_ok (d.fact 89 (f := .exm "CannotGo" "CannotGo" true) rfl)⟩
  obtain ⟨g, fdg, Fc, hmc⟩ := T.f_law_cannot
  obtain ⟨fl, fdl, Fl, hml⟩ := T.f_law
  have el : fl = fa := by
    rw [hfa] at hml
    cases hml
    rfl
  subst el
  obtain ⟨fdr, Fr⟩ := d.def_ 53 rfl
  have hmr := He.glo_ok X Gs (d.fact 53 (f := .glo "_law_right") rfl)
  have hcc : fdr.code = .ref (He.cT K ("_law_right", none)).1 := by
    obtain ⟨oc, od, dV, kV, doc, pm, an, cdv, ct, osl, efd, lk, hcd, _, _⟩ := Fr.ex
    obtain ⟨cx, ecx⟩ := He.codeIn_ref hcd
    have ec : fdr.code = .ref cx := by
      rw [efd, ← ecx]
    have := He.codeOf_eq (p := ("_law_right", none)) lk ec
    rw [ec]
    exact congrArg Value.ref this.symm
  have m0 : (("_law_right", none) : He.Defn) ∈ headTf := List.mem_singleton.mpr rfl
  exact ⟨_, (He.cT K ("_law_right", none)).2, fdl, end_of T DD DL S G GE Fc hmc Fr hmr hcc Fl, c.empty _ m0, c.out _ m0, PySem.W.codeHd_of_K X (c.hd _ m0)⟩
end
end K45
/-! KF2 -/
set_option Elab.async false
set_option linter.all false
set_option maxRecDepth 100000
set_option maxHeartbeats 0
namespace K45
open PySem PySem.W PySem.Calls PyProof.Rows
theorem run45 (w : World) : HandSHeadRun.RunEq R45 qv45 hookK ob45 6400 loose45 w := byRow2 "special-get-raises" (P := fun w => HandSHeadRun.RunEq R45 qv45 hookK ob45 6400 loose45 w) run45f run45t w
end K45
open PySem PySem.W PySem.Calls PyProof.Rows
theorem PySem.Challenge.cw_wakehall_k45_whole_jumps_holds : PySem.Challenge.rw_wakehall_k45_whole_jumps.Holds := by
  w_on; o_law
  refine HandSHeadRun.head_any (r := OpenLaw.row PySem.Challenge.rw_wakehall_k45_whole_jumps) (q := K45.qv45) (H := K45.hookK) (ob := K45.ob45) (M := 6400) (loose := K45.loose45) (d := HandSHeadRun.topDef (OpenLaw.row PySem.Challenge.rw_wakehall_k45_whole_jumps).prog 122) (kwd := []) K45.ob45_eq
    (by kernel_rfl) (fun s => by kernel_rfl) K45.run45 (by kernel_rfl) (by kernel_rfl) (by kernel_rfl) (by rfl) (by first | assumption | decide +kernel) (by decide +kernel) ⟨rfl, rfl, rfl, rfl, rfl, by decide +kernel⟩ ?hw ?hc
  case hw => w_witness2
  case hc =>
    refine K45.walk45 (l := PySem.Challenge.rw_wakehall_k45_whole_jumps) rfl (by kernel_rfl) ⟨rfl, by decide, by decide⟩ ?F
    intro w mg fa h Y G hmg0
    obtain ⟨K, KX, c⟩ := Y
    have hmg : mg ("law" : PySem.Str) = some (.ref fa) := by
      have e : (HandSHeadRun.topDef (OpenLaw.row PySem.Challenge.rw_wakehall_k45_whole_jumps).prog 122).name = ("law" : PySem.Str) := by kernel_rfl
      rw [← e]
      exact hmg0
    obtain ⟨cc, Pt, fd, EA, h1, h2, h3⟩ := K45.says_end (P := (PySem.Challenge.rw_wakehall_k45_whole_jumps).prog) (w := w) KX G c hmg
    exact ⟨K, cc, Pt, fd, KX, EA, h1, h2, h3⟩
