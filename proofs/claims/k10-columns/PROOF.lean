import PyProof.Rows.All
import Wide.All
import OpenK.AllK
import Wide.FinOn
import HandS.ForMost
import KE.GoesMore
import HandS.Wide
import HandS.TupAny
import HandS.StrMore
import HandS.Flow
import HandS.Style
import PySem.Challenge.RW_plainmark_k10_columns
set_option Elab.async false
set_option linter.all false
set_option maxRecDepth 100000
set_option maxHeartbeats 2000000
/-! enumerate(text): each sign in a new pair with its place -/
namespace Pm
open PySem PySem.Spec PyProof.Rows L2
def IteS (x : Str) : It :=
  ⟨fun i _ => i < x.cps.size,
   fun i H v H' => ∃ T c, v = .ref T ∧ H T = none ∧ x.cps[i]? = some c ∧ H' = upd H T (.tup [.int (i : Nat), .str ⟨#[c]⟩]),
   fun i _ => x.cps.size ≤ i⟩
theorem turn_enumS {P : Program} {w : World} {K : PySem.W.Frag} {elts : List Expr} {kk : Nat} {tpos : Pos} (x : Str) (t : Tok) (e it : Addr) :
    Turn P w K (.Tuple elts kk tpos) (IteS x) [e, it] e (fun i h => (∃ old, IsEnum h e it ((i : Nat) : Int) old) ∧ h.IsStrIter it (strIterType x) x t i ∧ e ≠ it ∧ i ≤ x.cps.size) where
  mem := by simp
  obj := fun i h st b hb => by
    obtain ⟨⟨old, he⟩, ⟨o, ho, hc, hd⟩, _, _⟩ := st
    have e' : b = e ∨ b = it := by simpa using hb
    rcases e' with z | z
    · rw [z]; exact ⟨_, he, fun v q => nomatch q⟩
    · rw [z]; exact ⟨o, ho, fun v q => by rw [hd] at q; cases q⟩
  keep := fun i h h' st k => let ⟨⟨old, he⟩, ⟨o, ho, r⟩, hne, hle⟩ := st; ⟨⟨old, k e (by simp) _ he⟩, ⟨o, k it (by simp) o ho, r⟩, hne, hle⟩
  item := by
    intro X hP hw hK hc i pins s σ H E I hf st hg
    subst hP hw hK
    obtain ⟨⟨old, he⟩, hit, hne, hle⟩ := st
    have hel : e < s.heap.objs.size := Heap.lt_size he
    have hil : it < s.heap.objs.size := by obtain ⟨_, q, _⟩ := hit; exact Heap.lt_size q
    have D : Draws X.prog X.w X.A.in1 it [it] x.cps.size (fun i v => ∃ c u, x.cps[i]? = some c ∧ v = .str ⟨#[c]⟩ u) (fun i h => h.IsStrIter it (strIterType x) x t i) := Draws.text (show X.A.in1.handled = none from I.ok.hd hc) it x t
    refine wpAny_pyNext_enum_itemD D he hit hg hne (by simpa using hne) fun u h' tk hPx ho hit' hT hsz hk => ?_
    obtain ⟨c, u', hcx, rfl⟩ := hPx
    refine ⟨_, rfl, wpAny_letOwnedTupleGo_enum (s := { s with heap := h', toks := tk + 1 }) ho fun h'' he' sb => ?_⟩
    have hT2 : h''.get? s.heap.objs.size = some { cls := .type "tuple", data := .seq #[.int i tk, .str ⟨#[c]⟩ u'] } := (sb.2 _ (Nat.ne_of_gt hel)).trans hT
    have new : ObjOk X.prog X.w (upd H s.heap.objs.size (.tup [.int (i : Nat), .str ⟨#[c]⟩])) h'' s.heap.objs.size (.tup [.int (i : Nat), .str ⟨#[c]⟩]) :=
      ⟨by show 2 ≤ sizeLine; decide, [.int i tk, .str ⟨#[c]⟩ u'], .cons ⟨_, rfl⟩ (.cons ⟨_, rfl⟩ .nil), ⟨_, hT2, rfl, _, rfl⟩⟩
    have I1 : Inv X pins σ (upd H s.heap.objs.size (.tup [.int (i : Nat), .str ⟨#[c]⟩])) { s with heap := h'', toks := tk + 1 } :=
      I.turnedNew (ch := [e, it]) (fun b ob hb q => (sb.2 b (fun z => hb (by simp [z]))).trans (hk b ob (fun z => hb (by simp [z])) (fun z => hb (by simp [z])) q)) hf (Nat.le_refl _) new
    have e1 : ((i + 1 : Nat) : Int) = (i : Int) + 1 := by omega
    have hgt : i < x.cps.size := hg
    have st2 : h''.IsStrIter it (strIterType x) x t (i + 1) := by
      obtain ⟨o, ho', r⟩ := hit'
      exact ⟨o, (sb.2 it (Ne.symm hne)).trans ho', r⟩
    refine ⟨.ref s.heap.objs.size, _, I1, rfl, ⟨_, c, rfl, I.hok.fresh (Nat.le_refl _), hcx, rfl⟩, ⟨⟨.str ⟨#[c]⟩ u', by rw [e1]; exact he'⟩, st2, hne, hgt⟩, fun b hb => ?_⟩
    · have hb' : b < s.heap.objs.size := by
        have e' : b = e ∨ b = it := by simpa using hb
        rcases e' with z | z
        · rw [z]; exact hel
        · rw [z]; exact hil
      rw [upd_ne (Nat.ne_of_lt hb')]
      exact (hf b hb).1
  done := by
    intro X hP hw hK hc i pins s σ H E I hf st hg
    subst hP hw hK
    obtain ⟨⟨old, he⟩, hit, hne, hle⟩ := st
    obtain ⟨f0, f1, f2, f3, f4, f5⟩ := hf it (by simp)
    have hge : x.cps.size ≤ i := hg
    have hie : i = x.cps.size := Nat.le_antisymm hle hge
    rw [hie] at he hit
    have D : Draws X.prog X.w X.A.in1 it [it] x.cps.size (fun i v => ∃ c u, x.cps[i]? = some c ∧ v = .str ⟨#[c]⟩ u) (fun i h => h.IsStrIter it (strIterType x) x t i) := Draws.text (show X.A.in1.handled = none from I.ok.hd hc) it x t
    exact wpAny_pyNext_enum_endD D he hit fun h' eb => ⟨rfl, I.turned (t' := s.toks) (fun b o hb q => eb b o hb q) f0 f1 f3 f4 f5⟩
  self := fun A i s Q E st h => let ⟨⟨_, he⟩, _⟩ := st; wpAny_pyIter_enum he h
def iEnumS (ta : TA) : TI := fun σ H R => ta σ H fun vs H1 => ∃ x, vs = [.str x] ∧ R (IteS x) H1
theorem pi_enumS {X : Cx} {e : Expr} {ta : TA} {p pos tpos : Pos} {elts : List Expr} {kk : Nat} (hg : Gl X "enumerate") (hm : X.mg "enumerate" = none) (ha : PA X [e] ta) (hs : starEach [e] X.env = [(false, eval e X.env)] := by rfl) :
    PI X (.Tuple elts kk tpos) (.Call (.Name "enumerate" p) [e] [] pos) (iEnumS ta) := by
  refine ⟨fun pins s σ H R I h => ?_⟩
  refine Call_ (ld_blt I hg hm boot_enumerate (PyProof.Rows.callWith_type1 (thn (ha.run pos pins s σ H _ I h) fun us s1 ⟨vs, H1, I1, r1, q1⟩ => ?_) hs rfl))
  obtain ⟨x, ex, q⟩ := q1
  subst ex
  cases r1 with
  | cons r rr =>
    cases rr
    obtain ⟨t, rfl⟩ := r
    refine call_enumerate_str fun h' he hit hsz hk => wpAny_pyIter_enum he ?_
    have I2 : Inv X pins σ H1 { s1 with heap := h' } := I1.kept (t' := s1.toks) hk
    refine ⟨s1.heap.objs.size + 1, [s1.heap.objs.size + 1, s1.heap.objs.size], _, _, H1, rfl, I2, turn_enumS x t (s1.heap.objs.size + 1) s1.heap.objs.size, ⟨⟨.none, he⟩, hit, Nat.succ_ne_self _, Nat.zero_le _⟩, fun b hb => ?_, q⟩
    have e' : b = s1.heap.objs.size + 1 ∨ b = s1.heap.objs.size := by simpa using hb
    have hle : s1.heap.objs.size ≤ b := by
      rcases e' with z | z
      · rw [z]; exact Nat.le_add_right _ _
      · rw [z]; exact Nat.le_refl _
    exact I1.fpOk hle (I1.hok.fresh hle)
end Pm
/-! The data layer: readings over plain data, the heap put away. -/
namespace Pm
open PySem PySem.Spec PyProof.Rows L2
abbrev Fr := PySem.W.Frag
/-- the heap without some addresses -/
def rm (M : List Addr) (H : Hp) : Hp := fun a => if a ∈ M then none else H a
theorem rm_of {M : List Addr} {H : Hp} {a : Addr} {o : HO} (h1 : a ∉ M) (h2 : H a = some o) : rm M H a = some o := by
  unfold rm; rw [if_neg h1]; exact h2
theorem rm_to {M : List Addr} {H : Hp} {a : Addr} {o : HO} (h : rm M H a = some o) : a ∉ M ∧ H a = some o := by
  unfold rm at h
  by_cases c : a ∈ M
  · rw [if_pos c] at h; cases h
  · rw [if_neg c] at h; exact ⟨c, h⟩
theorem rm_le {M : List Addr} {H : Hp} : Same (rm M H) H := fun _ _ e => (rm_to e).2
theorem rm_nil {H : Hp} : rm [] H = H := by funext a; unfold rm; rw [if_neg (by simp)]
theorem rm_upd {M : List Addr} {H : Hp} {a : Addr} {o : HO} (h : a ∈ M) : rm M (upd H a o) = rm M H := by
  funext b; unfold rm
  by_cases c : b ∈ M
  · rw [if_pos c, if_pos c]
  · rw [if_neg c, if_neg c, upd_ne (fun e => c (by rw [e]; exact h))]
theorem same_rd {H H' : Hp} {a : Addr} {u : HO} (e : Same H H') (h : Rd H a u) : Rd H' a u := by
  rcases h with h | ⟨o, h⟩
  · exact .inl (e _ _ h)
  · exact .inr ⟨o, e _ _ h⟩
theorem same_l {K : Fr} {H H' : Hp} {a : Addr} {xs : List V} (e : Same H H') (h : SqL K H a xs) : SqL K H' a xs := by
  rcases h with h | h
  · exact .inl (same_rd e h)
  · exact .inr h
theorem same_t {K : Fr} {H H' : Hp} {a : Addr} {xs : List V} (e : Same H H') (h : SqT K H a xs) : SqT K H' a xs := by
  rcases h with h | h
  · exact .inl (same_rd e h)
  · exact .inr h
/-! data as it stands in the heap: lists are tracked, tuples may be the text its own -/
mutual
inductive Dt (K : Fr) (H : Hp) : V → PyData → Prop
  | non : Dt K H .non .none
  | bl (b : Bool) : Dt K H (.bl b) (.bool b)
  | int (i : Int) : Dt K H (.int i) (.int i)
  | str (x : Str) : Dt K H (.str x) (.str x)
  | lst {a : Addr} {xs : List V} {ds : List PyData} : H a = some (.lst xs) → DtAll K H xs ds → Dt K H (.ref a) (.list ds)
  | tup {a : Addr} {xs : List V} {ds : List PyData} : SqT K H a xs → DtAll K H xs ds → Dt K H (.ref a) (.tuple ds)
inductive DtAll (K : Fr) (H : Hp) : List V → List PyData → Prop
  | nil : DtAll K H [] []
  | cons {v : V} {vs : List V} {d : PyData} {ds : List PyData} : Dt K H v d → DtAll K H vs ds → DtAll K H (v :: vs) (d :: ds)
end
mutual
theorem Dt.dp {K : Fr} {H : Hp} : ∀ {v : V} {d : PyData}, Dt K H v d → Dp K H v d
  | _, _, .non => .non
  | _, _, .bl b => .bl b
  | _, _, .int i => .int i
  | _, _, .str x => .str x
  | _, _, .lst h r => .lst (.inl (.inl h)) (DtAll.dp r)
  | _, _, .tup h r => .tup h (DtAll.dp r)
theorem DtAll.dp {K : Fr} {H : Hp} : ∀ {v : List V} {d : List PyData}, DtAll K H v d → DpAll K H v d
  | _, _, .nil => .nil
  | _, _, .cons h r => .cons (Dt.dp h) (DtAll.dp r)
end
mutual
theorem Dt.up {K : Fr} {H H' : Hp} (e : Same H H') : ∀ {v : V} {d : PyData}, Dt K H v d → Dt K H' v d
  | _, _, .non => .non
  | _, _, .bl b => .bl b
  | _, _, .int i => .int i
  | _, _, .str x => .str x
  | _, _, .lst h r => .lst (e _ _ h) (DtAll.up e r)
  | _, _, .tup h r => .tup (same_t e h) (DtAll.up e r)
theorem DtAll.up {K : Fr} {H H' : Hp} (e : Same H H') : ∀ {v : List V} {d : List PyData}, DtAll K H v d → DtAll K H' v d
  | _, _, .nil => .nil
  | _, _, .cons h r => .cons (Dt.up e h) (DtAll.up e r)
end
theorem DtAll.len {K : Fr} {H : Hp} : ∀ {vs : List V} {ds : List PyData}, DtAll K H vs ds → vs.length = ds.length
  | _, _, .nil => rfl
  | _, _, .cons _ r => by rw [List.length_cons, List.length_cons, DtAll.len r]
theorem DtAll.get {K : Fr} {H : Hp} : ∀ {vs : List V} {ds : List PyData} {i : Nat} {v : V}, DtAll K H vs ds → vs[i]? = some v → ∃ d, ds[i]? = some d ∧ Dt K H v d
  | _, _, _, _, .nil, e => by simp at e
  | _, _, 0, _, .cons h _, e => by simp at e; subst e; exact ⟨_, rfl, h⟩
  | _, _, i + 1, v, .cons _ r, e => by
    obtain ⟨d, h1, h2⟩ := DtAll.get (i := i) (v := v) r (by simpa using e)
    exact ⟨d, by simpa using h1, h2⟩
theorem DtAll.getd {K : Fr} {H : Hp} : ∀ {vs : List V} {ds : List PyData} {i : Nat} {d : PyData}, DtAll K H vs ds → ds[i]? = some d → ∃ v, vs[i]? = some v ∧ Dt K H v d
  | _, _, _, _, .nil, e => by simp at e
  | _, _, 0, _, .cons h _, e => by simp at e; subst e; exact ⟨_, rfl, h⟩
  | _, _, i + 1, d, .cons _ r, e => by
    obtain ⟨v, h1, h2⟩ := DtAll.getd (i := i) (d := d) r (by simpa using e)
    exact ⟨v, by simpa using h1, h2⟩
theorem DtAll.app {K : Fr} {H : Hp} : ∀ {vs us : List V} {ds es : List PyData}, DtAll K H vs ds → DtAll K H us es → DtAll K H (vs ++ us) (ds ++ es)
  | _, _, _, _, .nil, s => s
  | _, _, _, _, .cons h r, s => .cons h (DtAll.app r s)
theorem DtAll.take {K : Fr} {H : Hp} : ∀ {vs : List V} {ds : List PyData} (n : Nat), DtAll K H vs ds → DtAll K H (vs.take n) (ds.take n)
  | _, _, 0, _ => .nil
  | _, _, _ + 1, .nil => .nil
  | _, _, n + 1, .cons h r => .cons h (DtAll.take n r)
theorem DtAll.drop {K : Fr} {H : Hp} : ∀ {vs : List V} {ds : List PyData} (n : Nat), DtAll K H vs ds → DtAll K H (vs.drop n) (ds.drop n)
  | _, _, 0, r => r
  | _, _, _ + 1, .nil => .nil
  | _, _, n + 1, .cons _ r => DtAll.drop n r
theorem DtAll.setAt {K : Fr} {H : Hp} {v : V} {d : PyData} (h : Dt K H v d) : ∀ {vs : List V} {ds : List PyData} (n : Nat), DtAll K H vs ds → DtAll K H (vs.set n v) (ds.set n d)
  | _, _, _, .nil => .nil
  | _, _, 0, .cons _ r => .cons h r
  | _, _, n + 1, .cons q r => .cons q (DtAll.setAt h n r)
/-! what a value of some data is -/
theorem Dt.isInt {K : Fr} {H : Hp} {v : V} {i : Int} (h : Dt K H v (.int i)) : v = .int i := by cases h; rfl
theorem Dt.isStr {K : Fr} {H : Hp} {v : V} {x : Str} (h : Dt K H v (.str x)) : v = .str x := by cases h; rfl
theorem Dt.isBl {K : Fr} {H : Hp} {v : V} {b : Bool} (h : Dt K H v (.bool b)) : v = .bl b := by cases h; rfl
theorem Dt.isNon {K : Fr} {H : Hp} {v : V} (h : Dt K H v .none) : v = .non := by cases h; rfl
theorem Dt.isTup {K : Fr} {H : Hp} {v : V} {ds : List PyData} (h : Dt K H v (.tuple ds)) : ∃ a xs, v = .ref a ∧ SqT K H a xs ∧ DtAll K H xs ds := by
  cases h with | tup h r => exact ⟨_, _, rfl, h, r⟩
theorem Dt.isLst {K : Fr} {H : Hp} {v : V} {ds : List PyData} (h : Dt K H v (.list ds)) : ∃ a xs, v = .ref a ∧ H a = some (.lst xs) ∧ DtAll K H xs ds := by
  cases h with | lst h r => exact ⟨_, _, rfl, h, r⟩
/-! ### how a state goes on: M the addresses put away, B those that may change -/
structure Ext (M B : List Addr) (H : Hp) (M' B' : List Addr) (H' : Hp) : Prop where
  m : ∀ a, a ∈ M → a ∈ M'
  new : ∀ a, a ∈ M' → a ∈ M ∨ H a = none
  b : ∀ a, a ∈ B → a ∈ B'
  newb : ∀ a, a ∈ B' → a ∈ B ∨ H a = none
  keep : ∀ a o, a ∉ B → H a = some o → H' a = some o
  live : ∀ a, H' a = none → H a = none
theorem Ext.refl (M B : List Addr) (H : Hp) : Ext M B H M B H := ⟨fun _ h => h, fun _ h => .inl h, fun _ h => h, fun _ h => .inl h, fun _ _ _ e => e, fun _ e => e⟩
theorem Ext.trans {M B M1 B1 M2 B2 : List Addr} {H H1 H2 : Hp} (x : Ext M B H M1 B1 H1) (y : Ext M1 B1 H1 M2 B2 H2) : Ext M B H M2 B2 H2 where
  m := fun a h => y.m a (x.m a h)
  new := fun a h => by
    rcases y.new a h with q | q
    · exact x.new a q
    · exact .inr (x.live a q)
  b := fun a h => y.b a (x.b a h)
  newb := fun a h => by
    rcases y.newb a h with q | q
    · exact x.newb a q
    · exact .inr (x.live a q)
  keep := fun a o nb e => y.keep a o (fun hb => by
    rcases x.newb a hb with q | q
    · exact nb q
    · rw [q] at e; cases e) (x.keep a o nb e)
  live := fun a e => x.live a (y.live a e)
theorem Ext.same {M B : List Addr} {H H' : Hp} (e : Same H H') : Ext M B H M B H' := ⟨fun _ h => h, fun _ h => .inl h, fun _ h => h, fun _ h => .inl h, fun a o _ q => e a o q, fun a q => e.free q⟩
theorem same_new {H : Hp} {p : Addr} {o : HO} (h : H p = none) : Same H (upd H p o) := fun a u e => by
  rw [upd_ne (ne_of_none e h)]; exact e
theorem Ext.rm {M B M' B' : List Addr} {H H' : Hp} (x : Ext M B H M' B' H') (hs : ∀ a, a ∈ B → a ∈ M) : Same (rm M H) (rm M' H') := fun a o e => by
  obtain ⟨h1, h2⟩ := rm_to e
  refine rm_of (fun c => ?_) (x.keep a o (fun c => h1 (hs a c)) h2)
  rcases x.new a c with q | q
  · exact h1 q
  · rw [q] at h2; cases h2
/-! ### what stands in a slot -/
inductive SV where
  | un | dat (d : PyData) | own (ds : List PyData) | bor (l : Addr) (ds : List PyData) | scr (ns : List Int)
def SV.isL : SV → Bool
  | .own _ => true
  | .bor _ _ => true
  | _ => false
abbrev Env := List SV
def SlotOk (K : Fr) (M0 M B : List Addr) (H : Hp) (o : Option (Option V)) : SV → Prop
  | .un => True
  | .dat d => ∃ v, o = some (some v) ∧ Dt K (rm M H) v d
  | .scr ns => ∃ a, o = some (some (.ref a)) ∧ SqL K (rm M H) a (ns.map V.int)
  | .own ds => ∃ l xs, o = some (some (.ref l)) ∧ l ∈ B ∧ l ∉ M0 ∧ H l = some (.lst xs) ∧ DtAll K (rm M H) xs ds
  | .bor l ds => ∃ xs, o = some (some (.ref l)) ∧ l ∈ B ∧ l ∈ M0 ∧ H l = some (.lst xs) ∧ DtAll K (rm M H) xs ds
structure EnvOk (K : Fr) (M0 M B : List Addr) (H : Hp) (σ : L2.St) (ρ : Env) : Prop where
  len : σ.length = ρ.length
  sub : ∀ a, a ∈ B → a ∈ M
  dom : ∀ a, a ∈ M → H a ≠ none
  m0 : ∀ a, a ∈ M0 → a ∈ M
  slot : ∀ (i : Nat) (s : SV), ρ[i]? = some s → SlotOk K M0 M B H (σ[i]?) s
  sep : ∀ (i j : Nat) (s s' : SV) (l : Addr), i ≠ j → ρ[i]? = some s → ρ[j]? = some s' → s.isL = true → s'.isL = true → σ[i]? = some (some (.ref l)) → σ[j]? = some (some (.ref l)) → False
section
variable {K : Fr} {M0 M B M' B' : List Addr} {H H' : Hp} {σ : L2.St} {ρ : Env} {i : Nat} {v : V} {d : PyData}
/-- the heap grew only -/
theorem EnvOk.same (E : EnvOk K M0 M B H σ ρ) (e : Same H H') : EnvOk K M0 M B H' σ ρ where
  len := E.len
  sub := E.sub
  dom := fun a h q => E.dom a h (e.free q)
  m0 := E.m0
  slot := fun i s h => by
    have r := (Ext.same (M := M) (B := B) e).rm E.sub
    have z := E.slot i s h
    cases s with
    | un => trivial
    | dat d => obtain ⟨v, h1, h2⟩ := z; exact ⟨v, h1, Dt.up r h2⟩
    | scr ns => obtain ⟨v, h1, h2⟩ := z; exact ⟨v, h1, same_l r h2⟩
    | own ds => obtain ⟨l, xs, h1, h2, h3, h4, h5⟩ := z; exact ⟨l, xs, h1, h2, h3, e _ _ h4, DtAll.up r h5⟩
    | bor l ds => obtain ⟨xs, h1, h2, h3, h4, h5⟩ := z; exact ⟨xs, h1, h2, h3, e _ _ h4, DtAll.up r h5⟩
  sep := E.sep
theorem EnvOk.fresh (E : EnvOk K M0 M B H σ ρ) {p : Addr} (h : H p = none) : p ∉ M := fun c => E.dom p c h
theorem EnvOk.newt (E : EnvOk K M0 M B H σ ρ) {p : Addr} {xs : List V} {ds : List PyData} (h : H p = none) (r : DtAll K (rm M H) xs ds) : Dt K (rm M (upd H p (.tup xs))) (.ref p) (.tuple ds) :=
  .tup (.inl (.inl (rm_of (E.fresh h) upd_same))) (DtAll.up ((Ext.same (M := M) (B := B) (same_new h)).rm E.sub) r)
theorem EnvOk.newl (E : EnvOk K M0 M B H σ ρ) {p : Addr} {xs : List V} {ds : List PyData} (h : H p = none) (r : DtAll K (rm M H) xs ds) : Dt K (rm M (upd H p (.lst xs))) (.ref p) (.list ds) :=
  .lst (rm_of (E.fresh h) upd_same) (DtAll.up ((Ext.same (M := M) (B := B) (same_new h)).rm E.sub) r)
theorem EnvOk.up (E : EnvOk K M0 M B H σ ρ) (x : Ext M B H M' B' H') (h : Dt K (rm M H) v d) : Dt K (rm M' H') v d := Dt.up (x.rm E.sub) h
theorem EnvOk.upA (E : EnvOk K M0 M B H σ ρ) (x : Ext M B H M' B' H') {vs : List V} {ds : List PyData} (h : DtAll K (rm M H) vs ds) : DtAll K (rm M' H') vs ds := DtAll.up (x.rm E.sub) h
theorem get_set_eq {α : Type} {l : List α} {i : Nat} {a : α} (h : i < l.length) : (l.set i a)[i]? = some a := by simp [h]
theorem get_set_ne {α : Type} {l : List α} {i j : Nat} {a : α} (h : i ≠ j) : (l.set i a)[j]? = l[j]? := by simp [h]
theorem get_set_some {α : Type} {l : List α} {i j : Nat} {a s : α} (h : (l.set i a)[j]? = some s) : (i = j ∧ s = a ∧ i < l.length) ∨ (i ≠ j ∧ l[j]? = some s) := by
  by_cases c : i = j
  · subst c
    have hl : i < l.length := by
      have q := (List.getElem?_eq_some_iff.mp h).1
      simpa using q
    rw [get_set_eq hl] at h
    exact .inl ⟨rfl, (Option.some.inj h).symm, hl⟩
  · rw [get_set_ne c] at h
    exact .inr ⟨c, h⟩
/-- a slot gets data -/
theorem EnvOk.set (E : EnvOk K M0 M B H σ ρ) (i : Nat) (h : Dt K (rm M H) v d) : EnvOk K M0 M B H (σ.set i (some v)) (ρ.set i (.dat d)) where
  len := by rw [List.length_set, List.length_set]; exact E.len
  sub := E.sub
  dom := E.dom
  m0 := E.m0
  slot := fun j s hj => by
    rcases get_set_some hj with ⟨rfl, rfl, hl⟩ | ⟨n, hj'⟩
    · exact ⟨v, get_set_eq (by rw [E.len]; exact hl), h⟩
    · rw [get_set_ne n]; exact E.slot j s hj'
  sep := fun j k s s' l n h1 h2 l1 l2 s1 s2 => by
    rcases get_set_some h1 with ⟨rfl, rfl, _⟩ | ⟨n1, h1'⟩
    · cases l1
    · rcases get_set_some h2 with ⟨rfl, rfl, _⟩ | ⟨n2, h2'⟩
      · cases l2
      · rw [get_set_ne n1] at s1
        rw [get_set_ne n2] at s2
        exact E.sep j k s s' l n h1' h2' l1 l2 s1 s2
/-- a slot is forgotten -/
theorem EnvOk.forget (E : EnvOk K M0 M B H σ ρ) (i : Nat) (o : Option V) : EnvOk K M0 M B H (σ.set i o) (ρ.set i .un) where
  len := by rw [List.length_set, List.length_set]; exact E.len
  sub := E.sub
  dom := E.dom
  m0 := E.m0
  slot := fun j s hj => by
    rcases get_set_some hj with ⟨rfl, rfl, hl⟩ | ⟨n, hj'⟩
    · trivial
    · rw [get_set_ne n]; exact E.slot j s hj'
  sep := fun j k s s' l n h1 h2 l1 l2 s1 s2 => by
    rcases get_set_some h1 with ⟨rfl, rfl, _⟩ | ⟨n1, h1'⟩
    · cases l1
    · rcases get_set_some h2 with ⟨rfl, rfl, _⟩ | ⟨n2, h2'⟩
      · cases l2
      · rw [get_set_ne n1] at s1
        rw [get_set_ne n2] at s2
        exact E.sep j k s s' l n h1' h2' l1 l2 s1 s2
/-- a new content of a list that is put away -/
theorem EnvOk.put (E : EnvOk K M0 M B H σ ρ) {i : Nat} {s s' : SV} {l : Addr} {xs : List V} {ds : List PyData} (hs : ρ[i]? = some s) (hL : s.isL = true) (hl : σ[i]? = some (some (.ref l))) (h : H' l = some (.lst xs)) (r : DtAll K (rm M H') xs ds)
    (ks : ∀ a o, a ≠ l → H a = some o → H' a = some o)
    (hs' : (∃ es, s = .own es ∧ s' = .own ds) ∨ ∃ es, s = .bor l es ∧ s' = .bor l ds) : EnvOk K M0 M B H' σ (ρ.set i s') := by
  have hlB : l ∈ B := by
    have z := E.slot i s hs
    cases s with
    | un => cases hL
    | dat d => cases hL
    | scr ns => cases hL
    | own ds =>
      obtain ⟨l2, xs, h1, h2, _⟩ := z
      rw [h1] at hl
      injection hl with e; injection e with e; injection e with e
      exact e ▸ h2
    | bor l2 ds =>
      obtain ⟨xs, h1, h2, _⟩ := z
      rw [h1] at hl
      injection hl with e; injection e with e; injection e with e
      exact e ▸ h2
  have sm : Same (rm M H) (rm M H') := fun a o e => by
    obtain ⟨h1, h2⟩ := rm_to e
    exact rm_of h1 (ks a o (fun q => h1 (q ▸ E.sub _ hlB)) h2)
  refine ⟨by rw [List.length_set]; exact E.len, E.sub, fun a ha q => ?_, E.m0, fun j t hj => ?_, fun j k t t' l' n h1 h2 l1 l2 s1 s2 => ?_⟩
  · by_cases c : a = l
    · rw [c, h] at q; cases q
    · cases e : H a with
      | none => exact E.dom a ha e
      | some o => rw [ks a o c e] at q; cases q
  · rcases get_set_some hj with ⟨rfl, rfl, hl'⟩ | ⟨n, hj'⟩
    · have z := E.slot i s hs
      rcases hs' with ⟨es, rfl, rfl⟩ | ⟨es, rfl, rfl⟩
      · obtain ⟨l2, xs2, h1, h2, h3, _⟩ := z
        have e := h1.symm.trans hl
        injection e with e; injection e with e; injection e with e
        exact ⟨l, xs, hl, hlB, e ▸ h3, h, r⟩
      · obtain ⟨xs2, h1, h2, h3, _⟩ := z
        exact ⟨xs, hl, hlB, h3, h, r⟩
    · have z := E.slot j t hj'
      have apart : t.isL = true → ∀ l2, σ[j]? = some (some (.ref l2)) → l2 ≠ l := fun ht l2 hl2 q => E.sep i j s t l n hs hj' hL ht hl (q ▸ hl2)
      cases t with
      | un => trivial
      | dat d => obtain ⟨v, h1, h2⟩ := z; exact ⟨v, h1, Dt.up sm h2⟩
      | scr ns => obtain ⟨v, h1, h2⟩ := z; exact ⟨v, h1, same_l sm h2⟩
      | own ds => obtain ⟨l2, xs, h1, h2, h3, h4, h5⟩ := z; exact ⟨l2, xs, h1, h2, h3, ks _ _ (apart rfl l2 h1) h4, DtAll.up sm h5⟩
      | bor l2 ds => obtain ⟨xs, h1, h2, h3, h4, h5⟩ := z; exact ⟨xs, h1, h2, h3, ks _ _ (apart rfl l2 h1) h4, DtAll.up sm h5⟩
  · have back : ∀ (j : Nat) (t : SV), (ρ.set i s')[j]? = some t → t.isL = true → ∃ t0, ρ[j]? = some t0 ∧ t0.isL = true := fun j t hj ht => by
      rcases get_set_some hj with ⟨rfl, rfl, _⟩ | ⟨_, hj'⟩
      · exact ⟨s, hs, hL⟩
      · exact ⟨t, hj', ht⟩
    obtain ⟨a, a1, a2⟩ := back j t h1 l1
    obtain ⟨b, b1, b2⟩ := back k t' h2 l2
    exact E.sep j k a b l' n a1 b1 a2 b2 s1 s2
end
end Pm
namespace Pm
open PySem PySem.Spec PyProof.Rows L2
/-! ### the readings over data -/
abbrev WE := Env → (Env → PyData → Prop) → Prop
abbrev WT := Env → (Env → Bool → Prop) → Prop
abbrev WA := Env → (Env → List PyData → Prop) → Prop
def Env.at : Env → Nat → SV
  | [], _ => .un
  | s :: _, 0 => s
  | _ :: r, n + 1 => Env.at r n
theorem Env.at_get : ∀ {ρ : Env} {i : Nat} {s : SV}, ρ.at i = s → s ≠ .un → ρ[i]? = some s
  | [], i, s, h, n => absurd h.symm n
  | a :: r, 0, s, h, n => by have e : a = s := h; subst e; rfl
  | a :: r, i + 1, s, h, n => by
    have z : Env.at r i = s := h
    have q := Env.at_get z n
    simpa using q
def SV.items : SV → Option (List PyData)
  | .own ds => some ds
  | .bor _ ds => some ds
  | _ => none
def SV.put : SV → List PyData → SV
  | .own _, ds => .own ds
  | .bor l _, ds => .bor l ds
  | s, _ => s
/-- a value: data, or a list that is put away, its items data -/
def RV (K : Fr) (M : List Addr) (H : Hp) (v : V) (d : PyData) : Prop :=
  Dt K (rm M H) v d ∨ ∃ l xs ds, v = .ref l ∧ d = .list ds ∧ H l = some (.lst xs) ∧ DtAll K (rm M H) xs ds
abbrev RVs (K : Fr) (M : List Addr) (H : Hp) : List V → List PyData → Prop := Paired (RV K M H)
variable {ι : Type}
def DE (X : ι → Cx) (K : Fr) (e : Expr) (w : WE) : Prop := ∃ t : TE, (∀ i, PE (X i) e t) ∧ ∀ (M0 M B : List Addr) (σ : L2.St) (H : Hp) (ρ : Env) (P : Env → PyData → Prop) (Q : VK), EnvOk K M0 M B H σ ρ → w ρ P →
  (∀ ρ' d v H', P ρ' d → Ext M B H M B H' → EnvOk K M0 M B H' σ ρ' → Dt K (rm M H') v d → Q v H') → t σ H Q
def DV (X : ι → Cx) (K : Fr) (e : Expr) (w : WE) : Prop := ∃ t : TE, (∀ i, PE (X i) e t) ∧ ∀ (M0 M B : List Addr) (σ : L2.St) (H : Hp) (ρ : Env) (P : Env → PyData → Prop) (Q : VK), EnvOk K M0 M B H σ ρ → w ρ P →
  (∀ ρ' d v H', P ρ' d → Ext M B H M B H' → EnvOk K M0 M B H' σ ρ' → RV K M H' v d → Q v H') → t σ H Q
def DT (X : ι → Cx) (K : Fr) (e : Expr) (w : WT) : Prop := ∃ t : TT, (∀ i, PT (X i) e t) ∧ ∀ (M0 M B : List Addr) (σ : L2.St) (H : Hp) (ρ : Env) (P : Env → Bool → Prop) (Q : Bool → Hp → Prop), EnvOk K M0 M B H σ ρ → w ρ P →
  (∀ ρ' b H', P ρ' b → Ext M B H M B H' → EnvOk K M0 M B H' σ ρ' → Q b H') → t σ H Q
def DW (X : ι → Cx) (K : Fr) (e : Expr) (w : WT) : Prop := ∃ t : TT, (∀ i, PW (X i) e t) ∧ ∀ (M0 M B : List Addr) (σ : L2.St) (H : Hp) (ρ : Env) (P : Env → Bool → Prop) (Q : Bool → Hp → Prop), EnvOk K M0 M B H σ ρ → w ρ P →
  (∀ ρ' b H', P ρ' b → Ext M B H M B H' → EnvOk K M0 M B H' σ ρ' → Q b H') → t σ H Q
def DA (X : ι → Cx) (K : Fr) (es : List Expr) (w : WA) : Prop := ∃ t : TA, (∀ i, PA (X i) es t) ∧ ∀ (M0 M B : List Addr) (σ : L2.St) (H : Hp) (ρ : Env) (P : Env → List PyData → Prop) (Q : List V → Hp → Prop), EnvOk K M0 M B H σ ρ → w ρ P →
  (∀ ρ' ds vs H', P ρ' ds → Ext M B H M B H' → EnvOk K M0 M B H' σ ρ' → DtAll K (rm M H') vs ds → Q vs H') → t σ H Q
/-- one argument, a value -/
def DA1 (X : ι → Cx) (K : Fr) (es : List Expr) (w : WE) : Prop := ∃ t : TA, (∀ i, PA (X i) es t) ∧ ∀ (M0 M B : List Addr) (σ : L2.St) (H : Hp) (ρ : Env) (P : Env → PyData → Prop) (Q : List V → Hp → Prop), EnvOk K M0 M B H σ ρ → w ρ P →
  (∀ ρ' d v H', P ρ' d → Ext M B H M B H' → EnvOk K M0 M B H' σ ρ' → RV K M H' v d → Q [v] H') → t σ H Q
section
variable {X : ι → Cx} {K : Fr} {a b e : Expr} {es : List Expr} {wa wb we : WE}
theorem DE.v (h : DE X K e we) : DV X K e we := by
  obtain ⟨t, h1, h2⟩ := h
  exact ⟨t, h1, fun M0 M B σ H ρ P Q E w k => h2 M0 M B σ H ρ P Q E w fun ρ' d v H' p x E' r => k ρ' d v H' p x E' (.inl r)⟩
/-! ### names and constants -/
def wVar (i : Nat) : WE := fun ρ P => ∃ d, ρ.at i = .dat d ∧ P ρ d
def wOwn (i : Nat) : WE := fun ρ P => ∃ ds, (ρ.at i).items = some ds ∧ P ρ (.list ds)
def wC (d : PyData) : WE := fun ρ P => P ρ d
theorem de_v (j : Nat) (h : ∀ i, PE (X i) e (tVar j) := by intro i; exact pv _) : DE X K e (wVar j) := by
  refine ⟨tVar j, h, fun M0 M B σ H ρ P Q E w k => ?_⟩
  obtain ⟨d, h1, p⟩ := w
  obtain ⟨v, h2, r⟩ := E.slot j _ (Env.at_get h1 (by intro z; cases z))
  exact ⟨v, h2, k ρ d v H p (Ext.refl ..) E r⟩
theorem dv_own (j : Nat) (h : ∀ i, PE (X i) e (tVar j) := by intro i; exact pv _) : DV X K e (wOwn j) := by
  refine ⟨tVar j, h, fun M0 M B σ H ρ P Q E w k => ?_⟩
  obtain ⟨ds, h1, p⟩ := w
  have hs : ρ[j]? = some (ρ.at j) := Env.at_get rfl (fun z => by rw [z] at h1; cases h1)
  have z := E.slot j _ hs
  revert h1 z
  cases ρ.at j with
  | un => intro h1; cases h1
  | dat d => intro h1; cases h1
  | scr d => intro h1; cases h1
  | own ds' =>
    intro h1 z
    injection h1 with h1
    subst h1
    obtain ⟨l, xs, h2, _, _, h4, h5⟩ := z
    exact ⟨_, h2, k ρ _ _ H p (Ext.refl ..) E (.inr ⟨l, xs, _, rfl, rfl, h4, h5⟩)⟩
  | bor l ds' =>
    intro h1 z
    injection h1 with h1
    subst h1
    obtain ⟨xs, h2, _, _, h4, h5⟩ := z
    exact ⟨_, h2, k ρ _ _ H p (Ext.refl ..) E (.inr ⟨l, xs, _, rfl, rfl, h4, h5⟩)⟩
theorem de_c {v : V} {d : PyData} (h : ∀ i, PE (X i) e (tC v)) (r : ∀ H, Dt K H v d) : DE X K e (wC d) :=
  ⟨tC v, h, fun M0 M B σ H ρ P Q E w k => k ρ d v H w (Ext.refl ..) E (r _)⟩
theorem de_int {n : Int} {k : Nat} {pos : Pos} : DE X K (.Constant (.int n) k pos) (wC (.int n)) := de_c (fun i => pe_int) fun H => .int n
theorem de_str {n : Str} {k : Nat} {pos : Pos} : DE X K (.Constant (.str n) k pos) (wC (.str n)) := de_c (fun i => pe_str) fun H => .str n
theorem de_bl {n : Bool} {k : Nat} {pos : Pos} : DE X K (.Constant (.bool n) k pos) (wC (.bool n)) := de_c (fun i => pe_bl) fun H => .bl n
theorem de_non {k : Nat} {pos : Pos} : DE X K (.Constant .none k pos) (wC .none) := de_c (fun i => pe_non) fun H => .non
/-- a module's constant: u its Value -/
theorem de_glob {x : Str} {u : Value} {v : V} {d : PyData} {pos : Pos} (hm : ∀ i, (X i).mg x = some u) (r : RelV v u) (hd : ∀ H, Dt K H v d) (hg : ∀ i, Gl (X i) x := by intro i; rfl) (hd1 : (x == ("__debug__" : Str)) = false := by decide) : DE X K (.Name x pos) (wC d) :=
  de_c (fun i => pe_glob (hg i) (hm i) r hd1) hd
/-! ### operators -/
/-- an operation on data is as that on values -/
def OpD (K : Fr) (r : R2) (f : PyData → PyData → (PyData → Prop) → Prop) : Prop := ∀ (M : List Addr) (H : Hp) (x y : PyData) (v u : V) (P : PyData → Prop) (Q : VK), (∀ a, a ∈ M → H a ≠ none) → RV K M H v x → RV K M H u y → f x y P →
  (∀ d z H', P d → Same H H' → Dt K (rm M H') z d → Q z H') → r v u H Q
def wOp (f : PyData → PyData → (PyData → Prop) → Prop) (wa wb : WE) : WE := fun ρ P => wa ρ fun ρ1 x => wb ρ1 fun ρ2 y => f x y fun d => P ρ2 d
theorem RV.up {M0 M B : List Addr} {H H' : Hp} {σ : L2.St} {ρ : Env} {v : V} {d : PyData} (E : EnvOk K M0 M B H σ ρ) (e : Same H H') (h : RV K M H v d) : RV K M H' v d := by
  have s := (Ext.same (M := M) (B := B) e).rm E.sub
  rcases h with h | ⟨l, xs, ds, h1, h2, h3, h4⟩
  · exact .inl (Dt.up s h)
  · exact .inr ⟨l, xs, ds, h1, h2, e _ _ h3, DtAll.up s h4⟩
/-- the second operand's reading keeps the first: it is data, or the second changes nothing that is put away -/
theorem de_op {r : R2} {f : PyData → PyData → (PyData → Prop) → Prop} (hp : ∀ i ta tb, PE (X i) a ta → PE (X i) b tb → PE (X i) e (tOp r ta tb)) (hr : OpD K r f) (ha : DE X K a wa) (hb : DV X K b wb) : DE X K e (wOp f wa wb) := by
  obtain ⟨ta, a1, a2⟩ := ha
  obtain ⟨tb, b1, b2⟩ := hb
  refine ⟨tOp r ta tb, fun i => hp i ta tb (a1 i) (b1 i), fun M0 M B σ H ρ P Q E w k => ?_⟩
  refine a2 M0 M B σ H ρ _ _ E w fun ρ1 x v H1 w1 x1 E1 r1 => ?_
  refine b2 M0 M B σ H1 ρ1 _ _ E1 w1 fun ρ2 y u H2 w2 x2 E2 r2 => ?_
  refine hr M H2 x y v u _ Q E2.dom (.inl (E1.up x2 r1)) r2 w2 fun d z H3 p e3 r3 => ?_
  exact k ρ2 d z H3 p ((x1.trans x2).trans (Ext.same e3)) (E2.same e3) r3
theorem EnvOk.lst {M0 M B : List Addr} {H : Hp} {σ : L2.St} {ρ : Env} {j : Nat} {ds : List PyData} (E : EnvOk K M0 M B H σ ρ) (h1 : (ρ.at j).items = some ds) : ∃ l xs, ρ[j]? = some (ρ.at j) ∧ (ρ.at j).isL = true ∧ σ[j]? = some (some (.ref l)) ∧ l ∈ B ∧ H l = some (.lst xs) ∧ DtAll K (rm M H) xs ds ∧
    ((∃ es, ρ.at j = .own es) ∨ ∃ es, ρ.at j = .bor l es) := by
  have hs : ρ[j]? = some (ρ.at j) := Env.at_get rfl (fun z => by rw [z] at h1; cases h1)
  have z := E.slot j _ hs
  revert hs h1 z
  cases ρ.at j with
  | un => intro h1; cases h1
  | dat d => intro h1; cases h1
  | scr d => intro h1; cases h1
  | own ds' =>
    intro h1 hs z
    injection h1 with h1
    subst h1
    obtain ⟨l, xs, h2, h3, _, h4, h5⟩ := z
    exact ⟨l, xs, hs, rfl, h2, h3, h4, h5, .inl ⟨_, rfl⟩⟩
  | bor l ds' =>
    intro h1 hs z
    injection h1 with h1
    subst h1
    obtain ⟨xs, h2, h3, _, h4, h5⟩ := z
    exact ⟨l, xs, hs, rfl, h2, h3, h4, h5, .inr ⟨_, rfl⟩⟩
/-- .. the first operand a list that is put away -/
def wOpO (f : PyData → PyData → (PyData → Prop) → Prop) (j : Nat) (wb : WE) : WE := fun ρ P => (∃ ds0, (ρ.at j).items = some ds0) ∧ wb ρ fun ρ2 y => ∃ ds, (ρ2.at j).items = some ds ∧ f (.list ds) y fun d => P ρ2 d
theorem de_opo (j : Nat) {r : R2} {f : PyData → PyData → (PyData → Prop) → Prop} (hp : ∀ i ta tb, PE (X i) a ta → PE (X i) b tb → PE (X i) e (tOp r ta tb)) (hr : OpD K r f) (hb : DV X K b wb) (h : ∀ i, PE (X i) a (tVar j) := by intro i; exact pv _) : DE X K e (wOpO f j wb) := by
  obtain ⟨tb, b1, b2⟩ := hb
  refine ⟨tOp r (tVar j) tb, fun i => hp i _ tb (h i) (b1 i), fun M0 M B σ H ρ P Q E w k => ?_⟩
  obtain ⟨⟨ds0, h0⟩, w⟩ := w
  obtain ⟨l0, xs0, _, _, hl0, _⟩ := E.lst h0
  refine ⟨_, hl0, ?_⟩
  refine b2 M0 M B σ H ρ _ _ E w fun ρ2 y u H2 w2 x2 E2 r2 => ?_
  obtain ⟨ds, h1, w3⟩ := w2
  obtain ⟨l, xs, _, _, hl, _, h4, h5, _⟩ := E2.lst h1
  rw [hl0] at hl
  injection hl with hl; injection hl with hl; injection hl with hl
  subst hl
  refine hr M H2 _ y _ u _ Q E2.dom (.inr ⟨l0, xs, ds, rfl, rfl, h4, h5⟩) r2 w3 fun d z H3 p e3 r3 => ?_
  exact k ρ2 d z H3 p (x2.trans (Ext.same e3)) (E2.same e3) r3
end
end Pm
namespace Pm
open PySem PySem.Spec PyProof.Rows L2
variable {ι : Type} {X : ι → Cx} {K : Fr} {a b e : Expr} {es : List Expr} {wa wb we : WE}
/-! ### arguments, displays -/
def wNil : WA := fun ρ P => P ρ []
def wCons (w : WE) (r : WA) : WA := fun ρ P => w ρ fun ρ1 d => r ρ1 fun ρ2 ds => P ρ2 (d :: ds)
theorem da_nil : DA X K [] wNil := ⟨tNil, fun i => pa_nil, fun M0 M B σ H ρ P Q E w k => k ρ [] [] H w (Ext.refl ..) E .nil⟩
theorem da_cons {w : WE} {r : WA} (h : DE X K e w) (hs : DA X K es r) (he : ∀ i, starEach (e :: es) (X i).env = (false, eval e (X i).env) :: starEach es (X i).env := by intro i; rfl) : DA X K (e :: es) (wCons w r) := by
  obtain ⟨ta, a1, a2⟩ := h
  obtain ⟨tb, b1, b2⟩ := hs
  refine ⟨tCons ta tb, fun i => pa_cons (a1 i) (b1 i) (he i), fun M0 M B σ H ρ P Q E w k => ?_⟩
  refine a2 M0 M B σ H ρ _ _ E w fun ρ1 x v H1 w1 x1 E1 r1 => ?_
  refine b2 M0 M B σ H1 ρ1 _ _ E1 w1 fun ρ2 ds vs H2 w2 x2 E2 r2 => ?_
  exact k ρ2 _ _ H2 w2 (x1.trans x2) E2 (.cons (E1.up x2 r1) r2)
def wTup (w : WA) : WE := fun ρ P => w ρ fun ρ1 ds => ds.length ≤ sizeLine ∧ P ρ1 (.tuple ds)
def wLst (w : WA) : WE := fun ρ P => w ρ fun ρ1 ds => ds.length ≤ sizeLine ∧ P ρ1 (.list ds)
theorem de_tup {w : WA} {c : Nat} {pos : Pos} (h : DA X K es w) (hp : ∀ i t, PA (X i) es t → PE (X i) (.Tuple es c pos) (tTup t) := by intro i t h; exact pe_tup h) : DE X K (.Tuple es c pos) (wTup w) := by
  obtain ⟨t, a1, a2⟩ := h
  refine ⟨tTup t, fun i => hp i t (a1 i), fun M0 M B σ H ρ P Q E w k => ?_⟩
  refine a2 M0 M B σ H ρ _ _ E w fun ρ1 ds vs H1 w1 x1 E1 r1 => ?_
  refine ⟨by rw [DtAll.len r1]; exact w1.1, fun p np => ?_⟩
  exact k ρ1 _ _ _ w1.2 (x1.trans (Ext.same (same_new np))) (E1.same (same_new np)) (E1.newt np r1)
theorem de_lst {w : WA} {pos : Pos} (h : DA X K es w) (hp : ∀ i t, PA (X i) es t → PE (X i) (.List es pos) (tLst t) := by intro i t h; exact pe_lst h) : DE X K (.List es pos) (wLst w) := by
  obtain ⟨t, a1, a2⟩ := h
  refine ⟨tLst t, fun i => hp i t (a1 i), fun M0 M B σ H ρ P Q E w k => ?_⟩
  refine a2 M0 M B σ H ρ _ _ E w fun ρ1 ds vs H1 w1 x1 E1 r1 => ?_
  refine ⟨by rw [DtAll.len r1]; exact w1.1, fun p np => ?_⟩
  exact k ρ1 _ _ _ w1.2 (x1.trans (Ext.same (same_new np))) (E1.same (same_new np)) (E1.newl np r1)
/-! ### tests -/
def wTst (we : WE) : WT := fun ρ P => we ρ fun ρ1 d => ∃ b, d = .bool b ∧ P ρ1 b
theorem dt_val (h : DE X K e we) (hp : ∀ i t, PE (X i) e t → PT (X i) e (tB t) := by intro i t h; exact pt_val h) : DT X K e (wTst we) := by
  obtain ⟨t, a1, a2⟩ := h
  refine ⟨tB t, fun i => hp i t (a1 i), fun M0 M B σ H ρ P Q E w k => ?_⟩
  refine a2 M0 M B σ H ρ _ _ E w fun ρ1 d v H1 w1 x1 E1 r1 => ?_
  obtain ⟨b, rfl, p⟩ := w1
  exact ⟨b, Dt.isBl r1, k ρ1 b H1 p x1 E1⟩
def wAnd (t u : WT) : WT := fun ρ P => t ρ fun ρ1 c => (c = true → u ρ1 P) ∧ (c = false → P ρ1 false)
def wOr (t u : WT) : WT := fun ρ P => t ρ fun ρ1 c => (c = true → P ρ1 true) ∧ (c = false → u ρ1 P)
def wNot (t : WT) : WT := fun ρ P => t ρ fun ρ1 c => P ρ1 (!c)
theorem ite_of {c : Bool} {A B : Prop} (h1 : c = true → A) (h2 : c = false → B) : if c = true then A else B := by
  cases c with
  | true => rw [if_pos rfl]; exact h1 rfl
  | false => rw [if_neg Bool.false_ne_true]; exact h2 rfl
theorem dt_not {t : WT} {pos : Pos} (h : DT X K e t) (hp : ∀ i t, PT (X i) e t → PT (X i) (.UnaryOp .Not e pos) (tNot t) := by intro i t h; exact pt_not h) : DT X K (.UnaryOp .Not e pos) (wNot t) := by
  obtain ⟨t, a1, a2⟩ := h
  refine ⟨tNot t, fun i => hp i t (a1 i), fun M0 M B σ H ρ P Q E w k => ?_⟩
  exact a2 M0 M B σ H ρ _ _ E w fun ρ1 b H1 w1 x1 E1 => k ρ1 _ H1 w1 x1 E1
theorem DW.t {w : WT} (h : DW X K e w) : DT X K e w := by
  obtain ⟨t, a1, a2⟩ := h
  exact ⟨t, fun i => (a1 i).pt, a2⟩
theorem dw_and {t u : WT} {c : Expr} {rest : List Expr} {pos : Pos} (h : DT X K a t) (hr : DW X K (.BoolOp .And (c :: rest) pos) u) (hp : ∀ i t u, PT (X i) a t → PW (X i) (.BoolOp .And (c :: rest) pos) u → PW (X i) (.BoolOp .And (a :: c :: rest) pos) (tAnd t u) := by intro i t u h1 h2; exact pw_and h1 h2) : DW X K (.BoolOp .And (a :: c :: rest) pos) (wAnd t u) := by
  obtain ⟨t, a1, a2⟩ := h
  obtain ⟨u, b1, b2⟩ := hr
  refine ⟨tAnd t u, fun i => hp i t u (a1 i) (b1 i), fun M0 M B σ H ρ P Q E w k => ?_⟩
  refine a2 M0 M B σ H ρ _ _ E w fun ρ1 c H1 w1 x1 E1 => ite_of (fun e => ?_) (fun e => ?_)
  · exact b2 M0 M B σ H1 ρ1 _ _ E1 (w1.1 e) fun ρ2 b H2 w2 x2 E2 => k ρ2 b H2 w2 (x1.trans x2) E2
  · exact k ρ1 false H1 (w1.2 e) x1 E1
theorem dw_or {t u : WT} {c : Expr} {rest : List Expr} {pos : Pos} (h : DT X K a t) (hr : DW X K (.BoolOp .Or (c :: rest) pos) u) (hp : ∀ i t u, PT (X i) a t → PW (X i) (.BoolOp .Or (c :: rest) pos) u → PW (X i) (.BoolOp .Or (a :: c :: rest) pos) (tOr t u) := by intro i t u h1 h2; exact pw_or h1 h2) : DW X K (.BoolOp .Or (a :: c :: rest) pos) (wOr t u) := by
  obtain ⟨t, a1, a2⟩ := h
  obtain ⟨u, b1, b2⟩ := hr
  refine ⟨tOr t u, fun i => hp i t u (a1 i) (b1 i), fun M0 M B σ H ρ P Q E w k => ?_⟩
  refine a2 M0 M B σ H ρ _ _ E w fun ρ1 c H1 w1 x1 E1 => ite_of (fun e => ?_) (fun e => ?_)
  · exact k ρ1 true H1 (w1.1 e) x1 E1
  · exact b2 M0 M B σ H1 ρ1 _ _ E1 (w1.2 e) fun ρ2 b H2 w2 x2 E2 => k ρ2 b H2 w2 (x1.trans x2) E2
theorem dw_and1 {t : WT} {pos : Pos} (h : DT X K a t) (hp : ∀ i t, PT (X i) a t → PW (X i) (.BoolOp .And [a] pos) t := by intro i t h1; exact pw_and1 h1) : DW X K (.BoolOp .And [a] pos) t := by
  obtain ⟨t, a1, a2⟩ := h
  exact ⟨t, fun i => hp i t (a1 i), a2⟩
theorem dw_or1 {t : WT} {pos : Pos} (h : DT X K a t) (hp : ∀ i t, PT (X i) a t → PW (X i) (.BoolOp .Or [a] pos) t := by intro i t h1; exact pw_or1 h1) : DW X K (.BoolOp .Or [a] pos) t := by
  obtain ⟨t, a1, a2⟩ := h
  exact ⟨t, fun i => hp i t (a1 i), a2⟩
/-- a if t else b -/
def wIte (t : WT) (wa wb : WE) : WE := fun ρ P => t ρ fun ρ1 c => (c = true → wa ρ1 P) ∧ (c = false → wb ρ1 P)
theorem de_ite {t : WT} {c : Expr} {pos : Pos} (h : DT X K c t) (ha : DE X K a wa) (hb : DE X K b wb) : DE X K (.IfExp c a b pos) (wIte t wa wb) := by
  obtain ⟨t, c1, c2⟩ := h
  obtain ⟨ta, a1, a2⟩ := ha
  obtain ⟨tb, b1, b2⟩ := hb
  refine ⟨tIf t ta tb, fun i => pe_ifExp (c1 i) (a1 i) (b1 i), fun M0 M B σ H ρ P Q E w k => ?_⟩
  refine c2 M0 M B σ H ρ _ _ E w fun ρ1 c H1 w1 x1 E1 => ite_of (fun e => ?_) (fun e => ?_)
  · exact a2 M0 M B σ H1 ρ1 _ _ E1 (w1.1 e) fun ρ2 d v H2 w2 x2 E2 r2 => k ρ2 d v H2 w2 (x1.trans x2) E2 r2
  · exact b2 M0 M B σ H1 ρ1 _ _ E1 (w1.2 e) fun ρ2 d v H2 w2 x2 E2 r2 => k ρ2 d v H2 w2 (x1.trans x2) E2 r2
/-! ### what the operators are on data -/
theorem op_orR {Y : Cx} {f : Value → Value → Sem Value} {r1 r2 : R2} (h1 : OpR Y f r1) (h2 : OpR Y f r2) : OpR Y f (fun x y H Q => r1 x y H Q ∨ r2 x y H Q) := by
  intro pins s σ H x y v u Q I rx ry h
  rcases h with h | h
  · exact h1 pins s σ H x y v u Q I rx ry h
  · exact h2 pins s σ H x y v u Q I rx ry h
/-- .. on data that must be flat or tuples: what stands put away is a list -/
def RV.isInt {M : List Addr} {H : Hp} {v : V} {i : Int} (h : RV K M H v (.int i)) : v = .int i := by
  rcases h with h | ⟨_, _, _, _, q, _⟩
  · exact Dt.isInt h
  · cases q
theorem RV.isStr {M : List Addr} {H : Hp} {v : V} {i : Str} (h : RV K M H v (.str i)) : v = .str i := by
  rcases h with h | ⟨_, _, _, _, q, _⟩
  · exact Dt.isStr h
  · cases q
theorem RV.isBl {M : List Addr} {H : Hp} {v : V} {i : Bool} (h : RV K M H v (.bool i)) : v = .bl i := by
  rcases h with h | ⟨_, _, _, _, q, _⟩
  · exact Dt.isBl h
  · cases q
theorem RV.isNon {M : List Addr} {H : Hp} {v : V} (h : RV K M H v .none) : v = .non := by
  rcases h with h | ⟨_, _, _, _, q, _⟩
  · exact Dt.isNon h
  · cases q
theorem RV.isTup {M : List Addr} {H : Hp} {v : V} {ds : List PyData} (h : RV K M H v (.tuple ds)) : ∃ a xs, v = .ref a ∧ SqT K H a xs ∧ DtAll K (rm M H) xs ds := by
  rcases h with h | ⟨_, _, _, _, q, _⟩
  · obtain ⟨a, xs, h1, h2, h3⟩ := Dt.isTup h
    exact ⟨a, xs, h1, same_t rm_le h2, h3⟩
  · cases q
theorem RV.isLst {M : List Addr} {H : Hp} {v : V} {ds : List PyData} (h : RV K M H v (.list ds)) : ∃ a xs, v = .ref a ∧ H a = some (.lst xs) ∧ DtAll K (rm M H) xs ds := by
  rcases h with h | ⟨l, xs, ds', rfl, q, h1, h2⟩
  · obtain ⟨a, xs, h1, h2, h3⟩ := Dt.isLst h
    exact ⟨a, xs, h1, rm_le _ _ h2, h3⟩
  · injection q with q
    subst q
    exact ⟨l, xs, rfl, h1, h2⟩
theorem RV.dp {M : List Addr} {H : Hp} {v : V} {d : PyData} (h : RV K M H v d) : Dp K H v d := by
  rcases h with h | ⟨l, xs, ds', rfl, rfl, h1, h2⟩
  · exact (Dt.up rm_le h).dp
  · exact .lst (.inl (.inl h1)) (DtAll.up rm_le h2).dp
end Pm
namespace Pm
open PySem PySem.Spec PyProof.Rows L2
variable {ι : Type} {X : ι → Cx} {K : Fr} {a b e : Expr} {es : List Expr} {wa wb we : WE} {pos : Pos}
abbrev F2 := PyData → PyData → (PyData → Prop) → Prop
/-! ### + -/
def fAdd : F2
  | .int i, .int j, P => P (.int (i + j))
  | .str x, .str y, P => x.length + y.length ≤ sizeLine ∧ P (.str (x ++ y))
  | .list xs, .list ys, P => xs.length + ys.length ≤ sizeLine ∧ P (.list (xs ++ ys))
  | .tuple xs, .tuple ys, P => xs.length + ys.length ≤ sizeLine ∧ P (.tuple (xs ++ ys))
  | _, _, _ => False
def rAddStr : R2 := fun x y H Q => ∃ i j, x = .str i ∧ y = .str j ∧ i.length + j.length ≤ sizeLine ∧ Q (.str (i ++ j)) H
def rAddAny (K : Fr) : R2 := fun x y H Q => rI0 (fun i j => .int (i + j)) x y H Q ∨ rAddStr x y H Q ∨ rCat x y H Q ∨ rCatA K x y H Q
theorem op_addAny {Y : Cx} : OpR Y (binaryOp .Add) (rAddAny Y.K) := op_orR op_add (op_orR op_add_str (op_orR op_cat op_catA))
theorem od_add : OpD K (rAddAny K) fAdd := by
  intro M H x y v u P Q dom rx ry f k
  cases x with
  | int i =>
    cases y with
    | int j => rw [RV.isInt rx, RV.isInt ry]; exact .inl ⟨i, j, rfl, rfl, k _ _ H f (Same.refl _) (.int _)⟩
    | _ => exact f.elim
  | str i =>
    cases y with
    | str j => rw [RV.isStr rx, RV.isStr ry]; exact .inr (.inl ⟨i, j, rfl, rfl, f.1, k _ _ H f.2 (Same.refl _) (.str _)⟩)
    | _ => exact f.elim
  | list xs =>
    cases y with
    | list ys =>
      obtain ⟨a, vs, rfl, h1, h2⟩ := RV.isLst rx
      obtain ⟨b, us, rfl, h3, h4⟩ := RV.isLst ry
      refine .inr (.inr (.inl ⟨a, b, vs, us, rfl, rfl, h1, h3, by rw [DtAll.len h2, DtAll.len h4]; exact f.1, fun p np => ?_⟩))
      refine k _ _ _ f.2 (same_new np) ?_
      have hp : p ∉ M := fun c => dom p c np
      refine .lst (rm_of hp upd_same) (DtAll.up (fun a o e => ?_) (DtAll.app h2 h4))
      obtain ⟨z1, z2⟩ := rm_to e
      exact rm_of z1 (same_new np _ _ z2)
    | _ => exact f.elim
  | tuple xs =>
    cases y with
    | tuple ys =>
      obtain ⟨a, vs, rfl, h1, h2⟩ := RV.isTup rx
      obtain ⟨b, us, rfl, h3, h4⟩ := RV.isTup ry
      have r1 : Dt K (rm M H) (.ref a) (.tuple xs) := by rcases rx with r | ⟨_, _, _, _, q, _⟩ <;> first | exact r | cases q
      have r2 : Dt K (rm M H) (.ref b) (.tuple ys) := by rcases ry with r | ⟨_, _, _, _, q, _⟩ <;> first | exact r | cases q
      refine .inr (.inr (.inr ⟨a, b, vs, us, rfl, rfl, h1, h3, by rw [DtAll.len h2, DtAll.len h4]; exact f.1, fun e => ?_, fun e1 e2 => ?_, fun e1 e2 p np => ?_⟩))
      · refine k _ _ _ f.2 (Same.refl _) ?_
        subst e
        cases h2
        exact r2
      · refine k _ _ _ f.2 (Same.refl _) ?_
        subst e2
        cases h4
        rw [List.append_nil]
        exact r1
      · refine k _ _ _ f.2 (same_new np) ?_
        have hp : p ∉ M := fun c => dom p c np
        refine .tup (.inl (.inl (rm_of hp upd_same))) (DtAll.up (fun a o e => ?_) (DtAll.app h2 h4))
        obtain ⟨z1, z2⟩ := rm_to e
        exact rm_of z1 (same_new np _ _ z2)
    | _ => exact f.elim
  | _ => exact f.elim
theorem de_add (ha : DE X K a wa) (hb : DV X K b wb) (hK : ∀ i, (X i).K = K := by intro i; rfl) : DE X K (.BinOp a .Add b pos) (wOp fAdd wa wb) :=
  de_op (fun i ta tb h1 h2 => pe_op (by rw [← hK i]; exact op_addAny) h1 h2) od_add ha hb
/-- ints alone -/
def fI (C : Int → Int → Prop) (g : Int → Int → PyData) : F2
  | .int i, .int j, P => C i j ∧ P (g i j)
  | _, _, _ => False
theorem od_I {C : Int → Int → Prop} {g : Int → Int → V} {g' : Int → Int → PyData} (h : ∀ H i j, Dt K H (g i j) (g' i j)) : OpD K (rI C g) (fI C g') := by
  intro M H x y v u P Q dom rx ry f k
  cases x with
  | int i =>
    cases y with
    | int j => rw [RV.isInt rx, RV.isInt ry]; exact ⟨i, j, rfl, rfl, f.1, k _ _ H f.2 (Same.refl _) (h _ i j)⟩
    | _ => exact f.elim
  | _ => exact f.elim
def fI0 (g : Int → Int → PyData) : F2
  | .int i, .int j, P => P (g i j)
  | _, _, _ => False
theorem od_I0 {g : Int → Int → V} {g' : Int → Int → PyData} (h : ∀ H i j, Dt K H (g i j) (g' i j)) : OpD K (rI0 g) (fI0 g') := by
  intro M H x y v u P Q dom rx ry f k
  cases x with
  | int i =>
    cases y with
    | int j => rw [RV.isInt rx, RV.isInt ry]; exact ⟨i, j, rfl, rfl, k _ _ H f (Same.refl _) (h _ i j)⟩
    | _ => exact f.elim
  | _ => exact f.elim
abbrev fSub : F2 := fI0 fun i j => .int (i - j)
abbrev fMod : F2 := fI (fun _ j => 0 < j) fun i j => .int (i % j)
abbrev fDiv : F2 := fI CDivW fun i j => .int (i / j)
abbrev fPow : F2 := fI CPow fun i j => .int (i ^ j.toNat)
abbrev fLt : F2 := fI0 fun i j => .bool (decide (i < j))
abbrev fLe : F2 := fI0 fun i j => .bool (decide (i ≤ j))
abbrev fGt : F2 := fI0 fun i j => .bool (decide (j < i))
abbrev fGe : F2 := fI0 fun i j => .bool (decide (j ≤ i))
theorem de_sub (ha : DE X K a wa) (hb : DE X K b wb) : DE X K (.BinOp a .Sub b pos) (wOp fSub wa wb) := de_op (fun i ta tb h1 h2 => pe_op op_sub h1 h2) (od_I0 fun _ _ _ => .int _) ha hb.v
theorem de_mod (ha : DE X K a wa) (hb : DE X K b wb) : DE X K (.BinOp a .Mod b pos) (wOp fMod wa wb) := de_op (fun i ta tb h1 h2 => pe_op op_mod h1 h2) (od_I fun _ _ _ => .int _) ha hb.v
theorem de_div (ha : DE X K a wa) (hb : DE X K b wb) : DE X K (.BinOp a .FloorDiv b pos) (wOp fDiv wa wb) := de_op (fun i ta tb h1 h2 => pe_op op_fdivW h1 h2) (od_I fun _ _ _ => .int _) ha hb.v
theorem de_pow (ha : DE X K a wa) (hb : DE X K b wb) : DE X K (.BinOp a .Pow b pos) (wOp fPow wa wb) := de_op (fun i ta tb h1 h2 => pe_op op_pow h1 h2) (od_I fun _ _ _ => .int _) ha hb.v
theorem de_lt (ha : DE X K a wa) (hb : DE X K b wb) : DE X K (.Compare a [.Lt] [b] pos) (wOp fLt wa wb) := de_op (fun i ta tb h1 h2 => pe_cmpR op_lt h1 h2 (nomark _)) (od_I0 fun _ _ _ => .bl _) ha hb.v
theorem de_le (ha : DE X K a wa) (hb : DE X K b wb) : DE X K (.Compare a [.LtE] [b] pos) (wOp fLe wa wb) := de_op (fun i ta tb h1 h2 => pe_cmpR op_le h1 h2 (nomark _)) (od_I0 fun _ _ _ => .bl _) ha hb.v
theorem de_gt (ha : DE X K a wa) (hb : DE X K b wb) : DE X K (.Compare a [.Gt] [b] pos) (wOp fGt wa wb) := de_op (fun i ta tb h1 h2 => pe_cmpR op_gt h1 h2 (nomark _)) (od_I0 fun _ _ _ => .bl _) ha hb.v
theorem de_ge (ha : DE X K a wa) (hb : DE X K b wb) : DE X K (.Compare a [.GtE] [b] pos) (wOp fGe wa wb) := de_op (fun i ta tb h1 h2 => pe_cmpR op_ge h1 h2 (nomark _)) (od_I0 fun _ _ _ => .bl _) ha hb.v
/-! ### * -/
def repS (x : Str) (n : Nat) : Str := ⟨(List.replicate n x.cps.toList).flatten.toArray⟩
theorem foldl_app (n : Nat) (x : Array Nat) : ∀ z : Array Nat, (List.replicate n x).foldl (· ++ ·) z = z ++ (List.replicate n x.toList).flatten.toArray := by
  induction n with
  | zero => intro z; simp
  | succ n ih => intro z; rw [List.replicate_succ, List.foldl_cons, ih, List.replicate_succ, List.flatten_cons]; obtain ⟨z⟩ := z; obtain ⟨x⟩ := x; simp
theorem mul_rep (x : Str) (n : Int) : Txt.mul x n = repS x n.toNat := by
  unfold Txt.mul repS
  by_cases h : n < 1
  · have e : n.toNat = 0 := by omega
    rw [if_pos h, e]; rfl
  · rw [if_neg h]
    by_cases h2 : (n == 1 || x.length == 0) = true
    · rw [if_pos h2]
      rcases Bool.or_eq_true _ _ |>.mp h2 with h3 | h3
      · have e : n = 1 := by simpa using h3
        subst e
        simp
      · have e : x.cps = #[] := by
          have z : x.cps.size = 0 := by simpa [Str.length] using h3
          exact Array.eq_empty_of_size_eq_zero z
        obtain ⟨c⟩ := x
        subst e
        simp
    · rw [if_neg h2, foldl_app]
      simp
def rRepS : R2 := fun x y H Q => ∃ z n, x = .str z ∧ y = .int n ∧ -(2 ^ 63) ≤ n ∧ n < 2 ^ 63 ∧ z.length * n.toNat ≤ sizeLine ∧ Q (.str (repS z n.toNat)) H
theorem op_repS {Y : Cx} : OpR Y (binaryOp .Mult) rRepS := by
  intro pins s σ H x y v u Q I rx ry h
  obtain ⟨z, n, rfl, rfl, h1, h2, h3, q⟩ := h
  obtain ⟨t, rfl⟩ := rx
  obtain ⟨t', rfl⟩ := ry
  refine SB.mul (n := n) ⟨?_, fun hn hz => ?_, fun hn hz => ?_⟩ fun t' k => ?_
  · have e1 : decide (n < -(2 ^ 63 : Int)) = false := decide_eq_false (by omega)
    have e2 : decide (n ≥ 2 ^ 63) = false := decide_eq_false (by omega)
    rw [e1, e2]; rfl
  · have hn1 : (1 : Int) ≤ n := by omega
    rw [sizeLine_eq] at h3
    have e : ((z.length * n.toNat : Nat) : Int) = (z.length : Int) * n := by
      rw [Int.natCast_mul, Int.toNat_of_nonneg (by omega)]
    have h4 : (z.length : Int) * n ≤ 16777216 := by rw [← e]; exact Int.ofNat_le.mpr h3
    intro hgt
    have : (z.length : Int) ≤ (2 ^ 63 - 1) / n := by
      rw [Int.le_ediv_iff_mul_le (by omega)]
      omega
    omega
  · unfold Builtin.Str.tooLong
    exact decide_eq_false (by omega)
  · rw [mul_rep]
    exact ⟨.str _, H, I.tok _, ⟨_, rfl⟩, q⟩
def fMul : F2
  | .int i, .int j, P => CMul i j ∧ P (.int (i * j))
  | .str x, .int n, P => -(2 ^ 63) ≤ n ∧ n < 2 ^ 63 ∧ x.length * n.toNat ≤ sizeLine ∧ P (.str (repS x n.toNat))
  | _, _, _ => False
def rMulAny : R2 := fun x y H Q => rI CMul (fun i j => .int (i * j)) x y H Q ∨ rRepS x y H Q
theorem od_mul : OpD K rMulAny fMul := by
  intro M H x y v u P Q dom rx ry f k
  cases x with
  | int i =>
    cases y with
    | int j => rw [RV.isInt rx, RV.isInt ry]; exact .inl ⟨i, j, rfl, rfl, f.1, k _ _ H f.2 (Same.refl _) (.int _)⟩
    | _ => exact f.elim
  | str i =>
    cases y with
    | int j => rw [RV.isStr rx, RV.isInt ry]; exact .inr ⟨i, j, rfl, rfl, f.1, f.2.1, f.2.2.1, k _ _ H f.2.2.2 (Same.refl _) (.str _)⟩
    | _ => exact f.elim
  | _ => exact f.elim
theorem de_mul (ha : DE X K a wa) (hb : DE X K b wb) : DE X K (.BinOp a .Mult b pos) (wOp fMul wa wb) := de_op (fun i ta tb h1 h2 => pe_op (op_orR op_mul op_repS) h1 h2) od_mul ha hb.v
end Pm
namespace Pm
open PySem PySem.Spec PyProof.Rows L2
variable {ι : Type} {X : ι → Cx} {K : Fr} {a b e : Expr} {es : List Expr} {wa wb we : WE} {pos : Pos}
/-! ### ==, != -/
def fEq (neg : Bool) : F2
  | .int i, .int j, P => P (.bool (neg ^^ decide (i = j)))
  | .str i, .str j, P => P (.bool (neg ^^ decide (i = j)))
  | .bool i, .bool j, P => P (.bool (neg ^^ decide (i = j)))
  | x, y, P => SeqAt.shaped x = true ∧ SeqAt.shaped y = true ∧ P (.bool (neg ^^ PyData.eqv x y))
def rEqAny (K : Fr) (neg : Bool) : R2 := fun x y H Q => (scal x y = true ∧ Q (.bl (neg ^^ decide (x = y))) H) ∨ ∃ d e, Dp K H x d ∧ Dp K H y e ∧ SeqAt.shaped d = true ∧ SeqAt.shaped e = true ∧ Q (.bl (neg ^^ PyData.eqv d e)) H
theorem op_eqAny {Y : Cx} (hu : Y.A.units + 64 < cLine) : OpR Y (compareOp .Eq) (rEqAny Y.K false) := by
  intro pins s σ H x y v u Q I rx ry h
  rcases h with ⟨h1, h2⟩ | ⟨d, e, h1, h2, h3, h4, h5⟩
  · exact op_eq pins s σ H x y v u Q I rx ry ⟨h1, by simpa using h2⟩
  · exact op_eqD hu pins s σ H x y v u Q I rx ry ⟨d, e, h1, h2, h3, h4, by simpa using h5⟩
theorem op_neAny {Y : Cx} (hu : Y.A.units + 64 < cLine) : OpR Y (compareOp .NotEq) (rEqAny Y.K true) := by
  intro pins s σ H x y v u Q I rx ry h
  rcases h with ⟨h1, h2⟩ | ⟨d, e, h1, h2, h3, h4, h5⟩
  · exact op_ne pins s σ H x y v u Q I rx ry ⟨h1, by simpa using h2⟩
  · exact op_neD hu pins s σ H x y v u Q I rx ry ⟨d, e, h1, h2, h3, h4, by simpa using h5⟩
theorem decV_int {i j : Int} : decide (V.int i = V.int j) = decide (i = j) := by simp
theorem decV_str {i j : Str} : decide (V.str i = V.str j) = decide (i = j) := by simp
theorem decV_bl {i j : Bool} : decide (V.bl i = V.bl j) = decide (i = j) := by simp
theorem od_eq {neg : Bool} : OpD K (rEqAny K neg) (fEq neg) := by
  intro M H x y v u P Q dom rx ry f k
  have gen : SeqAt.shaped x = true ∧ SeqAt.shaped y = true ∧ P (.bool (neg ^^ PyData.eqv x y)) → rEqAny K neg v u H Q := fun f => .inr ⟨x, y, rx.dp, ry.dp, f.1, f.2.1, k _ _ H f.2.2 (Same.refl _) (.bl _)⟩
  cases x with
  | int i =>
    cases y with
    | int j => rw [RV.isInt rx, RV.isInt ry]; exact .inl ⟨rfl, by rw [decV_int]; exact k _ _ H f (Same.refl _) (.bl _)⟩
    | _ => exact gen f
  | str i =>
    cases y with
    | str j => rw [RV.isStr rx, RV.isStr ry]; exact .inl ⟨rfl, by rw [decV_str]; exact k _ _ H f (Same.refl _) (.bl _)⟩
    | _ => exact gen f
  | bool i =>
    cases y with
    | bool j => rw [RV.isBl rx, RV.isBl ry]; exact .inl ⟨rfl, by rw [decV_bl]; exact k _ _ H f (Same.refl _) (.bl _)⟩
    | _ => exact gen f
  | _ => exact gen f
theorem de_eq (hu : ∀ i, (X i).A.units + 64 < cLine) (ha : DE X K a wa) (hb : DV X K b wb) (hK : ∀ i, (X i).K = K := by intro i; rfl) : DE X K (.Compare a [.Eq] [b] pos) (wOp (fEq false) wa wb) :=
  de_op (fun i ta tb h1 h2 => pe_cmpR (by rw [← hK i]; exact op_eqAny (hu i)) h1 h2 (nomark _)) od_eq ha hb
theorem de_ne (hu : ∀ i, (X i).A.units + 64 < cLine) (ha : DE X K a wa) (hb : DV X K b wb) (hK : ∀ i, (X i).K = K := by intro i; rfl) : DE X K (.Compare a [.NotEq] [b] pos) (wOp (fEq true) wa wb) :=
  de_op (fun i ta tb h1 h2 => pe_cmpR (by rw [← hK i]; exact op_neAny (hu i)) h1 h2 (nomark _)) od_eq ha hb
theorem de_eqo (j : Nat) (hu : ∀ i, (X i).A.units + 64 < cLine) (hb : DV X K b wb) (h : ∀ i, PE (X i) a (tVar j) := by intro i; exact pv _) (hK : ∀ i, (X i).K = K := by intro i; rfl) : DE X K (.Compare a [.Eq] [b] pos) (wOpO (fEq false) j wb) :=
  de_opo j (fun i ta tb h1 h2 => pe_cmpR (by rw [← hK i]; exact op_eqAny (hu i)) h1 h2 (nomark _)) od_eq hb h
theorem de_neo (j : Nat) (hu : ∀ i, (X i).A.units + 64 < cLine) (hb : DV X K b wb) (h : ∀ i, PE (X i) a (tVar j) := by intro i; exact pv _) (hK : ∀ i, (X i).K = K := by intro i; rfl) : DE X K (.Compare a [.NotEq] [b] pos) (wOpO (fEq true) j wb) :=
  de_opo j (fun i ta tb h1 h2 => pe_cmpR (by rw [← hK i]; exact op_neAny (hu i)) h1 h2 (nomark _)) od_eq hb h
/-! ### is None, is not None -/
def isN : PyData → Bool
  | .none => true
  | _ => false
def fIs (neg : Bool) : F2 := fun x y P => y = .none ∧ P (.bool (neg ^^ isN x))
theorem rv_isN {M : List Addr} {H : Hp} {v : V} {d : PyData} (r : RV K M H v d) : decide (v = .non) = isN d := by
  rcases r with r | ⟨_, _, _, rfl, rfl, _⟩
  · cases r <;> simp [isN]
  · simp [isN]
theorem od_is : OpD K (fun x y H Q => y = .non ∧ Q (.bl (decide (x = .non))) H) (fIs false) := by
  intro M H x y v u P Q dom rx ry f k
  obtain ⟨rfl, f⟩ := f
  exact ⟨RV.isNon ry, by rw [rv_isN rx]; exact k _ _ H f (Same.refl _) (by simpa using Dt.bl _)⟩
theorem od_isnot : OpD K (fun x y H Q => y = .non ∧ Q (.bl (!decide (x = .non))) H) (fIs true) := by
  intro M H x y v u P Q dom rx ry f k
  obtain ⟨rfl, f⟩ := f
  exact ⟨RV.isNon ry, by rw [rv_isN rx]; exact k _ _ H f (Same.refl _) (by simpa using Dt.bl _)⟩
theorem de_is (ha : DE X K a wa) (hb : DE X K b wb) : DE X K (.Compare a [.Is] [b] pos) (wOp (fIs false) wa wb) := de_op (fun i ta tb h1 h2 => pe_cmpR op_isN h1 h2 (nomark _)) od_is ha hb.v
theorem de_isnot (ha : DE X K a wa) (hb : DE X K b wb) : DE X K (.Compare a [.IsNot] [b] pos) (wOp (fIs true) wa wb) := de_op (fun i ta tb h1 h2 => pe_cmpR op_notN h1 h2 (nomark _)) od_isnot ha hb.v
/-! ### in, not in -/
def inS (x z : Str) : Bool := match x.cps.toList with
  | [c] => decide (c ∈ z.cps.toList)
  | _ => !(Builtin.Str.occurrences z x 0 z.length 1).isEmpty
def flatD : PyData → Bool
  | .none => true
  | .bool _ => true
  | .int _ => true
  | .str _ => true
  | _ => false
def fIn (neg : Bool) : F2
  | .str x, .str z, P => P (.bool (neg ^^ inS x z))
  | x, .list ys, P => flatD x = true ∧ ys.all flatD = true ∧ P (.bool (neg ^^ ys.any fun y => PyData.eqv y x))
  | x, .tuple ys, P => flatD x = true ∧ ys.all flatD = true ∧ P (.bool (neg ^^ ys.any fun y => PyData.eqv y x))
  | _, _, _ => False
def rInS (neg : Bool) : R2 := fun x y H Q => ∃ i j, x = .str i ∧ y = .str j ∧ Q (.bl (neg ^^ inS i j)) H
theorem op_inS' {Y : Cx} : OpR Y (compareOp .In) (rInS false) := by
  intro pins s σ H x y v u Q I rx ry h
  obtain ⟨i, j, rfl, rfl, q⟩ := h
  unfold inS at q
  split at q
  · rename_i c hc
    have e : i = ⟨#[c]⟩ := by obtain ⟨⟨i⟩⟩ := i; simpa using hc
    subst e
    exact op_in_sign pins s σ H _ _ v u Q I rx ry ⟨c, j, rfl, rfl, by simpa using q⟩
  · exact op_in_str pins s σ H _ _ v u Q I rx ry ⟨i, j, rfl, rfl, by simpa using q⟩
theorem op_notinS' {Y : Cx} : OpR Y (compareOp .NotIn) (rInS true) := by
  intro pins s σ H x y v u Q I rx ry h
  obtain ⟨i, j, rfl, rfl, q⟩ := h
  unfold inS at q
  split at q
  · rename_i c hc
    have e : i = ⟨#[c]⟩ := by obtain ⟨⟨i⟩⟩ := i; simpa using hc
    subst e
    exact op_notIn_sign pins s σ H _ _ v u Q I rx ry ⟨c, j, rfl, rfl, by simpa using q⟩
  · exact op_notIn_str pins s σ H _ _ v u Q I rx ry ⟨i, j, rfl, rfl, by simpa using q⟩
theorem flat_dt {H : Hp} {v : V} {d : PyData} (r : Dt K H v d) : flatV v = flatD d := by cases r <;> rfl
theorem flat_all {H : Hp} : ∀ {vs : List V} {ds : List PyData}, DtAll K H vs ds → vs.all flatV = ds.all flatD
  | _, _, .nil => rfl
  | _, _, .cons h r => by rw [List.all_cons, List.all_cons, flat_dt h, flat_all r]
theorem eq_flat {H : Hp} {v u : V} {d e : PyData} (r : Dt K H v d) (q : Dt K H u e) (f1 : flatD d = true) (f2 : flatD e = true) : eqV v u = PyData.eqv d e := by
  cases r <;> cases q <;> first | rfl | exact absurd f1 Bool.false_ne_true | exact absurd f2 Bool.false_ne_true
theorem in_flat {H : Hp} {u : V} {e : PyData} (q : Dt K H u e) (f2 : flatD e = true) : ∀ {vs : List V} {ds : List PyData}, DtAll K H vs ds → ds.all flatD = true → inV u vs = ds.any fun y => PyData.eqv y e
  | _, _, .nil, _ => rfl
  | _, _, .cons h r, f => by
    rw [List.all_cons, Bool.and_eq_true] at f
    have ih := in_flat q f2 r f.2
    unfold inV at ih ⊢
    rw [List.any_cons, List.any_cons, ih, eq_flat h q f.1 f2]
def rInAny (K : Fr) (neg : Bool) : R2 := fun x y H Q => rInS neg x y H Q ∨ rIn K neg x y H Q
theorem od_in {neg : Bool} : OpD K (rInAny K neg) (fIn neg) := by
  intro M H x y v u P Q dom rx ry f k
  have xx : ∀ b : Bool, (if neg = true then !b else b) = (neg ^^ b) := by intro b; cases neg <;> cases b <;> rfl
  have seq : ∀ (p : Addr) (vs : List V) (ds : List PyData), (SqL K H p vs ∨ SqT K H p vs) → DtAll K (rm M H) vs ds → u = .ref p → flatD x = true ∧ ds.all flatD = true ∧ P (.bool (neg ^^ ds.any fun y => PyData.eqv y x)) → rInAny K neg v u H Q := fun p vs ds hs hd hu f => by
    have r1 : Dt K (rm M H) v x := by
      rcases rx with r | ⟨_, _, _, _, rfl, _⟩
      · exact r
      · exact absurd f.1 (by simp [flatD])
    refine .inr ⟨p, vs, hu, hs, by rw [flat_dt r1]; exact f.1, by rw [flat_all hd]; exact f.2.1, ?_⟩
    rw [xx, in_flat r1 f.1 hd f.2.1]
    exact k _ _ H f.2.2 (Same.refl _) (.bl _)
  cases y with
  | str z =>
    cases x with
    | str x => rw [RV.isStr rx, RV.isStr ry]; exact .inl ⟨x, z, rfl, rfl, k _ _ H f (Same.refl _) (.bl _)⟩
    | _ => exact f.elim
  | list ds =>
    obtain ⟨p, vs, rfl, h1, h2⟩ := RV.isLst ry
    exact seq p vs ds (.inl (.inl (.inl h1))) h2 rfl (by cases x <;> exact f)
  | tuple ds =>
    obtain ⟨p, vs, rfl, h1, h2⟩ := RV.isTup ry
    exact seq p vs ds (.inr h1) h2 rfl (by cases x <;> exact f)
  | _ => cases x <;> exact f.elim
theorem de_in (ha : DE X K a wa) (hb : DV X K b wb) (hm : behindInMarks .In b = false := by rfl) (hK : ∀ i, (X i).K = K := by intro i; rfl) : DE X K (.Compare a [.In] [b] pos) (wOp (fIn false) wa wb) :=
  de_op (fun i ta tb h1 h2 => pe_cmpR (by rw [← hK i]; exact op_orR op_inS' op_in_seq) h1 h2 hm) od_in ha hb
theorem de_notin (ha : DE X K a wa) (hb : DV X K b wb) (hm : behindInMarks .NotIn b = false := by rfl) (hK : ∀ i, (X i).K = K := by intro i; rfl) : DE X K (.Compare a [.NotIn] [b] pos) (wOp (fIn true) wa wb) :=
  de_op (fun i ta tb h1 h2 => pe_cmpR (by rw [← hK i]; exact op_orR op_notinS' op_notIn_seq) h1 h2 hm) od_in ha hb
/-! ### x[i] -/
def fIx : F2
  | .list xs, .int i, P => ∃ d, atI xs i = some d ∧ P d
  | .tuple xs, .int i, P => ∃ d, atI xs i = some d ∧ P d
  | .str z, .int i, P => z.length ≤ sizeLine ∧ ∃ c, atI z.cps.toList i = some c ∧ P (.str ⟨#[c]⟩)
  | _, _, _ => False
theorem at_dt {H : Hp} {vs : List V} {ds : List PyData} {i : Int} {d : PyData} (r : DtAll K H vs ds) (h : atI ds i = some d) : ∃ v, atI vs i = some v ∧ Dt K H v d := by
  unfold atI at h ⊢
  rw [DtAll.len r]
  cases hn : ixN ds.length i with
  | none => rw [hn] at h; cases h
  | some j =>
    rw [hn] at h
    obtain ⟨v, h1, h2⟩ := DtAll.getd r (show ds[j]? = some d from h)
    exact ⟨v, h1, h2⟩
theorem od_ix : OpD K (rIx K) fIx := by
  intro M H x y v u P Q dom rx ry f k
  cases y with
  | int i =>
    rw [RV.isInt ry]
    cases x with
    | list ds =>
      obtain ⟨p, vs, rfl, h1, h2⟩ := RV.isLst rx
      obtain ⟨d, h3, f⟩ := f
      obtain ⟨w, h4, h5⟩ := at_dt h2 h3
      exact .inl ⟨p, vs, i, w, rfl, rfl, SqL.of h1, h4, k _ _ H f (Same.refl _) h5⟩
    | tuple ds =>
      obtain ⟨p, vs, rfl, h1, h2⟩ := RV.isTup rx
      obtain ⟨d, h3, f⟩ := f
      obtain ⟨w, h4, h5⟩ := at_dt h2 h3
      exact .inr (.inl ⟨p, vs, i, w, rfl, rfl, h1, h4, k _ _ H f (Same.refl _) h5⟩)
    | str z =>
      rw [RV.isStr rx]
      obtain ⟨h1, c, h2, f⟩ := f
      exact .inr (.inr ⟨z, i, c, rfl, rfl, h1, h2, k _ _ H f (Same.refl _) (.str _)⟩)
    | _ => exact f.elim
  | _ => cases x <;> exact f.elim
theorem de_ix (ha : DE X K a wa) (hb : DE X K b wb) (hs : PlainIx b := by exact fun _ _ => rfl) (hK : ∀ i, (X i).K = K := by intro i; rfl) : DE X K (.Subscript a b pos) (wOp fIx wa wb) :=
  de_op (fun i ta tb h1 h2 => by rw [← hK i]; exact pe_ix ix_seq h1 h2 hs) od_ix ha hb.v
theorem de_ixo (j : Nat) (hb : DE X K b wb) (hs : PlainIx b := by exact fun _ _ => rfl) (h : ∀ i, PE (X i) a (tVar j) := by intro i; exact pv _) (hK : ∀ i, (X i).K = K := by intro i; rfl) : DE X K (.Subscript a b pos) (wOpO fIx j wb) :=
  de_opo j (fun i ta tb h1 h2 => by rw [← hK i]; exact pe_ix ix_seq h1 h2 hs) od_ix hb.v h
/-! ### x[lo:hi] -/
abbrev WO := Env → (Env → Option Int → Prop) → Prop
def DO (X : ι → Cx) (K : Fr) (e : Option Expr) (w : WO) : Prop := ∃ t : TO, (∀ i, PO (X i) e t) ∧ ∀ (M0 M B : List Addr) (σ : L2.St) (H : Hp) (ρ : Env) (P : Env → Option Int → Prop) (Q : Option Int → Hp → Prop), EnvOk K M0 M B H σ ρ → w ρ P →
  (∀ ρ' o H', P ρ' o → Ext M B H M B H' → EnvOk K M0 M B H' σ ρ' → Q o H') → t σ H Q
def wNo : WO := fun ρ P => P ρ none
def wSo (we : WE) : WO := fun ρ P => we ρ fun ρ1 d => ∃ i, d = .int i ∧ P ρ1 (some i)
theorem do_no : DO X K none wNo := ⟨tNoPart, fun i => po_none, fun M0 M B σ H ρ P Q E w k => k ρ none H w (Ext.refl ..) E⟩
theorem do_so (h : DE X K e we) : DO X K (some e) (wSo we) := by
  obtain ⟨t, a1, a2⟩ := h
  refine ⟨tPart t, fun i => po_some (a1 i), fun M0 M B σ H ρ P Q E w k => ?_⟩
  refine a2 M0 M B σ H ρ _ _ E w fun ρ1 d v H1 w1 x1 E1 r1 => ?_
  obtain ⟨i, rfl, p⟩ := w1
  exact ⟨i, Dt.isInt r1, k ρ1 _ H1 p x1 E1⟩
def cutD {α : Type} (xs : List α) (lo hi : Option Int) : List α := (xs.drop (HT.sIx xs.length 0 lo)).take (HT.sIx xs.length xs.length hi - HT.sIx xs.length 0 lo)
theorem DtAll.cut {H : Hp} {vs : List V} {ds : List PyData} (r : DtAll K H vs ds) (lo hi : Option Int) : DtAll K H (cutV vs lo hi) (cutD ds lo hi) := by
  unfold cutV cutD
  rw [DtAll.len r]
  exact DtAll.take _ (DtAll.drop _ r)
def fSl : PyData → Option Int → Option Int → (PyData → Prop) → Prop
  | .str z, lo, hi, P => z.length ≤ sizeLine ∧ P (.str (cutS z lo hi))
  | .list xs, lo, hi, P => P (.list (cutD xs lo hi))
  | .tuple xs, lo, hi, P => P (.tuple (cutD xs lo hi))
  | _, _, _, _ => False
def rSlAny (K : Fr) : V → Option Int → Option Int → Hp → VK → Prop := fun x lo hi H Q => rSlS x lo hi H Q ∨ rSlL K x lo hi H Q ∨ rSlA K x lo hi H Q
theorem sl_any {Y : Cx} : SlR Y (rSlAny Y.K) := sl_str.or (sl_list.or sl_tupA)
theorem sl_d {M : List Addr} {H : Hp} {x : PyData} {v : V} {lo hi : Option Int} {P : PyData → Prop} {Q : VK} (dom : ∀ a, a ∈ M → H a ≠ none) (rx : RV K M H v x) (f : fSl x lo hi P) (k : ∀ d z H', P d → Same H H' → Dt K (rm M H') z d → Q z H') : rSlAny K v lo hi H Q := by
  have up : ∀ {p : Addr} {o : HO}, H p = none → Same (rm M H) (rm M (upd H p o)) := fun np a o e => by
    obtain ⟨z1, z2⟩ := rm_to e
    exact rm_of z1 (same_new np _ _ z2)
  cases x with
  | str z => rw [RV.isStr rx]; exact .inl ⟨z, rfl, f.1, k _ _ H f.2 (Same.refl _) (.str _)⟩
  | list ds =>
    obtain ⟨p, vs, rfl, h1, h2⟩ := RV.isLst rx
    exact .inr (.inl ⟨p, vs, rfl, SqL.of h1, fun q nq => k _ _ _ f (same_new nq) (.lst (rm_of (fun c => dom q c nq) upd_same) (DtAll.up (up nq) (DtAll.cut h2 lo hi)))⟩)
  | tuple ds =>
    have r1 : Dt K (rm M H) v (.tuple ds) := by rcases rx with r | ⟨_, _, _, _, q, _⟩ <;> first | exact r | cases q
    obtain ⟨p, vs, rfl, h1, h2⟩ := RV.isTup rx
    refine .inr (.inr ⟨p, vs, rfl, h1, fun ⟨c1, c2⟩ => ?_, fun _ q nq => k _ _ _ f (same_new nq) (.tup (.inl (.inl (rm_of (fun c => dom q c nq) upd_same))) (DtAll.up (up nq) (DtAll.cut h2 lo hi)))⟩)
    refine k _ _ H f (Same.refl _) ?_
    have e : cutD ds lo hi = ds := by
      unfold cutD
      rw [← DtAll.len h2, c1, c2]
      simp [DtAll.len h2]
    rw [e]
    exact r1
  | _ => exact f.elim
def wSl (we : WE) (wl wh : WO) : WE := fun ρ P => we ρ fun ρ1 x => wl ρ1 fun ρ2 lo => wh ρ2 fun ρ3 hi => fSl x lo hi fun d => P ρ3 d
def wSlO (j : Nat) (wl wh : WO) : WE := fun ρ P => (∃ ds0, (ρ.at j).items = some ds0) ∧ wl ρ fun ρ2 lo => wh ρ2 fun ρ3 hi => ∃ ds, (ρ3.at j).items = some ds ∧ P ρ3 (.list (cutD ds lo hi))
theorem de_sl {wl wh : WO} {lo hi : Option Expr} {p2 : Pos} (ha : DE X K a wa) (hl : DO X K lo wl) (hh : DO X K hi wh) (hK : ∀ i, (X i).K = K := by intro i; rfl) : DE X K (.Subscript a (.Slice lo hi none p2) pos) (wSl wa wl wh) := by
  obtain ⟨t, a1, a2⟩ := ha
  obtain ⟨tl, l1, l2⟩ := hl
  obtain ⟨th, h1, h2⟩ := hh
  refine ⟨tSl (rSlAny K) t tl th, fun i => by rw [← hK i]; exact pe_slice sl_any (a1 i) (l1 i) (h1 i), fun M0 M B σ H ρ P Q E w k => ?_⟩
  refine a2 M0 M B σ H ρ _ _ E w fun ρ1 d v H1 w1 x1 E1 r1 => ?_
  refine l2 M0 M B σ H1 ρ1 _ _ E1 w1 fun ρ2 lo H2 w2 x2 E2 => ?_
  refine h2 M0 M B σ H2 ρ2 _ _ E2 w2 fun ρ3 hi H3 w3 x3 E3 => ?_
  refine sl_d E3.dom (.inl (E1.up (x2.trans x3) r1)) w3 fun d z H4 p e4 r4 => ?_
  exact k ρ3 d z H4 p ((x1.trans (x2.trans x3)).trans (Ext.same e4)) (E3.same e4) r4
theorem de_slo (j : Nat) {wl wh : WO} {lo hi : Option Expr} {p2 : Pos} (hl : DO X K lo wl) (hh : DO X K hi wh) (h : ∀ i, PE (X i) a (tVar j) := by intro i; exact pv _) (hK : ∀ i, (X i).K = K := by intro i; rfl) : DE X K (.Subscript a (.Slice lo hi none p2) pos) (wSlO j wl wh) := by
  obtain ⟨tl, l1, l2⟩ := hl
  obtain ⟨th, h1, h2⟩ := hh
  refine ⟨tSl (rSlAny K) (tVar j) tl th, fun i => by rw [← hK i]; exact pe_slice sl_any (h i) (l1 i) (h1 i), fun M0 M B σ H ρ P Q E w k => ?_⟩
  obtain ⟨⟨ds0, h0⟩, w⟩ := w
  obtain ⟨l0, xs0, _, _, hl0, _⟩ := E.lst h0
  refine ⟨_, hl0, ?_⟩
  refine l2 M0 M B σ H ρ _ _ E w fun ρ2 lo H2 w2 x2 E2 => ?_
  refine h2 M0 M B σ H2 ρ2 _ _ E2 w2 fun ρ3 hi H3 w3 x3 E3 => ?_
  obtain ⟨ds, h1, w4⟩ := w3
  obtain ⟨l, xs, _, _, hl, _, h4, h5, _⟩ := E3.lst h1
  rw [hl0] at hl
  injection hl with hl; injection hl with hl; injection hl with hl
  subst hl
  refine sl_d (x := .list ds) (P := fun d => P ρ3 d) E3.dom (.inr ⟨l0, xs, ds, rfl, rfl, h4, h5⟩) w4 fun d z H4 p e4 r4 => ?_
  exact k ρ3 d z H4 p ((x2.trans x3).trans (Ext.same e4)) (E3.same e4) r4
end Pm
namespace Pm
open PySem PySem.Spec PyProof.Rows L2
variable {ι : Type} {X : ι → Cx} {K : Fr} {a b e : Expr} {es : List Expr} {wa wb we : WE} {pos : Pos}
/-! ### built-ins of one argument -/
abbrev F1 := PyData → (PyData → Prop) → Prop
def CallD (K : Fr) (r : List V → Hp → VK → Prop) (f : F1) : Prop := ∀ (M : List Addr) (H : Hp) (x : PyData) (v : V) (P : PyData → Prop) (Q : VK), (∀ a, a ∈ M → H a ≠ none) → RV K M H v x → f x P →
  (∀ d z H', P d → Same H H' → Dt K (rm M H') z d → Q z H') → r [v] H Q
def wU (f : F1) (we : WE) : WE := fun ρ P => we ρ fun ρ1 d => f d fun z => P ρ1 z
theorem de_u {c : Expr} {r : List V → Hp → VK → Prop} {f : F1} (hp : ∀ i t, PE (X i) e t → PE (X i) c (tCB r (tCons t tNil))) (cd : CallD K r f) (h : DV X K e we) : DE X K c (wU f we) := by
  obtain ⟨t, a1, a2⟩ := h
  refine ⟨tCB r (tCons t tNil), fun i => hp i t (a1 i), fun M0 M B σ H ρ P Q E w k => ?_⟩
  refine a2 M0 M B σ H ρ _ _ E w fun ρ1 d v H1 w1 x1 E1 r1 => ?_
  exact cd M H1 d v _ Q E1.dom r1 w1 fun d z H2 p e2 r2 => k ρ1 d z H2 p (x1.trans (Ext.same e2)) (E1.same e2) r2
theorem up_new {M : List Addr} {H : Hp} {p : Addr} {o : HO} (np : H p = none) : Same (rm M H) (rm M (upd H p o)) := fun a o e => by
  obtain ⟨z1, z2⟩ := rm_to e
  exact rm_of z1 (same_new np _ _ z2)
def fLen : F1
  | .str x, P => x.length ≤ sizeLine ∧ P (.int x.length)
  | .list xs, P => P (.int xs.length)
  | .tuple xs, P => P (.int xs.length)
  | _, _ => False
theorem cd_len : CallD K (fun xs H Q => ∃ x n, xs = [x] ∧ LenV K x H n ∧ Q (.int n) H) fLen := by
  intro M H x v P Q dom r f k
  cases x with
  | str z => rw [RV.isStr r]; exact ⟨_, _, rfl, ⟨f.1, rfl⟩, k _ _ H f.2 (Same.refl _) (.int _)⟩
  | list ds =>
    obtain ⟨p, vs, rfl, h1, h2⟩ := RV.isLst r
    exact ⟨_, _, rfl, .inl ⟨vs, SqL.of h1, rfl⟩, by rw [DtAll.len h2]; exact k _ _ H f (Same.refl _) (.int _)⟩
  | tuple ds =>
    obtain ⟨p, vs, rfl, h1, h2⟩ := RV.isTup r
    exact ⟨_, _, rfl, .inr ⟨vs, h1, rfl⟩, by rw [DtAll.len h2]; exact k _ _ H f (Same.refl _) (.int _)⟩
  | _ => exact f.elim
theorem de_len {p : Pos} (hm : ∀ i, (X i).mg "len" = none) (h : DV X K e we) (hK : ∀ i, (X i).K = K := by intro i; rfl) (hg : ∀ i, Gl (X i) "len" := by intro i; rfl)
    (he : ∀ i, starEach (e :: []) (X i).env = (false, eval e (X i).env) :: starEach [] (X i).env := by intro i; rfl) : DE X K (.Call (.Name "len" p) [e] [] pos) (wU fLen we) :=
  de_u (fun i t h => by rw [← hK i]; exact pe_callB call_len (hg i) (hm i) PySem.boot_len (pa_cons h pa_nil (he i)) (by decide) (by decide) (he i) rfl) cd_len h
def fInt : F1
  | .int i, P => P (.int i)
  | .bool b, P => P (.int (if b then 1 else 0))
  | _, _ => False
theorem cd_int : CallD K (fun xs H Q => (∃ i, xs = [.int i] ∧ Q (.int i) H) ∨ ∃ k, xs = [.bl k] ∧ Q (.int (if k then 1 else 0)) H) fInt := by
  intro M H x v P Q dom r f k
  cases x with
  | int i => rw [RV.isInt r]; exact .inl ⟨i, rfl, k _ _ H f (Same.refl _) (.int _)⟩
  | bool i => rw [RV.isBl r]; exact .inr ⟨i, rfl, k _ _ H f (Same.refl _) (.int _)⟩
  | _ => exact f.elim
theorem de_toInt {p : Pos} (hm : ∀ i, (X i).mg "int" = none) (h : DE X K e we) (hg : ∀ i, Gl (X i) "int" := by intro i; rfl)
    (he : ∀ i, starEach (e :: []) (X i).env = (false, eval e (X i).env) :: starEach [] (X i).env := by intro i; rfl) : DE X K (.Call (.Name "int" p) [e] [] pos) (wU fInt we) :=
  de_u (fun i t h => pe_callTy call_int1 (hg i) (hm i) (by decide +kernel) (pa_cons h pa_nil (he i)) (by decide) (by decide) (he i) rfl) cd_int h.v
def fTuple : F1
  | .list xs, P => P (.tuple xs)
  | .tuple xs, P => P (.tuple xs)
  | _, _ => False
theorem cd_tuple : CallD K (fun xs H Q => ∃ p ys, xs = [.ref p] ∧ ((SqL K H p ys ∧ ∀ l, H l = none → Q (.ref l) (upd H l (.tup ys))) ∨ (SqT K H p ys ∧ Q (.ref p) H))) fTuple := by
  intro M H x v P Q dom r f k
  cases x with
  | list ds =>
    obtain ⟨p, vs, rfl, h1, h2⟩ := RV.isLst r
    exact ⟨p, vs, rfl, .inl ⟨SqL.of h1, fun l nl => k _ _ _ f (same_new nl) (.tup (.inl (.inl (rm_of (fun c => dom l c nl) upd_same))) (DtAll.up (up_new nl) h2))⟩⟩
  | tuple ds =>
    have r1 : Dt K (rm M H) v (.tuple ds) := by rcases r with r | ⟨_, _, _, _, q, _⟩ <;> first | exact r | cases q
    obtain ⟨p, vs, rfl, h1, h2⟩ := RV.isTup r
    exact ⟨p, vs, rfl, .inr ⟨h1, k _ _ H f (Same.refl _) r1⟩⟩
  | _ => exact f.elim
theorem de_tuple {p : Pos} (hm : ∀ i, (X i).mg "tuple" = none) (h : DV X K e we) (hK : ∀ i, (X i).K = K := by intro i; rfl) (hg : ∀ i, Gl (X i) "tuple" := by intro i; rfl)
    (he : ∀ i, starEach (e :: []) (X i).env = (false, eval e (X i).env) :: starEach [] (X i).env := by intro i; rfl) : DE X K (.Call (.Name "tuple" p) [e] [] pos) (wU fTuple we) :=
  de_u (fun i t h => by rw [← hK i]; exact pe_callTy call_tuple_of (hg i) (hm i) (by decide +kernel) (pa_cons h pa_nil (he i)) (by decide) (by decide) (he i) rfl) cd_tuple h
def fList : F1
  | .list xs, P => P (.list xs)
  | .tuple xs, P => P (.list xs)
  | _, _ => False
theorem cd_list : CallD K (fun xs H Q => ∃ p ys, xs = [.ref p] ∧ (SqL K H p ys ∨ SqT K H p ys) ∧ ∀ l, H l = none → Q (.ref l) (upd H l (.lst ys))) fList := by
  intro M H x v P Q dom r f k
  cases x with
  | list ds =>
    obtain ⟨p, vs, rfl, h1, h2⟩ := RV.isLst r
    exact ⟨p, vs, rfl, .inl (SqL.of h1), fun l nl => k _ _ _ f (same_new nl) (.lst (rm_of (fun c => dom l c nl) upd_same) (DtAll.up (up_new nl) h2))⟩
  | tuple ds =>
    obtain ⟨p, vs, rfl, h1, h2⟩ := RV.isTup r
    exact ⟨p, vs, rfl, .inr h1, fun l nl => k _ _ _ f (same_new nl) (.lst (rm_of (fun c => dom l c nl) upd_same) (DtAll.up (up_new nl) h2))⟩
  | _ => exact f.elim
theorem de_list {p : Pos} (hm : ∀ i, (X i).mg "list" = none) (h : DV X K e we) (hK : ∀ i, (X i).K = K := by intro i; rfl) (hg : ∀ i, Gl (X i) "list" := by intro i; rfl)
    (he : ∀ i, starEach (e :: []) (X i).env = (false, eval e (X i).env) :: starEach [] (X i).env := by intro i; rfl) : DE X K (.Call (.Name "list" p) [e] [] pos) (wU fList we) :=
  de_u (fun i t h => by rw [← hK i]; exact pe_callTy call_list_of (hg i) (hm i) (by decide +kernel) (pa_cons h pa_nil (he i)) (by decide) (by decide) (he i) rfl) cd_list h
/-- any, all of a list of truth values -/
def fBools (g : List Bool → Bool) : F1 := fun d P => ∃ bs : List Bool, d = .list (bs.map .bool) ∧ P (.bool (g bs))
theorem dt_bools {H : Hp} : ∀ {vs : List V} {bs : List Bool}, DtAll K H vs (bs.map .bool) → vs = bs.map V.bl
  | _, [], .nil => rfl
  | _, b :: bs, .cons h r => by rw [List.map_cons, Dt.isBl h, dt_bools r]
theorem cd_any : CallD K (rAny K) (fBools fun bs => bs.any id) := by
  intro M H x v P Q dom r f k
  obtain ⟨bs, rfl, f⟩ := f
  obtain ⟨p, vs, rfl, h1, h2⟩ := RV.isLst r
  exact ⟨p, bs, rfl, SqL.of (by rw [← dt_bools h2]; exact h1), k _ _ H f (Same.refl _) (.bl _)⟩
theorem cd_all : CallD K (rAll K) (fBools fun bs => bs.all id) := by
  intro M H x v P Q dom r f k
  obtain ⟨bs, rfl, f⟩ := f
  obtain ⟨p, vs, rfl, h1, h2⟩ := RV.isLst r
  exact ⟨p, bs, rfl, SqL.of (by rw [← dt_bools h2]; exact h1), k _ _ H f (Same.refl _) (.bl _)⟩
theorem de_any {p : Pos} (hm : ∀ i, (X i).mg "any" = none) (h : DV X K e we) (hK : ∀ i, (X i).K = K := by intro i; rfl) (hg : ∀ i, Gl (X i) "any" := by intro i; rfl) (hc : ∀ i, (X i).calm = true := by intro i; rfl)
    (he : ∀ i, starEach (e :: []) (X i).env = (false, eval e (X i).env) :: starEach [] (X i).env := by intro i; rfl) : DE X K (.Call (.Name "any" p) [e] [] pos) (wU (fBools fun bs => bs.any id) we) :=
  de_u (fun i t h => by rw [← hK i]; exact pe_callB (cr_any (hc i)) (hg i) (hm i) (by decide +kernel) (pa_cons h pa_nil (he i)) (by decide) (by decide) (he i) rfl) cd_any h
theorem de_all {p : Pos} (hm : ∀ i, (X i).mg "all" = none) (h : DV X K e we) (hK : ∀ i, (X i).K = K := by intro i; rfl) (hg : ∀ i, Gl (X i) "all" := by intro i; rfl) (hc : ∀ i, (X i).calm = true := by intro i; rfl)
    (he : ∀ i, starEach (e :: []) (X i).env = (false, eval e (X i).env) :: starEach [] (X i).env := by intro i; rfl) : DE X K (.Call (.Name "all" p) [e] [] pos) (wU (fBools fun bs => bs.all id) we) :=
  de_u (fun i t h => by rw [← hK i]; exact pe_callB (cr_all (hc i)) (hg i) (hm i) (by decide +kernel) (pa_cons h pa_nil (he i)) (by decide) (by decide) (he i) rfl) cd_all h
/-! ### methods of texts -/
abbrev FM := Str → List PyData → (PyData → Prop) → Prop
def MtD (K : Fr) (r : V → List V → Hp → VK → Prop) (f : FM) : Prop := ∀ (M : List Addr) (H : Hp) (x : Str) (ds : List PyData) (vs : List V) (P : PyData → Prop) (Q : VK), (∀ a, a ∈ M → H a ≠ none) → DtAll K (rm M H) vs ds → f x ds P →
  (∀ d z H', P d → Same H H' → Dt K (rm M H') z d → Q z H') → r (.str x) vs H Q
def wM (f : FM) (wo : WE) (wa : WA) : WE := fun ρ P => wo ρ fun ρ1 x => ∃ s, x = .str s ∧ wa ρ1 fun ρ2 ds => f s ds fun d => P ρ2 d
theorem de_m {c : Expr} {r : V → List V → Hp → VK → Prop} {f : FM} {wo : WE} {wa : WA} (hp : ∀ i t u, PE (X i) a t → PA (X i) es u → PE (X i) c (tBM K "str" r t u)) (md : MtD K r f) (h : DE X K a wo) (ha : DA X K es wa) : DE X K c (wM f wo wa) := by
  obtain ⟨t, a1, a2⟩ := h
  obtain ⟨u, b1, b2⟩ := ha
  refine ⟨_, fun i => hp i t u (a1 i) (b1 i), fun M0 M B σ H ρ P Q E w k => ?_⟩
  refine a2 M0 M B σ H ρ _ _ E w fun ρ1 d v H1 w1 x1 E1 r1 => ?_
  obtain ⟨s, rfl, w1⟩ := w1
  rw [Dt.isStr r1]
  refine ⟨rfl, b2 M0 M B σ H1 ρ1 _ _ E1 w1 fun ρ2 ds vs H2 w2 x2 E2 r2 => ?_⟩
  exact md M H2 s ds vs _ Q E2.dom r2 w2 fun d z H3 p e3 r3 => k ρ2 d z H3 p ((x1.trans x2).trans (Ext.same e3)) (E2.same e3) r3
/-- sep.join(x), x a list or a tuple of texts -/
def fJoin (s : Str) : F1 := fun d P => ∃ ys : List Str, (d = .list (ys.map .str) ∨ d = .tuple (ys.map .str)) ∧ (ys.map (·.length)).sum + ys.length * s.length ≤ 16777216 ∧ P (.str (Txt.join s ys))
theorem dt_strs {H : Hp} : ∀ {vs : List V} {bs : List Str}, DtAll K H vs (bs.map .str) → vs = bs.map V.str
  | _, [], .nil => rfl
  | _, b :: bs, .cons h r => by rw [List.map_cons, Dt.isStr h, dt_strs r]
def wJoin (wo we : WE) : WE := fun ρ P => wo ρ fun ρ1 x => ∃ s, x = .str s ∧ we ρ1 fun ρ2 d => fJoin s d fun z => P ρ2 z
theorem de_join {wo : WE} {apos cpos : Pos} (h : DE X K a wo) (ha : DV X K e we) (hK : ∀ i, (X i).K = K := by intro i; rfl) (he : ∀ i, starEach (e :: []) (X i).env = (false, eval e (X i).env) :: starEach [] (X i).env := by intro i; rfl)
    (hp : ∀ i t u, PE (X i) a t → PA (X i) [e] u → PE (X i) (.Call (.Attribute a "join" apos) [e] [] cpos) (tBM (X i).K "str" (fun x xs H Q => ∃ a p, ∃ ys : List Str, x = .str a ∧ xs = [.ref p] ∧ (SqL (X i).K H p (ys.map V.str) ∨ SqT (X i).K H p (ys.map V.str)) ∧ (ys.map (·.length)).sum + ys.length * a.length ≤ 16777216 ∧ Q (.str (Txt.join a ys)) H) t u) := by intro i t u h1 h2; exact pe_bm PySem.F.plainAttrs_str PySem.F.slot_str_join PySem.F.type_str_join mt_join h1 h2) :
    DE X K (.Call (.Attribute a "join" apos) [e] [] cpos) (wJoin wo we) := by
  obtain ⟨t, a1, a2⟩ := h
  obtain ⟨u, b1, b2⟩ := ha
  refine ⟨tBM K "str" (fun x xs H Q => ∃ a p, ∃ ys : List Str, x = .str a ∧ xs = [.ref p] ∧ (SqL K H p (ys.map V.str) ∨ SqT K H p (ys.map V.str)) ∧ (ys.map (·.length)).sum + ys.length * a.length ≤ 16777216 ∧ Q (.str (Txt.join a ys)) H) t (tCons u tNil), fun i => by rw [← hK i]; exact hp i t _ (a1 i) (pa_cons (b1 i) pa_nil (he i)), fun M0 M B σ H ρ P Q E w k => ?_⟩
  refine a2 M0 M B σ H ρ _ _ E w fun ρ1 d v H1 w1 x1 E1 r1 => ?_
  obtain ⟨s, rfl, w1⟩ := w1
  rw [Dt.isStr r1]
  refine ⟨rfl, b2 M0 M B σ H1 ρ1 _ _ E1 w1 fun ρ2 d v H2 w2 x2 E2 r2 => ?_⟩
  obtain ⟨ys, hd, hz, w2⟩ := w2
  rcases hd with rfl | rfl
  · obtain ⟨p, vs, rfl, h1, h2⟩ := RV.isLst r2
    exact ⟨s, p, ys, rfl, rfl, .inl (SqL.of (by rw [← dt_strs h2]; exact h1)), hz, k ρ2 _ _ H2 w2 (x1.trans x2) E2 (.str _)⟩
  · obtain ⟨p, vs, rfl, h1, h2⟩ := RV.isTup r2
    exact ⟨s, p, ys, rfl, rfl, .inr (by rw [← dt_strs h2]; exact h1), hz, k ρ2 _ _ H2 w2 (x1.trans x2) E2 (.str _)⟩
/-- x.split(sep) -/
def fSplit : FM
  | x, [.str y], P => (y.length == 0) = false ∧ x.length + 2 ≤ sizeLine ∧ P (.list ((Txt.split x y).map .str))
  | _, _, _ => False
theorem dt_ofstrs {H : Hp} : ∀ {bs : List Str}, DtAll K H (bs.map V.str) (bs.map .str)
  | [] => .nil
  | b :: bs => .cons (.str b) dt_ofstrs
theorem md_split : MtD K (fun x xs H Q => ∃ a b, x = .str a ∧ xs = [.str b] ∧ (b.length == 0) = false ∧ a.length + 2 ≤ sizeLine ∧ rNewStrs (Txt.split a b) H Q) fSplit := by
  intro M H x ds vs P Q dom r f k
  match ds, f with
  | [.str y], f =>
    cases r with
    | cons r1 r2 =>
      cases r2
      rw [Dt.isStr r1]
      exact ⟨x, y, rfl, rfl, f.1, f.2.1, fun p np => k _ _ _ f.2.2 (same_new np) (.lst (rm_of (fun c => dom p c np) upd_same) dt_ofstrs)⟩
theorem de_split {wo : WE} {wa : WA} {apos cpos : Pos} (h : DE X K a wo) (ha : DA X K [e] wa) (hK : ∀ i, (X i).K = K := by intro i; rfl)
    (hp : ∀ i t u, PE (X i) a t → PA (X i) [e] u → PE (X i) (.Call (.Attribute a "split" apos) [e] [] cpos) (tBM (X i).K "str" (fun x xs H Q => ∃ a b, x = .str a ∧ xs = [.str b] ∧ (b.length == 0) = false ∧ a.length + 2 ≤ sizeLine ∧ rNewStrs (Txt.split a b) H Q) t u) := by intro i t u h1 h2; exact pe_bm PySem.F.plainAttrs_str PySem.F.slot_str_split PySem.F.type_str_split mt_split h1 h2) :
    DE X K (.Call (.Attribute a "split" apos) [e] [] cpos) (wM fSplit wo wa) :=
  de_m (fun i t u h1 h2 => by rw [← hK i]; exact hp i t u h1 h2) md_split h ha
end Pm
namespace Pm
open PySem PySem.Spec PyProof.Rows L2
variable {ι : Type} {X : ι → Cx} {K : Fr} {a b e tg : Expr} {es : List Expr} {wa wb we : WE} {pos : Pos}
/-! ### what is walked -/
abbrev WI := Env → (Env → List PyData → Prop) → Prop
def IterOk (K : Fr) (M : List Addr) (H1 : Hp) (J : It) (items : List PyData) : Prop := ∀ (M' : List Addr) (H' : Hp), Same (rm M H1) (rm M' H') → (∀ a, a ∈ M' → H' a ≠ none) →
  (∀ (i : Nat) (d : PyData), items[i]? = some d → J.go i H' ∧ ∀ x H'', J.yld i H' x H'' → Same H' H'' ∧ Dt K (rm M' H'') x d) ∧ J.stop items.length H'
def DI (X : ι → Cx) (K : Fr) (tg iter : Expr) (w : WI) : Prop := ∃ t : TI, (∀ i, PI (X i) tg iter t) ∧ ∀ (M0 M B : List Addr) (σ : L2.St) (H : Hp) (ρ : Env) (P : Env → List PyData → Prop) (R : It → Hp → Prop), EnvOk K M0 M B H σ ρ → w ρ P →
  (∀ ρ' items J H', P ρ' items → Ext M B H M B H' → EnvOk K M0 M B H' σ ρ' → IterOk K M H' J items → R J H') → t σ H R
theorem pi_or {Y : Cx} {iter : Expr} {w1 w2 : TI} (h1 : PI Y tg iter w1) (h2 : PI Y tg iter w2) : PI Y tg iter (fun σ H R => w1 σ H R ∨ w2 σ H R) := by
  refine ⟨fun pins s σ H R I h => ?_⟩
  rcases h with h | h
  · exact h1.run pins s σ H R I h
  · exact h2.run pins s σ H R I h
def signsD (z : Str) : List PyData := z.cps.toList.map fun c => .str ⟨#[c]⟩
def fSeq (d : PyData) (P : List PyData → Prop) : Prop := match d with
  | .list ds => P ds
  | .tuple ds => P ds
  | .str z => P (signsD z)
  | _ => False
def wSeqI (we : WE) : WI := fun ρ P => we ρ fun ρ1 d => fSeq d fun ds => P ρ1 ds
def iAny (K : Fr) (tl : TE) : TI := fun σ H R => tl σ H fun x H1 => (∃ a, x = .ref a ∧ (∃ xs, SqL K H1 a xs) ∧ R (Itl K a) H1) ∨ (∃ a, x = .ref a ∧ (∃ xs, SqT K H1 a xs) ∧ R (Itt K a) H1) ∨ ∃ x', x = .str x' ∧ R (Its x') H1
theorem pi_any {Y : Cx} {l : Expr} {tl : TE} (hl : PE Y l tl) : PI Y tg l (iAny Y.K tl) := by
  refine ⟨fun pins s σ H R I h => ?_⟩
  refine thn (hl.run pins s σ H _ I h) fun v s1 ⟨x, H1, I1, r1, q1⟩ => ?_
  rcases q1 with ⟨a, e, ⟨xs, hq⟩, q⟩ | ⟨a, e, ⟨xs, hq⟩, q⟩ | ⟨x', e, q⟩
  · subst e
    cases r1
    obtain ⟨its, rv, p, hz⟩ := I1.list hq
    refine wpAny_pyIter_list p.isList ?_
    refine ⟨s1.heap.objs.size, [s1.heap.objs.size], _, _, H1, rfl, I1.kept (t' := s1.toks) fun b o e => Heap.get?_push_of_some _ e, turn_list a _, ⟨_, Heap.get?_push_size _ rfl, rfl, rfl⟩, fun b hb => ?_, q⟩
    have e : b = s1.heap.objs.size := by simpa using hb
    subst e
    exact I1.fpOk (Nat.le_refl _) (I1.hok.fresh (Nat.le_refl _))
  · subst e
    cases r1
    obtain ⟨its, rv, p, hz⟩ := I1.tuple hq
    refine wpAny_pyIter_tuple (show s1.heap.IsTuple a its.toArray from p) ?_
    refine ⟨s1.heap.objs.size, [s1.heap.objs.size], _, _, H1, rfl, I1.kept (t' := s1.toks) fun b o e => Heap.get?_push_of_some _ e, turn_tuple a _, ⟨_, Heap.get?_push_size _ rfl, rfl, rfl⟩, fun b hb => ?_, q⟩
    have e : b = s1.heap.objs.size := by simpa using hb
    subst e
    exact I1.fpOk (Nat.le_refl _) (I1.hok.fresh (Nat.le_refl _))
  · subst e
    obtain ⟨t, rfl⟩ := r1
    cases ha : x'.cps.all (· < 128)
    · exact wpAny_pyIter_wide ha (pi_one (tk := s1.toks) I1 _ (turn_str _ x' t "str_iterator" (.inr rfl)) ⟨_, Heap.get?_push_size _ rfl, rfl, rfl⟩ q)
    · exact wpAny_pyIter_ascii ha (pi_one (tk := s1.toks) I1 _ (turn_str _ x' t "str_ascii_iterator" (.inl rfl)) ⟨_, Heap.get?_push_size _ rfl, rfl, rfl⟩ q)
theorem it_list {M : List Addr} {H : Hp} {a : Addr} {xs : List V} {ds : List PyData} (h : rm M H a = some (.lst xs)) (r : DtAll K (rm M H) xs ds) : IterOk K M H (Itl K a) ds := fun M' H' s dom => by
  have h' : H' a = some (.lst xs) := (rm_to (s _ _ h)).2
  refine ⟨fun i d hd => ?_, ⟨xs, SqL.of h', by rw [DtAll.len r]; exact Nat.le_refl _⟩⟩
  obtain ⟨v, hv, rv⟩ := DtAll.getd r hd
  refine ⟨⟨xs, v, SqL.of h', hv⟩, fun x H'' y => ?_⟩
  obtain ⟨rfl, hy⟩ := y
  have e := hy xs (SqL.of h')
  rw [hv] at e
  cases e
  exact ⟨Same.refl _, Dt.up s rv⟩
theorem it_tup {M : List Addr} {H : Hp} {a : Addr} {xs : List V} {ds : List PyData} (h : SqT K (rm M H) a xs) (r : DtAll K (rm M H) xs ds) : IterOk K M H (Itt K a) ds := fun M' H' s dom => by
  have h' : SqT K H' a xs := same_t rm_le (same_t s h)
  refine ⟨fun i d hd => ?_, ⟨xs, h', by rw [DtAll.len r]; exact Nat.le_refl _⟩⟩
  obtain ⟨v, hv, rv⟩ := DtAll.getd r hd
  refine ⟨⟨xs, v, h', hv⟩, fun x H'' y => ?_⟩
  obtain ⟨rfl, hy⟩ := y
  have e := hy xs h'
  rw [hv] at e
  cases e
  exact ⟨Same.refl _, Dt.up s rv⟩
theorem signs_get {z : Str} {i : Nat} {d : PyData} (h : (signsD z)[i]? = some d) : ∃ c, z.cps[i]? = some c ∧ d = .str ⟨#[c]⟩ := by
  unfold signsD at h
  rw [List.getElem?_map] at h
  cases e : z.cps.toList[i]? with
  | none => rw [e] at h; cases h
  | some c =>
    rw [e] at h
    exact ⟨c, by simpa using e, (Option.some.inj h).symm⟩
theorem signs_len {z : Str} : (signsD z).length = z.cps.size := by simp [signsD]
theorem it_str {M : List Addr} {H : Hp} {z : Str} : IterOk K M H (Its z) (signsD z) := fun M' H' s dom => by
  refine ⟨fun i d hd => ?_, by rw [signs_len]; exact Nat.le_refl _⟩
  obtain ⟨c, hc, rfl⟩ := signs_get hd
  refine ⟨(Array.getElem?_eq_some_iff.mp hc).1, fun x H'' y => ?_⟩
  obtain ⟨rfl, c', hc', rfl⟩ := y
  rw [hc] at hc'
  cases hc'
  exact ⟨Same.refl _, .str _⟩
theorem di_seq (h : DE X K e we) (hK : ∀ i, (X i).K = K := by intro i; rfl) : DI X K tg e (wSeqI we) := by
  obtain ⟨t, a1, a2⟩ := h
  refine ⟨iAny K t, fun i => by rw [← hK i]; exact pi_any (a1 i), fun M0 M B σ H ρ P R E w k => ?_⟩
  refine a2 M0 M B σ H ρ _ _ E w fun ρ1 d v H1 w1 x1 E1 r1 => ?_
  cases d with
  | list ds =>
    obtain ⟨p, vs, rfl, h1, h2⟩ := Dt.isLst r1
    exact .inl ⟨p, rfl, ⟨vs, SqL.of (rm_le _ _ h1)⟩, k ρ1 ds _ H1 w1 x1 E1 (it_list h1 h2)⟩
  | tuple ds =>
    obtain ⟨p, vs, rfl, h1, h2⟩ := Dt.isTup r1
    exact .inr (.inl ⟨p, rfl, ⟨vs, same_t rm_le h1⟩, k ρ1 ds _ H1 w1 x1 E1 (it_tup h1 h2)⟩)
  | str z =>
    rw [Dt.isStr r1]
    exact .inr (.inr ⟨z, rfl, k ρ1 _ _ H1 w1 x1 E1 it_str⟩)
  | _ => exact w1.elim
/-! ### ranges -/
def rangeD (lo : Int) (n : Nat) : List PyData := (List.range n).map fun (k : Nat) => .int (lo + (k : Int))
theorem rangeD_get {lo : Int} {n i : Nat} {d : PyData} (h : (rangeD lo n)[i]? = some d) : i < n ∧ d = .int (lo + (i : Int)) := by
  unfold rangeD at h
  rw [List.getElem?_map] at h
  by_cases c : i < n
  · rw [List.getElem?_range c] at h
    exact ⟨c, (Option.some.inj h).symm⟩
  · rw [List.getElem?_eq_none (by simpa using Nat.le_of_not_lt c)] at h
    cases h
theorem rangeD_len {lo : Int} {n : Nat} : (rangeD lo n).length = n := by simp [rangeD]
theorem it_range {M : List Addr} {H : Hp} {lo : Int} {n : Nat} : IterOk K M H (Itr lo n) (rangeD lo n) := fun M' H' s dom => by
  refine ⟨fun i d hd => ?_, by rw [rangeD_len]; exact Nat.le_refl _⟩
  obtain ⟨h1, rfl⟩ := rangeD_get hd
  refine ⟨h1, fun x H'' y => ?_⟩
  obtain ⟨rfl, rfl⟩ := y
  exact ⟨Same.refl _, .int _⟩
def wRange1 (wa : WA) : WI := fun ρ P => wa ρ fun ρ1 ds => ∃ j : Int, ds = [.int j] ∧ -(2 ^ 62) ≤ j ∧ j < 2 ^ 62 ∧ P ρ1 (rangeD 0 j.toNat)
def wRange2 (wa : WA) : WI := fun ρ P => wa ρ fun ρ1 ds => ∃ i j : Int, ds = [.int i, .int j] ∧ (-(2 ^ 62) ≤ i ∧ i < 2 ^ 62 ∧ -(2 ^ 62) ≤ j ∧ j < 2 ^ 62) ∧ P ρ1 (rangeD i (j - i).toNat)
theorem di_range1 {w : WA} {p : Pos} (hm : ∀ i, (X i).mg "range" = none) (h : DA X K [a] w) (hg : ∀ i, Gl (X i) "range" := by intro i; rfl) (hs : ∀ i, starEach [a] (X i).env = [(false, eval a (X i).env)] := by intro i; rfl) : DI X K tg (.Call (.Name "range" p) [a] [] pos) (wRange1 w) := by
  obtain ⟨t, a1, a2⟩ := h
  refine ⟨iRng1 t, fun i => pi_range1 (hg i) (hm i) (a1 i) (hs i), fun M0 M B σ H ρ P R E w k => ?_⟩
  refine a2 M0 M B σ H ρ _ _ E w fun ρ1 ds vs H1 w1 x1 E1 r1 => ?_
  obtain ⟨j, rfl, h1, h2, w1⟩ := w1
  cases r1 with
  | cons q1 q2 =>
    cases q2
    rw [Dt.isInt q1]
    exact ⟨j, rfl, h1, h2, k ρ1 _ _ H1 w1 x1 E1 it_range⟩
theorem di_range2 {w : WA} {p : Pos} (hm : ∀ i, (X i).mg "range" = none) (h : DA X K [a, b] w) (hg : ∀ i, Gl (X i) "range" := by intro i; rfl) (hs : ∀ i, starEach [a, b] (X i).env = [(false, eval a (X i).env), (false, eval b (X i).env)] := by intro i; rfl) (hs2 : ∀ i, starEach [b] (X i).env = [(false, eval b (X i).env)] := by intro i; rfl) : DI X K tg (.Call (.Name "range" p) [a, b] [] pos) (wRange2 w) := by
  obtain ⟨t, a1, a2⟩ := h
  refine ⟨iRng2 t, fun i => pi_range2 (hg i) (hm i) (a1 i) (hs i) (hs2 i), fun M0 M B σ H ρ P R E w k => ?_⟩
  refine a2 M0 M B σ H ρ _ _ E w fun ρ1 ds vs H1 w1 x1 E1 r1 => ?_
  obtain ⟨i, j, rfl, hb, w1⟩ := w1
  cases r1 with
  | cons q1 q2 =>
    cases q2 with
    | cons q2 q3 =>
      cases q3
      rw [Dt.isInt q1, Dt.isInt q2]
      exact ⟨i, j, rfl, hb, k ρ1 _ _ H1 w1 x1 E1 it_range⟩
/-- i, i - 1, .. down to j + 1 -/
def downD (i : Int) (n : Nat) : List PyData := (List.range n).map fun (k : Nat) => .int (i + (k : Int) * (-1))
theorem downD_get {lo : Int} {n i : Nat} {d : PyData} (h : (downD lo n)[i]? = some d) : i < n ∧ d = .int (lo + (i : Int) * (-1)) := by
  unfold downD at h
  rw [List.getElem?_map] at h
  by_cases c : i < n
  · rw [List.getElem?_range c] at h
    exact ⟨c, (Option.some.inj h).symm⟩
  · rw [List.getElem?_eq_none (by simpa using Nat.le_of_not_lt c)] at h
    cases h
theorem downD_len {lo : Int} {n : Nat} : (downD lo n).length = n := by simp [downD]
theorem it_down {M : List Addr} {H : Hp} {lo : Int} {n : Nat} : IterOk K M H (Itc lo (-1) n) (downD lo n) := fun M' H' s dom => by
  refine ⟨fun i d hd => ?_, by rw [downD_len]; exact Nat.le_refl _⟩
  obtain ⟨h1, rfl⟩ := downD_get hd
  refine ⟨h1, fun x H'' y => ?_⟩
  obtain ⟨rfl, rfl⟩ := y
  exact ⟨Same.refl _, .int _⟩
def wDown (wa : WA) : WI := fun ρ P => wa ρ fun ρ1 ds => ∃ i j : Int, ds = [.int i, .int j, .int (-1)] ∧ (-(2 ^ 62) ≤ i ∧ i < 2 ^ 62 ∧ -(2 ^ 62) ≤ j ∧ j < 2 ^ 62) ∧ P ρ1 (downD i (i - j).toNat)
theorem di_down {c : Expr} {w : WA} {p : Pos} (hm : ∀ i, (X i).mg "range" = none) (h : DA X K [a, b, c] w) (hg : ∀ i, Gl (X i) "range" := by intro i; rfl) (hs : ∀ i, starEach [a, b, c] (X i).env = (false, eval a (X i).env) :: starEach [b, c] (X i).env := by intro i; rfl)
    (hpl : ∀ i, (backTo pos (starEach [b, c] (X i).env)).any (·.1) = false := by intro i; rfl) : DI X K tg (.Call (.Name "range" p) [a, b, c] [] pos) (wDown w) := by
  obtain ⟨t, a1, a2⟩ := h
  refine ⟨iRng3 t, fun i => pi_range3 (hg i) (hm i) (a1 i) (hs i) (hpl i), fun M0 M B σ H ρ P R E w k => ?_⟩
  refine a2 M0 M B σ H ρ _ _ E w fun ρ1 ds vs H1 w1 x1 E1 r1 => ?_
  obtain ⟨i, j, rfl, hb, w1⟩ := w1
  cases r1 with
  | cons q1 q2 =>
    cases q2 with
    | cons q2 q3 =>
      cases q3 with
      | cons q3 q4 =>
        cases q4
        rw [Dt.isInt q1, Dt.isInt q2, Dt.isInt q3]
        exact ⟨i, j, -1, _, rfl, RgC.neg hb.1 hb.2.1 hb.2.2.1 hb.2.2.2, k ρ1 _ _ H1 w1 x1 E1 it_down⟩
/-! ### enumerate -/
def enumD (ds : List PyData) : List PyData := ds.zipIdx.map fun p => .tuple [.int (p.2 : Nat), p.1]
theorem enumD_get {ds : List PyData} {i : Nat} {d : PyData} (h : (enumD ds)[i]? = some d) : ∃ x, ds[i]? = some x ∧ d = .tuple [.int (i : Nat), x] := by
  unfold enumD at h
  rw [List.getElem?_map, List.getElem?_zipIdx] at h
  cases e : ds[i]? with
  | none => rw [e] at h; cases h
  | some x =>
    rw [e] at h
    refine ⟨x, rfl, ?_⟩
    have := (Option.some.inj h).symm
    simpa using this
theorem enumD_len {ds : List PyData} : (enumD ds).length = ds.length := by simp [enumD]
theorem it_enumS {M : List Addr} {H : Hp} {z : Str} : IterOk K M H (IteS z) (enumD (signsD z)) := fun M' H' s dom => by
  refine ⟨fun i d hd => ?_, by rw [enumD_len, signs_len]; exact Nat.le_refl _⟩
  obtain ⟨x, hx, rfl⟩ := enumD_get hd
  obtain ⟨c, hc, rfl⟩ := signs_get hx
  refine ⟨(Array.getElem?_eq_some_iff.mp hc).1, fun x H'' y => ?_⟩
  obtain ⟨T, c', rfl, nT, hc', rfl⟩ := y
  rw [hc] at hc'
  cases hc'
  exact ⟨same_new nT, .tup (.inl (.inl (rm_of (fun q => dom T q nT) upd_same))) (.cons (.int _) (.cons (.str _) .nil))⟩
theorem it_enumL {M : List Addr} {H : Hp} {a : Addr} {xs : List V} {ds : List PyData} (h : rm M H a = some (.lst xs)) (r : DtAll K (rm M H) xs ds) : IterOk K M H (Ite K a) (enumD ds) := fun M' H' s dom => by
  have h' : H' a = some (.lst xs) := (rm_to (s _ _ h)).2
  refine ⟨fun i d hd => ?_, ⟨xs, SqL.of h', by rw [enumD_len, DtAll.len r]; exact Nat.le_refl _⟩⟩
  obtain ⟨x, hx, rfl⟩ := enumD_get hd
  obtain ⟨v, hv, rv⟩ := DtAll.getd r hx
  refine ⟨⟨xs, v, SqL.of h', hv⟩, fun x H'' y => ?_⟩
  obtain ⟨T, x', rfl, nT, rfl, hy⟩ := y
  have e := hy xs (SqL.of h')
  rw [hv] at e
  cases e
  exact ⟨same_new nT, .tup (.inl (.inl (rm_of (fun q => dom T q nT) upd_same))) (.cons (.int _) (.cons (Dt.up (up_new nT) (Dt.up s rv)) .nil))⟩
def wEnum (we : WE) : WI := fun ρ P => we ρ fun ρ1 d => match d with
  | .list ds => P ρ1 (enumD ds)
  | .str z => P ρ1 (enumD (signsD z))
  | _ => False
def iEnumA (K : Fr) (ta : TA) : TI := fun σ H R => ta σ H fun vs H1 => (∃ a xs, vs = [.ref a] ∧ SqL K H1 a xs ∧ R (Ite K a) H1) ∨ ∃ x, vs = [.str x] ∧ R (IteS x) H1
theorem pi_enumA {Y : Cx} {ta : TA} {p pos tpos : Pos} {elts : List Expr} {kk : Nat} (hg : Gl Y "enumerate") (hm : Y.mg "enumerate" = none) (ha : PA Y [e] ta) (hs : starEach [e] Y.env = [(false, eval e Y.env)] := by rfl) :
    PI Y (.Tuple elts kk tpos) (.Call (.Name "enumerate" p) [e] [] pos) (iEnumA Y.K ta) := by
  refine ⟨fun pins s σ H R I h => ?_⟩
  refine Call_ (ld_blt I hg hm boot_enumerate (PyProof.Rows.callWith_type1 (thn (ha.run pos pins s σ H _ I h) fun us s1 ⟨vs, H1, I1, r1, q1⟩ => ?_) hs rfl))
  rcases q1 with ⟨a, xs, ex, hq, q⟩ | ⟨x, ex, q⟩
  · subst ex
    cases r1 with
    | cons r rr =>
      cases rr
      cases r
      obtain ⟨its, rv, p', hz⟩ := I1.list hq
      refine call_enumerate_list p'.isList fun h' he hit hsz hk => wpAny_pyIter_enum he ?_
      have I2 : Inv Y pins σ H1 { s1 with heap := h' } := I1.kept (t' := s1.toks) hk
      refine ⟨s1.heap.objs.size + 1, [s1.heap.objs.size + 1, s1.heap.objs.size], _, _, H1, rfl, I2, turn_enum a (s1.heap.objs.size + 1) s1.heap.objs.size, ⟨⟨.none, he⟩, hit, Nat.succ_ne_self _⟩, fun b hb => ?_, q⟩
      have e' : b = s1.heap.objs.size + 1 ∨ b = s1.heap.objs.size := by simpa using hb
      have hle : s1.heap.objs.size ≤ b := by
        rcases e' with z | z
        · rw [z]; exact Nat.le_add_right _ _
        · rw [z]; exact Nat.le_refl _
      exact I1.fpOk hle (I1.hok.fresh hle)
  · subst ex
    cases r1 with
    | cons r rr =>
      cases rr
      obtain ⟨t, rfl⟩ := r
      refine call_enumerate_str fun h' he hit hsz hk => wpAny_pyIter_enum he ?_
      have I2 : Inv Y pins σ H1 { s1 with heap := h' } := I1.kept (t' := s1.toks) hk
      refine ⟨s1.heap.objs.size + 1, [s1.heap.objs.size + 1, s1.heap.objs.size], _, _, H1, rfl, I2, turn_enumS x t (s1.heap.objs.size + 1) s1.heap.objs.size, ⟨⟨.none, he⟩, hit, Nat.succ_ne_self _, Nat.zero_le _⟩, fun b hb => ?_, q⟩
      have e' : b = s1.heap.objs.size + 1 ∨ b = s1.heap.objs.size := by simpa using hb
      have hle : s1.heap.objs.size ≤ b := by
        rcases e' with z | z
        · rw [z]; exact Nat.le_add_right _ _
        · rw [z]; exact Nat.le_refl _
      exact I1.fpOk hle (I1.hok.fresh hle)
theorem di_enum {p tpos : Pos} {elts : List Expr} {kk : Nat} (hm : ∀ i, (X i).mg "enumerate" = none) (h : DE X K e we) (hK : ∀ i, (X i).K = K := by intro i; rfl) (hg : ∀ i, Gl (X i) "enumerate" := by intro i; rfl) (hs : ∀ i, starEach [e] (X i).env = [(false, eval e (X i).env)] := by intro i; rfl) :
    DI X K (.Tuple elts kk tpos) (.Call (.Name "enumerate" p) [e] [] pos) (wEnum we) := by
  obtain ⟨t, a1, a2⟩ := h
  refine ⟨iEnumA K (tCons t tNil), fun i => by rw [← hK i]; exact pi_enumA (hg i) (hm i) (pa_cons (a1 i) pa_nil (hs i)) (hs i), fun M0 M B σ H ρ P R E w k => ?_⟩
  refine a2 M0 M B σ H ρ _ _ E w fun ρ1 d v H1 w1 x1 E1 r1 => ?_
  cases d with
  | list ds =>
    obtain ⟨p, vs, rfl, h1, h2⟩ := Dt.isLst r1
    exact .inl ⟨p, vs, rfl, SqL.of (rm_le _ _ h1), k ρ1 _ _ H1 w1 x1 E1 (it_enumL h1 h2)⟩
  | str z =>
    rw [Dt.isStr r1]
    exact .inr ⟨z, rfl, k ρ1 _ _ H1 w1 x1 E1 it_enumS⟩
  | _ => exact w1.elim
end Pm
namespace Pm
open PySem PySem.Spec PyProof.Rows L2
variable {ι : Type} {X : ι → Cx} {K : Fr} {a b e tg : Expr} {es : List Expr} {wa wb we : WE} {pos : Pos}
/-! ### list comprehensions, one name -/
/-- the contexts of a comprehension's block -/
abbrev Blk (ι : Type) : Type := ι × Shared × Hp × Addr × List (Str × Addr) × List Addr
abbrev blkX (X : ι → Cx) (scope : Scope) : Blk ι → Cx := fun p => (X p.1).blk p.2.1 p.2.2.1 scope (compEnvC scope p.2.2.2.2.1 p.2.2.2.1 (X p.1).env) p.2.2.2.2.2
def lcD (i : Nat) (wt : WT) (we : WE) : List PyData → Env → List PyData → (Env → List PyData → Prop) → Prop
  | [], ρ, acc, P => P ρ acc
  | d :: ds, ρ, acc, P => wt (ρ.set i (.dat d)) fun ρ1 c => (c = true → we ρ1 fun ρ2 y => acc.length < sizeLine ∧ lcD i wt we ds (ρ2.set i .un) (acc ++ [y]) P) ∧ (c = false → lcD i wt we ds (ρ1.set i .un) acc P)
def wLc (i : Nat) (wi : WI) (wt : WT) (we : WE) : WE := fun ρ P => wi ρ fun ρ1 items => lcD i wt we items (ρ1.set i .un) [] fun ρ2 ds => P ρ2 (.list ds)
/-- the slots but i are the same -/
theorem EnvOk.swap {M0 M B : List Addr} {H : Hp} {σ τ : L2.St} {ρ : Env} {i : Nat} (E : EnvOk K M0 M B H τ ρ) (hl : σ.length = τ.length) (h : ∀ j, j ≠ i → σ[j]? = τ[j]?) : EnvOk K M0 M B H σ (ρ.set i .un) where
  len := by rw [List.length_set, hl]; exact E.len
  sub := E.sub
  dom := E.dom
  m0 := E.m0
  slot := fun j s hj => by
    rcases get_set_some hj with ⟨rfl, rfl, _⟩ | ⟨n, hj'⟩
    · trivial
    · rw [h j (Ne.symm n)]; exact E.slot j s hj'
  sep := fun j k s s' l n h1 h2 l1 l2 s1 s2 => by
    rcases get_set_some h1 with ⟨rfl, rfl, _⟩ | ⟨n1, h1'⟩
    · cases l1
    · rcases get_set_some h2 with ⟨rfl, rfl, _⟩ | ⟨n2, h2'⟩
      · cases l2
      · rw [h j (Ne.symm n1)] at s1
        rw [h k (Ne.symm n2)] at s2
        exact E.sep j k s s' l n h1' h2' l1 l2 s1 s2
/-- one more address put away / taken back -/
theorem EnvOk.less {M0 M B : List Addr} {H : Hp} {σ : L2.St} {ρ : Env} {p : Addr} (E : EnvOk K M0 (p :: M) B H σ ρ) (h0 : ∀ a, a ∈ M0 → a ∈ M) (hs : ∀ a, a ∈ B → a ∈ M) : EnvOk K M0 M B H σ ρ where
  len := E.len
  sub := hs
  dom := fun a h => E.dom a (List.mem_cons_of_mem _ h)
  m0 := h0
  slot := fun i s h => by
    have r : Same (rm (p :: M) H) (rm M H) := fun a o e => by
      obtain ⟨z1, z2⟩ := rm_to e
      exact rm_of (fun c => z1 (List.mem_cons_of_mem _ c)) z2
    have z := E.slot i s h
    cases s with
    | un => trivial
    | dat d => obtain ⟨v, h1, h2⟩ := z; exact ⟨v, h1, Dt.up r h2⟩
    | scr ns => obtain ⟨v, h1, h2⟩ := z; exact ⟨v, h1, same_l r h2⟩
    | own ds => obtain ⟨l, xs, h1, h2, h3, h4, h5⟩ := z; exact ⟨l, xs, h1, h2, h3, h4, DtAll.up r h5⟩
    | bor l ds => obtain ⟨xs, h1, h2, h3, h4, h5⟩ := z; exact ⟨xs, h1, h2, h3, h4, DtAll.up r h5⟩
  sep := E.sep
theorem EnvOk.more {M0 M B : List Addr} {H H' : Hp} {σ : L2.St} {ρ : Env} {p : Addr} {o : HO} (E : EnvOk K M0 M B H σ ρ) (np : H p = none) (hp : H' p = some o) (sm : ∀ a u, a ≠ p → H a = some u → H' a = some u) : EnvOk K M0 (p :: M) B H' σ ρ := by
  have r : Same (rm M H) (rm (p :: M) H') := fun a u e => by
    obtain ⟨z1, z2⟩ := rm_to e
    have n : a ≠ p := fun q => by rw [q, np] at z2; cases z2
    refine rm_of (fun c => ?_) (sm a u n z2)
    rcases List.mem_cons.mp c with q | q
    · exact n q
    · exact z1 q
  refine ⟨E.len, fun a h => List.mem_cons_of_mem _ (E.sub a h), fun a h q => ?_, fun a h => List.mem_cons_of_mem _ (E.m0 a h), fun i s h => ?_, E.sep⟩
  · rcases List.mem_cons.mp h with c | c
    · rw [c, hp] at q; cases q
    · cases hz : H a with
      | none => exact E.dom a c hz
      | some u => rw [sm a u (fun q2 => by rw [q2, np] at hz; cases hz) hz] at q; cases q
  · have z := E.slot i s h
    have keepL : ∀ (l : Addr) (xs : List V), H l = some (.lst xs) → H' l = some (.lst xs) := fun l xs hl => sm l _ (fun q => by rw [q, np] at hl; cases hl) hl
    cases s with
    | un => trivial
    | dat d => obtain ⟨v, h1, h2⟩ := z; exact ⟨v, h1, Dt.up r h2⟩
    | scr ns => obtain ⟨v, h1, h2⟩ := z; exact ⟨v, h1, same_l r h2⟩
    | own ds => obtain ⟨l, xs, h1, h2, h3, h4, h5⟩ := z; exact ⟨l, xs, h1, h2, h3, keepL _ _ h4, DtAll.up r h5⟩
    | bor l ds => obtain ⟨xs, h1, h2, h3, h4, h5⟩ := z; exact ⟨xs, h1, h2, h3, keepL _ _ h4, DtAll.up r h5⟩
/-- the reading of a comprehension -/
theorem lc_read {i : Nat} {ti : TI} {tt : TT} {te : TE} {wi : WI} {wt : WT}
    (hi : ∀ (M0 M B : List Addr) (σ : L2.St) (H : Hp) (ρ : Env) (P : Env → List PyData → Prop) (R : It → Hp → Prop), EnvOk K M0 M B H σ ρ → wi ρ P → (∀ ρ' items J H', P ρ' items → Ext M B H M B H' → EnvOk K M0 M B H' σ ρ' → IterOk K M H' J items → R J H') → ti σ H R)
    (ht : ∀ (M0 M B : List Addr) (σ : L2.St) (H : Hp) (ρ : Env) (P : Env → Bool → Prop) (Q : Bool → Hp → Prop), EnvOk K M0 M B H σ ρ → wt ρ P → (∀ ρ' b H', P ρ' b → Ext M B H M B H' → EnvOk K M0 M B H' σ ρ' → Q b H') → tt σ H Q)
    (he : ∀ (M0 M B : List Addr) (σ : L2.St) (H : Hp) (ρ : Env) (P : Env → PyData → Prop) (Q : VK), EnvOk K M0 M B H σ ρ → we ρ P → (∀ ρ' d v H', P ρ' d → Ext M B H M B H' → EnvOk K M0 M B H' σ ρ' → Dt K (rm M H') v d → Q v H') → te σ H Q) :
    ∀ (M0 M B : List Addr) (σ : L2.St) (H : Hp) (ρ : Env) (P : Env → PyData → Prop) (Q : VK), EnvOk K M0 M B H σ ρ → wLc i wi wt we ρ P → (∀ ρ' d v H', P ρ' d → Ext M B H M B H' → EnvOk K M0 M B H' σ ρ' → Dt K (rm M H') v d → Q v H') → tLc ti (gName i) tt te [i] σ H Q := by
  intro M0 M B σ H ρ P Q E w k
  refine hi M0 M B σ H ρ _ _ E w fun ρ1 items J H1 w1 x1 E1 it => ?_
  intro D nD
  have hDM : D ∉ M := fun c => E1.dom D c nD
  have hDB : D ∉ B := fun c => hDM (E1.sub D c)
  -- W: the list so far
  refine ⟨fun n m H2 => m = items.length - n ∧ ∃ (ρ2 : Env) (acc : List V) (ds : List PyData), n ≤ items.length ∧ lcD i wt we (items.drop n) ρ2 ds (fun ρ2 ds => P ρ2 (.list ds)) ∧ H2 D = some (.lst acc) ∧ DtAll K (rm (D :: M) H2) acc ds ∧ EnvOk K M0 (D :: M) B H2 σ ρ2 ∧
      (∀ a o, a ∉ B → a ≠ D → H1 a = some o → H2 a = some o) ∧ (∀ a, H2 a = none → H1 a = none), ⟨_, rfl, ρ1.set i .un, [], [], Nat.zero_le _, w1, upd_same, .nil, ?_, fun a o _ n e => by rw [upd_ne n]; exact e, fun a e => (same_new nD).free e⟩, ?_⟩
  · have E2 : EnvOk K M0 (D :: M) B (upd H1 D (.lst [])) σ ρ1 := E1.more nD upd_same fun a u n e => by rw [upd_ne n]; exact e
    exact E2.swap rfl fun _ _ => rfl
  · rintro n m H2 ⟨rfl, ρ2, acc, ds, hn, w2, hD, hA, E2, fr, lv⟩
    have hEx : Ext M B H1 M B H2 := ⟨fun _ h => h, fun _ h => .inl h, fun _ h => h, fun _ h => .inl h, fun a o nb e => fr a o nb (fun q => by rw [q, nD] at e; cases e) e, lv⟩
    have hsm : Same (rm M H1) (rm (D :: M) H2) := fun a o e => by
      obtain ⟨z1, z2⟩ := rm_to e
      have nn : a ≠ D := fun q => by rw [q, nD] at z2; cases z2
      refine rm_of (fun c => ?_) (fr a o (fun c => z1 (E1.sub a c)) nn z2)
      rcases List.mem_cons.mp c with q | q
      · exact nn q
      · exact z1 q
    obtain ⟨hgo, hst⟩ := it (D :: M) H2 hsm E2.dom
    by_cases hlt : n < items.length
    · right
      have hnd : items[n]? = some items[n] := List.getElem?_eq_getElem hlt
      obtain ⟨g1, g2⟩ := hgo n _ hnd
      rw [List.drop_eq_getElem_cons hlt] at w2
      refine ⟨g1, fun H' => ∃ m', m' < items.length - n ∧ (m' = items.length - (n + 1) ∧ ∃ (ρ2 : Env) (acc : List V) (ds : List PyData), n + 1 ≤ items.length ∧ lcD i wt we (items.drop (n + 1)) ρ2 ds (fun ρ2 ds => P ρ2 (.list ds)) ∧ H' D = some (.lst acc) ∧ DtAll K (rm (D :: M) H') acc ds ∧ EnvOk K M0 (D :: M) B H' σ ρ2 ∧
        (∀ a o, a ∉ B → a ≠ D → H1 a = some o → H' a = some o) ∧ (∀ a, H' a = none → H1 a = none)), fun H' h => h, fun x H3 hy => ?_⟩
      obtain ⟨s3, rx⟩ := g2 x H3 hy
      have E3 : EnvOk K M0 (D :: M) B H3 σ ρ2 := E2.same s3
      -- the block's slots
      have E4 : EnvOk K M0 (D :: M) B H3 ((wipe σ [i]).set i (some x)) (ρ2.set i (.dat items[n])) := by
        have q : EnvOk K M0 (D :: M) B H3 (wipe σ [i]) (ρ2.set i .un) := E3.forget i none
        have q2 := q.set i rx
        rw [List.set_set] at q2
        exact q2
      have hsl : ∀ j, j ≠ i → σ[j]? = ((wipe σ [i]).set i (some x))[j]? := fun j n => by
        rw [get_set_ne (Ne.symm n)]
        show σ[j]? = (σ.set i none)[j]?
        rw [get_set_ne (Ne.symm n)]
      have hln : σ.length = ((wipe σ [i]).set i (some x)).length := by
        show σ.length = ((σ.set i none).set i (some x)).length
        rw [List.length_set, List.length_set]
      refine ⟨?_, ?_⟩
      · show (((σ.set i none).set i (some x)).set i none) = σ.set i none
        rw [List.set_set, List.set_set]
      · refine ht M0 (D :: M) B _ H3 _ _ _ E4 w2 fun ρ4 c H4 w4 x4 E5 => ?_
        have hD4 : H4 D = some (.lst acc) := x4.keep D _ hDB (s3 _ _ hD)
        have up4 : Same (rm (D :: M) H2) (rm (D :: M) H4) := ((Ext.same (M := D :: M) (B := B) s3).trans x4).rm E2.sub
        have fr4 : ∀ a o, a ∉ B → a ≠ D → H1 a = some o → H4 a = some o := fun a o nb nn e => x4.keep a o nb (s3 _ _ (fr a o nb nn e))
        have lv4 : ∀ a, H4 a = none → H1 a = none := fun a e => lv a (s3.free (x4.live a e))
        refine ite_of (fun ec => ?_) (fun ec => ?_)
        · refine he M0 (D :: M) B _ H4 _ _ _ E5 (w4.1 ec) fun ρ5 y v H5 w5 x5 E6 r5 => ?_
          obtain ⟨hz, w5⟩ := w5
          have hD5 : H5 D = some (.lst acc) := x5.keep D _ hDB hD4
          refine ⟨acc, hD5, by rw [DtAll.len hA]; exact hz, items.length - (n + 1), by omega, rfl, ρ5.set i .un, acc ++ [v], ds ++ [y], hlt, w5, upd_same, ?_, ?_, fun a o nb nn e => by rw [upd_ne nn]; exact x5.keep a o nb (fr4 a o nb nn e), fun a e => ?_⟩
          · rw [rm_upd (List.mem_cons_self ..)]
            exact DtAll.app (DtAll.up (x5.rm E5.sub) (DtAll.up up4 hA)) (.cons r5 .nil)
          · have q := E6.swap (σ := σ) (i := i) hln hsl
            have q2 : EnvOk K M0 (D :: M) B (upd H5 D (.lst (acc ++ [v]))) σ (ρ5.set i .un) := by
              refine ⟨q.len, q.sub, fun a h z => ?_, q.m0, fun j s hj => ?_, q.sep⟩
              · by_cases c : a = D
                · rw [c, upd_same] at z; cases z
                · rw [upd_ne c] at z; exact q.dom a h z
              · have z := q.slot j s hj
                have nl : ∀ l, l ∈ B → l ≠ D := fun l hl q => hDB (q ▸ hl)
                cases s with
                | un => trivial
                | dat d => obtain ⟨v, h1, h2⟩ := z; exact ⟨v, h1, by rw [rm_upd (List.mem_cons_self ..)]; exact h2⟩
                | scr d => obtain ⟨v, h1, h2⟩ := z; exact ⟨v, h1, by rw [rm_upd (List.mem_cons_self ..)]; exact h2⟩
                | own ds => obtain ⟨l, xs, h1, h2, h3, h4, h5⟩ := z; exact ⟨l, xs, h1, h2, h3, by rw [upd_ne (nl l h2)]; exact h4, by rw [rm_upd (List.mem_cons_self ..)]; exact h5⟩
                | bor l ds => obtain ⟨xs, h1, h2, h3, h4, h5⟩ := z; exact ⟨xs, h1, h2, h3, by rw [upd_ne (nl l h2)]; exact h4, by rw [rm_upd (List.mem_cons_self ..)]; exact h5⟩
            exact q2
          · by_cases c : a = D
            · rw [c, upd_same] at e; cases e
            · rw [upd_ne c] at e; exact lv4 a (x5.live a e)
        · exact ⟨items.length - (n + 1), by omega, rfl, ρ4.set i .un, acc, ds, hlt, w4.2 ec, hD4, DtAll.up up4 hA, E5.swap (σ := σ) (i := i) hln hsl, fr4, lv4⟩
    · left
      have en : n = items.length := by omega
      rw [en] at w2 ⊢
      rw [List.drop_length] at w2
      refine ⟨hst, k ρ2 _ _ H2 w2 (x1.trans hEx) (E2.less E1.m0 E1.sub) (.lst (rm_of hDM hD) (DtAll.up (fun a o e => ?_) hA))⟩
      obtain ⟨z1, z2⟩ := rm_to e
      exact rm_of (fun c => z1 (List.mem_cons_of_mem _ c)) z2
def wYes : WT := fun ρ P => P ρ true
/-- [elt for x in iter if t] -/
theorem de_lcif (i : Nat) {elt iter c : Expr} {x : Str} {px pos : Pos} {scope : Scope} {wi : WI} {wt : WT} (hN : ∀ j, (X j).N.Nodup) (hi : DI X K (.Name x px) iter wi) (ht : DT (blkX X scope) K c wt) (he : DE (blkX X scope) K elt we)
    (ok : ∀ j, blkC (X j).N (X j).env.scope scope [(x, i)] = true := by intro j; decide +kernel) (hg : ∀ p, PG (blkX X scope p) (.Name x px) (gName i) := by intro p; exact pg_name (by assumption) rfl (Or.inl rfl))
    (hc : ∀ j, (X j).calm = true := by intro j; rfl) (hs : ∀ j x, foldedSetIterable iter (X j).env x = pure x := by intro _ _; rfl) : DE X K (.ListComp elt [⟨.Name x px, iter, [c], 0⟩] scope pos) (wLc i wi wt we) := by
  obtain ⟨ti, i1, i2⟩ := hi
  obtain ⟨tt, t1, t2⟩ := ht
  obtain ⟨te, e1, e2⟩ := he
  exact ⟨tLc ti (gName i) tt te [i], fun j => pe_lc (own := [(x, i)]) (hc j) (hN j) (i1 j) (blkOk_by (ok j)) (fun s H C cl fp => hg (j, s, H, C, cl, fp)) (fun s H C cl fp => pts_one (t1 (j, s, H, C, cl, fp))) (fun s H C cl fp => e1 (j, s, H, C, cl, fp)) (hs j), lc_read i2 t2 e2⟩
theorem de_lc (i : Nat) {elt iter : Expr} {x : Str} {px pos : Pos} {scope : Scope} {wi : WI} (hN : ∀ j, (X j).N.Nodup) (hi : DI X K (.Name x px) iter wi) (he : DE (blkX X scope) K elt we)
    (ok : ∀ j, blkC (X j).N (X j).env.scope scope [(x, i)] = true := by intro j; decide +kernel) (hg : ∀ p, PG (blkX X scope p) (.Name x px) (gName i) := by intro p; exact pg_name (by assumption) rfl (Or.inl rfl))
    (hc : ∀ j, (X j).calm = true := by intro j; rfl) (hs : ∀ j x, foldedSetIterable iter (X j).env x = pure x := by intro _ _; rfl) : DE X K (.ListComp elt [⟨.Name x px, iter, [], 0⟩] scope pos) (wLc i wi wYes we) := by
  obtain ⟨ti, i1, i2⟩ := hi
  obtain ⟨te, e1, e2⟩ := he
  exact ⟨tLc ti (gName i) tYes te [i], fun j => pe_lc (own := [(x, i)]) (hc j) (hN j) (i1 j) (blkOk_by (ok j)) (fun s H C cl fp => hg (j, s, H, C, cl, fp)) (fun s H C cl fp => pts_nil) (fun s H C cl fp => e1 (j, s, H, C, cl, fp)) (hs j),
    lc_read i2 (fun M0 M B σ H ρ P Q E w k => k ρ true H w (Ext.refl ..) E) e2⟩
end Pm
namespace Pm
open PySem PySem.Spec PyProof.Rows L2
variable {ι : Type} {X : ι → Cx} {K : Fr} {a b e tg : Expr} {es : List Expr} {wa wb we : WE} {pos : Pos}
/-! ### a def by data: what its call asks (S: arguments, what is wanted of the answer) -/
abbrev SpD := List PyData → (PyData → Prop) → Prop
def spP (K : Fr) (S : SpD) : Sp := fun vs H Q _ => ∃ (M : List Addr) (ds : List PyData) (P : PyData → Prop), (∀ a, a ∈ M → H a ≠ none) ∧ DtAll K (rm M H) vs ds ∧ S ds P ∧ ∀ d v H', P d → Same H H' → Dt K (rm M H') v d → Q v H'
/-- .. the first argument a list that the def may change -/
abbrev SpW := List PyData → List PyData → (List PyData → PyData → Prop) → Prop
def spW (K : Fr) (S : SpW) : Sp := fun vs H Q _ => ∃ (M : List Addr) (l : Addr) (us xs : List V) (ws ds : List PyData) (P : List PyData → PyData → Prop), vs = .ref l :: us ∧ (∀ a, a ∈ M → H a ≠ none) ∧ l ∈ M ∧ H l = some (.lst xs) ∧ DtAll K (rm M H) xs ws ∧ DtAll K (rm M H) us ds ∧ S ws ds P ∧
  ∀ ws' d v H' xs', P ws' d → (∀ a o, a ≠ l → H a = some o → H' a = some o) → H' l = some (.lst xs') → DtAll K (rm M H') xs' ws' → Dt K (rm M H') v d → Q v H'
/-- what stands behind a name of the module: a def with its promise -/
def CallOk (Y : Cx) (x : Str) (sp : Sp) : Prop := ∃ (k : Nat) (f : Addr) (fd : FuncData) (ps : List Str), FnOk Y.prog Y.w Y.K Y.mg Y.base CX0 k f fd ps sp ∧ Room k Y.A ∧ Y.mg x = some (.ref f) ∧ PySem.W.keepIn Y.K (.ref f) = true ∧ Binds Y.K fd ps []
def wCall (S : SpD) (wa : WA) : WE := fun ρ P => wa ρ fun ρ1 ds => S ds fun d => P ρ1 d
theorem de_call {x : Str} {S : SpD} {w : WA} {p : Pos} (c : ∀ i, CallOk (X i) x (spP K S)) (h : DA X K (e :: es) w) (hg : ∀ i, Gl (X i) x := by intro i; rfl) (hdb : (x == ("__debug__" : Str)) = false := by decide)
    (he : ∀ i, starEach (e :: es) (X i).env = (false, eval e (X i).env) :: starEach es (X i).env := by intro i; rfl) (hpl : ∀ i, (backTo pos (starEach es (X i).env)).any (·.1) = false := by intro i; rfl) : DE X K (.Call (.Name x p) (e :: es) [] pos) (wCall S w) := by
  obtain ⟨t, a1, a2⟩ := h
  refine ⟨tCall (spP K S) [] E0 t, fun i => ?_, fun M0 M B σ H ρ P Q E w k => ?_⟩
  · obtain ⟨k, f, fd, ps, F, hr, hm, hk, hb⟩ := c i
    exact pe_call F hr (hg i) hm hk hb .nil pass0 (a1 i) hdb (he i) (hpl i)
  · refine a2 M0 M B σ H ρ _ _ E w fun ρ1 ds vs H1 w1 x1 E1 r1 => ?_
    refine ⟨M, ds, _, E1.dom, by rw [List.append_nil]; exact r1, w1, fun d v H2 p e2 r2 => ?_⟩
    exact k ρ1 d v H2 p (x1.trans (Ext.same e2)) (E1.same e2) r2
/-- .. without arguments -/
theorem de_call0 {x : Str} {S : SpD} {p : Pos} (c : ∀ i, CallOk (X i) x (spP K S)) (hg : ∀ i, Gl (X i) x := by intro i; rfl) (hdb : (x == ("__debug__" : Str)) = false := by decide) : DE X K (.Call (.Name x p) [] [] pos) (wCall S wNil) := by
  refine ⟨tCall (spP K S) [] E0 tNil, fun i => ?_, fun M0 M B σ H ρ P Q E w k => ?_⟩
  · obtain ⟨k, f, fd, ps, F, hr, hm, hk, hb⟩ := c i
    exact pe_call0 F hr (hg i) hm hk hb .nil pass0 hdb
  · exact ⟨M, [], _, E.dom, .nil, w, fun d v H2 p e2 r2 => k ρ d v H2 p (Ext.same e2) (E.same e2) r2⟩
/-- a def whose first argument is a list that is put away, here the name in slot j -/
def wCallW (S : SpW) (j : Nat) (wa : WA) : WE := fun ρ P => (∃ ds0, (ρ.at j).items = some ds0) ∧ wa ρ fun ρ1 ds => ∃ ws, (ρ1.at j).items = some ws ∧ S ws ds fun ws' d => P (ρ1.set j ((ρ1.at j).put ws')) d
theorem de_callW (j : Nat) {x : Str} {S : SpW} {w : WA} {p : Pos} (c : ∀ i, CallOk (X i) x (spW K S)) (h : DA X K es w) (hv : ∀ i, PE (X i) a (tVar j) := by intro i; exact pv _) (hg : ∀ i, Gl (X i) x := by intro i; rfl) (hdb : (x == ("__debug__" : Str)) = false := by decide)
    (he : ∀ i, starEach (a :: es) (X i).env = (false, eval a (X i).env) :: starEach es (X i).env := by intro i; rfl) (hpl : ∀ i, (backTo pos (starEach es (X i).env)).any (·.1) = false := by intro i; rfl) : DE X K (.Call (.Name x p) (a :: es) [] pos) (wCallW S j w) := by
  obtain ⟨t, a1, a2⟩ := h
  refine ⟨tCall (spW K S) [] E0 (tCons (tVar j) t), fun i => ?_, fun M0 M B σ H ρ P Q E w k => ?_⟩
  · obtain ⟨k, f, fd, ps, F, hr, hm, hk, hb⟩ := c i
    exact pe_call F hr (hg i) hm hk hb .nil pass0 (pa_cons (hv i) (a1 i) (he i)) hdb (he i) (hpl i)
  · obtain ⟨⟨ds0, h0⟩, w⟩ := w
    obtain ⟨l0, xs0, _, _, hl0, _⟩ := E.lst h0
    refine ⟨_, hl0, ?_⟩
    refine a2 M0 M B σ H ρ _ _ E w fun ρ1 ds vs H1 w1 x1 E1 r1 => ?_
    obtain ⟨ws, h1, w1⟩ := w1
    obtain ⟨l, xs, hs, hL, hl, hlB, h4, h5, h6⟩ := E1.lst h1
    rw [hl0] at hl
    injection hl with hl; injection hl with hl; injection hl with hl
    subst hl
    refine ⟨M, l0, vs, xs, ws, ds, _, by rw [List.append_nil], E1.dom, E1.sub _ hlB, h4, h5, r1, w1, fun ws' d v H2 xs' p kp h7 h8 r2 => ?_⟩
    have ext : Ext M B H1 M B H2 := ⟨fun _ h => h, fun _ h => .inl h, fun _ h => h, fun _ h => .inl h, fun a o nb e => kp a o (fun q => nb (q ▸ hlB)) e, fun a e => by
      cases hz : H1 a with
      | none => rfl
      | some o =>
        by_cases c : a = l0
        · rw [c, h7] at e; cases e
        · rw [kp a o c hz] at e; cases e⟩
    refine k _ d v H2 p (x1.trans ext) (E1.put hs hL hl0 h7 h8 kp ?_) r2
    rcases h6 with ⟨es, h6⟩ | ⟨es, h6⟩
    · exact .inl ⟨es, h6, by rw [h6]; rfl⟩
    · exact .inr ⟨es, h6, by rw [h6]; rfl⟩
/-! ### statements -/
structure DEnds where
  nx : Env → Prop
  rt : Env → PyData → Prop
  bk : Env → Prop := fun _ => False
  ct : Env → Prop := fun _ => False
abbrev WS := DEnds → Env → Prop
structure Fits (K : Fr) (M0 M B : List Addr) (H : Hp) (E : DEnds) (D : Ends) : Prop where
  nx : ∀ ρ' M' B' σ' H', E.nx ρ' → Ext M B H M' B' H' → EnvOk K M0 M' B' H' σ' ρ' → D.nx σ' H'
  bk : ∀ ρ' M' B' σ' H', E.bk ρ' → Ext M B H M' B' H' → EnvOk K M0 M' B' H' σ' ρ' → D.bk σ' H'
  ct : ∀ ρ' M' B' σ' H', E.ct ρ' → Ext M B H M' B' H' → EnvOk K M0 M' B' H' σ' ρ' → D.ct σ' H'
  rt : ∀ ρ' d v M' B' σ' H', E.rt ρ' d → Ext M B H M' B' H' → EnvOk K M0 M' B' H' σ' ρ' → Dt K (rm M0 H') v d → D.rt v H'
theorem Fits.go {M0 M B M' B' : List Addr} {H H' : Hp} {E : DEnds} {D : Ends} (F : Fits K M0 M B H E D) (x : Ext M B H M' B' H') : Fits K M0 M' B' H' E D :=
  ⟨fun ρ' M2 B2 σ' H2 h y => F.nx ρ' M2 B2 σ' H2 h (x.trans y), fun ρ' M2 B2 σ' H2 h y => F.bk ρ' M2 B2 σ' H2 h (x.trans y), fun ρ' M2 B2 σ' H2 h y => F.ct ρ' M2 B2 σ' H2 h (x.trans y), fun ρ' d v M2 B2 σ' H2 h y => F.rt ρ' d v M2 B2 σ' H2 h (x.trans y)⟩
def DS (Y : Cx) (K : Fr) (st : Stmt) (w : WS) : Prop := ∃ t : TS, PS Y st t ∧ ∀ (M0 M B : List Addr) (σ : L2.St) (H : Hp) (ρ : Env) (E : DEnds) (D : Ends), EnvOk K M0 M B H σ ρ → w E ρ → Fits K M0 M B H E D → t D σ H
def DSs (Y : Cx) (K : Fr) (st : List Stmt) (w : WS) : Prop := ∃ t : TS, PSs Y st t ∧ ∀ (M0 M B : List Addr) (σ : L2.St) (H : Hp) (ρ : Env) (E : DEnds) (D : Ends), EnvOk K M0 M B H σ ρ → w E ρ → Fits K M0 M B H E D → t D σ H
/-- one context -/
abbrev one (Y : Cx) : Unit → Cx := fun _ => Y
section
variable {Y : Cx} {st : Stmt} {rest : List Stmt} {w u : WS}
def wSeq (w u : WS) : WS := fun E ρ => w { E with nx := u E } ρ
theorem dss_cons (h1 : DS Y K st w) (h2 : DSs Y K rest u) : DSs Y K (st :: rest) (wSeq w u) := by
  obtain ⟨t, a1, a2⟩ := h1
  obtain ⟨s, b1, b2⟩ := h2
  refine ⟨tSeq t s, pss_cons a1 b1, fun M0 M B σ H ρ E D Ev h F => ?_⟩
  refine a2 M0 M B σ H ρ _ _ Ev h ⟨fun ρ' M' B' σ' H' p x E' => ?_, F.bk, F.ct, F.rt⟩
  exact b2 M0 M' B' σ' H' ρ' E D E' p (F.go x)
theorem dss_one (h1 : DS Y K st w) : DSs Y K [st] w := by
  obtain ⟨t, a1, a2⟩ := h1
  exact ⟨t, pss_one a1, a2⟩
def wSkip : WS := fun E ρ => E.nx ρ
theorem dss_nil : DSs Y K [] wSkip := ⟨tNext, pss_nil, fun M0 M B σ H ρ E D Ev h F => F.nx ρ M B σ H h (Ext.refl ..) Ev⟩
def wBreak : WS := fun E ρ => E.bk ρ
def wCont : WS := fun E ρ => E.ct ρ
theorem ds_pass {p : Pos} : DS Y K (.Pass p) wSkip := ⟨_, ps_pass, fun M0 M B σ H ρ E D Ev h F => F.nx ρ M B σ H h (Ext.refl ..) Ev⟩
theorem ds_break {p : Pos} : DS Y K (.Break p) wBreak := ⟨_, ps_break, fun M0 M B σ H ρ E D Ev h F => F.bk ρ M B σ H h (Ext.refl ..) Ev⟩
theorem ds_continue {p : Pos} : DS Y K (.Continue p) wCont := ⟨_, ps_continue, fun M0 M B σ H ρ E D Ev h F => F.ct ρ M B σ H h (Ext.refl ..) Ev⟩
def wRet (we : WE) : WS := fun E ρ => we ρ fun ρ1 d => E.rt ρ1 d
theorem rm_sub {M0 M : List Addr} {H : Hp} (h : ∀ a, a ∈ M0 → a ∈ M) : Same (rm M H) (rm M0 H) := fun a o e => by
  obtain ⟨z1, z2⟩ := rm_to e
  exact rm_of (fun c => z1 (h a c)) z2
theorem ds_ret (h : DE (one Y) K e we) : DS Y K (.Return (some e) pos) (wRet we) := by
  obtain ⟨t, a1, a2⟩ := h
  refine ⟨tRet t, ps_ret (a1 ()), fun M0 M B σ H ρ E D Ev h F => ?_⟩
  exact a2 M0 M B σ H ρ _ _ Ev h fun ρ1 d v H1 w1 x1 E1 r1 => F.rt ρ1 d v M B σ H1 w1 x1 E1 (Dt.up (rm_sub Ev.m0) r1)
def wRetN : WS := fun E ρ => E.rt ρ .none
theorem ds_retN : DS Y K (.Return none pos) wRetN := ⟨tRetN, ps_retN, fun M0 M B σ H ρ E D Ev h F => F.rt ρ .none .non M B σ H h (Ext.refl ..) Ev .non⟩
/-- return x, x a list of the def's own -/
def wRetO (j : Nat) : WS := fun E ρ => ∃ ds, ρ.at j = .own ds ∧ E.rt ρ (.list ds)
theorem ds_retO (j : Nat) (hv : PE Y e (tVar j) := by exact pv _) : DS Y K (.Return (some e) pos) (wRetO j) := by
  refine ⟨tRet (tVar j), ps_ret hv, fun M0 M B σ H ρ E D Ev h F => ?_⟩
  obtain ⟨ds, h1, h⟩ := h
  obtain ⟨l, xs, h2, h3, h4, h5, h6⟩ := Ev.slot j _ (Env.at_get h1 (by intro z; cases z))
  exact ⟨_, h2, F.rt ρ _ _ M B σ H h (Ext.refl ..) Ev (.lst (rm_of h4 h5) (DtAll.up (rm_sub Ev.m0) h6))⟩
def wIf (t : WT) (w u : WS) : WS := fun E ρ => t ρ fun ρ1 c => (c = true → w E ρ1) ∧ (c = false → u E ρ1)
theorem ds_if {c : Expr} {x y : List Stmt} {t : WT} (hc : DT (one Y) K c t) (h1 : DSs Y K x w) (h2 : DSs Y K y u) : DS Y K (.If c x y pos) (wIf t w u) := by
  obtain ⟨t, c1, c2⟩ := hc
  obtain ⟨s1, a1, a2⟩ := h1
  obtain ⟨s2, b1, b2⟩ := h2
  refine ⟨tIfS t s1 s2, ps_if (c1 ()) a1 b1, fun M0 M B σ H ρ E D Ev h F => ?_⟩
  refine c2 M0 M B σ H ρ _ _ Ev h fun ρ1 c H1 w1 x1 E1 => ite_of (fun e => ?_) (fun e => ?_)
  · exact a2 M0 M B σ H1 ρ1 E D E1 (w1.1 e) (F.go x1)
  · exact b2 M0 M B σ H1 ρ1 E D E1 (w1.2 e) (F.go x1)
/-- x = e -/
def wSet (i : Nat) (we : WE) : WS := fun E ρ => we ρ fun ρ1 d => E.nx (ρ1.set i (.dat d))
theorem ds_set (i : Nat) {x : Str} {px : Pos} (nd : Y.N.Nodup) (h : DE (one Y) K e we) (hp : Y.N.Nodup → ∀ t, PE Y e t → PS Y (.Assign [.Name x px] e pos) (tAsg t (gName i)) := by intro nd t h; exact ps_set nd rfl (by first | exact Or.inl rfl | exact Or.inr rfl) h) : DS Y K (.Assign [.Name x px] e pos) (wSet i we) := by
  obtain ⟨t, a1, a2⟩ := h
  refine ⟨tAsg t (gName i), hp nd t (a1 ()), fun M0 M B σ H ρ E D Ev h F => ?_⟩
  exact a2 M0 M B σ H ρ _ _ Ev h fun ρ1 d v H1 w1 x1 E1 r1 => F.nx _ M B _ H1 w1 x1 (E1.set i r1)
/-- x = [] -/
def wNew (i : Nat) : WS := fun E ρ => E.nx (ρ.set i (.own []))
theorem ds_new (i : Nat) {x : Str} {px pl : Pos} (nd : Y.N.Nodup) (hp : Y.N.Nodup → PS Y (.Assign [.Name x px] (.List [] pl) pos) (tAsg (tLst tNil) (gName i)) := by intro nd; exact ps_set nd rfl (by first | exact Or.inl rfl | exact Or.inr rfl) (pe_lst pa_nil)) : DS Y K (.Assign [.Name x px] (.List [] pl) pos) (wNew i) := by
  refine ⟨_, hp nd, fun M0 M B σ H ρ E D Ev h F => ?_⟩
  refine ⟨Nat.zero_le _, fun p np => ?_⟩
  have hpM : p ∉ M := fun c => Ev.dom p c np
  have nd : Same (rm M H) (rm (p :: M) (upd H p (.lst []))) := fun a o e => by
    obtain ⟨z1, z2⟩ := rm_to e
    have n : a ≠ p := fun q => by rw [q, np] at z2; cases z2
    refine rm_of (fun c => ?_) (by rw [upd_ne n]; exact z2)
    rcases List.mem_cons.mp c with q | q
    · exact n q
    · exact z1 q
  have nd2 : Same (rm M (upd H p (.lst []))) (rm (p :: M) (upd H p (.lst []))) → True := fun _ => trivial
  have E1 : EnvOk K M0 (p :: M) B (upd H p (.lst [])) σ ρ := Ev.more np upd_same fun a u n e => by rw [upd_ne n]; exact e
  refine F.nx _ (p :: M) (p :: B) _ _ h ⟨fun a h => List.mem_cons_of_mem _ h, fun a h => ?_, fun a h => List.mem_cons_of_mem _ h, fun a h => ?_, fun a o _ e => same_new np a o e, fun a e => (same_new np).free e⟩ ?_
  · rcases List.mem_cons.mp h with q | q
    · rw [q]; exact .inr np
    · exact .inl q
  · rcases List.mem_cons.mp h with q | q
    · rw [q]; exact .inr np
    · exact .inl q
  · -- the slot
    refine ⟨by rw [List.length_set, List.length_set]; exact E1.len, fun a h => ?_, E1.dom, E1.m0, fun j s hj => ?_, fun j k s s' l' n h1 h2 l1 l2 s1 s2 => ?_⟩
    · rcases List.mem_cons.mp h with q | q
      · rw [q]; exact List.mem_cons_self ..
      · exact E1.sub a q
    · rcases get_set_some hj with ⟨rfl, rfl, hl⟩ | ⟨n, hj'⟩
      · exact ⟨p, [], get_set_eq (by rw [E1.len]; exact hl), List.mem_cons_self .., fun c => hpM (Ev.m0 _ c), upd_same, .nil⟩
      · rw [get_set_ne n]
        have z := E1.slot j s hj'
        cases s with
        | un => trivial
        | dat d => exact z
        | scr d => exact z
        | own ds => obtain ⟨l, xs, h1, h2, h3⟩ := z; exact ⟨l, xs, h1, List.mem_cons_of_mem _ h2, h3⟩
        | bor l ds => obtain ⟨xs, h1, h2, h3⟩ := z; exact ⟨xs, h1, List.mem_cons_of_mem _ h2, h3⟩
    · have old : ∀ (j : Nat) (s : SV), ρ[j]? = some s → s.isL = true → σ[j]? = some (some (.ref p)) → False := fun j s hj hs e => by
        have z := Ev.slot j s hj
        cases s with
        | un => cases hs
        | dat d => cases hs
        | scr d => cases hs
        | own ds =>
          obtain ⟨l2, xs, h1, h2, _⟩ := z
          rw [h1] at e
          injection e with e; injection e with e; injection e with e
          exact hpM (e ▸ Ev.sub _ h2)
        | bor l2 ds =>
          obtain ⟨xs, h1, h2, _⟩ := z
          rw [h1] at e
          injection e with e; injection e with e; injection e with e
          exact hpM (e ▸ Ev.sub _ h2)
      rcases get_set_some h1 with ⟨rfl, rfl, hl1⟩ | ⟨n1, h1'⟩
      · rw [get_set_eq (by rw [Ev.len]; exact hl1)] at s1
        injection s1 with s1; injection s1 with s1; injection s1 with s1
        rcases get_set_some h2 with ⟨rfl, rfl, _⟩ | ⟨n2, h2'⟩
        · exact n rfl
        · rw [get_set_ne n2] at s2
          rw [← s1] at s2
          exact old k s' h2' l2 s2
      · rw [get_set_ne n1] at s1
        rcases get_set_some h2 with ⟨rfl, rfl, hl2⟩ | ⟨n2, h2'⟩
        · rw [get_set_eq (by rw [Ev.len]; exact hl2)] at s2
          injection s2 with s2; injection s2 with s2; injection s2 with s2
          rw [← s2] at s1
          exact old j s h1' l1 s1
        · rw [get_set_ne n2] at s2
          exact Ev.sep j k s s' l' n h1' h2' l1 l2 s1 s2
theorem put_or {ρ : Env} {j : Nat} {l : Addr} {ds : List PyData} (h : (∃ es, ρ.at j = .own es) ∨ ∃ es, ρ.at j = .bor l es) : (∃ es, ρ.at j = .own es ∧ (ρ.at j).put ds = .own ds) ∨ ∃ es, ρ.at j = .bor l es ∧ (ρ.at j).put ds = .bor l ds := by
  rcases h with ⟨es, h⟩ | ⟨es, h⟩
  · exact .inl ⟨es, h, by rw [h]; rfl⟩
  · exact .inr ⟨es, h, by rw [h]; rfl⟩
theorem ext_at {M B : List Addr} {H : Hp} {l : Addr} {o : HO} (hl : l ∈ B) : Ext M B H M B (upd H l o) :=
  ⟨fun _ h => h, fun _ h => .inl h, fun _ h => h, fun _ h => .inl h, fun a o nb e => by rw [upd_ne (fun q => nb (by rw [q]; exact hl))]; exact e, fun a e => by
    by_cases c : a = l
    · rw [c, upd_same] at e; cases e
    · rw [upd_ne c] at e; exact e⟩
/-- x.append(e) -/
def wApp (j : Nat) (we : WE) : WS := fun E ρ => (∃ ds0, (ρ.at j).items = some ds0) ∧ we ρ fun ρ1 d => ∃ ds, (ρ1.at j).items = some ds ∧ ds.length < sizeLine ∧ E.nx (ρ1.set j ((ρ1.at j).put (ds ++ [d])))
theorem ds_app (j : Nat) {o : Expr} {apos cpos : Pos} (h : DE (one Y) K e we) (hv : PE Y o (tVar j) := by exact pv _) (hK : Y.K = K := by rfl) (he : starEach (e :: []) Y.env = (false, eval e Y.env) :: starEach [] Y.env := by rfl)
    (hp : ∀ t, PE Y o (tVar j) → PA Y [e] t → PS Y (.Expr (.Call (.Attribute o "append" apos) [e] [] cpos) pos) (tDrop (tBM Y.K "list" rAppend (tVar j) t)) := by intro t h1 h2; exact ps_expr (pe_bm PySem.F.plainAttrs_list PySem.F.slot_list_append PySem.F.type_list_append mt_append h1 h2)) :
    DS Y K (.Expr (.Call (.Attribute o "append" apos) [e] [] cpos) pos) (wApp j we) := by
  obtain ⟨t, a1, a2⟩ := h
  refine ⟨_, hp _ hv (pa_cons (a1 ()) pa_nil he), fun M0 M B σ H ρ E D Ev h F => ?_⟩
  obtain ⟨⟨ds0, h0⟩, h⟩ := h
  obtain ⟨l0, xs0, _, _, hl0, _, h40, _⟩ := Ev.lst h0
  refine ⟨_, hl0, .inl ⟨rfl, xs0, SqL.of h40⟩, ?_⟩
  refine a2 M0 M B σ H ρ _ _ Ev h fun ρ1 d v H1 w1 x1 E1 r1 => ?_
  obtain ⟨ds, h1, hz, w1⟩ := w1
  obtain ⟨l, xs, hs, hL, hl, hlB, h4, h5, h6⟩ := E1.lst h1
  rw [hl0] at hl
  injection hl with hl; injection hl with hl; injection hl with hl
  subst hl
  refine ⟨l0, xs, v, rfl, rfl, h4, by rw [DtAll.len h5]; exact hz, ?_⟩
  refine F.nx _ M B σ _ w1 (x1.trans (ext_at hlB)) (E1.put hs hL hl0 upd_same (by rw [rm_upd (E1.sub _ hlB)]; exact DtAll.app h5 (.cons r1 .nil)) (fun a o n e => by rw [upd_ne n]; exact e) (put_or h6))
/-- x[k] = e -/
def wPut (j : Nat) (we wk : WE) : WS := fun E ρ => we ρ fun ρ1 d => (∃ ds0, (ρ1.at j).items = some ds0) ∧ wk ρ1 fun ρ2 k => ∃ ds, (ρ2.at j).items = some ds ∧ ∃ n, k = .int n ∧ ∃ m, ixN ds.length n = some m ∧ E.nx (ρ2.set j ((ρ2.at j).put (ds.set m d)))
theorem ds_put (j : Nat) {o k : Expr} {wk : WE} {tp : Pos} (h : DE (one Y) K e we) (hk : DE (one Y) K k wk) (hv : PE Y o (tVar j) := by exact pv _)
    (hp : ∀ t u, PE Y e t → PE Y o (tVar j) → PE Y k u → PS Y (.Assign [.Subscript o k tp] e pos) (tAsg t (gSub (tVar j) u rSetL)) := by intro t u h1 h2 h3; exact ps_asg h1 (pg_sub h2 h3 set_list)) : DS Y K (.Assign [.Subscript o k tp] e pos) (wPut j we wk) := by
  obtain ⟨t, a1, a2⟩ := h
  obtain ⟨u, b1, b2⟩ := hk
  refine ⟨_, hp t u (a1 ()) hv (b1 ()), fun M0 M B σ H ρ E D Ev h F => ?_⟩
  refine a2 M0 M B σ H ρ _ _ Ev h fun ρ1 d v H1 w1 x1 E1 r1 => ?_
  obtain ⟨⟨ds0, h0⟩, w1⟩ := w1
  obtain ⟨l0, xs0, _, _, hl0, _⟩ := E1.lst h0
  refine ⟨_, hl0, ?_⟩
  refine b2 M0 M B σ H1 ρ1 _ _ E1 w1 fun ρ2 d2 v2 H2 w2 x2 E2 r2 => ?_
  obtain ⟨ds, h1, n, rfl, m, hm, w2⟩ := w2
  obtain ⟨l, xs, hs, hL, hl, hlB, h4, h5, h6⟩ := E2.lst h1
  rw [hl0] at hl
  injection hl with hl; injection hl with hl; injection hl with hl
  subst hl
  rw [Dt.isInt r2]
  refine ⟨l0, xs, n, m, rfl, rfl, h4, by rw [DtAll.len h5]; exact hm, ?_⟩
  refine F.nx _ M B σ _ w2 ((x1.trans x2).trans (ext_at hlB)) (E2.put hs hL hl0 upd_same (by rw [rm_upd (E2.sub _ hlB)]; exact DtAll.setAt (E1.up x2 r1) m h5) (fun a o n e => by rw [upd_ne n]; exact e) (put_or h6))
/-! ### targets -/
abbrev WG := PyData → Env → (Env → Prop) → Prop
def DG (Y : Cx) (K : Fr) (tg : Expr) (w : WG) : Prop := ∃ g : TG, PG Y tg g ∧ ∀ (M0 M B : List Addr) (σ : L2.St) (H : Hp) (ρ : Env) (d : PyData) (v : V) (P : Env → Prop) (Q : L2.St → Hp → Prop), EnvOk K M0 M B H σ ρ → Dt K (rm M H) v d → w d ρ P → (∀ ρ' σ', P ρ' → EnvOk K M0 M B H σ' ρ' → Q σ' H) → g v σ H Q
def gN (i : Nat) : WG := fun d ρ P => P (ρ.set i (.dat d))
theorem dg_name (i : Nat) {x : Str} {px : Pos} (nd : Y.N.Nodup) (hp : Y.N.Nodup → PG Y (.Name x px) (gName i) := by intro nd; exact pg_name nd rfl (by first | exact Or.inl rfl | exact Or.inr rfl)) : DG Y K (.Name x px) (gN i) :=
  ⟨gName i, hp nd, fun M0 M B σ H ρ d v P Q E r p k => k _ _ p (E.set i r)⟩
def DGs (Y : Cx) (K : Fr) (tg : List Expr) (w : List PyData → Env → (Env → Prop) → Prop) : Prop := ∃ g : TGs, PGs Y tg g ∧ ∀ (M0 M B : List Addr) (σ : L2.St) (H : Hp) (ρ : Env) (ds : List PyData) (vs : List V) (P : Env → Prop) (Q : L2.St → Hp → Prop), EnvOk K M0 M B H σ ρ → DtAll K (rm M H) vs ds → w ds ρ P → (∀ ρ' σ', P ρ' → EnvOk K M0 M B H σ' ρ' → Q σ' H) → g vs σ H Q
def gNil' : List PyData → Env → (Env → Prop) → Prop := fun ds ρ P => ds = [] ∧ P ρ
def gCons' (w : WG) (u : List PyData → Env → (Env → Prop) → Prop) : List PyData → Env → (Env → Prop) → Prop := fun ds ρ P => ∃ d r, ds = d :: r ∧ w d ρ fun ρ1 => u r ρ1 P
theorem dgs_nil : DGs Y K [] gNil' := ⟨gNil, pgs_nil, fun M0 M B σ H ρ ds vs P Q E r p k => by
  obtain ⟨rfl, p⟩ := p
  cases r
  exact ⟨rfl, k _ _ p E⟩⟩
theorem dgs_cons {w : WG} {u : List PyData → Env → (Env → Prop) → Prop} (h1 : DG Y K e w) (h2 : DGs Y K es u) (hs : (assignEach (e :: es) Y.env).map (·.2) = assign e Y.env :: (assignEach es Y.env).map (·.2) := by rfl) : DGs Y K (e :: es) (gCons' w u) := by
  obtain ⟨g, a1, a2⟩ := h1
  obtain ⟨gs, b1, b2⟩ := h2
  refine ⟨gCons g gs, pgs_cons a1 b1 hs, fun M0 M B σ H ρ ds vs P Q E r p k => ?_⟩
  obtain ⟨d, rr, rfl, p⟩ := p
  cases r with
  | cons r1 r2 => exact ⟨_, _, rfl, a2 M0 M B σ H ρ _ _ _ _ E r1 p fun ρ1 σ1 p1 E1 => b2 M0 M B σ1 H ρ1 _ _ _ _ E1 r2 p1 k⟩
def gT (n : Nat) (u : List PyData → Env → (Env → Prop) → Prop) : WG := fun d ρ P => ∃ ds, d = .tuple ds ∧ ds.length = n ∧ u ds ρ P
theorem dg_tup {n c : Nat} {u : List PyData → Env → (Env → Prop) → Prop} (h : DGs Y K es u) (hK : Y.K = K := by rfl) (hc : Y.calm = true := by rfl) (hn : (assignEach es Y.env).length = n := by rfl) (hst : (assignEach es Y.env).findIdx? (·.1) = none := by rfl) : DG Y K (.Tuple es c pos) (gT n u) := by
  obtain ⟨g, a1, a2⟩ := h
  refine ⟨gTup K n g, by rw [← hK]; exact pg_tup hc a1 hn hst, fun M0 M B σ H ρ d v P Q E r p k => ?_⟩
  obtain ⟨ds, rfl, hl, p⟩ := p
  obtain ⟨a, xs, rfl, h1, h2⟩ := Dt.isTup r
  exact ⟨a, xs, rfl, same_t rm_le h1, by rw [DtAll.len h2]; exact hl, a2 M0 M B σ H ρ _ _ _ _ E h2 p k⟩
/-- target = e -/
def wAsg (we : WE) (wg : WG) : WS := fun E ρ => we ρ fun ρ1 d => wg d ρ1 E.nx
theorem ds_asg {wg : WG} (h : DE (one Y) K e we) (hg : DG Y K tg wg) (hp : ∀ t g, PE Y e t → PG Y tg g → PS Y (.Assign [tg] e pos) (tAsg t g) := by intro t g h1 h2; exact ps_asg h1 h2) : DS Y K (.Assign [tg] e pos) (wAsg we wg) := by
  obtain ⟨t, a1, a2⟩ := h
  obtain ⟨g, b1, b2⟩ := hg
  refine ⟨tAsg t g, hp t g (a1 ()) b1, fun M0 M B σ H ρ E D Ev h F => ?_⟩
  refine a2 M0 M B σ H ρ _ _ Ev h fun ρ1 d v H1 w1 x1 E1 r1 => ?_
  exact b2 M0 M B σ H1 ρ1 d v _ _ E1 r1 w1 fun ρ2 σ2 p2 E2 => F.nx ρ2 M B σ2 H1 p2 x1 E2
/-- a, b = e1, e2 -/
def wPar (i j : Nat) (wa : WA) : WS := fun E ρ => wa ρ fun ρ1 ds => ∃ x y, ds = [x, y] ∧ E.nx ((ρ1.set i (.dat x)).set j (.dat y))
theorem ds_par (i j : Nat) {x y : Str} {px py pt pt2 : Pos} {kt k2 : Nat} {w : WA} (nd : Y.N.Nodup) (h : DA (one Y) K [a, b] w)
    (hp : Y.N.Nodup → ∀ t, PA Y [a, b] t → PS Y (.Assign [.Tuple [.Name x px, .Name y py] kt pt] (.Tuple [a, b] k2 pt2) pos) (tPar i j t) := by intro nd t h; exact ps_par (by rfl) nd rfl rfl (by decide) rfl rfl h (by rfl)) :
    DS Y K (.Assign [.Tuple [.Name x px, .Name y py] kt pt] (.Tuple [a, b] k2 pt2) pos) (wPar i j w) := by
  obtain ⟨t, a1, a2⟩ := h
  refine ⟨tPar i j t, hp nd t (a1 ()), fun M0 M B σ H ρ E D Ev h F => ?_⟩
  refine a2 M0 M B σ H ρ _ _ Ev h fun ρ1 ds vs H1 w1 x1 E1 r1 => ?_
  obtain ⟨x, y, rfl, w1⟩ := w1
  cases r1 with
  | cons q1 q2 =>
    cases q2 with
    | cons q2 q3 =>
      cases q3
      exact ⟨_, _, rfl, F.nx _ M B _ H1 w1 x1 ((E1.set i q1).set j q2)⟩
/-- x += e -/
def wAug (i : Nat) (f : F2) (we : WE) : WS := fun E ρ => ∃ x, ρ.at i = .dat x ∧ we ρ fun ρ1 y => f x y fun z => E.nx (ρ1.set i (.dat z))
theorem ds_augI (i : Nat) {x : Str} {px : Pos} (nd : Y.N.Nodup) (h : DE (one Y) K e we) (hp : Y.N.Nodup → ∀ t, PE Y e t → PS Y (.AugAssign (.Name x px) .Add e pos) (tAug i t (ipI fun i j => i + j)) := by intro nd t h; exact ps_aug nd rfl (by first | exact Or.inl rfl | exact Or.inr rfl) h ip_add) : DS Y K (.AugAssign (.Name x px) .Add e pos) (wAug i (fI0 fun i j => .int (i + j)) we) := by
  obtain ⟨t, a1, a2⟩ := h
  refine ⟨_, hp nd t (a1 ()), fun M0 M B σ H ρ E D Ev h F => ?_⟩
  obtain ⟨x, hx, h⟩ := h
  obtain ⟨v, h2, r⟩ := Ev.slot i _ (Env.at_get hx (by intro z; cases z))
  refine ⟨v, h2, a2 M0 M B σ H ρ _ _ Ev h fun ρ1 d u H1 w1 x1 E1 r1 => ?_⟩
  cases x with
  | int n =>
    cases d with
    | int m =>
      rw [Dt.isInt r, Dt.isInt r1]
      exact ⟨n, m, rfl, rfl, F.nx _ M B _ H1 w1 x1 (E1.set i (.int _))⟩
    | _ => exact w1.elim
  | _ => exact w1.elim
/-! ### loops -/
def forD (wg : WG) (w : WS) (E : DEnds) : List PyData → Env → Prop
  | [], ρ => E.nx ρ
  | d :: ds, ρ => wg d ρ fun ρ1 => w { nx := forD wg w E ds, ct := forD wg w E ds, bk := E.nx, rt := E.rt } ρ1
def wFor (wi : WI) (wg : WG) (w : WS) : WS := fun E ρ => wi ρ fun ρ1 items => forD wg w E items ρ1
theorem ds_for {iter : Expr} {body : List Stmt} {wi : WI} {wg : WG} (hi : DI (one Y) K tg iter wi) (hg : DG Y K tg wg) (hb : DSs Y K body w)
    (hp : ∀ ti g tb, PI Y tg iter ti → PG Y tg g → PSs Y body tb → PS Y (.For tg iter body [] pos) (tFor ti g tb) := by intro ti g tb h1 h2 h3; exact ps_for PassesOwn.never rfl h1 h2 h3) : DS Y K (.For tg iter body [] pos) (wFor wi wg w) := by
  obtain ⟨ti, i1, i2⟩ := hi
  obtain ⟨g, g1, g2⟩ := hg
  obtain ⟨tb, b1, b2⟩ := hb
  refine ⟨tFor ti g tb, hp ti g tb (i1 ()) g1 b1, fun M0 M B σ H ρ E D Ev h F => ?_⟩
  refine i2 M0 M B σ H ρ _ _ Ev h fun ρ1 items J H1 w1 x1 E1 it => ?_
  have F1 := F.go x1
  refine ⟨fun n m σ2 H2 => m = items.length - n ∧ ∃ (ρ2 : Env) (M2 B2 : List Addr), n ≤ items.length ∧ forD wg w E (items.drop n) ρ2 ∧ Ext M B H1 M2 B2 H2 ∧ EnvOk K M0 M2 B2 H2 σ2 ρ2, ⟨_, rfl, ρ1, M, B, Nat.zero_le _, w1, Ext.refl .., E1⟩, ?_⟩
  rintro n m σ2 H2 ⟨rfl, ρ2, M2, B2, hn, w2, x2, E2⟩
  obtain ⟨hgo, hst⟩ := it M2 H2 (x2.rm E1.sub) E2.dom
  by_cases hlt : n < items.length
  · right
    have hnd : items[n]? = some items[n] := List.getElem?_eq_getElem hlt
    obtain ⟨q1, q2⟩ := hgo n _ hnd
    rw [List.drop_eq_getElem_cons hlt] at w2
    refine ⟨q1, fun σ' H' => ∃ (ρ3 : Env) (M3 B3 : List Addr), forD wg w E (items.drop (n + 1)) ρ3 ∧ Ext M B H1 M3 B3 H' ∧ EnvOk K M0 M3 B3 H' σ' ρ3, fun σ' H' ⟨ρ3, M3, B3, p1, p2, p3⟩ => ⟨items.length - (n + 1), by omega, rfl, ρ3, M3, B3, hlt, p1, p2, p3⟩, fun x H3 hy => ?_⟩
    obtain ⟨s3, rx⟩ := q2 x H3 hy
    refine g2 M0 M2 B2 σ2 H3 ρ2 _ _ _ _ (E2.same s3) rx w2 fun ρ3 σ3 w3 E3 => ?_
    have x3 : Ext M B H1 M2 B2 H3 := x2.trans (Ext.same s3)
    exact b2 M0 M2 B2 σ3 H3 ρ3 _ _ E3 w3 ⟨fun ρ' M' B' σ' H' p x E' => ⟨ρ', M', B', p, x3.trans x, E'⟩, fun ρ' M' B' σ' H' p x E' => F1.nx ρ' M' B' σ' H' p (x3.trans x) E',
      fun ρ' M' B' σ' H' p x E' => ⟨ρ', M', B', p, x3.trans x, E'⟩, fun ρ' d v M' B' σ' H' p x E' r => F1.rt ρ' d v M' B' σ' H' p (x3.trans x) E' r⟩
  · left
    have en : n = items.length := by omega
    rw [en] at w2 ⊢
    rw [List.drop_length] at w2
    exact ⟨hst, F1.nx ρ2 M2 B2 σ2 H2 w2 x2 E2⟩
def wWhile (t : WT) (w : WS) : WS := fun E ρ => ∃ I : Nat → Env → Prop, (∃ m, I m ρ) ∧ ∀ m ρ, I m ρ → t ρ fun ρ1 c => (c = true → w { nx := fun ρ' => ∃ m', m' < m ∧ I m' ρ', ct := fun ρ' => ∃ m', m' < m ∧ I m' ρ', bk := E.nx, rt := E.rt } ρ1) ∧ (c = false → E.nx ρ1)
theorem ds_while {c : Expr} {body : List Stmt} {t : WT} (hc : DT (one Y) K c t) (hb : DSs Y K body w) (hp : ∀ tc tb, PT Y c tc → PSs Y body tb → PS Y (.While c body [] pos) (tWhile tc tb) := by intro tc tb h1 h2; exact ps_while PassesOwn.never h1 h2) : DS Y K (.While c body [] pos) (wWhile t w) := by
  obtain ⟨tc, c1, c2⟩ := hc
  obtain ⟨tb, b1, b2⟩ := hb
  refine ⟨tWhile tc tb, hp tc tb (c1 ()) b1, fun M0 M B σ H ρ E D Ev h F => ?_⟩
  obtain ⟨I, ⟨m0, i0⟩, turn⟩ := h
  refine ⟨fun m σ' H' => ∃ (ρ' : Env) (M' B' : List Addr), I m ρ' ∧ Ext M B H M' B' H' ∧ EnvOk K M0 M' B' H' σ' ρ', ⟨m0, ρ, M, B, i0, Ext.refl .., Ev⟩, ?_⟩
  rintro m σ1 H1 ⟨ρ1, M1, B1, i1, x1, E1⟩
  refine c2 M0 M1 B1 σ1 H1 ρ1 _ _ E1 (turn m ρ1 i1) fun ρ2 c H2 w2 x2 E2 => ite_of (fun e => ?_) (fun e => ?_)
  · refine ⟨fun σ' H' => ∃ m', m' < m ∧ ∃ (ρ' : Env) (M' B' : List Addr), I m' ρ' ∧ Ext M B H M' B' H' ∧ EnvOk K M0 M' B' H' σ' ρ', fun _ _ h => h, ?_⟩
    have x3 := x1.trans x2
    exact b2 M0 M1 B1 σ1 H2 ρ2 _ _ E2 (w2.1 e) ⟨fun ρ' M' B' σ' H' ⟨m', lt, p⟩ x E' => ⟨m', lt, ρ', M', B', p, x3.trans x, E'⟩, fun ρ' M' B' σ' H' p x E' => F.nx ρ' M' B' σ' H' p (x3.trans x) E',
      fun ρ' M' B' σ' H' ⟨m', lt, p⟩ x E' => ⟨m', lt, ρ', M', B', p, x3.trans x, E'⟩, fun ρ' d v M' B' σ' H' p x E' r => F.rt ρ' d v M' B' σ' H' p (x3.trans x) E' r⟩
  · exact F.nx ρ2 M1 B1 σ1 H2 (w2.2 e) (x1.trans x2) E2
end
/-! ### a def keeps its promise -/
section
variable {P : Program} {w : World} {mg : Str → Option Value} {base : Heap}
def startE (N : List Str) (ds : List PyData) : Env := ds.map .dat ++ List.replicate (N.length - ds.length) .un
theorem start_ok {N : List Str} {M : List Addr} {H : Hp} {vs : List V} {ds : List PyData} (dom : ∀ a, a ∈ M → H a ≠ none) (r : DtAll K (rm M H) vs ds) : EnvOk K M M [] H (L2.start N vs) (startE N ds) where
  len := by unfold L2.start startE; simp [DtAll.len r]
  sub := fun a h => by cases h
  dom := dom
  m0 := fun _ h => h
  slot := fun i s h => by
    unfold startE at h
    unfold L2.start
    by_cases c : i < ds.length
    · rw [List.getElem?_append_left (by simpa using c), List.getElem?_map] at h
      cases hd : ds[i]? with
      | none => rw [hd] at h; cases h
      | some d =>
        rw [hd] at h
        have e : s = .dat d := (Option.some.inj h).symm
        subst e
        obtain ⟨v, h1, h2⟩ := DtAll.getd r hd
        exact ⟨v, by rw [List.getElem?_append_left (by rw [List.length_map, DtAll.len r]; exact c), List.getElem?_map, h1]; rfl, h2⟩
    · rw [List.getElem?_append_right (by simpa using Nat.le_of_not_lt c), List.getElem?_replicate] at h
      split at h
      · have e : s = .un := (Option.some.inj h).symm
        subst e; trivial
      · cases h
  sep := fun i j s s' l n h1 h2 l1 l2 s1 s2 => by
    have z : ∀ (i : Nat) (s : SV), (startE N ds)[i]? = some s → s.isL = true → False := fun i s h hl => by
      unfold startE at h
      have m := List.mem_of_getElem? h
      rcases List.mem_append.mp m with m | m
      · obtain ⟨d, _, rfl⟩ := List.mem_map.mp m
        cases hl
      · have e := List.eq_of_mem_replicate m
        subst e
        cases hl
    exact z i s h1 l1
theorem fn_pure {x qual : Str} {st : Stmt} {f : Addr} {fd : FuncData} {N ps : List Str} {k : Nat} {S : SpD} {wb : WS} (F : Fun K x qual st f fd) (sc : FnScope N ps (defScope st)) (len : ∀ ds P, S ds P → ds.length = ps.length)
    (hb : ∀ (cdv : Value) (A : Around) (outer : List PySem.Env) (s : Shared) (H : Hp) (E : XK), Room k (A.deeper (envOfC qual (defScope st) s.heap.objs.size f cdv)) → DSs (cxOf CX0 P w K mg base N qual (defScope st) f cdv A outer s H E).nox K (defBody st) wb)
    (hw : ∀ ds Q, S ds Q → wb { nx := fun _ => Q .none, rt := fun _ d => Q d } (startE N ds)) : FnOk P w K mg base CX0 (k + 1) f fd ps (spP K S) := by
  refine F.ok sc (fun vs H Q E h => ?_) (fun cdv A outer s H vs Q E hr h => ?_)
  · obtain ⟨M, ds, P', _, r, hs, _⟩ := h
    rw [DtAll.len r]
    exact len _ _ hs
  · obtain ⟨M, ds, P', dom, r, hs, q⟩ := h
    obtain ⟨t, a1, a2⟩ := hb cdv A outer s H E hr
    refine ⟨t, a1, a2 M M [] _ H _ _ _ (start_ok dom r) (hw ds P' hs) ⟨fun ρ' M' B' σ' H' p x E' => ?_, fun _ _ _ _ _ p => p.elim, fun _ _ _ _ _ p => p.elim, fun ρ' d v M' B' σ' H' p x E' r' => ?_⟩⟩
    · exact q _ _ H' p (fun a o e => x.keep a o (by simp) e) .non
    · exact q d v H' p (fun a o e => x.keep a o (by simp) e) r'
def startW (l : Addr) (N : List Str) (ws ds : List PyData) : Env := .bor l ws :: ds.map .dat ++ List.replicate (N.length - (ds.length + 1)) .un
theorem startW_ok {N : List Str} {M : List Addr} {H : Hp} {l : Addr} {xs us : List V} {ws ds : List PyData} (dom : ∀ a, a ∈ M → H a ≠ none) (hl : l ∈ M) (h : H l = some (.lst xs)) (r0 : DtAll K (rm M H) xs ws) (r : DtAll K (rm M H) us ds) : EnvOk K M M [l] H (L2.start N (.ref l :: us)) (startW l N ws ds) where
  len := by unfold L2.start startW; simp [DtAll.len r]
  sub := fun a h => by rw [List.mem_singleton.mp h]; exact hl
  dom := dom
  m0 := fun _ h => h
  slot := fun i s hi => by
    unfold startW at hi
    unfold L2.start
    cases i with
    | zero =>
      have e : s = .bor l ws := by simpa using hi.symm
      subst e
      exact ⟨xs, by simp, List.mem_singleton.mpr rfl, hl, h, r0⟩
    | succ i =>
      rw [List.cons_append, List.getElem?_cons_succ] at hi
      rw [List.map_cons, List.cons_append, List.getElem?_cons_succ]
      by_cases c : i < ds.length
      · rw [List.getElem?_append_left (by simpa using c), List.getElem?_map] at hi
        cases hd : ds[i]? with
        | none => rw [hd] at hi; cases hi
        | some d =>
          rw [hd] at hi
          have e : s = .dat d := (Option.some.inj hi).symm
          subst e
          obtain ⟨v, h1, h2⟩ := DtAll.getd r hd
          exact ⟨v, by rw [List.getElem?_append_left (by rw [List.length_map, DtAll.len r]; exact c), List.getElem?_map, h1]; rfl, h2⟩
      · rw [List.getElem?_append_right (by simpa using Nat.le_of_not_lt c), List.getElem?_replicate] at hi
        split at hi
        · have e : s = .un := (Option.some.inj hi).symm
          subst e; trivial
        · cases hi
  sep := fun i j s s' l' n h1 h2 l1 l2 s1 s2 => by
    have z : ∀ (i : Nat) (s : SV), (startW l N ws ds)[i]? = some s → s.isL = true → i = 0 := fun i s h hl => by
      cases i with
      | zero => rfl
      | succ i =>
        unfold startW at h
        rw [List.cons_append, List.getElem?_cons_succ] at h
        have m := List.mem_of_getElem? h
        rcases List.mem_append.mp m with m | m
        · obtain ⟨d, _, rfl⟩ := List.mem_map.mp m
          cases hl
        · have e := List.eq_of_mem_replicate m
          subst e
          cases hl
    exact n ((z i s h1 l1).trans (z j s' h2 l2).symm)
theorem fn_well {x qual : Str} {st : Stmt} {f : Addr} {fd : FuncData} {N ps : List Str} {k : Nat} {S : SpW} {wb : WS} (F : Fun K x qual st f fd) (sc : FnScope N ps (defScope st)) (len : ∀ ws ds P, S ws ds P → ds.length + 1 = ps.length)
    (hb : ∀ (cdv : Value) (A : Around) (outer : List PySem.Env) (s : Shared) (H : Hp) (E : XK), Room k (A.deeper (envOfC qual (defScope st) s.heap.objs.size f cdv)) → DSs (cxOf CX0 P w K mg base N qual (defScope st) f cdv A outer s H E).nox K (defBody st) wb)
    (hw : ∀ l ws ds Q, S ws ds Q → wb { nx := fun ρ => ∃ ws', ρ.at 0 = .bor l ws' ∧ Q ws' .none, rt := fun ρ d => ∃ ws', ρ.at 0 = .bor l ws' ∧ Q ws' d } (startW l N ws ds)) : FnOk P w K mg base CX0 (k + 1) f fd ps (spW K S) := by
  refine F.ok sc (fun vs H Q E h => ?_) (fun cdv A outer s H vs Q E hr h => ?_)
  · obtain ⟨M, l, us, xs, ws, ds, P', rfl, _, _, _, _, r, hs, _⟩ := h
    rw [List.length_cons, DtAll.len r]
    exact len _ _ _ hs
  · obtain ⟨M, l, us, xs, ws, ds, P', rfl, dom, hl, h4, r0, r, hs, q⟩ := h
    obtain ⟨t, a1, a2⟩ := hb cdv A outer s H E hr
    refine ⟨t, a1, a2 M M [l] _ H _ _ _ (startW_ok dom hl h4 r0 r) (hw l ws ds P' hs) ⟨fun ρ' M' B' σ' H' p x E' => ?_, fun _ _ _ _ _ p => p.elim, fun _ _ _ _ _ p => p.elim, fun ρ' d v M' B' σ' H' p x E' r' => ?_⟩⟩
    · obtain ⟨ws', h0, p⟩ := p
      obtain ⟨xs', _, _, _, h7, h8⟩ := E'.slot 0 _ (Env.at_get h0 (by intro z; cases z))
      exact q ws' _ _ H' xs' p (fun a o n e => x.keep a o (fun c => n (List.mem_singleton.mp c)) e) h7 (DtAll.up (rm_sub E'.m0) h8) .non
    · obtain ⟨ws', h0, p⟩ := p
      obtain ⟨xs', _, _, _, h7, h8⟩ := E'.slot 0 _ (Env.at_get h0 (by intro z; cases z))
      exact q ws' d v H' xs' p (fun a o n e => x.keep a o (fun c => n (List.mem_singleton.mp c)) e) h7 (DtAll.up (rm_sub E'.m0) h8) r'
end
end Pm
namespace Pm
open PySem PySem.Spec PyProof.Rows L2
variable {ι : Type} {X : ι → Cx} {K : Fr} {a b c e tg : Expr} {es rest : List Expr} {wa wb wc we : WE} {pos : Pos}
/-! ### further expressions -/
def fNeg : F1
  | .int i, P => P (.int (-i))
  | _, _ => False
theorem de_neg (h : DE X K e we) : DE X K (.UnaryOp .USub e pos) (wU fNeg we) := by
  obtain ⟨t, a1, a2⟩ := h
  refine ⟨tUn (rU fun i => .int (-i)) t, fun i => pe_un un_neg (a1 i), fun M0 M B σ H ρ P Q E w k => ?_⟩
  refine a2 M0 M B σ H ρ _ _ E w fun ρ1 d v H1 w1 x1 E1 r1 => ?_
  cases d with
  | int i => rw [Dt.isInt r1]; exact ⟨i, rfl, k ρ1 _ _ H1 w1 x1 E1 (.int _)⟩
  | _ => exact w1.elim
def wAndV (wa wb : WE) : WE := fun ρ P => wa ρ fun ρ1 d => ∃ c, d = .bool c ∧ (c = true → wb ρ1 P) ∧ (c = false → P ρ1 (.bool false))
def wOrV (wa wb : WE) : WE := fun ρ P => wa ρ fun ρ1 d => ∃ c, d = .bool c ∧ (c = true → P ρ1 (.bool true)) ∧ (c = false → wb ρ1 P)
def wNotV (wa : WE) : WE := fun ρ P => wa ρ fun ρ1 d => ∃ c, d = .bool c ∧ P ρ1 (.bool (!c))
theorem de_one {op : BoolOp} (h : DE X K a wa) : DE X K (.BoolOp op [a] pos) wa := by
  obtain ⟨t, a1, a2⟩ := h
  exact ⟨t, fun i => pe_one (a1 i), a2⟩
theorem de_and (ha : DE X K a wa) (hb : DE X K (.BoolOp .And (b :: rest) pos) wb) : DE X K (.BoolOp .And (a :: b :: rest) pos) (wAndV wa wb) := by
  obtain ⟨t, a1, a2⟩ := ha
  obtain ⟨u, b1, b2⟩ := hb
  refine ⟨tAndV t u, fun i => pe_and (a1 i) (b1 i), fun M0 M B σ H ρ P Q E w k => ?_⟩
  refine a2 M0 M B σ H ρ _ _ E w fun ρ1 d v H1 w1 x1 E1 r1 => ?_
  obtain ⟨c, rfl, w1⟩ := w1
  refine ⟨c, Dt.isBl r1, ite_of (fun e => ?_) (fun e => ?_)⟩
  · exact b2 M0 M B σ H1 ρ1 _ _ E1 (w1.1 e) fun ρ2 d v H2 w2 x2 E2 r2 => k ρ2 d v H2 w2 (x1.trans x2) E2 r2
  · exact k ρ1 _ _ H1 (w1.2 e) x1 E1 (.bl _)
theorem de_or (ha : DE X K a wa) (hb : DE X K (.BoolOp .Or (b :: rest) pos) wb) : DE X K (.BoolOp .Or (a :: b :: rest) pos) (wOrV wa wb) := by
  obtain ⟨t, a1, a2⟩ := ha
  obtain ⟨u, b1, b2⟩ := hb
  refine ⟨tOrV t u, fun i => pe_or (a1 i) (b1 i), fun M0 M B σ H ρ P Q E w k => ?_⟩
  refine a2 M0 M B σ H ρ _ _ E w fun ρ1 d v H1 w1 x1 E1 r1 => ?_
  obtain ⟨c, rfl, w1⟩ := w1
  refine ⟨c, Dt.isBl r1, ite_of (fun e => ?_) (fun e => ?_)⟩
  · exact k ρ1 _ _ H1 (w1.1 e) x1 E1 (.bl _)
  · exact b2 M0 M B σ H1 ρ1 _ _ E1 (w1.2 e) fun ρ2 d v H2 w2 x2 E2 r2 => k ρ2 d v H2 w2 (x1.trans x2) E2 r2
theorem de_not (ha : DE X K a wa) : DE X K (.UnaryOp .Not a pos) (wNotV wa) := by
  obtain ⟨t, a1, a2⟩ := ha
  refine ⟨tNotV t, fun i => pe_not (a1 i), fun M0 M B σ H ρ P Q E w k => ?_⟩
  refine a2 M0 M B σ H ρ _ _ E w fun ρ1 d v H1 w1 x1 E1 r1 => ?_
  obtain ⟨c, rfl, w1⟩ := w1
  exact ⟨c, Dt.isBl r1, k ρ1 _ _ H1 w1 x1 E1 (.bl _)⟩
/-- a < b < c over ints -/
def wChain (f g : F2) (wa wb wc : WE) : WE := fun ρ P => wa ρ fun ρ1 x => wb ρ1 fun ρ2 y => f x y fun z => ∃ k, z = .bool k ∧ (k = true → wc ρ2 fun ρ3 u => g y u fun d => P ρ3 d) ∧ (k = false → P ρ2 (.bool false))
theorem de_chain {op op' : CmpOp} {r r' : R2} {f g : F2} (ho : ∀ i, OpR (X i) (compareOp op) r) (ho' : ∀ i, OpR (X i) (compareOp op') r') (hf : OpD K r f) (hg : OpD K r' g) (ha : DE X K a wa) (hb : DE X K b wb) (hc : DE X K c wc)
    (hm : lastMarks [op, op'] [b, c] = false := by with_unfolding_all rfl) : DE X K (.Compare a [op, op'] [b, c] pos) (wChain f g wa wb wc) := by
  obtain ⟨ta, a1, a2⟩ := ha
  obtain ⟨tb, b1, b2⟩ := hb
  obtain ⟨tc, c1, c2⟩ := hc
  refine ⟨tChain r r' ta tb tc, fun i => pe_chain (ho i) (ho' i) (a1 i) (b1 i) (c1 i) hm, fun M0 M B σ H ρ P Q E w k => ?_⟩
  refine a2 M0 M B σ H ρ _ _ E w fun ρ1 x v H1 w1 x1 E1 r1 => ?_
  refine b2 M0 M B σ H1 ρ1 _ _ E1 w1 fun ρ2 y u H2 w2 x2 E2 r2 => ?_
  refine hf M H2 x y v u _ _ E2.dom (.inl (E1.up x2 r1)) (.inl r2) w2 fun d z H3 w3 e3 r3 => ?_
  obtain ⟨kk, rfl, w3⟩ := w3
  refine ⟨kk, Dt.isBl r3, ite_of (fun e => ?_) (fun e => ?_)⟩
  · refine c2 M0 M B σ H3 ρ2 _ _ (E2.same e3) (w3.1 e) fun ρ3 u2 v2 H4 w4 x4 E4 r4 => ?_
    refine hg M H4 y u2 u v2 _ _ E4.dom (.inl (E2.up ((Ext.same e3).trans x4) r2)) (.inl r4) w4 fun d z H5 p e5 r5 => ?_
    exact k ρ3 d z H5 p ((((x1.trans x2).trans (Ext.same e3)).trans x4).trans (Ext.same e5)) (E4.same e5) r5
  · exact k ρ2 _ _ H3 (w3.2 e) ((x1.trans x2).trans (Ext.same e3)) (E2.same e3) (.bl _)
/-! ### the script -/
def wSlS (j : Nat) (wl wh : WO) : WE := fun ρ P => ∃ ns, ρ.at j = .scr ns ∧ wl ρ fun ρ2 lo => wh ρ2 fun ρ3 hi => P ρ3 (.list ((cutD ns lo hi).map .int))
theorem dt_ints {H : Hp} : ∀ {ns : List Int}, DtAll K H (ns.map V.int) (ns.map .int)
  | [] => .nil
  | n :: ns => .cons (.int n) dt_ints
theorem cutV_ints (ns : List Int) (lo hi : Option Int) : cutV (ns.map V.int) lo hi = (cutD ns lo hi).map V.int := by
  unfold cutV cutD
  rw [List.length_map, List.map_take, List.map_drop]
theorem de_sls (j : Nat) {wl wh : WO} {lo hi : Option Expr} {p2 : Pos} (hl : DO X K lo wl) (hh : DO X K hi wh) (h : ∀ i, PE (X i) a (tVar j) := by intro i; exact pv _) (hK : ∀ i, (X i).K = K := by intro i; rfl) : DE X K (.Subscript a (.Slice lo hi none p2) pos) (wSlS j wl wh) := by
  obtain ⟨tl, l1, l2⟩ := hl
  obtain ⟨th, h1, h2⟩ := hh
  refine ⟨tSl (rSlAny K) (tVar j) tl th, fun i => by rw [← hK i]; exact pe_slice sl_any (h i) (l1 i) (h1 i), fun M0 M B σ H ρ P Q E w k => ?_⟩
  obtain ⟨ns, h0, w⟩ := w
  obtain ⟨p, hp, hs⟩ := E.slot j _ (Env.at_get h0 (by intro z; cases z))
  refine ⟨_, hp, ?_⟩
  refine l2 M0 M B σ H ρ _ _ E w fun ρ2 lo H2 w2 x2 E2 => ?_
  refine h2 M0 M B σ H2 ρ2 _ _ E2 w2 fun ρ3 hi H3 w3 x3 E3 => ?_
  refine .inr (.inl ⟨p, _, rfl, same_l rm_le (same_l ((x2.trans x3).rm E.sub) hs), fun q nq => ?_⟩)
  rw [cutV_ints]
  exact k ρ3 _ _ _ w3 ((x2.trans x3).trans (Ext.same (same_new nq))) (E3.same (same_new nq)) (E3.newl nq dt_ints)
/-- the def that the law is -/
def spLaw (K : Fr) : Sp := fun vs H Q _ => ∃ (a : Addr) (ns : List Int), vs = [.ref a] ∧ ns.length ≤ 63 ∧ SqL K H a (ns.map V.int) ∧ ∀ H', Q (.bl true) H'
def startS (N : List Str) (ns : List Int) : Env := .scr ns :: List.replicate (N.length - 1) .un
theorem startS_ok {N : List Str} {H : Hp} {a : Addr} {ns : List Int} (h : SqL K H a (ns.map V.int)) : EnvOk K [] [] [] H (L2.start N [.ref a]) (startS N ns) where
  len := by unfold L2.start startS; simp
  sub := fun a h => by cases h
  dom := fun a h => by cases h
  m0 := fun _ h => h
  slot := fun i s hi => by
    unfold startS at hi
    unfold L2.start
    cases i with
    | zero =>
      have e : s = .scr ns := by simpa using hi.symm
      subst e
      exact ⟨a, by simp, by rw [rm_nil]; exact h⟩
    | succ i =>
      rw [List.getElem?_cons_succ, List.getElem?_replicate] at hi
      split at hi
      · have e : s = .un := (Option.some.inj hi).symm
        subst e; trivial
      · cases hi
  sep := fun i j s s' l' n h1 h2 l1 l2 s1 s2 => by
    have z : ∀ (i : Nat) (s : SV), (startS N ns)[i]? = some s → s.isL = true → False := fun i s h hl => by
      unfold startS at h
      have m := List.mem_of_getElem? h
      rcases List.mem_cons.mp m with m | m
      · subst m; cases hl
      · have e := List.eq_of_mem_replicate m
        subst e
        cases hl
    exact z i s h1 l1
section
variable {P : Program} {w : World} {mg : Str → Option Value} {base : Heap}
theorem fn_law {x qual : Str} {st : Stmt} {f : Addr} {fd : FuncData} {N : List Str} {p : Str} {k : Nat} {wb : WS} (F : Fun K x qual st f fd) (sc : FnScope N [p] (defScope st))
    (hb : ∀ (cdv : Value) (A : Around) (outer : List PySem.Env) (s : Shared) (H : Hp) (E : XK), Room k (A.deeper (envOfC qual (defScope st) s.heap.objs.size f cdv)) → DSs (cxOf CX0 P w K mg base N qual (defScope st) f cdv A outer s H E).nox K (defBody st) wb)
    (hw : ∀ ns : List Int, ns.length ≤ 63 → wb { nx := fun _ => False, rt := fun _ d => d = .bool true } (startS N ns)) : FnOk P w K mg base CX0 (k + 1) f fd [p] (spLaw K) := by
  refine F.ok sc (fun vs H Q E h => ?_) (fun cdv A outer s H vs Q E hr h => ?_)
  · obtain ⟨a, ns, rfl, _⟩ := h
    rfl
  · obtain ⟨a, ns, rfl, hl, hs, q⟩ := h
    obtain ⟨t, a1, a2⟩ := hb cdv A outer s H E hr
    refine ⟨t, a1, a2 [] [] [] _ H _ _ _ (startS_ok hs) (hw ns hl) ⟨fun _ _ _ _ _ p => p.elim, fun _ _ _ _ _ p => p.elim, fun _ _ _ _ _ p => p.elim, fun ρ' d v M' B' σ' H' p x E' r' => ?_⟩⟩
    subst p
    rw [Dt.isBl r']
    exact q H'
/-- a def of the module with its promise, by its name -/
def Has (P : Program) (w : World) (K : Fr) (mg : Str → Option Value) (base : Heap) (k : Nat) (x : Str) (sp : Sp) : Prop := ∃ (f : Addr) (fd : FuncData) (ps : List Str), FnOk P w K mg base CX0 k f fd ps sp ∧ mg x = some (.ref f) ∧ PySem.W.keepIn K (.ref f) = true ∧ Binds K fd ps []
theorem callOk {Y : Cx} {k j : Nat} {x : Str} {sp : Sp} (h : Has Y.prog Y.w Y.K Y.mg Y.base k x sp) (hr : Room j Y.A) (le : k ≤ j) : CallOk Y x sp := by
  obtain ⟨f, fd, ps, h1, h2, h3, h4⟩ := h
  exact ⟨k, f, fd, ps, h1, hr.mono le, h2, h3, h4⟩
/-- a def as the top left it -/
structure Def (K : Fr) (mg : Str → Option Value) (x : Str) (st : Stmt) (ps : List Str) : Prop where
  ex : ∃ (f : Addr) (fd : FuncData), mg x = some (.ref f) ∧ PySem.W.keepIn K (.ref f) = true ∧ Fun K x x st f fd ∧ Binds K fd ps []
theorem Def.has {x : Str} {st : Stmt} {ps : List Str} {k : Nat} {sp : Sp} (D : Def K mg x st ps) (h : ∀ (f : Addr) (fd : FuncData), Fun K x x st f fd → FnOk P w K mg base CX0 k f fd ps sp) : Has P w K mg base k x sp := by
  obtain ⟨f, fd, h1, h2, h3, h4⟩ := D.ex
  exact ⟨f, fd, ps, h f fd h3, h1, h2, h4⟩
end
end Pm
namespace Pm
open PySem PySem.Spec PyProof.Rows L2
variable {ι : Type} {X : ι → Cx} {K : Fr} {a b c e tg : Expr} {es rest : List Expr} {wa wb wc we : WE} {pos : Pos}
/-! ### a def that hands back a new list -/
abbrev SpF := List PyData → (List PyData → Prop) → Prop
def spF (K : Fr) (S : SpF) : Sp := fun vs H Q _ => ∃ (M : List Addr) (ds : List PyData) (P : List PyData → Prop), (∀ a, a ∈ M → H a ≠ none) ∧ DtAll K (rm M H) vs ds ∧ S ds P ∧
  ∀ es p xs H', P es → H p = none → Same H H' → H' p = some (.lst xs) → DtAll K (rm (p :: M) H') xs es → Q (.ref p) H'
section
variable {P : Program} {w : World} {mg : Str → Option Value} {base : Heap}
/-- def f(..): return [..] -/
theorem fn_fresh {x qual : Str} {st : Stmt} {f : Addr} {fd : FuncData} {N ps : List Str} {k : Nat} {S : SpF} {wb : WA} {p1 p2 : Pos} {es : List Expr} (F : Fun K x qual st f fd) (sc : FnScope N ps (defScope st)) (len : ∀ ds P, S ds P → ds.length = ps.length) (hd : defBody st = [.Return (some (.List es p1)) p2])
    (hb : ∀ (cdv : Value) (A : Around) (outer : List PySem.Env) (s : Shared) (H : Hp) (E : XK), Room k (A.deeper (envOfC qual (defScope st) s.heap.objs.size f cdv)) → DA (one (cxOf CX0 P w K mg base N qual (defScope st) f cdv A outer s H E).nox) K es wb)
    (hw : ∀ ds Q, S ds Q → wb (startE N ds) fun ρ es => es.length ≤ sizeLine ∧ Q es) : FnOk P w K mg base CX0 (k + 1) f fd ps (spF K S) := by
  refine F.ok sc (fun vs H Q E h => ?_) (fun cdv A outer s H vs Q E hr h => ?_)
  · obtain ⟨M, ds, P', _, r, hs, _⟩ := h
    rw [DtAll.len r]
    exact len _ _ hs
  · obtain ⟨M, ds, P', dom, r, hs, q⟩ := h
    obtain ⟨t, a1, a2⟩ := hb cdv A outer s H E hr
    rw [hd]
    refine ⟨_, pss_one (ps_ret (pe_lst (a1 ()))), ?_⟩
    refine a2 M M [] _ H _ _ _ (start_ok dom r) (hw ds P' hs) fun ρ' es vs' H' p x E' r' => ?_
    refine ⟨by rw [DtAll.len r']; exact p.1, fun z nz => ?_⟩
    have sm : Same H H' := fun a o e => x.keep a o (by simp) e
    refine q es z vs' _ p.2 (sm.free nz) (fun a o e => same_new nz _ _ (sm _ _ e)) upd_same (DtAll.up (fun a o e => ?_) r')
    obtain ⟨z1, z2⟩ := rm_to e
    have n : a ≠ z := fun q => by rw [q, nz] at z2; cases z2
    refine rm_of (fun c => ?_) (by rw [upd_ne n]; exact z2)
    rcases List.mem_cons.mp c with q | q
    · exact n q
    · exact z1 q
end
/-- a slot gets a new list -/
theorem EnvOk.take {M0 M B : List Addr} {H H' : Hp} {σ : L2.St} {ρ : Env} {p : Addr} {xs : List V} {ds : List PyData} (E : EnvOk K M0 M B H σ ρ) (i : Nat) (np : H p = none) (sm : Same H H') (hp : H' p = some (.lst xs)) (r : DtAll K (rm (p :: M) H') xs ds) :
    EnvOk K M0 (p :: M) (p :: B) H' (σ.set i (some (.ref p))) (ρ.set i (.own ds)) ∧ Ext M B H (p :: M) (p :: B) H' := by
  have hpM : p ∉ M := fun c => E.dom p c np
  have E1 : EnvOk K M0 (p :: M) B H' σ ρ := E.more np hp fun a u n e => sm _ _ e
  refine ⟨⟨by rw [List.length_set, List.length_set]; exact E1.len, fun a h => ?_, E1.dom, E1.m0, fun j s hj => ?_, fun j k s s' l' n h1 h2 l1 l2 s1 s2 => ?_⟩,
    ⟨fun a h => List.mem_cons_of_mem _ h, fun a h => ?_, fun a h => List.mem_cons_of_mem _ h, fun a h => ?_, fun a o _ e => sm a o e, fun a e => sm.free e⟩⟩
  · rcases List.mem_cons.mp h with q | q
    · rw [q]; exact List.mem_cons_self ..
    · exact E1.sub a q
  · rcases get_set_some hj with ⟨rfl, rfl, hl⟩ | ⟨n, hj'⟩
    · exact ⟨p, xs, get_set_eq (by rw [E1.len]; exact hl), List.mem_cons_self .., fun c => hpM (E.m0 _ c), hp, r⟩
    · rw [get_set_ne n]
      have z := E1.slot j s hj'
      cases s with
      | un => trivial
      | dat d => exact z
      | scr d => exact z
      | own ds => obtain ⟨l, xs, h1, h2, h3⟩ := z; exact ⟨l, xs, h1, List.mem_cons_of_mem _ h2, h3⟩
      | bor l ds => obtain ⟨xs, h1, h2, h3⟩ := z; exact ⟨xs, h1, List.mem_cons_of_mem _ h2, h3⟩
  · have old : ∀ (j : Nat) (s : SV), ρ[j]? = some s → s.isL = true → σ[j]? = some (some (.ref p)) → False := fun j s hj hs e => by
      have z := E.slot j s hj
      cases s with
      | un => cases hs
      | dat d => cases hs
      | scr d => cases hs
      | own ds =>
        obtain ⟨l2, xs, h1, h2, _⟩ := z
        rw [h1] at e
        injection e with e; injection e with e; injection e with e
        exact hpM (e ▸ E.sub _ h2)
      | bor l2 ds =>
        obtain ⟨xs, h1, h2, _⟩ := z
        rw [h1] at e
        injection e with e; injection e with e; injection e with e
        exact hpM (e ▸ E.sub _ h2)
    rcases get_set_some h1 with ⟨rfl, rfl, hl1⟩ | ⟨n1, h1'⟩
    · rw [get_set_eq (by rw [E.len]; exact hl1)] at s1
      injection s1 with s1; injection s1 with s1; injection s1 with s1
      rcases get_set_some h2 with ⟨rfl, rfl, _⟩ | ⟨n2, h2'⟩
      · exact n rfl
      · rw [get_set_ne n2] at s2
        rw [← s1] at s2
        exact old k s' h2' l2 s2
    · rw [get_set_ne n1] at s1
      rcases get_set_some h2 with ⟨rfl, rfl, hl2⟩ | ⟨n2, h2'⟩
      · rw [get_set_eq (by rw [E.len]; exact hl2)] at s2
        injection s2 with s2; injection s2 with s2; injection s2 with s2
        rw [← s2] at s1
        exact old j s h1' l1 s1
      · rw [get_set_ne n2] at s2
        exact E.sep j k s s' l' n h1' h2' l1 l2 s1 s2
  · rcases List.mem_cons.mp h with q | q
    · rw [q]; exact .inr np
    · exact .inl q
  · rcases List.mem_cons.mp h with q | q
    · rw [q]; exact .inr np
    · exact .inl q
section
variable {Y : Cx} {st : Stmt} {w u : WS}
/-- x = f(..), f hands back a new list, which x owns -/
def wSetF (i : Nat) (S : SpF) (wa : WA) : WS := fun E ρ => wa ρ fun ρ1 ds => S ds fun es => E.nx (ρ1.set i (.own es))
theorem ds_setF (i : Nat) {x y : Str} {px p pc : Pos} {S : SpF} {w : WA} (nd : Y.N.Nodup) (c : CallOk Y x (spF K S)) (h : DA (one Y) K (e :: es) w) (hg : Gl Y x := by rfl) (hdb : (x == ("__debug__" : Str)) = false := by decide)
    (he : starEach (e :: es) Y.env = (false, eval e Y.env) :: starEach es Y.env := by rfl) (hpl : (backTo pc (starEach es Y.env)).any (·.1) = false := by rfl)
    (hp : Y.N.Nodup → ∀ t, PE Y (.Call (.Name x p) (e :: es) [] pc) t → PS Y (.Assign [.Name y px] (.Call (.Name x p) (e :: es) [] pc) pos) (tAsg t (gName i)) := by intro nd t h; exact ps_set nd rfl (by first | exact Or.inl rfl | exact Or.inr rfl) h) : DS Y K (.Assign [.Name y px] (.Call (.Name x p) (e :: es) [] pc) pos) (wSetF i S w) := by
  obtain ⟨t, a1, a2⟩ := h
  obtain ⟨k, f, fd, ps, F, hr, hm, hk, hb⟩ := c
  refine ⟨tAsg (tCall (spF K S) [] E0 t) (gName i), hp nd _ (pe_call F hr hg hm hk hb .nil pass0 (a1 ()) hdb he hpl), fun M0 M B σ H ρ E D Ev h Ft => ?_⟩
  refine a2 M0 M B σ H ρ _ _ Ev h fun ρ1 ds vs H1 w1 x1 E1 r1 => ?_
  refine ⟨M, ds, _, E1.dom, by rw [List.append_nil]; exact r1, w1, fun es z xs H2 p np sm hz r2 => ?_⟩
  obtain ⟨E2, x2⟩ := E1.take i np sm hz r2
  exact Ft.nx _ _ _ _ _ p (x1.trans x2) E2
/-- x = [elt for y in iter], on one line -/
theorem ds_setLc (j i : Nat) {elt iter : Expr} {x y : Str} {px py pos spos : Pos} {scope : Scope} {wi : WI} (nd : Y.N.Nodup) (hi : DI (one Y) K (.Name x px) iter wi) (he : DE (blkX (one Y) scope) K elt we)
    (hy : Y.N[j]? = some y := by rfl) (hyl : Y.env.scope.names.lookup y = some .local := by rfl) (hsw : swapsWith (.ListComp elt [⟨.Name x px, iter, [], 0⟩] scope pos) (some (.Name y py)) spos.line Y.env = pure true := by exact sw_true rfl rfl rfl (by decide +kernel))
    (ok : blkC Y.N Y.env.scope scope [(x, i)] = true := by decide +kernel) (hg : ∀ p, PG (blkX (one Y) scope p) (.Name x px) (gName i) := by intro p; exact pg_name (by assumption) rfl (Or.inl rfl))
    (hc : Y.calm = true := by rfl) (hs : ∀ x, foldedSetIterable iter Y.env x = pure x := by intro _; rfl) : DS Y K (.Assign [.Name y py] (.ListComp elt [⟨.Name x px, iter, [], 0⟩] scope pos) spos) (wSet j (wLc i wi wYes we)) := by
  obtain ⟨ti, i1, i2⟩ := hi
  obtain ⟨te, e1, e2⟩ := he
  refine ⟨tAsg (tLc ti (gName i) tYes te [i]) (gName j), ps_setLc (own := [(x, i)]) hc nd hy hyl hsw (i1 ()) (blkOk_by ok) (fun s H C cl fp => hg ((), s, H, C, cl, fp)) (fun s H C cl fp => pts_nil) (fun s H C cl fp => e1 ((), s, H, C, cl, fp)) hs, fun M0 M B σ H ρ E D Ev h Ft => ?_⟩
  exact lc_read i2 (fun M0 M B σ H ρ P Q E w k => k ρ true H w (Ext.refl ..) E) e2 M0 M B σ H ρ _ _ Ev h fun ρ1 d v H1 w1 x1 E1 r1 => Ft.nx _ M B _ H1 w1 x1 (E1.set j r1)
end
theorem def_mk {h : Heap} {mg : Str → Option Value} {x : Str} {st : Stmt} {ps : List Str} {f : Addr} {oc : Value} {od an : Option Addr} {osl : Array (Option Value)} {kV doc pm cdv ct : Value} (X : K.In h) (G : h.Ns mainGlobals mg) (a : PySem.W.nsIn K mainGlobals x = some (some (.ref f)))
    (l : K.lookup f = some ⟨oc, od, .func (PySem.W.fnOf x x (defArgs st) (defBody st) (defScope st) .none kV doc pm an cdv ct), osl⟩) (c : PySem.W.codeIn K cdv x = true) (k : PySem.W.keepIn K (.ref f) = true)
    (hb : ∀ (kV doc pm : Value) (an : Option Addr) (cdv ct : Value) (us : List Value), us.length = ps.length → bindArgs (PySem.W.fnOf x x (defArgs st) (defBody st) (defScope st) .none kV doc pm an cdv ct) ⟨us, []⟩ = pure (ps.zip us)) : Def K mg x st ps :=
  ⟨f, _, PySem.W.mg_of X G a, k, fun_mk l c k, (fun_mk l c k).binds hb⟩
end Pm
namespace Pm
open PySem PySem.Spec PyProof.Rows L2
variable {ι : Type} {X : ι → Cx} {K : Fr} {a b c e tg : Expr} {es rest : List Expr} {wa wb wc we : WE} {pos : Pos}
theorem de_globI {x : Str} {n : Int} (h : ∃ t : Tok, ∀ i, (X i).mg x = some (.int n t)) (hg : ∀ i, Gl (X i) x := by intro i; rfl) (hd1 : (x == ("__debug__" : Str)) = false := by decide) : DE X K (.Name x pos) (wC (.int n)) := by
  obtain ⟨t, h⟩ := h
  exact de_c (v := .int n) (fun i => pe_glob (hg i) (h i) ⟨t, rfl⟩ hd1) fun _ => .int n
theorem de_globS {x : Str} {n : Str} (h : ∃ t : Tok, ∀ i, (X i).mg x = some (.str n t)) (hg : ∀ i, Gl (X i) x := by intro i; rfl) (hd1 : (x == ("__debug__" : Str)) = false := by decide) : DE X K (.Name x pos) (wC (.str n)) := by
  obtain ⟨t, h⟩ := h
  exact de_c (v := .str n) (fun i => pe_glob (hg i) (h i) ⟨t, rfl⟩ hd1) fun _ => .str n
/-! ### comparisons as tests -/
theorem dt_op {r : R2} {f : F2} (hp : ∀ i ta tb, PE (X i) a ta → PE (X i) b tb → PT (X i) e (tTest (tOp r ta tb))) (hr : OpD K r f) (ha : DE X K a wa) (hb : DV X K b wb) : DT X K e (wTst (wOp f wa wb)) := by
  obtain ⟨ta, a1, a2⟩ := ha
  obtain ⟨tb, b1, b2⟩ := hb
  refine ⟨tTest (tOp r ta tb), fun i => hp i ta tb (a1 i) (b1 i), fun M0 M B σ H ρ P Q E w k => ?_⟩
  refine a2 M0 M B σ H ρ _ _ E w fun ρ1 x v H1 w1 x1 E1 r1 => ?_
  refine b2 M0 M B σ H1 ρ1 _ _ E1 w1 fun ρ2 y u H2 w2 x2 E2 r2 => ?_
  refine hr M H2 x y v u _ _ E2.dom (.inl (E1.up x2 r1)) r2 w2 fun d z H3 p e3 r3 => ?_
  obtain ⟨bb, rfl, p⟩ := p
  exact ⟨bb, Dt.isBl r3, k ρ2 bb H3 p ((x1.trans x2).trans (Ext.same e3)) (E2.same e3)⟩
theorem dt_opo (j : Nat) {r : R2} {f : F2} (hp : ∀ i ta tb, PE (X i) a ta → PE (X i) b tb → PT (X i) e (tTest (tOp r ta tb))) (hr : OpD K r f) (hb : DV X K b wb) (h : ∀ i, PE (X i) a (tVar j) := by intro i; exact pv _) : DT X K e (wTst (wOpO f j wb)) := by
  obtain ⟨tb, b1, b2⟩ := hb
  refine ⟨tTest (tOp r (tVar j) tb), fun i => hp i _ tb (h i) (b1 i), fun M0 M B σ H ρ P Q E w k => ?_⟩
  obtain ⟨⟨ds0, h0⟩, w⟩ := w
  obtain ⟨l0, xs0, _, _, hl0, _⟩ := E.lst h0
  refine ⟨_, hl0, ?_⟩
  refine b2 M0 M B σ H ρ _ _ E w fun ρ2 y u H2 w2 x2 E2 r2 => ?_
  obtain ⟨ds, h1, w3⟩ := w2
  obtain ⟨l, xs, _, _, hl, _, h4, h5, _⟩ := E2.lst h1
  rw [hl0] at hl
  injection hl with hl; injection hl with hl; injection hl with hl
  subst hl
  refine hr M H2 _ y _ u _ _ E2.dom (.inr ⟨l0, xs, ds, rfl, rfl, h4, h5⟩) r2 w3 fun d z H3 p e3 r3 => ?_
  obtain ⟨bb, rfl, p⟩ := p
  exact ⟨bb, Dt.isBl r3, k ρ2 bb H3 p (x2.trans (Ext.same e3)) (E2.same e3)⟩
theorem dt_lt (ha : DE X K a wa) (hb : DE X K b wb) : DT X K (.Compare a [.Lt] [b] pos) (wTst (wOp fLt wa wb)) := dt_op (fun i ta tb h1 h2 => pt_cmpR op_lt h1 h2 (nomark _)) (od_I0 fun _ _ _ => .bl _) ha hb.v
theorem dt_le (ha : DE X K a wa) (hb : DE X K b wb) : DT X K (.Compare a [.LtE] [b] pos) (wTst (wOp fLe wa wb)) := dt_op (fun i ta tb h1 h2 => pt_cmpR op_le h1 h2 (nomark _)) (od_I0 fun _ _ _ => .bl _) ha hb.v
theorem dt_gt (ha : DE X K a wa) (hb : DE X K b wb) : DT X K (.Compare a [.Gt] [b] pos) (wTst (wOp fGt wa wb)) := dt_op (fun i ta tb h1 h2 => pt_cmpR op_gt h1 h2 (nomark _)) (od_I0 fun _ _ _ => .bl _) ha hb.v
theorem dt_ge (ha : DE X K a wa) (hb : DE X K b wb) : DT X K (.Compare a [.GtE] [b] pos) (wTst (wOp fGe wa wb)) := dt_op (fun i ta tb h1 h2 => pt_cmpR op_ge h1 h2 (nomark _)) (od_I0 fun _ _ _ => .bl _) ha hb.v
theorem dt_eq (hu : ∀ i, (X i).A.units + 64 < cLine) (ha : DE X K a wa) (hb : DV X K b wb) (hK : ∀ i, (X i).K = K := by intro i; rfl) : DT X K (.Compare a [.Eq] [b] pos) (wTst (wOp (fEq false) wa wb)) :=
  dt_op (fun i ta tb h1 h2 => pt_cmpR (by rw [← hK i]; exact op_eqAny (hu i)) h1 h2 (nomark _)) od_eq ha hb
theorem dt_ne (hu : ∀ i, (X i).A.units + 64 < cLine) (ha : DE X K a wa) (hb : DV X K b wb) (hK : ∀ i, (X i).K = K := by intro i; rfl) : DT X K (.Compare a [.NotEq] [b] pos) (wTst (wOp (fEq true) wa wb)) :=
  dt_op (fun i ta tb h1 h2 => pt_cmpR (by rw [← hK i]; exact op_neAny (hu i)) h1 h2 (nomark _)) od_eq ha hb
theorem dt_eqo (j : Nat) (hu : ∀ i, (X i).A.units + 64 < cLine) (hb : DV X K b wb) (h : ∀ i, PE (X i) a (tVar j) := by intro i; exact pv _) (hK : ∀ i, (X i).K = K := by intro i; rfl) : DT X K (.Compare a [.Eq] [b] pos) (wTst (wOpO (fEq false) j wb)) :=
  dt_opo j (fun i ta tb h1 h2 => pt_cmpR (by rw [← hK i]; exact op_eqAny (hu i)) h1 h2 (nomark _)) od_eq hb h
theorem dt_neo (j : Nat) (hu : ∀ i, (X i).A.units + 64 < cLine) (hb : DV X K b wb) (h : ∀ i, PE (X i) a (tVar j) := by intro i; exact pv _) (hK : ∀ i, (X i).K = K := by intro i; rfl) : DT X K (.Compare a [.NotEq] [b] pos) (wTst (wOpO (fEq true) j wb)) :=
  dt_opo j (fun i ta tb h1 h2 => pt_cmpR (by rw [← hK i]; exact op_neAny (hu i)) h1 h2 (nomark _)) od_eq hb h
theorem dt_is (ha : DE X K a wa) (hb : DE X K b wb) : DT X K (.Compare a [.Is] [b] pos) (wTst (wOp (fIs false) wa wb)) := dt_op (fun i ta tb h1 h2 => pt_cmpR op_isN h1 h2 (nomark _)) od_is ha hb.v
theorem dt_isnot (ha : DE X K a wa) (hb : DE X K b wb) : DT X K (.Compare a [.IsNot] [b] pos) (wTst (wOp (fIs true) wa wb)) := dt_op (fun i ta tb h1 h2 => pt_cmpR op_notN h1 h2 (nomark _)) od_isnot ha hb.v
theorem dt_in (ha : DE X K a wa) (hb : DV X K b wb) (hm : behindInMarks .In b = false := by rfl) (hK : ∀ i, (X i).K = K := by intro i; rfl) : DT X K (.Compare a [.In] [b] pos) (wTst (wOp (fIn false) wa wb)) :=
  dt_op (fun i ta tb h1 h2 => pt_cmpR (by rw [← hK i]; exact op_orR op_inS' op_in_seq) h1 h2 hm) od_in ha hb
theorem dt_notin (ha : DE X K a wa) (hb : DV X K b wb) (hm : behindInMarks .NotIn b = false := by rfl) (hK : ∀ i, (X i).K = K := by intro i; rfl) : DT X K (.Compare a [.NotIn] [b] pos) (wTst (wOp (fIn true) wa wb)) :=
  dt_op (fun i ta tb h1 h2 => pt_cmpR (by rw [← hK i]; exact op_orR op_notinS' op_notIn_seq) h1 h2 hm) od_in ha hb
theorem dt_chain {op op' : CmpOp} {r r' : R2} {f g : F2} (ho : ∀ i, OpR (X i) (compareOp op) r) (ho' : ∀ i, OpR (X i) (compareOp op') r') (hf : OpD K r f) (hg : OpD K r' g) (ha : DE X K a wa) (hb : DE X K b wb) (hc : DE X K c wc)
    (hm : lastMarks [op, op'] [b, c] = false := by with_unfolding_all rfl) : DT X K (.Compare a [op, op'] [b, c] pos) (wTst (wChain f g wa wb wc)) := by
  obtain ⟨ta, a1, a2⟩ := ha
  obtain ⟨tb, b1, b2⟩ := hb
  obtain ⟨tc, c1, c2⟩ := hc
  refine ⟨tTest (tChain r r' ta tb tc), fun i => pt_chain (ho i) (ho' i) (a1 i) (b1 i) (c1 i) hm, fun M0 M B σ H ρ P Q E w k => ?_⟩
  refine a2 M0 M B σ H ρ _ _ E w fun ρ1 x v H1 w1 x1 E1 r1 => ?_
  refine b2 M0 M B σ H1 ρ1 _ _ E1 w1 fun ρ2 y u H2 w2 x2 E2 r2 => ?_
  refine hf M H2 x y v u _ _ E2.dom (.inl (E1.up x2 r1)) (.inl r2) w2 fun d z H3 w3 e3 r3 => ?_
  obtain ⟨kk, rfl, w3⟩ := w3
  refine ⟨kk, Dt.isBl r3, ite_of (fun e => ?_) (fun e => ?_)⟩
  · refine c2 M0 M B σ H3 ρ2 _ _ (E2.same e3) (w3.1 e) fun ρ3 u2 v2 H4 w4 x4 E4 r4 => ?_
    refine hg M H4 y u2 u v2 _ _ E4.dom (.inl (E2.up ((Ext.same e3).trans x4) r2)) (.inl r4) w4 fun d z H5 p e5 r5 => ?_
    obtain ⟨bb, rfl, p⟩ := p
    exact ⟨bb, Dt.isBl r5, k ρ3 bb H5 p ((((x1.trans x2).trans (Ext.same e3)).trans x4).trans (Ext.same e5)) (E4.same e5)⟩
  · obtain ⟨bb, hb', p⟩ := w3.2 e
    injection hb' with hb'
    subst hb'
    exact ⟨false, rfl, k ρ2 false H3 p ((x1.trans x2).trans (Ext.same e3)) (E2.same e3)⟩
end Pm
namespace Pm
open PySem PySem.Spec PyProof.Rows L2 TL
/-! ### the law's wells and draws -/
theorem atI_0 {α : Type} {x : α} {l : List α} : atI (x :: l) 0 = some x := by
  unfold atI ixN
  rw [if_pos (by decide), if_pos (by simp only [List.length_cons]; omega)]; rfl
theorem atI_1 {α : Type} {x y : α} {l : List α} : atI (x :: y :: l) 1 = some y := by
  unfold atI ixN
  rw [if_pos (by decide), if_pos (by simp only [List.length_cons]; omega)]; rfl
theorem atI_2 {α : Type} {x y z : α} {l : List α} : atI (x :: y :: z :: l) 2 = some z := by
  unfold atI ixN
  rw [if_pos (by decide), if_pos (by simp only [List.length_cons]; omega)]; rfl
theorem ixN_0 {n : Nat} : ixN (n + 1) 0 = some 0 := by
  unfold ixN
  rw [if_pos (by decide), if_pos (by omega)]; rfl
theorem ixN_1 {n : Nat} : ixN (n + 1 + 1) 1 = some 1 := by
  unfold ixN
  rw [if_pos (by decide), if_pos (by omega)]; rfl
theorem ixN_2 {n : Nat} : ixN (n + 1 + 1 + 1) 2 = some 2 := by
  unfold ixN
  rw [if_pos (by decide), if_pos (by omega)]; rfl
local macro_rules | `(tactic| walk_at "dx") => `(tactic| simp only [wSeq, wIf, wTst, wOp, wOpO, wC, wVar, wOwn, wSet, wPut, wRet, wRetO, wRetN, wU, wSkip, wBreak, wCont, wIte, wAnd, wOr, wNot, wAndV, wOrV, wNotV, wCons, wNil, wTup, wLst, wSl, wSlO, wSo, wNo, wM, wJoin, wCall, wCallW, wSetF, wNew, wApp, wAsg, wPar, wAug, wFor, wSeqI, wRange1, wRange2, wDown, wEnum, wLc, wYes, wChain, wSlS, gN, gT, gCons', gNil', fSeq, fI0, fI, fInt, fIx, fAdd, fMul, fLen, fEq, fIs, isN, fIn, fNeg, fSl, fJoin, fSplit, fTuple, fList, fBools, Env.at, SV.items, SV.put, atI_0, atI_1, atI_2, List.length_cons, List.length_nil, ixN_0, ixN_1, ixN_2, List.set, Option.some.injEq, exists_eq_left', exists_eq_left, exists_eq', exists_eq, exists_and_left, exists_and_right, true_and, and_true, SV.dat.injEq, SV.own.injEq, SV.bor.injEq, SV.scr.injEq, PyData.int.injEq, PyData.str.injEq, PyData.list.injEq, PyData.tuple.injEq, PyData.bool.injEq, List.cons.injEq, and_assoc, Bool.true_eq_false, Bool.false_eq_true, false_implies, true_implies, implies_true, Bool.false_xor, Bool.true_xor])
/-- _law_draw(_law_well_here, _law_many): slots 0 _law_well_here 1 _law_many 2 _law_digit 3 _law_number 4 _law_more -/
def w_k_draw : WS :=
(wSeq (wIf (wTst (wOp fGe (wOpO fIx 0 (wC (.int 0))) (wOp fPow (wC (.int 10)) (wC (.int 18)))))
(wSeq (wSet 2 (wOp fMod (wU fInt (wOpO fIx 0 (wC (.int 0)))) (wVar 1)))
(wSeq (wPut 0 (wOp fDiv (wOpO fIx 0 (wC (.int 0))) (wVar 1)) (wC (.int 0)))
(wRet (wVar 2))))
wSkip)
(wSeq (wPut 0 (wOp fAdd (wOpO fIx 0 (wC (.int 1))) (wC (.int 1))) (wC (.int 1)))
(wSeq (wSet 3 (wOp fMod (wU fInt (wOp fMul (wU fInt (wOp fAdd (wOp fAdd (wOp fMod (wU fInt (wOpO fIx 0 (wC (.int 0)))) (wC (.int 2147483629))) (wOp fMul (wC (.int 60013)) (wOpO fIx 0 (wC (.int 1))))) (wC (.int 11)))) (wC (.int 48271)))) (wC (.int 2147483647))))
(wSeq (wSet 4 (wOp fMod (wU fInt (wOp fDiv (wOpO fIx 0 (wC (.int 0))) (wC (.int 2147483629)))) (wC (.int 9973))))
(wSeq (wSet 3 (wOp fMod (wU fInt (wOp fMul (wVar 3) (wOp fAdd (wOp fAdd (wOp fDiv (wVar 3) (wC (.int 1013))) (wC (.int 40692))) (wVar 4)))) (wC (.int 2147483587))))
(wRet (wOp fMod (wU fInt (wOp fDiv (wOp fMod (wU fInt (wOp fMul (wVar 3) (wOp fAdd (wOp fDiv (wVar 3) (wC (.int 2003))) (wC (.int 69621))))) (wC (.int 2147483563))) (wC (.int 5)))) (wVar 1))))))))

theorem cmul_mod {y m z : Int} (h0 : 0 < m) (h1 : m < 2 ^ 62) : CMul (y % m) z := by
  have a := Int.emod_nonneg y (Int.ne_of_gt h0)
  have b := Int.emod_lt_of_pos y h0
  exact .inl ⟨by omega, by omega⟩
theorem cdiv_of {y n : Int} (h0 : 0 < n) (h1 : n < 2 ^ 62) : CDivW y n := wide_div (b := 62) h0 (by omega) (by decide) (by decide)
def S_k_draw : SpW := fun ws ds P => ∃ (a b n : Int) (r : List PyData), ws = .int a :: .int b :: r ∧ ds = [.int n] ∧ 0 < n ∧ n < 2 ^ 62 ∧ ∀ a' b' d : Int, 0 ≤ d → d < n → P (.int a' :: .int b' :: r) (.int d)
theorem l_k_draw : ∀ ws ds P, S_k_draw ws ds P → ds.length + 1 = 2 := by
  rintro ws ds P ⟨_, _, _, _, _, rfl, _⟩; rfl
theorem m_k_draw : ∀ l ws ds Q, S_k_draw ws ds Q → w_k_draw { nx := fun ρ => ∃ ws', ρ.at 0 = .bor l ws' ∧ Q ws' .none, rt := fun ρ d => ∃ ws', ρ.at 0 = .bor l ws' ∧ Q ws' d } (startW l ["_law_well_here", "_law_many", "_law_digit", "_law_number", "_law_more"] ws ds) := by
  rintro l ws ds Q ⟨a, b, n, r, rfl, rfl, h0, h1, k⟩
  show w_k_draw _ [.bor l (.int a :: .int b :: r), .dat (.int n), .un, .un, .un]
  unfold w_k_draw
  walk_at "dx"
  refine ⟨⟨by decide, by decide, by decide⟩, fun _ => ⟨h0, cdiv_of h0 h1, k _ _ _ (Int.emod_nonneg _ (Int.ne_of_gt h0)) (Int.emod_lt_of_pos _ h0)⟩, fun _ => ⟨by decide, .inl ⟨by decide, by decide⟩, .inr ⟨by decide, by decide⟩, by decide, cdiv_of (by decide) (by decide), by decide,
    cdiv_of (by decide) (by decide), cmul_mod (by decide) (by decide), by decide, cdiv_of (by decide) (by decide), cmul_mod (by decide) (by decide), by decide, cdiv_of (by decide) (by decide), h0, k _ _ _ (Int.emod_nonneg _ (Int.ne_of_gt h0)) (Int.emod_lt_of_pos _ h0)⟩⟩
/-- _law_one(_law_well_here, _law_some): slots 0 _law_well_here 1 _law_some -/
def w_k_one : WS :=
(wRet (wOp fIx (wVar 1) (wCallW S_k_draw 0 (wCons (wU fLen (wVar 1)) wNil))))

/-- a well: two numbers, then what stays -/
def Well (r ws : List PyData) : Prop := ∃ a b : Int, ws = .int a :: .int b :: r
def S_k_one : SpW := fun ws ds P => ∃ (r xs : List PyData), Well r ws ∧ ds = [.list xs] ∧ xs ≠ [] ∧ xs.length < 1000 ∧ ∀ ws' d, Well r ws' → d ∈ xs → P ws' d
theorem l_k_one : ∀ ws ds P, S_k_one ws ds P → ds.length + 1 = 2 := by
  rintro ws ds P ⟨_, _, _, rfl, _⟩; rfl
theorem atI_nat' {α : Type} {xs : List α} {d : Int} (h0 : 0 ≤ d) (h1 : d < xs.length) : ∃ x, atI xs d = some x ∧ x ∈ xs := by
  unfold atI ixN
  rw [if_pos h0, if_pos h1]
  have hl : d.toNat < xs.length := by omega
  exact ⟨xs[d.toNat], by simp [hl], List.getElem_mem _⟩
theorem m_k_one : ∀ l ws ds Q, S_k_one ws ds Q → w_k_one { nx := fun ρ => ∃ ws', ρ.at 0 = .bor l ws' ∧ Q ws' .none, rt := fun ρ d => ∃ ws', ρ.at 0 = .bor l ws' ∧ Q ws' d } (startW l ["_law_well_here", "_law_some"] ws ds) := by
  rintro l ws ds Q ⟨r, xs, ⟨a, b, rfl⟩, rfl, h0, h1, k⟩
  show w_k_one _ [.bor l (.int a :: .int b :: r), .dat (.list xs)]
  unfold w_k_one
  walk_at "dx"
  have hl : 0 < xs.length := List.length_pos_iff.mpr h0
  refine ⟨a, b, _, r, rfl, rfl, by omega, by omega, fun a' b' d d0 d1 => ?_⟩
  obtain ⟨x, hx, hm⟩ := atI_nat' d0 d1
  exact ⟨x, hx, k _ _ ⟨_, _, rfl⟩ hm⟩
/-- each turn of a comprehension keeps C and makes a G -/
theorem lcD_inv {i : Nat} {we : WE} (C : Env → Prop) (G : PyData → Prop) {P : Env → List PyData → Prop} (turn : ∀ (d : PyData) (ρ : Env) (Q : Env → PyData → Prop), C ρ → (∀ ρ' y, C (ρ'.set i .un) → G y → Q ρ' y) → we (ρ.set i (.dat d)) Q) :
    ∀ (items : List PyData) (ρ : Env) (acc : List PyData), C ρ → acc.length + items.length ≤ sizeLine → (∀ ρ' ys, C ρ' → ys.length = items.length → (∀ y, y ∈ ys → G y) → P ρ' (acc ++ ys)) → lcD i wYes we items ρ acc P
  | [], ρ, acc, c, _, k => by
    have q := k ρ [] c rfl (fun y h => by cases h)
    rw [List.append_nil] at q
    exact q
  | d :: ds, ρ, acc, c, hz, k => by
    show wYes (ρ.set i (.dat d)) _
    refine ⟨fun _ => turn d ρ _ c fun ρ' y c' g => ⟨by rw [List.length_cons] at hz; omega, ?_⟩, fun e => by cases e⟩
    refine lcD_inv C G turn ds _ _ c' (by rw [List.length_append, List.length_singleton]; rw [List.length_cons] at hz; omega) fun ρ2 ys c2 hl hg => ?_
    rw [List.append_assoc]
    refine k ρ2 (y :: ys) c2 (by rw [List.length_cons, List.length_cons, hl]) fun z hz => ?_
    rcases List.mem_cons.mp hz with e | e
    · rw [e]; exact g
    · exact hg z e
theorem joinL_nil : ∀ ls : List (List Nat), joinL [] ls = ls.flatten
  | [] => rfl
  | [p] => by simp [joinL]
  | p :: q :: r => by
    show p ++ ([] ++ joinL [] (q :: r)) = _
    rw [joinL_nil (q :: r)]; simp
theorem join_none (ys : List Str) : Txt.join ⟨#[]⟩ ys = ⟨(ys.map tl).flatten.toArray⟩ := by
  have e : tl (Txt.join ⟨#[]⟩ ys) = (ys.map tl).flatten := by
    rw [join_eq, tl_join]
    exact joinL_nil _
  generalize Txt.join ⟨#[]⟩ ys = z at e
  obtain ⟨⟨z⟩⟩ := z
  have e' : z = (ys.map tl).flatten := e
  rw [e']
theorem sum_le {n : Nat} : ∀ {ys : List Str}, (∀ y, y ∈ ys → y.length ≤ n) → (ys.map (·.length)).sum ≤ ys.length * n
  | [], _ => by simp
  | y :: ys, h => by
    have a := h y (List.mem_cons_self ..)
    have b := sum_le fun z hz => h z (List.mem_cons_of_mem _ hz)
    rw [List.map_cons, List.sum_cons, List.length_cons, Nat.succ_mul]
    omega
theorem flat_len : ∀ ys : List Str, (ys.map tl).flatten.length = (ys.map (·.length)).sum
  | [] => rfl
  | y :: ys => by
    rw [List.map_cons, List.flatten_cons, List.length_append, flat_len ys, List.map_cons, List.sum_cons]
    simp [tl, Str.length]
/-- all are texts -/
theorem strs_of {ys : List PyData} {zs : List Str} (h : ∀ y, y ∈ ys → y ∈ zs.map PyData.str) : ∃ us : List Str, ys = us.map .str ∧ ∀ u, u ∈ us → u ∈ zs := by
  induction ys with
  | nil => exact ⟨[], rfl, fun u h => by cases h⟩
  | cons y ys ih =>
    obtain ⟨us, rfl, h2⟩ := ih fun z hz => h z (List.mem_cons_of_mem _ hz)
    obtain ⟨u, hu, rfl⟩ := List.mem_map.mp (h y (List.mem_cons_self ..))
    refine ⟨u :: us, rfl, fun v hv => ?_⟩
    rcases List.mem_cons.mp hv with e | e
    · rw [e]; exact hu
    · exact h2 v e
end Pm
namespace Pm
open PySem PySem.Spec PyProof.Rows L2 TL
local macro_rules | `(tactic| walk_at "dx") => `(tactic| simp only [wSeq, wIf, wTst, wOp, wOpO, wC, wVar, wOwn, wSet, wPut, wRet, wRetO, wRetN, wU, wSkip, wBreak, wCont, wIte, wAnd, wOr, wNot, wAndV, wOrV, wNotV, wCons, wNil, wTup, wLst, wSl, wSlO, wSo, wNo, wM, wJoin, wCall, wCallW, wSetF, wNew, wApp, wAsg, wPar, wAug, wFor, wSeqI, wRange1, wRange2, wDown, wEnum, wLc, wYes, wChain, wSlS, gN, gT, gCons', gNil', fSeq, fI0, fI, fInt, fIx, fAdd, fMul, fLen, fEq, fIs, isN, fIn, fNeg, fSl, fJoin, fSplit, fTuple, fList, fBools, Env.at, SV.items, SV.put, atI_0, atI_1, atI_2, List.length_cons, List.length_nil, ixN_0, ixN_1, ixN_2, List.set, Option.some.injEq, exists_eq_left', exists_eq_left, exists_eq', exists_eq, exists_and_left, exists_and_right, true_and, and_true, SV.dat.injEq, SV.own.injEq, SV.bor.injEq, SV.scr.injEq, PyData.int.injEq, PyData.str.injEq, PyData.list.injEq, PyData.tuple.injEq, PyData.bool.injEq, List.cons.injEq, and_assoc, Bool.true_eq_false, Bool.false_eq_true, false_implies, true_implies, implies_true, Bool.false_xor, Bool.true_xor])
/-! ### columns -/
abbrev c_STOP : PyData := .int 4
abbrev c_WHITE : PyData := .str (PySem.Str.ofString " \t")
def widthN (s : Nat) (c : Int) : Int := if s = 9 then 4 - c % 4 else 1
def S_width : SpD := fun ds P => ∃ (s : Nat) (c : Int), ds = [.str ⟨#[s]⟩, .int c] ∧ P (.int (widthN s c))
/-- lines_of(text): slots 0 text 1 found -/
def w_lines_of : WS :=
(wSeq (wSet 1 (wM fSplit (wVar 0) (wCons (wC (.str (PySem.Str.ofString "\n"))) wNil)))
(wRet (wIte (wTst (wOp (fEq false) (wOp fIx (wVar 1) (wU fNeg (wC (.int 1)))) (wC (.str (PySem.Str.ofString ""))))) (wSl (wVar 1) wNo (wSo (wU fNeg (wC (.int 1))))) (wVar 1))))

/-- whole(line): slots 0 line -/
def w_whole : WS :=
(wRet (wTup (wCons (wVar 0) (wCons (wC (.int 0)) (wCons (wC (.int 0)) wNil)))))

/-- width(sign, column): slots 0 sign 1 column -/
def w_width : WS :=
(wRet (wIte (wTst (wOp (fEq false) (wVar 0) (wC (.str (PySem.Str.ofString "\t"))))) (wOp fSub (wC c_STOP) (wOp fMod (wVar 1) (wC c_STOP))) (wC (.int 1))))

def w_indent_b1 : WS :=
(wSeq (wIf (wTst (wOp (fIn true) (wVar 5) (wC c_WHITE)))
wBreak
wSkip)
(wSet 4 (wOp fAdd (wVar 4) (wCall S_width (wCons (wVar 5) (wCons (wVar 4) wNil))))))
/-- indent(rest): slots 0 rest 1 text 2 column 3 held 4 at 5 sign -/
def w_indent : WS :=
(wSeq (wAsg (wVar 0) (gT 3 (gCons' (gN 1) (gCons' (gN 2) (gCons' (gN 3) gNil')))))
(wSeq (wSet 4 (wOp fAdd (wVar 2) (wVar 3)))
(wSeq (wFor (wSeqI (wVar 1)) (gN 5) w_indent_b1)
(wRet (wOp fSub (wVar 4) (wVar 2))))))

def w_taken_b1 : WS :=
(wSeq (wIf (wTst (wOp (fEq false) (wVar 4) (wC (.int 0))))
(wSeq (wSet 4 (wCall S_width (wCons (wOp fIx (wVar 2) (wC (.int 0))) (wCons (wVar 3) wNil))))
(wSet 2 (wSl (wVar 2) (wSo (wC (.int 1))) wNo)))
wSkip)
(wSeq (wSet 3 (wOp fAdd (wVar 3) (wC (.int 1))))
(wSet 4 (wOp fSub (wVar 4) (wC (.int 1))))))
/-- taken(rest, many): slots 0 rest 1 many 2 text 3 column 4 held 5 turn -/
def w_taken : WS :=
(wSeq (wAsg (wVar 0) (gT 3 (gCons' (gN 2) (gCons' (gN 3) (gCons' (gN 4) gNil')))))
(wSeq (wFor (wRange1 (wCons (wVar 1) wNil)) (gN 5) w_taken_b1)
(wRet (wTup (wCons (wVar 2) (wCons (wVar 3) (wCons (wVar 4) wNil)))))))

/-- told(rest): slots 0 rest -/
def w_told : WS :=
(wRet (wOp fAdd (wOp fMul (wC (.str (PySem.Str.ofString " "))) (wOp fIx (wVar 0) (wC (.int 2)))) (wOp fIx (wVar 0) (wC (.int 0)))))

theorem l_width : ∀ ds P, S_width ds P → ds.length = 2 := by rintro ds P ⟨_, _, rfl, _⟩; rfl
theorem tab_eq : PySem.Str.ofString "\t" = ⟨#[9]⟩ := by decide +kernel
theorem white_eq : PySem.Str.ofString " \t" = ⟨#[32, 9]⟩ := by decide +kernel
theorem blank_eq : PySem.Str.ofString " " = ⟨#[32]⟩ := by decide +kernel
theorem feed_eq : PySem.Str.ofString "\n" = ⟨#[10]⟩ := by decide +kernel
theorem none_eq : PySem.Str.ofString "" = ⟨#[]⟩ := by decide +kernel
theorem m_width : ∀ ds Q, S_width ds Q → w_width { nx := fun _ => Q .none, rt := fun _ d => Q d } (startE ["sign", "column"] ds) := by
  rintro ds Q ⟨s, c, rfl, k⟩
  show w_width _ [.dat (.str ⟨#[s]⟩), .dat (.int c)]
  unfold w_width
  walk_at "dx"
  rw [tab_eq]
  unfold widthN at k
  by_cases h : s = 9
  · subst h
    rw [if_pos rfl] at k
    exact ⟨fun _ => ⟨by decide, k⟩, fun e => absurd e (by simp)⟩
  · rw [if_neg h] at k
    exact ⟨fun e => absurd (by simpa using e) h, fun _ => k⟩
/-- a text by its signs -/
abbrev tx (t : List Nat) : Str := ⟨t.toArray⟩
theorem signs_tx (t : List Nat) : signsD (tx t) = t.map fun c => .str ⟨#[c]⟩ := by simp [signsD, tx]
theorem tx_len (t : List Nat) : (tx t).length = t.length := by simp [Str.length]
theorem tx_app (a b : List Nat) : tx a ++ tx b = tx (a ++ b) := by
  show (⟨a.toArray ++ b.toArray⟩ : Str) = ⟨(a ++ b).toArray⟩
  simp
theorem inS_one (c : Nat) (z : Str) : inS ⟨#[c]⟩ z = decide (c ∈ z.cps.toList) := rfl
theorem cutS_one (s : Nat) (r : List Nat) : cutS (tx (s :: r)) (some 1) none = tx r := by
  have h : HT.sIx (r.length + 1) 0 (some 1) = 1 := by
    show HT.sIx (r.length + 1) 0 (some ((1 : Nat) : Int)) = 1
    rw [HT.sIx_nat]
    omega
  have hl : (tx (s :: r)).length = r.length + 1 := by rw [tx_len]; rfl
  unfold cutS
  rw [hl, h]
  show (⟨(List.take (r.length + 1 - 1) (List.drop 1 (s :: r))).toArray⟩ : Str) = _
  simp
def isW (s : Nat) : Prop := s = 32 ∨ s = 9
instance (s : Nat) : Decidable (isW s) := by unfold isW; infer_instance
def goCol : List Nat → Int → Int
  | [], c => c
  | s :: r, c => if isW s then goCol r (c + widthN s c) else c
def S_indent : SpD := fun ds P => ∃ (t : List Nat) (c h : Int), ds = [.tuple [.str (tx t), .int c, .int h]] ∧ P (.int (goCol t (c + h) - c))
theorem l_indent : ∀ ds P, S_indent ds P → ds.length = 1 := by rintro ds P ⟨_, _, _, rfl, _⟩; rfl
theorem f_indent {E : DEnds} {a0 a1 a2 a3 : SV} : ∀ (t : List Nat) (c : Int) (v : SV), (∀ v', E.nx [a0, a1, a2, a3, .dat (.int (goCol t c)), v']) → forD (gN 5) w_indent_b1 E (t.map fun c => .str ⟨#[c]⟩) [a0, a1, a2, a3, .dat (.int c), v]
  | [], c, v, k => k v
  | s :: r, c, v, k => by
    rw [List.map_cons]
    unfold forD w_indent_b1
    walk_at "dx"
    rw [white_eq, inS_one]
    unfold goCol at k
    by_cases h : isW s
    · rw [if_pos h] at k
      have e : decide (s ∈ (⟨#[32, 9]⟩ : Str).cps.toList) = true := by unfold isW at h; simpa using h
      rw [e]
      exact ⟨fun z => by simp at z, fun _ => ⟨s, c, rfl, f_indent r _ _ k⟩⟩
    · rw [if_neg h] at k
      have e : decide (s ∈ (⟨#[32, 9]⟩ : Str).cps.toList) = false := by unfold isW at h; simpa using h
      rw [e]
      exact ⟨fun _ => k _, fun z => by simp at z⟩
theorem m_indent : ∀ ds Q, S_indent ds Q → w_indent { nx := fun _ => Q .none, rt := fun _ d => Q d } (startE ["rest", "text", "column", "held", "at", "sign"] ds) := by
  rintro ds Q ⟨t, c, h, rfl, k⟩
  show w_indent _ [.dat (.tuple [.str (tx t), .int c, .int h]), .un, .un, .un, .un, .un]
  unfold w_indent
  walk_at "dx"
  rw [signs_tx]
  refine f_indent t _ _ fun v' => ?_
  walk_at "dx"
  exact k
/-- one blank column taken -/
def step : List Nat × Int × Int → Option (List Nat × Int × Int)
  | (t, c, h) => if h = 0 then (match t with
    | [] => none
    | s :: r => some (r, c + 1, widthN s c - 1)) else some (t, c + 1, h - 1)
def takeN : Nat → List Nat × Int × Int → Option (List Nat × Int × Int)
  | 0, x => some x
  | n + 1, x => (step x).bind (takeN n)
def S_taken : SpD := fun ds P => ∃ (t : List Nat) (c h : Int) (n : Nat) (t' : List Nat) (c' h' : Int), ds = [.tuple [.str (tx t), .int c, .int h], .int n] ∧ t.length ≤ 100000 ∧ n < 100000 ∧ takeN n (t, c, h) = some (t', c', h') ∧ P (.tuple [.str (tx t'), .int c', .int h'])
theorem l_taken : ∀ ds P, S_taken ds P → ds.length = 2 := by rintro ds P ⟨_, _, _, _, _, _, _, rfl, _⟩; rfl
theorem line_of {n : Nat} (h : n ≤ 1000000) : n ≤ sizeLine := Nat.le_trans h (by decide)
theorem f_taken {E : DEnds} {a0 a1 : SV} {t' : List Nat} {c' h' : Int} (k : ∀ v', E.nx [a0, a1, .dat (.str (tx t')), .dat (.int c'), .dat (.int h'), v']) : ∀ (ds : List PyData) (t : List Nat) (c h : Int) (v : SV), t.length ≤ 100000 → takeN ds.length (t, c, h) = some (t', c', h') →
    forD (gN 5) w_taken_b1 E ds [a0, a1, .dat (.str (tx t)), .dat (.int c), .dat (.int h), v]
  | [], t, c, h, v, _, e => by
    have e := Option.some.inj e
    injection e with e1 e2
    injection e2 with e2 e3
    subst e1 e2 e3
    exact k v
  | d :: ds, t, c, h, v, hz, e => by
    unfold forD w_taken_b1
    walk_at "dx"
    rw [List.length_cons] at e
    unfold takeN step at e
    dsimp only at e
    by_cases hh : h = 0
    · rw [if_pos hh] at e
      refine ⟨fun _ => ?_, fun z => absurd hh (by simpa using z)⟩
      cases t with
      | nil => cases e
      | cons s r =>
        refine ⟨line_of (by rw [tx_len]; omega), s, atI_0, s, c, rfl, line_of (by rw [tx_len]; omega), ?_⟩
        rw [cutS_one]
        exact f_taken k ds r (c + 1) _ _ (by simp at hz; omega) e
    · rw [if_neg hh] at e
      refine ⟨fun z => absurd (by simpa using z) hh, fun _ => ?_⟩
      exact f_taken k ds t (c + 1) (h - 1) _ hz e
theorem m_taken : ∀ ds Q, S_taken ds Q → w_taken { nx := fun _ => Q .none, rt := fun _ d => Q d } (startE ["rest", "many", "text", "column", "held", "turn"] ds) := by
  rintro ds Q ⟨t, c, h, n, t', c', h', rfl, hz, hn, e, k⟩
  show w_taken _ [.dat (.tuple [.str (tx t), .int c, .int h]), .dat (.int n), .un, .un, .un, .un]
  unfold w_taken
  walk_at "dx"
  refine ⟨by omega, by omega, ?_⟩
  refine f_taken (t' := t') (c' := c') (h' := h') (fun v' => ?_) _ t c h _ hz (by rw [rangeD_len]; simpa using e)
  walk_at "dx"
  exact ⟨by decide, k⟩
def S_told : SpD := fun ds P => ∃ (t : List Nat) (c : Int) (h : Nat), ds = [.tuple [.str (tx t), .int c, .int h]] ∧ t.length ≤ 100000 ∧ h ≤ 1000 ∧ P (.str (repS (tx [32]) h ++ tx t))
theorem l_told : ∀ ds P, S_told ds P → ds.length = 1 := by rintro ds P ⟨_, _, _, rfl, _⟩; rfl
theorem repS_len (x : Str) (n : Nat) : (repS x n).length = n * x.length := by
  unfold repS
  simp [Str.length]
theorem m_told : ∀ ds Q, S_told ds Q → w_told { nx := fun _ => Q .none, rt := fun _ d => Q d } (startE ["rest"] ds) := by
  rintro ds Q ⟨t, c, h, rfl, hz, hh, k⟩
  show w_told _ [.dat (.tuple [.str (tx t), .int c, .int h])]
  unfold w_told
  walk_at "dx"
  rw [blank_eq]
  refine ⟨by omega, by omega, ?_, ?_, ?_⟩
  · show 1 * (h : Int).toNat ≤ _
    rw [Int.toNat_natCast]
    exact line_of (by omega)
  · have q := tx_len t
    rw [repS_len]
    show (h : Int).toNat * 1 + _ ≤ _
    rw [Int.toNat_natCast]
    exact line_of (by omega)
  · rw [Int.toNat_natCast]
    exact k
def S_whole : SpD := fun ds P => ∃ d, ds = [d] ∧ P (.tuple [d, .int 0, .int 0])
theorem l_whole : ∀ ds P, S_whole ds P → ds.length = 1 := by rintro ds P ⟨_, rfl, _⟩; rfl
theorem m_whole : ∀ ds Q, S_whole ds Q → w_whole { nx := fun _ => Q .none, rt := fun _ d => Q d } (startE ["line"] ds) := by
  rintro ds Q ⟨d, rfl, k⟩
  show w_whole _ [.dat d]
  unfold w_whole
  walk_at "dx"
  exact ⟨by decide, k⟩
theorem atI_end {α : Type} (ys : List α) (z : α) : atI (ys ++ [z]) (-1) = some z := by
  unfold atI ixN
  rw [if_neg (by decide), if_pos (by rw [List.length_append, List.length_singleton]; omega)]
  have e : ((-1 : Int) + ((ys ++ [z]).length : Nat)).toNat = ys.length := by rw [List.length_append, List.length_singleton]; omega
  show (ys ++ [z])[((-1 : Int) + ((ys ++ [z]).length : Nat)).toNat]? = some z
  rw [e]
  simp
theorem cut_end {α : Type} (ys : List α) (z : α) : cutD (ys ++ [z]) none (some (-1)) = ys := by
  have h : HT.sIx (ys ++ [z]).length (ys ++ [z]).length (some (-1)) = ys.length := by
    unfold HT.sIx
    dsimp only
    rw [if_pos (by decide), List.length_append, List.length_singleton]; omega
  unfold cutD
  rw [h]
  show List.take (ys.length - 0) (List.drop 0 (ys ++ [z])) = ys
  simp
def S_lines_of : SpD := fun ds P => ∃ (x : Str) (ys : List Str) (z : Str), ds = [.str x] ∧ x.length + 2 ≤ sizeLine ∧ Txt.split x ⟨#[10]⟩ = ys ++ [z] ∧ P (.list ((if z = ⟨#[]⟩ then ys else ys ++ [z]).map .str))
theorem l_lines_of : ∀ ds P, S_lines_of ds P → ds.length = 1 := by rintro ds P ⟨_, _, _, rfl, _⟩; rfl
theorem m_lines_of : ∀ ds Q, S_lines_of ds Q → w_lines_of { nx := fun _ => Q .none, rt := fun _ d => Q d } (startE ["text", "found"] ds) := by
  rintro ds Q ⟨x, ys, z, rfl, hz, e, k⟩
  show w_lines_of _ [.dat (.str x), .un]
  unfold w_lines_of
  walk_at "dx"
  rw [feed_eq, e, none_eq, List.map_append, List.map_singleton, atI_end, cut_end]
  walk_at "dx"
  by_cases c : z = ⟨#[]⟩
  · rw [if_pos c] at k
    exact ⟨rfl, hz, fun _ => k, fun q => by simp [c] at q⟩
  · rw [if_neg c, List.map_append, List.map_singleton] at k
    exact ⟨rfl, hz, fun q => absurd (by simpa using q) c, fun _ => k⟩
end Pm
namespace Pm
open PySem PySem.Spec PyProof.Rows L2 TL
local macro_rules | `(tactic| walk_at "dx") => `(tactic| simp only [wSeq, wIf, wTst, wOp, wOpO, wC, wVar, wOwn, wSet, wPut, wRet, wRetO, wRetN, wU, wSkip, wBreak, wCont, wIte, wAnd, wOr, wNot, wAndV, wOrV, wNotV, wCons, wNil, wTup, wLst, wSl, wSlO, wSo, wNo, wM, wJoin, wCall, wCallW, wSetF, wNew, wApp, wAsg, wPar, wAug, wFor, wSeqI, wRange1, wRange2, wDown, wEnum, wLc, wYes, wChain, wSlS, gN, gT, gCons', gNil', fSeq, fI0, fI, fInt, fIx, fAdd, fMul, fLen, fEq, fIs, isN, fIn, fNeg, fSl, fJoin, fSplit, fTuple, fList, fBools, Env.at, SV.items, SV.put, atI_0, atI_1, atI_2, List.length_cons, List.length_nil, ixN_0, ixN_1, ixN_2, List.set, Option.some.injEq, exists_eq_left', exists_eq_left, exists_eq', exists_eq, exists_and_left, exists_and_right, true_and, and_true, SV.dat.injEq, SV.own.injEq, SV.bor.injEq, SV.scr.injEq, PyData.int.injEq, PyData.str.injEq, PyData.list.injEq, PyData.tuple.injEq, PyData.bool.injEq, List.cons.injEq, and_assoc, Bool.true_eq_false, Bool.false_eq_true, false_implies, true_implies, implies_true, Bool.false_xor, Bool.true_xor])
/-! ### law k10 -/
def S_k_well : SpF := fun ds P => ∃ n : Int, ds = [.int n] ∧ P [.int n, .int 0]
theorem l_k_well : ∀ ds P, S_k_well ds P → ds.length = 1 := by rintro ds P ⟨_, rfl, _⟩; rfl
/-- _law_well(_law_cell): slots 0 _law_cell -/
def w_k_well : WA :=
(wCons (wU fInt (wVar 0)) (wCons (wC (.int 0)) wNil))

theorem m_k_well : ∀ ds Q, S_k_well ds Q → w_k_well (startE ["_law_cell"] ds) fun ρ es => es.length ≤ sizeLine ∧ Q es := by
  rintro ds Q ⟨n, rfl, k⟩
  show w_k_well [.dat (.int n)] _
  unfold w_k_well
  walk_at "dx"
  exact ⟨by decide, k⟩
/-- signs of the first 128 -/
def okC (t : List Nat) : Prop := ∀ c, c ∈ t → c < 128
/-- a drawn line: short -/
def S_k_line : SpW := fun ws ds P => Well [] ws ∧ ds = [] ∧ ∀ ws' (t : List Nat), Well [] ws' → t.length ≤ 21 → okC t → P ws' (.str (tx t))
theorem l_k_line : ∀ ws ds P, S_k_line ws ds P → ds.length + 1 = 1 := by rintro ws ds P ⟨_, rfl, _⟩; rfl
def w_k_line_e1 : WE :=
(wCallW S_k_one 0 (wCons (wVar 1) wNil))
/-- _law_line(_law_well_here): slots 0 _law_well_here 1 _law_some 2 _law_k -/
def w_k_line : WS :=
(wSeq (wSet 1 (wLst (wCons (wC (.str (PySem.Str.ofString "\t"))) (wCons (wC (.str (PySem.Str.ofString " "))) (wCons (wC (.str (PySem.Str.ofString "  "))) (wCons (wC (.str (PySem.Str.ofString "a"))) (wCons (wC (.str (PySem.Str.ofString "b \t"))) (wCons (wC (.str (PySem.Str.ofString "\t\t"))) (wCons (wC (.str (PySem.Str.ofString "x"))) (wCons (wC (.str (PySem.Str.ofString "   "))) (wCons (wC (.str (PySem.Str.ofString "- "))) wNil)))))))))))
(wRet (wJoin (wC (.str (PySem.Str.ofString ""))) (wLc 2 (wRange1 (wCons (wCallW S_k_draw 0 (wCons (wC (.int 8)) wNil)) wNil)) wYes w_k_line_e1))))

theorem m_k_line : ∀ l ws ds Q, S_k_line ws ds Q → w_k_line { nx := fun ρ => ∃ ws', ρ.at 0 = .bor l ws' ∧ Q ws' .none, rt := fun ρ d => ∃ ws', ρ.at 0 = .bor l ws' ∧ Q ws' d } (startW l ["_law_well_here", "_law_some", "_law_k"] ws ds) := by
  rintro l ws ds Q ⟨⟨a, b, rfl⟩, rfl, k⟩
  show w_k_line _ [.bor l [.int a, .int b], .un, .un]
  unfold w_k_line
  walk_at "dx"
  refine ⟨by decide, a, b, 8, [], rfl, rfl, by decide, by decide, fun a' b' d d0 d1 => ⟨d, rfl, by omega, by omega, ?_⟩⟩
  have hopt : ([PyData.str (Str.ofString "\t"), PyData.str (Str.ofString " "), PyData.str (Str.ofString "  "), PyData.str (Str.ofString "a"), PyData.str (Str.ofString "b \t"), PyData.str (Str.ofString "\t\t"), PyData.str (Str.ofString "x"), PyData.str (Str.ofString "   "), PyData.str (Str.ofString "- ")] : List PyData)
    = (["\t", " ", "  ", "a", "b \t", "\t\t", "x", "   ", "- "].map Str.ofString).map PyData.str := rfl
  have hlen : ∀ z, z ∈ ["\t", " ", "  ", "a", "b \t", "\t\t", "x", "   ", "- "].map Str.ofString → z.length ≤ 3 := by decide +kernel
  rw [hopt]
  have hok : ∀ z, z ∈ ["\t", " ", "  ", "a", "b \t", "\t\t", "x", "   ", "- "].map Str.ofString → ∀ c, c ∈ tl z → c < 128 := by decide +kernel
  have hne : ["\t", " ", "  ", "a", "b \t", "\t\t", "x", "   ", "- "].map Str.ofString ≠ [] := by simp
  have hl9 : (["\t", " ", "  ", "a", "b \t", "\t\t", "x", "   ", "- "].map Str.ofString).length = 9 := rfl
  generalize ["\t", " ", "  ", "a", "b \t", "\t\t", "x", "   ", "- "].map Str.ofString = opts at hlen hne hl9 hok
  refine lcD_inv (fun ρ => ∃ ws, Well [] ws ∧ ρ = [.bor l ws, .dat (.list (opts.map .str)), .un]) (fun y => y ∈ opts.map PyData.str) ?_ _ _ _ ⟨_, ⟨_, _, rfl⟩, rfl⟩ (by rw [rangeD_len]; exact line_of (by simp; omega)) ?_
  · rintro dd ρ Q' ⟨ws, hw, rfl⟩ k'
    unfold w_k_line_e1
    walk_at "dx"
    refine ⟨[], _, hw, rfl, by simpa using hne, by simp; omega, fun ws' y hw' hy => k' _ y ⟨ws', hw', rfl⟩ hy⟩
  · rintro ρ' ys ⟨ws, hw, rfl⟩ hl hy
    obtain ⟨us, rfl, hu⟩ := strs_of hy
    rw [List.length_map, rangeD_len] at hl
    have hs := sum_le fun u hu' => hlen u (hu u hu')
    rw [List.nil_append, none_eq]
    refine ⟨us, .inl rfl, ?_, ws, rfl, ?_⟩
    · show _ + us.length * 0 ≤ _
      omega
    · rw [join_none]
      refine k ws _ hw (by rw [flat_len]; omega) fun c hc => ?_
      obtain ⟨z, hz, hcz⟩ := List.mem_flatten.mp hc
      obtain ⟨u, hu', rfl⟩ := List.mem_map.mp hz
      exact hok u (hu u hu') c hcz
def blanksN : List Nat → Nat → Int → List (Nat × Nat)
  | [], _, _ => []
  | s :: r, i, c => if isW s then ((List.range (widthN s c).toNat).map fun k => (i, (widthN s c).toNat - 1 - k)) ++ blanksN r (i + 1) (c + widthN s c) else []
def enc (p : Nat × Nat) : PyData := .tuple [.int p.1, .int p.2]
def S_k_blanks : SpD := fun ds P => ∃ (t : List Nat) (c : Int), ds = [.str (tx t), .int c] ∧ t.length ≤ 1000 ∧ P (.list ((blanksN t 0 c).map enc))
theorem l_k_blanks : ∀ ds P, S_k_blanks ds P → ds.length = 2 := by rintro ds P ⟨_, _, rfl, _⟩; rfl
def w_k_blanks_b1 : WS :=
(wApp 2 (wTup (wCons (wVar 3) (wCons (wVar 6) wNil))))
def w_k_blanks_b2 : WS :=
(wSeq (wIf (wTst (wOp (fIn true) (wVar 4) (wC (.str (PySem.Str.ofString " \t")))))
(wRetO 2)
wSkip)
(wSeq (wSet 5 (wIte (wTst (wOp (fEq false) (wVar 4) (wC (.str (PySem.Str.ofString "\t"))))) (wOp fSub (wC (.int 4)) (wOp fMod (wU fInt (wVar 1)) (wC (.int 4)))) (wC (.int 1))))
(wSeq (wFor (wDown (wCons (wOp fSub (wVar 5) (wC (.int 1))) (wCons (wU fNeg (wC (.int 1))) (wCons (wU fNeg (wC (.int 1))) wNil)))) (gN 6) w_k_blanks_b1)
(wSet 1 (wOp fAdd (wVar 1) (wVar 5))))))
/-- _law_blanks(_law_line_here, _law_column): slots 0 _law_line_here 1 _law_column 2 _law_found 3 _law_at 4 _law_sign 5 _law_many 6 _law_left -/
def w_k_blanks : WS :=
(wSeq (wNew 2)
(wSeq (wFor (wEnum (wVar 0)) (gT 2 (gCons' (gN 3) (gCons' (gN 4) gNil'))) w_k_blanks_b2)
(wRetO 2)))

theorem width_pos (s : Nat) (c : Int) : 1 ≤ widthN s c ∧ widthN s c ≤ 4 := by
  unfold widthN
  split <;> omega
theorem blanks_len : ∀ (t : List Nat) (i : Nat) (c : Int), (blanksN t i c).length ≤ 4 * t.length
  | [], _, _ => by simp [blanksN]
  | s :: r, i, c => by
    unfold blanksN
    split
    · have ih := blanks_len r (i + 1) (c + widthN s c)
      have w := width_pos s c
      rw [List.length_append, List.length_map, List.length_range, List.length_cons]
      omega
    · simp
/-- the inner loop -/
theorem f_down {E : DEnds} {a0 a1 a4 a5 : SV} {i : Int} : ∀ (xs : List PyData) (acc : List PyData) (v : SV), acc.length + xs.length ≤ 100000 → (∀ v', E.nx [a0, a1, .own (acc ++ xs.map fun d => .tuple [.int i, d]), .dat (.int i), a4, a5, v']) →
    forD (gN 6) w_k_blanks_b1 E xs [a0, a1, .own acc, .dat (.int i), a4, a5, v]
  | [], acc, v, _, k => by
    have q := k v
    rw [List.map_nil, List.append_nil] at q
    exact q
  | d :: ds, acc, v, hz, k => by
    unfold forD w_k_blanks_b1
    walk_at "dx"
    rw [List.length_cons] at hz
    refine ⟨by decide, Nat.lt_of_lt_of_le (by omega : acc.length < 100001) (by decide), ?_⟩
    refine f_down ds _ _ (by rw [List.length_append, List.length_singleton]; omega) fun v' => ?_
    rw [List.append_assoc]
    exact k v'
theorem t_blanks {E : DEnds} {a0 a5 a6 : SV} {s i : Nat} {c : Int} {acc : List PyData} (hz : acc.length ≤ 10000)
    (k1 : isW s → ∀ v v', E.nx [a0, .dat (.int (c + widthN s c)), .own (acc ++ (((List.range (widthN s c).toNat).map fun k => (i, (widthN s c).toNat - 1 - k)).map enc)), .dat (.int i), .dat (.str ⟨#[s]⟩), v, v'])
    (k2 : ¬ isW s → E.rt [a0, .dat (.int c), .own acc, .dat (.int i), .dat (.str ⟨#[s]⟩), a5, a6] (.list acc)) :
    w_k_blanks_b2 E [a0, .dat (.int c), .own acc, .dat (.int i), .dat (.str ⟨#[s]⟩), a5, a6] := by
  unfold w_k_blanks_b2
  walk_at "dx"
  rw [white_eq, inS_one, tab_eq]
  by_cases h : isW s
  · have e : decide (s ∈ (⟨#[32, 9]⟩ : Str).cps.toList) = true := by unfold isW at h; simpa using h
    rw [e]
    have w := width_pos s c
    refine ⟨fun z => by simp at z, fun _ => ?_⟩
    have go : ∀ m : Int, m = widthN s c → (-2 ^ 62 ≤ m - 1 ∧ m - 1 < 2 ^ 62 ∧ -2 ^ 62 ≤ (-1 : Int) ∧ (-1 : Int) < 2 ^ 62) ∧ ∀ E' : DEnds, (E'.nx = wSet 1 (wOp fAdd (wVar 1) (wVar 5)) E) → forD (gN 6) w_k_blanks_b1 E' (downD (m - 1) (m - 1 - -1).toNat) [a0, .dat (.int c), .own acc, .dat (.int i), .dat (.str ⟨#[s]⟩), .dat (.int m), a6] := by
      intro m hm
      refine ⟨by omega, fun E' hE => ?_⟩
      refine f_down _ _ _ (by rw [downD_len]; omega) fun v' => ?_
      rw [hE]
      walk_at "dx"
      have q := k1 h (.dat (.int m)) v'
      have e2 : (downD (m - 1) (m - 1 - -1).toNat).map (fun d => PyData.tuple [.int i, d]) = ((List.range (widthN s c).toNat).map fun k => (i, (widthN s c).toNat - 1 - k)).map enc := by
        have e3 : (m - 1 - -1).toNat = (widthN s c).toNat := by omega
        rw [e3]
        unfold downD
        rw [List.map_map, List.map_map]
        refine List.map_congr_left fun k hk => ?_
        have hk' := List.mem_range.mp hk
        show PyData.tuple [.int i, .int (m - 1 + (k : Int) * -1)] = .tuple [.int i, .int (((widthN s c).toNat - 1 - k : Nat) : Int)]
        have e4 : m - 1 + (k : Int) * -1 = (((widthN s c).toNat - 1 - k : Nat) : Int) := by omega
        rw [e4]
      rw [e2, hm]
      rw [hm] at q
      exact q
    by_cases h9 : s = 9
    · have hm : 4 - c % 4 = widthN s c := by unfold widthN; rw [if_pos h9]
      obtain ⟨⟨b1, b2, b3, b4⟩, g⟩ := go _ hm
      exact ⟨fun _ => ⟨by decide, b1, b2, b3, b4, g _ rfl⟩, fun z => by simp [h9] at z⟩
    · have hm : 1 = widthN s c := by unfold widthN; rw [if_neg h9]
      obtain ⟨⟨b1, b2, b3, b4⟩, g⟩ := go _ hm
      exact ⟨fun z => absurd (by simpa using z) h9, fun _ => ⟨b1, b2, b3, b4, g _ rfl⟩⟩
  · have e : decide (s ∈ (⟨#[32, 9]⟩ : Str).cps.toList) = false := by unfold isW at h; simpa using h
    rw [e]
    exact ⟨fun _ => k2 h, fun z => by simp at z⟩
theorem f_blanks {E : DEnds} {a0 : SV} : ∀ (t : List Nat) (i : Nat) (c : Int) (acc : List PyData) (a3 a4 a5 a6 : SV), acc.length + 4 * t.length ≤ 10000 →
    (∀ ρ, ρ.at 2 = .own (acc ++ (blanksN t i c).map enc) → E.rt ρ (.list (acc ++ (blanksN t i c).map enc)) ∧ E.nx ρ) →
    forD (gT 2 (gCons' (gN 3) (gCons' (gN 4) gNil'))) w_k_blanks_b2 E (((t.map fun c => PyData.str ⟨#[c]⟩).zipIdx i).map fun p => .tuple [.int (p.2 : Nat), p.1]) [a0, .dat (.int c), .own acc, a3, a4, a5, a6]
  | [], i, c, acc, a3, a4, a5, a6, _, k => by
    have q := (k [a0, .dat (.int c), .own acc, a3, a4, a5, a6] (by simp [blanksN, Env.at])).2
    exact q
  | s :: r, i, c, acc, a3, a4, a5, a6, hz, k => by
    rw [List.map_cons, List.zipIdx_cons, List.map_cons]
    refine ⟨_, rfl, rfl, _, _, rfl, _, _, rfl, rfl, ?_⟩
    rw [List.length_cons] at hz
    unfold blanksN at k
    refine t_blanks (by omega) (fun h v v' => ?_) (fun h => ?_)
    · rw [if_pos h] at k
      have w := width_pos s c
      refine f_blanks r (i + 1) _ _ _ _ _ _ ?_ fun ρ hρ => ?_
      · rw [List.length_append, List.length_map, List.length_map, List.length_range]; omega
      · rw [List.map_append, ← List.append_assoc] at k
        exact k ρ hρ
    · rw [if_neg h] at k
      have q := (k [a0, .dat (.int c), .own acc, .dat (.int i), .dat (.str ⟨#[s]⟩), a5, a6] (by simp [Env.at])).1
      simpa using q
theorem m_k_blanks : ∀ ds Q, S_k_blanks ds Q → w_k_blanks { nx := fun _ => Q .none, rt := fun _ d => Q d } (startE ["_law_line_here", "_law_column", "_law_found", "_law_at", "_law_sign", "_law_many", "_law_left"] ds) := by
  rintro ds Q ⟨t, c, rfl, hz, k⟩
  show w_k_blanks _ [.dat (.str (tx t)), .dat (.int c), .un, .un, .un, .un, .un]
  unfold w_k_blanks
  walk_at "dx"
  unfold enumD
  rw [signs_tx]
  refine f_blanks t 0 c [] _ _ _ _ (by simp; omega) fun ρ hρ => ?_
  rw [List.nil_append] at hρ ⊢
  exact ⟨k, _, hρ, k⟩
/-! ### columns taken one by one -/
theorem go_len : ∀ (t : List Nat) (i : Nat) (c : Int), goCol t c = c + ((blanksN t i c).length : Int)
  | [], i, c => by simp [goCol, blanksN]
  | s :: r, i, c => by
    unfold goCol blanksN
    split
    · have w := width_pos s c
      rw [go_len r (i + 1), List.length_append, List.length_map, List.length_range]
      omega
    · simp
theorem takeN_add : ∀ (a b : Nat) (x : List Nat × Int × Int), takeN (a + b) x = (takeN a x).bind (takeN b)
  | 0, b, x => by rw [Nat.zero_add]; rfl
  | a + 1, b, x => by
    rw [Nat.add_right_comm]
    show (step x).bind (takeN (a + b)) = ((step x).bind (takeN a)).bind (takeN b)
    cases step x with
    | none => rfl
    | some y => exact takeN_add a b y
theorem takeN_held : ∀ (k : Nat) (t : List Nat) (c h : Int), (k : Int) ≤ h → takeN k (t, c, h) = some (t, c + k, h - k)
  | 0, t, c, h, _ => by simp [takeN]
  | k + 1, t, c, h, hk => by
    show (step (t, c, h)).bind (takeN k) = _
    have e : step (t, c, h) = some (t, c + 1, h - 1) := by
      unfold step
      dsimp only
      rw [if_neg (by omega)]
    rw [e]
    show takeN k (t, c + 1, h - 1) = _
    rw [takeN_held k t (c + 1) (h - 1) (by omega)]
    have e1 : c + 1 + (k : Int) = c + ((k + 1 : Nat) : Int) := by omega
    have e2 : h - 1 - (k : Int) = h - ((k + 1 : Nat) : Int) := by omega
    rw [e1, e2]
theorem take_blanks : ∀ (t : List Nat) (i : Nat) (c : Int) (n : Nat), 0 < n → n ≤ (blanksN t i c).length → ∃ p left : Nat, (blanksN t i c)[n - 1]? = some (p, left) ∧ i ≤ p ∧ p < i + t.length ∧ left ≤ 3 ∧ takeN n (t, c, 0) = some (t.drop (p - i + 1), c + (n : Int), (left : Int)) ∧
    goCol (t.drop (p - i + 1)) (c + (n : Int) + (left : Int)) = c + ((blanksN t i c).length : Int)
  | [], i, c, n, h0, h1 => by simp [blanksN] at h1; omega
  | s :: r, i, c, n, h0, h1 => by
    unfold blanksN at h1 ⊢
    by_cases h : isW s
    · rw [if_pos h] at h1 ⊢
      have w := width_pos s c
      rw [List.length_append, List.length_map, List.length_range] at h1
      obtain ⟨m, hm⟩ : ∃ m : Nat, widthN s c = (m : Int) := ⟨(widthN s c).toNat, by omega⟩
      have hmt : (widthN s c).toNat = m := by omega
      rw [hmt] at h1 ⊢
      have s1 : step (s :: r, c, 0) = some (r, c + 1, (m : Int) - 1) := by
        unfold step
        dsimp only
        rw [if_pos rfl, hm]
      have first : ∀ j, 0 < j → j ≤ m → takeN j (s :: r, c, 0) = some (r, c + j, (m : Int) - j) := fun j j0 j1 => by
        obtain ⟨j', rfl⟩ : ∃ j', j = j' + 1 := ⟨j - 1, by omega⟩
        show (step (s :: r, c, 0)).bind (takeN j') = _
        rw [s1]
        show takeN j' (r, c + 1, (m : Int) - 1) = _
        rw [takeN_held j' r (c + 1) _ (by omega)]
        have e1 : c + 1 + (j' : Int) = c + ((j' + 1 : Nat) : Int) := by omega
        have e2 : (m : Int) - 1 - (j' : Int) = (m : Int) - ((j' + 1 : Nat) : Int) := by omega
        rw [e1, e2]
      by_cases hn : n ≤ m
      · refine ⟨i, m - n, ?_, Nat.le_refl _, by simp, by omega, ?_, ?_⟩
        · rw [List.getElem?_append_left (by simp; omega), List.getElem?_map, List.getElem?_range (by omega)]
          show some (i, m - 1 - (n - 1)) = _
          have e : m - 1 - (n - 1) = m - n := by omega
          rw [e]
        · rw [first n h0 hn, Nat.sub_self]
          show _ = some (r, c + (n : Int), ((m - n : Nat) : Int))
          have e : (m : Int) - (n : Int) = ((m - n : Nat) : Int) := by omega
          rw [e]
        · rw [Nat.sub_self]
          show goCol r (c + (n : Int) + ((m - n : Nat) : Int)) = _
          have e : c + (n : Int) + ((m - n : Nat) : Int) = c + widthN s c := by omega
          rw [e, go_len r (i + 1), List.length_append, List.length_map, List.length_range]
          omega
      · obtain ⟨p, left, g1, g2, g3, g4, g5, g6⟩ := take_blanks r (i + 1) (c + widthN s c) (n - m) (by omega) (by omega)
        have hd : (s :: r).drop (p - i + 1) = r.drop (p - (i + 1) + 1) := by
          have e : p - i + 1 = (p - (i + 1) + 1) + 1 := by omega
          rw [e, List.drop_succ_cons]
        refine ⟨p, left, ?_, by omega, by rw [List.length_cons]; omega, g4, ?_, ?_⟩
        · rw [List.getElem?_append_right (by simp; omega), List.length_map, List.length_range]
          have e : n - 1 - m = n - m - 1 := by omega
          rw [e]
          exact g1
        · have e : n = m + (n - m) := by omega
          rw [e, takeN_add, first m (by omega) (Nat.le_refl _)]
          show takeN (n - m) (r, c + (m : Int), (m : Int) - (m : Int)) = _
          rw [Int.sub_self, ← hm, g5, hd]
          have e2 : c + widthN s c + ((n - m : Nat) : Int) = c + ((m + (n - m) : Nat) : Int) := by omega
          rw [e2]
        · rw [hd]
          have e2 : c + (n : Int) + (left : Int) = c + widthN s c + ((n - m : Nat) : Int) + (left : Int) := by omega
          rw [e2, g6, List.length_append, List.length_map, List.length_range]
          omega
    · rw [if_neg h] at h1
      simp at h1
      omega
/-- the rest behind n blank columns of a line that begins at a column -/
structure Rst (t : List Nat) (c : Int) (n : Nat) (t' : List Nat) (left : Nat) : Prop where
  tk : takeN n (t, c, 0) = some (t', c + (n : Int), (left : Int))
  go : goCol t' (c + (n : Int) + (left : Int)) = c + ((blanksN t 0 c).length : Int)
  le : left ≤ 3
  ln : t'.length ≤ t.length
  sub : ∀ x, x ∈ t' → x ∈ t
  z : n = 0 → t' = t ∧ left = 0
  s : 0 < n → ∃ p : Nat, (blanksN t 0 c)[n - 1]? = some (p, left) ∧ t' = t.drop (p + 1)
theorem rst_of (t : List Nat) (c : Int) (n : Nat) (h : n ≤ (blanksN t 0 c).length) : ∃ t' left, Rst t c n t' left := by
  by_cases h0 : n = 0
  · subst h0
    refine ⟨t, 0, ⟨by simp [takeN], ?_, by omega, Nat.le_refl _, fun x h => h, fun _ => ⟨rfl, rfl⟩, fun h => absurd h (Nat.lt_irrefl _)⟩⟩
    have e : c + ((0 : Nat) : Int) + ((0 : Nat) : Int) = c := by omega
    rw [e]
    exact go_len t 0 c
  · obtain ⟨p, left, g1, g2, g3, g4, g5, g6⟩ := take_blanks t 0 c n (by omega) h
    rw [Nat.sub_zero] at g5 g6
    exact ⟨t.drop (p + 1), left, ⟨g5, g6, g4, by rw [List.length_drop]; omega, fun x hx => List.mem_of_mem_drop hx, fun e => absurd e h0, fun _ => ⟨p, g1, rfl⟩⟩⟩
theorem rst_more {t t' t2 : List Nat} {c : Int} {n k left l2 : Nat} (r : Rst t c n t' left) (q : Rst t c (n + k) t2 l2) : takeN k (t', c + (n : Int), (left : Int)) = some (t2, c + ((n + k : Nat) : Int), (l2 : Int)) := by
  have e := q.tk
  rw [takeN_add, r.tk] at e
  exact e
theorem cut_from (t : List Nat) (k : Nat) : cutS (tx t) (some (k : Int)) none = tx (t.drop k) := by
  have h : HT.sIx (tx t).length 0 (some (k : Int)) = min k t.length := by rw [HT.sIx_nat, tx_len]
  have h2 : HT.sIx (tx t).length (tx t).length none = t.length := by rw [HT.sIx_none, tx_len]
  unfold cutS
  rw [h, h2]
  show (⟨(List.take (t.length - min k t.length) (List.drop (min k t.length) t)).toArray⟩ : Str) = ⟨(List.drop k t).toArray⟩
  by_cases hk : k ≤ t.length
  · rw [Nat.min_eq_left hk, List.take_of_length_le (by rw [List.length_drop]; omega)]
  · rw [Nat.min_eq_right (by omega), List.drop_eq_nil_of_le (Nat.le_refl _), List.drop_eq_nil_of_le (by omega)]
    simp
theorem atI_get {α : Type} {l : List α} {i : Int} {k : Nat} {x : α} (hi : i = (k : Int)) (h : l[k]? = some x) : atI l i = some x := by
  have hl := (List.getElem?_eq_some_iff.mp h).1
  unfold atI ixN
  rw [if_pos (by omega), if_pos (by omega)]
  show l[i.toNat]? = some x
  have e : i.toNat = k := by omega
  rw [e]; exact h
theorem ok_tx {t : List Nat} (h : okC t) : PyData.strOk (tx t) = true := by
  unfold PyData.strOk
  rw [← Array.all_toList, List.all_eq_true]
  intro c hc
  have := h c hc
  exact decide_eq_true (by omega)
/-- a rest is data that can be compared -/
theorem shaped_rest {t : List Nat} (h : okC t) (a b : Int) : SeqAt.shaped (.tuple [.str (tx t), .int a, .int b]) = true := by
  unfold SeqAt.shaped
  simp [PyData.canLay0, PyData.canLayAll0, ok_tx h, PyData.depth, PyData.depthAll]
theorem eq_rest (t : List Nat) (a b : Int) : PyData.eqv (.tuple [.str (tx t), .int a, .int b]) (.tuple [.str (tx t), .int a, .int b]) = true := by
  simp [PyData.eqv, PyData.eqvAll]
def S_k_walk_right : SpW := fun ws ds P => Well [] ws ∧ ∃ t : List Nat, ds = [.str (tx t)] ∧ t.length ≤ 100 ∧ okC t ∧ ∀ ws', Well [] ws' → P ws' (.bool true)
theorem l_k_walk_right : ∀ ws ds P, S_k_walk_right ws ds P → ds.length + 1 = 2 := by rintro ws ds P ⟨_, _, rfl, _⟩; rfl
def S_k_behind_right : SpW := S_k_walk_right
theorem l_k_behind_right : ∀ ws ds P, S_k_behind_right ws ds P → ds.length + 1 = 2 := l_k_walk_right
def w_k_walk_right_i1 : WS :=
(wIf (wOr (wTst (wOp (fEq true) (wVar 3) (wTup (wCons (wSl (wVar 1) (wSo (wOp fAdd (wVar 7) (wC (.int 1)))) wNo) (wCons (wVar 4) (wCons (wVar 8) wNil)))))) (wTst (wOp (fEq true) (wCall S_told (wCons (wVar 3) wNil)) (wOp fAdd (wOp fMul (wC (.str (PySem.Str.ofString " "))) (wVar 8)) (wSl (wVar 1) (wSo (wOp fAdd (wVar 7) (wC (.int 1)))) wNo)))))
(wRet (wC (.bool false)))
wSkip)
def w_k_walk_right_i2 : WS :=
(wIf (wOr (wTst (wOp (fEq true) (wCall S_indent (wCons (wVar 3) wNil)) (wOp fSub (wU fLen (wVar 2)) (wVar 4)))) (wTst (wOp (fEq true) (wCall S_taken (wCons (wVar 3) (wCons (wC (.int 0)) wNil))) (wVar 3))))
(wRet (wC (.bool false)))
wSkip)
def w_k_walk_right_b3 : WS :=
(wSeq w_k_walk_right_i2
(wSeq (wSet 6 (wCallW S_k_draw 0 (wCons (wOp fAdd (wOp fSub (wU fLen (wVar 2)) (wVar 4)) (wC (.int 1))) wNil)))
(wSeq (wSet 3 (wCall S_taken (wCons (wVar 3) (wCons (wVar 6) wNil))))
(wSeq (wSet 4 (wOp fAdd (wVar 4) (wVar 6)))
(wSeq (wAsg (wIte (wTst (wOp fGt (wVar 4) (wC (.int 0)))) (wOp fIx (wVar 2) (wOp fSub (wVar 4) (wC (.int 1)))) (wTup (wCons (wU fNeg (wC (.int 1))) (wCons (wC (.int 0)) wNil)))) (gT 2 (gCons' (gN 7) (gCons' (gN 8) gNil'))))
w_k_walk_right_i1)))))
def w_k_walk_right_i4 : WS :=
(wIf (wTst (wOp (fEq true) (wVar 3) (wTup (wCons (wVar 1) (wCons (wC (.int 0)) (wCons (wC (.int 0)) wNil))))))
(wRet (wC (.bool false)))
wSkip)
/-- _law_walk_right(_law_well_here, _law_line_here): slots 0 _law_well_here 1 _law_line_here 2 _law_table 3 _law_rest 4 _law_gone 5 _law_k 6 _law_step 7 _law_at 8 _law_left -/
def w_k_walk_right : WS :=
(wSeq (wSet 2 (wCall S_k_blanks (wCons (wVar 1) (wCons (wC (.int 0)) wNil))))
(wSeq (wSet 3 (wCall S_whole (wCons (wVar 1) wNil)))
(wSeq w_k_walk_right_i4
(wSeq (wSet 4 (wC (.int 0)))
(wSeq (wFor (wRange1 (wCons (wC (.int 6)) wNil)) (gN 5) w_k_walk_right_b3)
(wRet (wC (.bool true))))))))

/-- _law_behind_right(_law_well_here, _law_line_here): slots 0 _law_well_here 1 _law_line_here 2 _law_column 3 _law_table 4 _law_rest 5 _law_many 6 _law_at 7 _law_left -/
def w_k_behind_right : WS :=
(wSeq (wSet 2 (wOp fAdd (wC (.int 1)) (wCallW S_k_draw 0 (wCons (wC (.int 9)) wNil))))
(wSeq (wSet 3 (wCall S_k_blanks (wCons (wVar 1) (wCons (wVar 2) wNil))))
(wSeq (wSet 4 (wTup (wCons (wVar 1) (wCons (wVar 2) (wCons (wC (.int 0)) wNil)))))
(wSeq (wIf (wTst (wOp (fEq true) (wCall S_indent (wCons (wVar 4) wNil)) (wU fLen (wVar 3))))
(wRet (wC (.bool false)))
wSkip)
(wSeq (wSet 5 (wCallW S_k_draw 0 (wCons (wOp fAdd (wU fLen (wVar 3)) (wC (.int 1))) wNil)))
(wSeq (wAsg (wIte (wTst (wOp fGt (wVar 5) (wC (.int 0)))) (wOp fIx (wVar 3) (wOp fSub (wVar 5) (wC (.int 1)))) (wTup (wCons (wU fNeg (wC (.int 1))) (wCons (wC (.int 0)) wNil)))) (gT 2 (gCons' (gN 6) (gCons' (gN 7) gNil'))))
(wRet (wOp (fEq false) (wCall S_taken (wCons (wVar 4) (wCons (wVar 5) wNil))) (wTup (wCons (wSl (wVar 1) (wSo (wOp fAdd (wVar 6) (wC (.int 1)))) wNo) (wCons (wOp fAdd (wVar 2) (wVar 5)) (wCons (wVar 7) wNil))))))))))))

theorem sp_told {h : Nat} (x : Str) : repS (tx [32]) h ++ x = repS (PySem.Str.ofString " ") ((h : Int)).toNat ++ x := by rw [blank_eq, Int.toNat_natCast]
theorem t_walk1 {E : DEnds} {a0 a2 a5 a6 : SV} {t t2 : List Nat} {n l2 : Nat} {p : Int} (hz : t.length ≤ 100) (hz2 : t2.length ≤ 100) (ho : okC t2) (hl : l2 ≤ 3) (hc : cutS (tx t) (some (p + 1)) none = tx t2)
    (k : E.nx [a0, .dat (.str (tx t)), a2, .dat (.tuple [.str (tx t2), .int (n : Int), .int (l2 : Int)]), .dat (.int (n : Int)), a5, a6, .dat (.int p), .dat (.int (l2 : Int))]) :
    w_k_walk_right_i1 E [a0, .dat (.str (tx t)), a2, .dat (.tuple [.str (tx t2), .int (n : Int), .int (l2 : Int)]), .dat (.int (n : Int)), a5, a6, .dat (.int p), .dat (.int (l2 : Int))] := by
  unfold w_k_walk_right_i1
  walk_at "dx"
  rw [hc, eq_rest]
  have hlen : (tx t).length ≤ sizeLine := line_of (by rw [tx_len]; omega)
  refine ⟨hlen, by decide, shaped_rest ho _ _, shaped_rest ho _ _, fun z => by simp at z, fun _ => ⟨t2, _, l2, rfl, by omega, by omega, ?_⟩⟩
  walk_at "dx"
  have h1 : (Str.ofString " ").length = 1 := by rw [blank_eq]; rfl
  refine ⟨by omega, by omega, by rw [h1, Int.toNat_natCast]; exact line_of (by omega), hlen, by rw [repS_len, h1, Int.toNat_natCast, tx_len]; exact line_of (by omega), ?_⟩
  rw [sp_told]
  exact ⟨fun z => by simp at z, fun _ => k⟩
theorem t_walk {E : DEnds} {l : Addr} {t t' : List Nat} {ws : List PyData} {n left : Nat} {v6 v7 v8 : SV} {d5 : PyData} (hw : Well [] ws) (hz : t.length ≤ 100) (ho : okC t) (hn : n ≤ (blanksN t 0 0).length) (r : Rst t 0 n t' left)
    (k : ∀ ws' n' t2 l2 v6 v7 v8, Well [] ws' → n' ≤ (blanksN t 0 0).length → Rst t 0 n' t2 l2 → E.nx [.bor l ws', .dat (.str (tx t)), .dat (.list ((blanksN t 0 0).map enc)), .dat (.tuple [.str (tx t2), .int (n' : Int), .int (l2 : Int)]), .dat (.int (n' : Int)), .dat d5, v6, v7, v8]) :
    w_k_walk_right_b3 E [.bor l ws, .dat (.str (tx t)), .dat (.list ((blanksN t 0 0).map enc)), .dat (.tuple [.str (tx t'), .int (n : Int), .int (left : Int)]), .dat (.int (n : Int)), .dat d5, v6, v7, v8] := by
  have hL := blanks_len t 0 0
  have ho' : okC t' := fun c hc => ho c (r.sub c hc)
  unfold w_k_walk_right_b3 w_k_walk_right_i2
  walk_at "dx"
  -- indent(rest)
  refine ⟨t', n, left, rfl, ?_⟩
  walk_at "dx"
  have e1 : goCol t' ((n : Int) + (left : Int)) - (n : Int) = (((blanksN t 0 0).map enc).length : Int) - (n : Int) := by
    have g := r.go
    rw [Int.zero_add] at g
    rw [g, List.length_map]; omega
  rw [e1]
  refine ⟨fun z => by simp at z, fun _ => ?_⟩
  -- taken(rest, 0)
  refine ⟨t', n, left, 0, t', n, left, rfl, by have := r.ln; omega, by omega, rfl, ?_⟩
  walk_at "dx"
  rw [eq_rest]
  refine ⟨shaped_rest ho' _ _, shaped_rest ho' _ _, fun z => by simp at z, fun _ => ?_⟩
  obtain ⟨a, b, rfl⟩ := hw
  refine ⟨a, b, _, [], rfl, rfl, by rw [List.length_map]; omega, by rw [List.length_map]; omega, fun a' b' d d0 d1 => ?_⟩
  rw [List.length_map] at d1
  obtain ⟨s, rfl⟩ : ∃ s : Nat, d = (s : Int) := ⟨d.toNat, by omega⟩
  obtain ⟨t2, l2, r2⟩ := rst_of t 0 (n + s) (by omega)
  have ho2 : okC t2 := fun c hc => ho c (r2.sub c hc)
  have q := rst_more r r2
  rw [Int.zero_add, Int.zero_add] at q
  refine ⟨t', n, left, s, t2, _, l2, rfl, by have := r.ln; omega, by omega, q, ?_⟩
  walk_at "dx"
  have en : (n : Int) + (s : Int) = ((n + s : Nat) : Int) := by omega
  rw [en]
  have hl2 := r2.ln
  have fin : ∀ p : Int, cutS (tx t) (some (p + 1)) none = tx t2 → w_k_walk_right_i1 E [.bor l [.int a', .int b'], .dat (.str (tx t)), .dat (.list ((blanksN t 0 0).map enc)), .dat (.tuple [.str (tx t2), .int ((n + s : Nat) : Int), .int (l2 : Int)]), .dat (.int ((n + s : Nat) : Int)), .dat d5, .dat (.int s), .dat (.int p), .dat (.int (l2 : Int))] :=
    fun p hp => t_walk1 hz (by omega) ho2 r2.le hp (k _ _ _ _ _ _ _ ⟨_, _, rfl⟩ (by omega) r2)
  by_cases h0 : n + s = 0
  · refine ⟨fun z => absurd (of_decide_eq_true z) (by omega), fun _ => ⟨by decide, ?_⟩⟩
    have f := fin (-1) (by rw [(r2.z h0).1]; exact cut_from t 0)
    have e : (l2 : Int) = 0 := by have := (r2.z h0).2; omega
    rw [e] at f
    rw [e]
    exact f
  · obtain ⟨p, g1, g2⟩ := r2.s (by omega)
    refine ⟨fun _ => ⟨enc (p, l2), atI_get (k := n + s - 1) (by omega) (by rw [List.getElem?_map, g1]; rfl), ?_⟩, fun z => absurd (of_decide_eq_false z) (by omega)⟩
    unfold enc
    walk_at "dx"
    exact fin p (by have e : (p : Int) + 1 = ((p + 1 : Nat) : Int) := by omega
                    rw [e, cut_from, g2])
theorem f_walk {E : DEnds} {l : Addr} {t : List Nat} (hz : t.length ≤ 100) (ho : okC t) (k : ∀ ws' ρ, Well [] ws' → E.nx (.bor l ws' :: ρ)) : ∀ (ds : List PyData) (ws : List PyData) (n : Nat) (t' : List Nat) (left : Nat) (v5 v6 v7 v8 : SV), Well [] ws → n ≤ (blanksN t 0 0).length → Rst t 0 n t' left →
    forD (gN 5) w_k_walk_right_b3 E ds [.bor l ws, .dat (.str (tx t)), .dat (.list ((blanksN t 0 0).map enc)), .dat (.tuple [.str (tx t'), .int (n : Int), .int (left : Int)]), .dat (.int (n : Int)), v5, v6, v7, v8]
  | [], ws, n, t', left, v5, v6, v7, v8, hw, hn, r => k ws _ hw
  | d :: ds, ws, n, t', left, v5, v6, v7, v8, hw, hn, r => t_walk hw hz ho hn r fun ws' n' t2 l2 v6 v7 v8 hw' hn' r' => f_walk hz ho k ds ws' n' t2 l2 _ _ _ _ hw' hn' r'
theorem m_k_walk_right : ∀ l ws ds Q, S_k_walk_right ws ds Q → w_k_walk_right { nx := fun ρ => ∃ ws', ρ.at 0 = .bor l ws' ∧ Q ws' .none, rt := fun ρ d => ∃ ws', ρ.at 0 = .bor l ws' ∧ Q ws' d } (startW l ["_law_well_here", "_law_line_here", "_law_table", "_law_rest", "_law_gone", "_law_k", "_law_step", "_law_at", "_law_left"] ws ds) := by
  rintro l ws ds Q ⟨hw, t, rfl, hz, ho, k⟩
  show w_k_walk_right _ [.bor l ws, .dat (.str (tx t)), .un, .un, .un, .un, .un, .un, .un]
  unfold w_k_walk_right w_k_walk_right_i4
  walk_at "dx"
  refine ⟨t, 0, rfl, by omega, _, rfl, ?_⟩
  walk_at "dx"
  rw [eq_rest]
  refine ⟨by decide, shaped_rest ho _ _, shaped_rest ho _ _, fun z => by simp at z, fun _ => ⟨by decide, by decide, ?_⟩⟩
  obtain ⟨t', left, r⟩ := rst_of t 0 0 (Nat.zero_le _)
  have e := (r.z rfl)
  rw [e.1, e.2] at r
  refine f_walk hz ho (fun ws' ρ hw' => ?_) _ ws 0 t 0 _ _ _ _ hw (Nat.zero_le _) r
  walk_at "dx"
  exact k ws' hw'
theorem m_k_behind_right : ∀ l ws ds Q, S_k_behind_right ws ds Q → w_k_behind_right { nx := fun ρ => ∃ ws', ρ.at 0 = .bor l ws' ∧ Q ws' .none, rt := fun ρ d => ∃ ws', ρ.at 0 = .bor l ws' ∧ Q ws' d } (startW l ["_law_well_here", "_law_line_here", "_law_column", "_law_table", "_law_rest", "_law_many", "_law_at", "_law_left"] ws ds) := by
  rintro l ws ds Q ⟨⟨a, b, rfl⟩, t, rfl, hz, ho, k⟩
  show w_k_behind_right _ [.bor l [.int a, .int b], .dat (.str (tx t)), .un, .un, .un, .un, .un, .un]
  unfold w_k_behind_right
  walk_at "dx"
  refine ⟨a, b, _, [], rfl, rfl, by decide, by decide, fun a' b' d d0 d1 => ⟨t, 1 + d, rfl, by omega, ?_⟩⟩
  have hL := blanks_len t 0 (1 + d)
  walk_at "dx"
  refine ⟨by decide, t, 1 + d, 0, rfl, ?_⟩
  walk_at "dx"
  have e1 : goCol t (1 + d + 0) - (1 + d) = (((blanksN t 0 (1 + d)).map enc).length : Int) := by
    rw [Int.add_zero, go_len t 0, List.length_map]; omega
  rw [e1]
  refine ⟨fun z => by simp at z, fun _ => ⟨a', b', _, [], rfl, rfl, by omega, by rw [List.length_map]; omega, fun a2 b2 s s0 s1 => ?_⟩⟩
  rw [List.length_map] at s1
  obtain ⟨s, rfl⟩ : ∃ n : Nat, s = (n : Int) := ⟨s.toNat, by omega⟩
  obtain ⟨t2, l2, r2⟩ := rst_of t (1 + d) s (by omega)
  have ho2 : okC t2 := fun c hc => ho c (r2.sub c hc)
  have hlen : (tx t).length ≤ sizeLine := line_of (by rw [tx_len]; omega)
  walk_at "dx"
  by_cases h0 : s = 0
  · refine ⟨fun z => absurd (of_decide_eq_true z) (by omega), fun _ => ⟨by decide, t, 1 + d, 0, s, t2, _, l2, rfl, by omega, by omega, r2.tk, ?_⟩⟩
    walk_at "dx"
    have hc : cutS (tx t) (some (-1 + 1)) none = tx t2 := by rw [(r2.z h0).1]; exact cut_from t 0
    have e : (l2 : Int) = 0 := by have := (r2.z h0).2; omega
    rw [hc, e, eq_rest]
    exact ⟨hlen, by decide, shaped_rest ho2 _ _, shaped_rest ho2 _ _, k _ ⟨_, _, rfl⟩⟩
  · obtain ⟨p, g1, g2⟩ := r2.s (by omega)
    refine ⟨fun _ => ⟨enc (p, l2), atI_get (k := s - 1) (by omega) (by rw [List.getElem?_map, g1]; rfl), ?_⟩, fun z => absurd (of_decide_eq_false z) (by omega)⟩
    unfold enc
    walk_at "dx"
    refine ⟨t, 1 + d, 0, s, t2, _, l2, rfl, by omega, by omega, r2.tk, ?_⟩
    walk_at "dx"
    have hc : cutS (tx t) (some ((p : Int) + 1)) none = tx t2 := by
      have e : (p : Int) + 1 = ((p + 1 : Nat) : Int) := by omega
      rw [e, cut_from, g2]
    rw [hc, eq_rest]
    exact ⟨hlen, by decide, shaped_rest ho2 _ _, shaped_rest ho2 _ _, k _ ⟨_, _, rfl⟩⟩
end Pm
namespace Pm
open PySem PySem.Spec PyProof.Rows L2 TL
local macro_rules | `(tactic| walk_at "dx") => `(tactic| simp only [wSeq, wIf, wTst, wOp, wOpO, wC, wVar, wOwn, wSet, wPut, wRet, wRetO, wRetN, wU, wSkip, wBreak, wCont, wIte, wAnd, wOr, wNot, wAndV, wOrV, wNotV, wCons, wNil, wTup, wLst, wSl, wSlO, wSo, wNo, wM, wJoin, wCall, wCallW, wSetF, wNew, wApp, wAsg, wPar, wAug, wFor, wSeqI, wRange1, wRange2, wDown, wEnum, wLc, wYes, wChain, wSlS, gN, gT, gCons', gNil', fSeq, fI0, fI, fInt, fIx, fAdd, fMul, fLen, fEq, fIs, isN, fIn, fNeg, fSl, fJoin, fSplit, fTuple, fList, fBools, Env.at, SV.items, SV.put, atI_0, atI_1, atI_2, List.length_cons, List.length_nil, ixN_0, ixN_1, ixN_2, List.set, Option.some.injEq, exists_eq_left', exists_eq_left, exists_eq', exists_eq, exists_and_left, exists_and_right, true_and, and_true, SV.dat.injEq, SV.own.injEq, SV.bor.injEq, SV.scr.injEq, PyData.int.injEq, PyData.str.injEq, PyData.list.injEq, PyData.tuple.injEq, PyData.bool.injEq, List.cons.injEq, and_assoc, Bool.true_eq_false, Bool.false_eq_true, false_implies, true_implies, implies_true, Bool.false_xor, Bool.true_xor])
def w_law_i1 : WS :=
(wIf (wTst (wOp (fEq true) (wCall S_lines_of (wCons (wJoin (wC (.str (PySem.Str.ofString "\n"))) (wOp fAdd (wVar 5) (wLst (wCons (wC (.str (PySem.Str.ofString "x"))) wNil)))) wNil)) (wOp fAdd (wVar 5) (wLst (wCons (wC (.str (PySem.Str.ofString "x"))) wNil)))))
(wRet (wC (.bool false)))
wSkip)
def w_law_i2 : WS :=
(wIf (wTst (wOp (fEq true) (wCall S_lines_of (wCons (wJoin (wC (.str (PySem.Str.ofString "\n"))) (wVar 5)) wNil)) (wIte (wAnd (wTst (wOp (fEq true) (wVar 5) (wLst wNil))) (wTst (wOp (fEq false) (wOp fIx (wVar 5) (wU fNeg (wC (.int 1)))) (wC (.str (PySem.Str.ofString "")))))) (wSl (wVar 5) wNo (wSo (wU fNeg (wC (.int 1))))) (wVar 5))))
(wRet (wC (.bool false)))
wSkip)
def w_law_e3 : WE :=
(wOp fAdd (wVar 4) (wC (.str (PySem.Str.ofString "\n"))))
def w_law_i4 : WS :=
(wIf (wTst (wOp (fEq true) (wCall S_lines_of (wCons (wJoin (wC (.str (PySem.Str.ofString ""))) (wLc 4 (wSeqI (wVar 5)) wYes w_law_e3)) wNil)) (wVar 5)))
(wRet (wC (.bool false)))
wSkip)
def w_law_e5 : WE :=
(wCallW S_k_one 2 (wCons (wLst (wCons (wC (.str (PySem.Str.ofString ""))) (wCons (wC (.str (PySem.Str.ofString "a"))) (wCons (wC (.str (PySem.Str.ofString " "))) (wCons (wC (.str (PySem.Str.ofString "b\t"))) (wCons (wC (.str (PySem.Str.ofString ""))) wNil)))))) wNil))
def w_law_i6 : WS :=
(wIf (wOr (wNot (wTst (wCallW S_k_walk_right 2 (wCons (wVar 4) wNil)))) (wNot (wTst (wCallW S_k_behind_right 2 (wCons (wVar 4) wNil)))))
(wRet (wC (.bool false)))
wSkip)
def w_law_b7 : WS :=
(wSeq (wSet 4 (wCallW S_k_line 2 wNil))
w_law_i6)
def w_law_b8 : WS :=
(wSeq (wSetF 2 S_k_well (wCons (wVar 1) wNil))
(wSeq (wFor (wRange1 (wCons (wC (.int 4)) wNil)) (gN 3) w_law_b7)
(wSeq (wSet 5 (wLc 3 (wRange1 (wCons (wCallW S_k_draw 2 (wCons (wC (.int 6)) wNil)) wNil)) wYes w_law_e5))
(wSeq w_law_i4
(wSeq w_law_i2
w_law_i1)))))
/-- law(_law_script): slots 0 _law_script 1 _law_cell 2 _law_well_here 3 _law_k 4 _law_line_here 5 _law_lines -/
def w_law : WS :=
(wSeq (wFor (wSeqI (wOp fAdd (wSlS 0 wNo (wSo (wC (.int 8)))) (wLst (wCons (wC (.int 0)) wNil)))) (gN 1) w_law_b8)
(wRet (wC (.bool true))))

/-! ### lines -/
structure GoodL (us : List Str) : Prop where
  ln : us.length ≤ 6
  sz : ∀ u, u ∈ us → u.length ≤ 2
  nf : ∀ u, u ∈ us → 10 ∉ tl u
  ok : ∀ u, u ∈ us → ∀ c, c ∈ tl u → c < 128
theorem strOk_of {u : Str} (h : ∀ c, c ∈ tl u → c < 128) : PyData.strOk u = true := by
  unfold PyData.strOk
  rw [← Array.all_toList, List.all_eq_true]
  intro c hc
  have := h c hc
  exact decide_eq_true (by omega)
theorem lay_strs : ∀ {us : List Str}, (∀ u, u ∈ us → ∀ c, c ∈ tl u → c < 128) → PyData.canLayAll0 (us.map .str) = true
  | [], _ => rfl
  | u :: us, h => by
    rw [List.map_cons, PyData.canLayAll0, Bool.and_eq_true]
    exact ⟨by rw [PyData.canLay0]; exact strOk_of (h u (List.mem_cons_self ..)), lay_strs fun v hv => h v (List.mem_cons_of_mem _ hv)⟩
theorem depth_strs : ∀ us : List Str, PyData.depthAll (us.map .str) = 0
  | [] => rfl
  | u :: us => by
    rw [List.map_cons, PyData.depthAll, depth_strs us]; rfl
theorem shaped_strs {us : List Str} (h : ∀ u, u ∈ us → ∀ c, c ∈ tl u → c < 128) : SeqAt.shaped (.list (us.map .str)) = true := by
  unfold SeqAt.shaped
  rw [PyData.canLay0, lay_strs h, PyData.depth, depth_strs]; rfl
theorem eqv_strs : ∀ us : List Str, PyData.eqvAll (us.map .str) (us.map .str) = true
  | [] => rfl
  | u :: us => by
    rw [List.map_cons, PyData.eqvAll, eqv_strs us]; simp [PyData.eqv]
theorem eq_strs (us : List Str) : PyData.eqv (.list (us.map .str)) (.list (us.map .str)) = true := by
  rw [PyData.eqv]; exact eqv_strs us
theorem split_lines {us : List Str} (hne : us ≠ []) (h : ∀ u, u ∈ us → 10 ∉ tl u) : Txt.split (Txt.join ⟨#[10]⟩ us) ⟨#[10]⟩ = us := split_join (s := 10) (S := []) rfl (by decide +kernel) hne h
theorem joinL_ends : ∀ ls : List (List Nat), joinL [10] (ls ++ [[]]) = (ls.map (· ++ [10])).flatten
  | [] => rfl
  | [p] => by simp [joinL]
  | p :: q :: r => by
    show p ++ ([10] ++ joinL [10] (q :: r ++ [[]])) = _
    rw [joinL_ends (q :: r)]; simp
/-- each line with a line feed behind it -/
theorem join_ends (us : List Str) : Txt.join ⟨#[]⟩ (us.map (· ++ (⟨#[10]⟩ : Str))) = Txt.join ⟨#[10]⟩ (us ++ [⟨#[]⟩]) := by
  have e1 : tl (Txt.join ⟨#[]⟩ (us.map (· ++ (⟨#[10]⟩ : Str)))) = tl (Txt.join ⟨#[10]⟩ (us ++ [⟨#[]⟩])) := by
    rw [join_eq, tl_join, join_eq, tl_join]
    show joinL [] _ = joinL [10] _
    rw [joinL_nil, List.map_append, List.map_singleton]
    show _ = joinL [10] (us.map tl ++ [[]])
    rw [joinL_ends, List.map_map, List.map_map]
    congr 1
    refine List.map_congr_left fun u _ => ?_
    show tl (u ++ ⟨#[10]⟩) = tl u ++ [10]
    rw [tl_append]
  generalize Txt.join ⟨#[]⟩ (us.map (· ++ (⟨#[10]⟩ : Str))) = x at e1
  generalize Txt.join ⟨#[10]⟩ (us ++ [⟨#[]⟩]) = y at e1
  obtain ⟨⟨x⟩⟩ := x
  obtain ⟨⟨y⟩⟩ := y
  have : x = y := e1
  rw [this]
theorem joinL_len (S : List Nat) : ∀ ls : List (List Nat), (joinL S ls).length ≤ (ls.map (·.length)).sum + ls.length * S.length
  | [] => by simp [joinL]
  | [p] => by simp [joinL]
  | p :: q :: r => by
    have ih := joinL_len S (q :: r)
    show (p ++ (S ++ joinL S (q :: r))).length ≤ _
    rw [List.length_append, List.length_append, List.map_cons, List.sum_cons]
    simp only [List.length_cons, Nat.succ_mul] at ih ⊢
    omega
theorem join_len (s : Str) (us : List Str) : (Txt.join s us).length ≤ (us.map (·.length)).sum + us.length * s.length := by
  have e : (Txt.join s us).length = (joinL (tl s) (us.map tl)).length := by
    rw [← tl_join, ← join_eq]; simp [tl, Str.length]
  rw [e]
  refine Nat.le_trans (joinL_len _ _) ?_
  rw [List.map_map, List.length_map]
  have e2 : (us.map ((·.length) ∘ tl)) = us.map (·.length) := List.map_congr_left fun u _ => by simp [tl, Str.length]
  rw [e2]
  simp [tl, Str.length]
theorem last_of {α : Type} {us : List α} (h : us ≠ []) : ∃ ys z, us = ys ++ [z] := ⟨us.dropLast, us.getLast h, (List.dropLast_concat_getLast h).symm⟩
/-- "x" behind them -/
theorem xs_good {us : List Str} (g : GoodL us) : ∀ u, u ∈ us ++ [⟨#[120]⟩] → u.length ≤ 2 ∧ 10 ∉ tl u ∧ ∀ c, c ∈ tl u → c < 128 := fun u hu => by
  rcases List.mem_append.mp hu with h | h
  · exact ⟨g.sz u h, g.nf u h, g.ok u h⟩
  · rw [List.mem_singleton.mp h]; exact ⟨by decide, by decide, by decide⟩
theorem x_eq : PySem.Str.ofString "x" = ⟨#[120]⟩ := by decide +kernel
theorem t_i1 {E : DEnds} {a0 a1 a2 a3 a4 : SV} {us : List Str} (g : GoodL us) (k : E.nx [a0, a1, a2, a3, a4, .dat (.list (us.map .str))]) : w_law_i1 E [a0, a1, a2, a3, a4, .dat (.list (us.map .str))] := by
  unfold w_law_i1
  walk_at "dx"
  have gx := xs_good g
  have hm : us.map PyData.str ++ [.str (PySem.Str.ofString "x")] = (us ++ [(⟨#[120]⟩ : Str)]).map .str := by rw [x_eq, List.map_append]; rfl
  rw [hm, feed_eq]
  have hs := sum_le (n := 2) (ys := us ++ [⟨#[120]⟩]) fun u hu => (gx u hu).1
  have hl : (us ++ [(⟨#[120]⟩ : Str)]).length = us.length + 1 := by simp
  have gl := g.ln
  have hj := join_len ⟨#[10]⟩ (us ++ [⟨#[120]⟩])
  have h1 : (⟨#[10]⟩ : Str).length = 1 := rfl
  rw [h1] at hj ⊢
  have hz : (us.map PyData.str).length + (0 + 1) ≤ sizeLine := line_of (by simp; omega)
  refine ⟨by decide, hz, us ++ [⟨#[120]⟩], .inl rfl, by omega, ?_⟩
  refine ⟨_, us, ⟨#[120]⟩, rfl, ?_, split_lines (by simp) fun u hu => (gx u hu).2.1, ?_⟩
  · exact line_of (by omega)
  · rw [if_neg (by simp)]
    walk_at "dx"
    rw [eq_strs]
    exact ⟨by decide, hz, shaped_strs fun u hu => (gx u hu).2.2, shaped_strs fun u hu => (gx u hu).2.2, fun z => by simp at z, fun _ => k⟩
theorem t_i4 {E : DEnds} {a0 a1 a2 a3 a4 : SV} {us : List Str} (g : GoodL us) (k : E.nx [a0, a1, a2, a3, .un, .dat (.list (us.map .str))]) : w_law_i4 E [a0, a1, a2, a3, a4, .dat (.list (us.map .str))] := by
  unfold w_law_i4
  walk_at "dx"
  have gl := g.ln
  have cmp : ∀ (vs : List Str) (acc : List Str) (P : Env → List PyData → Prop), (∀ v, v ∈ vs → v ∈ us) → acc.length + vs.length ≤ 6 → P [a0, a1, a2, a3, .un, .dat (.list (us.map .str))] ((acc ++ vs.map (· ++ (⟨#[10]⟩ : Str))).map .str) →
      lcD 4 wYes w_law_e3 (vs.map .str) [a0, a1, a2, a3, .un, .dat (.list (us.map .str))] (acc.map .str) P := by
    intro vs
    induction vs with
    | nil => intro acc P _ _ h; rw [List.map_nil, List.append_nil] at h; exact h
    | cons v vs ih =>
      intro acc P hv hl h
      show wYes _ _
      refine ⟨fun _ => ?_, fun e => by cases e⟩
      unfold w_law_e3
      walk_at "dx"
      rw [List.length_cons] at hl
      have sz := g.sz v (hv v (List.mem_cons_self ..))
      refine ⟨by rw [feed_eq]; exact line_of (by show _ + 1 ≤ _; omega), Nat.lt_of_lt_of_le (by rw [List.length_map]; omega : (acc.map PyData.str).length < 100) (by decide), ?_⟩
      have q := ih (acc ++ [v ++ (⟨#[10]⟩ : Str)]) P (fun u hu => hv u (List.mem_cons_of_mem _ hu)) (by rw [List.length_append, List.length_singleton]; omega) (by rw [List.map_cons] at h; rw [List.append_assoc]; exact h)
      rw [List.map_append] at q
      rw [feed_eq]
      exact q
  refine cmp us [] _ (fun v h => h) (by simp; omega) ?_
  have hsum : ∀ u, u ∈ us.map (· ++ (⟨#[10]⟩ : Str)) → u.length ≤ 3 := fun u hu => by
    obtain ⟨v, hv, rfl⟩ := List.mem_map.mp hu
    have := g.sz v hv
    show (v.cps ++ #[10]).size ≤ 3
    rw [Array.size_append]
    show v.length + 1 ≤ 3
    omega
  have hs := sum_le hsum
  rw [List.length_map] at hs
  refine ⟨us.map (· ++ (⟨#[10]⟩ : Str)), .inl rfl, by rw [none_eq]; show _ + _ * 0 ≤ _; omega, ?_⟩
  have hj := join_len ⟨#[]⟩ (us.map (· ++ (⟨#[10]⟩ : Str)))
  have h0 : (⟨#[]⟩ : Str).length = 0 := rfl
  rw [h0] at hj
  rw [none_eq]
  refine ⟨_, us, ⟨#[]⟩, rfl, line_of (by omega), ?_, ?_⟩
  · rw [join_ends]
    refine split_lines (by simp) fun u hu => ?_
    rcases List.mem_append.mp hu with h | h
    · exact g.nf u h
    · rw [List.mem_singleton.mp h]; decide
  · rw [if_pos rfl]
    walk_at "dx"
    rw [eq_strs]
    exact ⟨shaped_strs g.ok, shaped_strs g.ok, fun z => by simp at z, fun _ => k⟩
theorem shaped_nil : SeqAt.shaped (.list []) = true := by decide
theorem t_i2 {E : DEnds} {a0 a1 a2 a3 a4 : SV} {us : List Str} (g : GoodL us) (k : E.nx [a0, a1, a2, a3, a4, .dat (.list (us.map .str))]) : w_law_i2 E [a0, a1, a2, a3, a4, .dat (.list (us.map .str))] := by
  unfold w_law_i2
  walk_at "dx"
  have gl := g.ln
  have hs := sum_le g.sz
  have hj := join_len ⟨#[10]⟩ us
  have h1 : (⟨#[10]⟩ : Str).length = 1 := rfl
  rw [h1] at hj
  rw [feed_eq, h1]
  by_cases h0 : us = []
  · subst h0
    refine ⟨[], .inl rfl, by decide, _, [], ⟨#[]⟩, rfl, by decide +kernel, by decide +kernel, ?_⟩
    rw [if_pos rfl]
    walk_at "dx"
    exact ⟨by decide, shaped_nil, shaped_nil, fun z => by simp [PyData.eqv, PyData.eqvAll] at z, fun _ => ⟨shaped_nil, shaped_nil, fun z => by simp [PyData.eqv, PyData.eqvAll] at z, fun _ => k⟩⟩
  · obtain ⟨ys, z, rfl⟩ := last_of h0
    have hne : PyData.eqv (.list ((ys ++ [z]).map PyData.str)) (.list []) = false := by
      rw [List.map_append, PyData.eqv]
      cases ys <;> rfl
    refine ⟨ys ++ [z], .inl rfl, by omega, _, ys, z, rfl, line_of (by omega), split_lines h0 g.nf, ?_⟩
    walk_at "dx"
    rw [hne, none_eq, List.map_append, List.map_singleton, atI_end, cut_end, ← List.map_singleton, ← List.map_append]
    walk_at "dx"
    refine ⟨by decide, shaped_strs g.ok, shaped_nil, fun _ => ?_, fun z => by simp at z⟩
    have oy : ∀ u, u ∈ ys → ∀ c, c ∈ tl u → c < 128 := fun u hu => g.ok u (List.mem_append_left _ hu)
    by_cases hz : z = ⟨#[]⟩
    · rw [if_pos hz]
      refine ⟨fun _ => ?_, fun q => by simp [hz] at q⟩
      rw [eq_strs]
      exact ⟨shaped_strs oy, shaped_strs oy, fun q => by simp at q, fun _ => k⟩
    · rw [if_neg hz]
      refine ⟨fun q => absurd (by simpa using q) hz, fun _ => ?_⟩
      rw [eq_strs]
      exact ⟨shaped_strs g.ok, shaped_strs g.ok, fun q => by simp at q, fun _ => k⟩
/-- the four lines -/
theorem f_b7 {E : DEnds} {a0 a1 a5 : SV} (k : ∀ ws v3 v4, Well [] ws → E.nx [a0, a1, .own ws, v3, v4, a5]) : ∀ (ds ws : List PyData) (v3 v4 : SV), Well [] ws → forD (gN 3) w_law_b7 E ds [a0, a1, .own ws, v3, v4, a5]
  | [], ws, v3, v4, hw => k ws v3 v4 hw
  | d :: ds, ws, v3, v4, hw => by
    show w_law_b7 _ [a0, a1, .own ws, .dat d, v4, a5]
    unfold w_law_b7
    refine ⟨⟨_, rfl⟩, _, rfl, hw, rfl, fun ws' t hw' hz ho => ?_⟩
    show w_law_i6 _ [a0, a1, .own ws', .dat d, .dat (.str (tx t)), a5]
    unfold w_law_i6
    refine ⟨⟨_, rfl⟩, _, rfl, _, rfl, hw', t, rfl, by omega, ho, fun ws2 hw2 => ⟨true, rfl, fun z => by simp at z, fun _ => ?_⟩⟩
    refine ⟨⟨_, rfl⟩, _, rfl, _, rfl, hw2, t, rfl, by omega, ho, fun ws3 hw3 => ⟨true, rfl, fun z => by simp at z, fun _ => ?_⟩⟩
    exact f_b7 k ds ws3 _ _ hw3
def opts5 : List Str := ["", "a", " ", "b\t", ""].map Str.ofString
theorem t_b8 {E : DEnds} {a0 v2 v3 v4 v5 : SV} {n : Int} (k : ∀ v1 v2 v3 v4 v5, E.nx [a0, v1, v2, v3, v4, v5]) : w_law_b8 E [a0, .dat (.int n), v2, v3, v4, v5] := by
  unfold w_law_b8
  refine ⟨_, rfl, n, rfl, ?_⟩
  refine ⟨4, rfl, by decide, by decide, ?_⟩
  refine f_b7 (fun ws v3 v4 hw => ?_) _ _ _ _ ⟨_, _, rfl⟩
  obtain ⟨a, b, rfl⟩ := hw
  refine ⟨⟨_, rfl⟩, _, rfl, a, b, 6, [], rfl, rfl, by decide, by decide, fun a' b' d d0 d1 => ⟨d, rfl, by omega, by omega, ?_⟩⟩
  have hlen : ∀ z, z ∈ opts5 → z.length ≤ 2 := by decide +kernel
  have hnf : ∀ z, z ∈ opts5 → 10 ∉ tl z := by decide +kernel
  have hok : ∀ z, z ∈ opts5 → ∀ c, c ∈ tl z → c < 128 := by decide +kernel
  refine lcD_inv (fun ρ => ∃ ws, Well [] ws ∧ ρ = [a0, .dat (.int n), .own ws, .un, v4, v5]) (fun y => y ∈ opts5.map PyData.str) ?_ _ _ _ ⟨_, ⟨_, _, rfl⟩, rfl⟩ (by rw [rangeD_len]; exact line_of (by simp; omega)) ?_
  · rintro dd ρ Q' ⟨ws, hw, rfl⟩ k'
    unfold w_law_e5
    refine ⟨⟨_, rfl⟩, ?_⟩
    walk_at "dx"
    refine ⟨by decide, [], _, hw, rfl, by simp, by decide, fun ws' y hw' hy => k' _ y ⟨ws', hw', rfl⟩ hy⟩
  · rintro ρ' ys ⟨ws, hw, rfl⟩ hl hy
    obtain ⟨us, rfl, hu⟩ := strs_of hy
    rw [List.length_map, rangeD_len] at hl
    have g : GoodL us := ⟨by omega, fun u h => hlen u (hu u h), fun u h => hnf u (hu u h), fun u h => hok u (hu u h)⟩
    rw [List.nil_append]
    exact t_i4 g (t_i2 g (t_i1 g (k _ _ _ _ _)))
theorem f_b8 {E : DEnds} {a0 : SV} (k : ∀ v1 v2 v3 v4 v5, E.nx [a0, v1, v2, v3, v4, v5]) : ∀ (ns : List Int) (v1 v2 v3 v4 v5 : SV), forD (gN 1) w_law_b8 E (ns.map .int) [a0, v1, v2, v3, v4, v5]
  | [], v1, v2, v3, v4, v5 => k v1 v2 v3 v4 v5
  | n :: ns, v1, v2, v3, v4, v5 => t_b8 fun v1 v2 v3 v4 v5 => f_b8 k ns v1 v2 v3 v4 v5
theorem cutD_len {α : Type} (xs : List α) (lo hi : Option Int) : (cutD xs lo hi).length ≤ xs.length := by
  unfold cutD
  rw [List.length_take, List.length_drop]; omega
theorem m_law : ∀ ns : List Int, ns.length ≤ 63 → w_law { nx := fun _ => False, rt := fun _ d => d = .bool true } (startS ["_law_script", "_law_cell", "_law_well_here", "_law_k", "_law_line_here", "_law_lines"] ns) := by
  intro ns hn
  show w_law _ [.scr ns, .un, .un, .un, .un, .un]
  unfold w_law
  have hl := cutD_len ns none (some 8)
  have hm : (cutD ns none (some 8)).map PyData.int ++ [.int 0] = (cutD ns none (some 8) ++ [0]).map .int := by rw [List.map_append]; rfl
  refine ⟨ns, rfl, 8, rfl, by decide, line_of (by simp; omega), ?_⟩
  rw [hm]
  exact f_b8 (fun v1 v2 v3 v4 v5 => rfl) _ _ _ _ _ _
end Pm
namespace Pm.plainmark_k10_columns
open PySem PySem.Spec PyProof.Rows L2 Pm
def top (i : Nat) : Stmt := PySem.Challenge.pw_plainmark_k10_columns.main.body.getD i (.Pass ⟨0, 0, 0, 0⟩)
abbrev s_lines_of : Stmt := top 3
theorem sc_lines_of : FnScope ["text", "found"] ["text"] (defScope s_lines_of) := ⟨rfl, rfl, rfl, by decide +kernel, rfl, by decide +kernel, by decide +kernel⟩
abbrev s_whole : Stmt := top 4
theorem sc_whole : FnScope ["line"] ["line"] (defScope s_whole) := ⟨rfl, rfl, rfl, by decide +kernel, rfl, by decide +kernel, by decide +kernel⟩
abbrev s_width : Stmt := top 5
theorem sc_width : FnScope ["sign", "column"] ["sign", "column"] (defScope s_width) := ⟨rfl, rfl, rfl, by decide +kernel, rfl, by decide +kernel, by decide +kernel⟩
abbrev s_indent : Stmt := top 6
theorem sc_indent : FnScope ["rest", "text", "column", "held", "at", "sign"] ["rest"] (defScope s_indent) := ⟨rfl, rfl, rfl, by decide +kernel, rfl, by decide +kernel, by decide +kernel⟩
abbrev s_taken : Stmt := top 7
theorem sc_taken : FnScope ["rest", "many", "text", "column", "held", "turn"] ["rest", "many"] (defScope s_taken) := ⟨rfl, rfl, rfl, by decide +kernel, rfl, by decide +kernel, by decide +kernel⟩
abbrev s_told : Stmt := top 8
theorem sc_told : FnScope ["rest"] ["rest"] (defScope s_told) := ⟨rfl, rfl, rfl, by decide +kernel, rfl, by decide +kernel, by decide +kernel⟩
abbrev s_k_well : Stmt := top 10
theorem sc_k_well : FnScope ["_law_cell"] ["_law_cell"] (defScope s_k_well) := ⟨rfl, rfl, rfl, by decide +kernel, rfl, by decide +kernel, by decide +kernel⟩
abbrev s_k_draw : Stmt := top 11
theorem sc_k_draw : FnScope ["_law_well_here", "_law_many", "_law_digit", "_law_number", "_law_more"] ["_law_well_here", "_law_many"] (defScope s_k_draw) := ⟨rfl, rfl, rfl, by decide +kernel, rfl, by decide +kernel, by decide +kernel⟩
abbrev s_k_one : Stmt := top 12
theorem sc_k_one : FnScope ["_law_well_here", "_law_some"] ["_law_well_here", "_law_some"] (defScope s_k_one) := ⟨rfl, rfl, rfl, by decide +kernel, rfl, by decide +kernel, by decide +kernel⟩
abbrev s_k_line : Stmt := top 13
theorem sc_k_line : FnScope ["_law_well_here", "_law_some", "_law_k"] ["_law_well_here"] (defScope s_k_line) := ⟨rfl, rfl, rfl, by decide +kernel, rfl, by decide +kernel, by decide +kernel⟩
abbrev s_k_blanks : Stmt := top 14
theorem sc_k_blanks : FnScope ["_law_line_here", "_law_column", "_law_found", "_law_at", "_law_sign", "_law_many", "_law_left"] ["_law_line_here", "_law_column"] (defScope s_k_blanks) := ⟨rfl, rfl, rfl, by decide +kernel, rfl, by decide +kernel, by decide +kernel⟩
abbrev s_k_walk_right : Stmt := top 15
theorem sc_k_walk_right : FnScope ["_law_well_here", "_law_line_here", "_law_table", "_law_rest", "_law_gone", "_law_k", "_law_step", "_law_at", "_law_left"] ["_law_well_here", "_law_line_here"] (defScope s_k_walk_right) := ⟨rfl, rfl, rfl, by decide +kernel, rfl, by decide +kernel, by decide +kernel⟩
abbrev s_k_behind_right : Stmt := top 16
theorem sc_k_behind_right : FnScope ["_law_well_here", "_law_line_here", "_law_column", "_law_table", "_law_rest", "_law_many", "_law_at", "_law_left"] ["_law_well_here", "_law_line_here"] (defScope s_k_behind_right) := ⟨rfl, rfl, rfl, by decide +kernel, rfl, by decide +kernel, by decide +kernel⟩
abbrev s_law : Stmt := top 17
theorem sc_law : FnScope ["_law_script", "_law_cell", "_law_well_here", "_law_k", "_law_line_here", "_law_lines"] ["_law_script"] (defScope s_law) := ⟨rfl, rfl, rfl, by decide +kernel, rfl, by decide +kernel, by decide +kernel⟩
/-- what the top has written -/
structure Txt (K : Fr) (mg : Str → Option Value) : Prop where
  D_lines_of : Def K mg "lines_of" s_lines_of ["text"]
  D_whole : Def K mg "whole" s_whole ["line"]
  D_width : Def K mg "width" s_width ["sign", "column"]
  D_indent : Def K mg "indent" s_indent ["rest"]
  D_taken : Def K mg "taken" s_taken ["rest", "many"]
  D_told : Def K mg "told" s_told ["rest"]
  D_k_well : Def K mg "_law_well" s_k_well ["_law_cell"]
  D_k_draw : Def K mg "_law_draw" s_k_draw ["_law_well_here", "_law_many"]
  D_k_one : Def K mg "_law_one" s_k_one ["_law_well_here", "_law_some"]
  D_k_line : Def K mg "_law_line" s_k_line ["_law_well_here"]
  D_k_blanks : Def K mg "_law_blanks" s_k_blanks ["_law_line_here", "_law_column"]
  D_k_walk_right : Def K mg "_law_walk_right" s_k_walk_right ["_law_well_here", "_law_line_here"]
  D_k_behind_right : Def K mg "_law_behind_right" s_k_behind_right ["_law_well_here", "_law_line_here"]
  D_law : Def K mg "law" s_law ["_law_script"]
  g_STOP : ∃ t : Tok, mg "STOP" = some (.int 4 t)
  g_WHITE : ∃ t : Tok, mg "WHITE" = some (.str (PySem.Str.ofString " \t") t)
  n_range : mg "range" = none
  n_int : mg "int" = none
  n_len : mg "len" = none
  n_enumerate : mg "enumerate" = none
section
variable {P : Program} {w : World} {K : Fr} {mg : Str → Option Value} {base : Heap} (T : Txt K mg)
include T
set_option maxHeartbeats 4000000 in
theorem d_lines_of  {f : Addr} {cdv : Value} {A : Around} {outer : List PySem.Env} {s : Shared} {H : Hp} {E : XK} (hr : Room 0 (A.deeper (envOfC "lines_of" (defScope s_lines_of) s.heap.objs.size f cdv))) :
    DSs (cxOf CX0 P w K mg base ["text", "found"] "lines_of" (defScope s_lines_of) f cdv A outer s H E).nox K (defBody s_lines_of) w_lines_of := by
  have nd := sc_lines_of.nd
  exact
(dss_cons (ds_set 1 nd (de_split (de_v 0) (da_cons de_str da_nil)))
(dss_one (ds_ret (de_ite (dt_eq (fun _ => hr.units) (de_ix (de_v 1) (de_neg de_int)) (DE.v de_str)) (de_sl (de_v 1) do_no (do_so (de_neg de_int))) (de_v 1)))))

theorem has_lines_of  : Has P w K mg base 1 "lines_of" (spP K S_lines_of) := T.D_lines_of.has fun f fd F =>
  fn_pure F sc_lines_of l_lines_of (fun cdv A outer s H E hr => d_lines_of T  hr) m_lines_of
set_option maxHeartbeats 4000000 in
theorem d_whole  {f : Addr} {cdv : Value} {A : Around} {outer : List PySem.Env} {s : Shared} {H : Hp} {E : XK} (hr : Room 0 (A.deeper (envOfC "whole" (defScope s_whole) s.heap.objs.size f cdv))) :
    DSs (cxOf CX0 P w K mg base ["line"] "whole" (defScope s_whole) f cdv A outer s H E).nox K (defBody s_whole) w_whole := by
  have nd := sc_whole.nd
  exact
(dss_one (ds_ret (de_tup (da_cons (de_v 0) (da_cons de_int (da_cons de_int da_nil))))))

theorem has_whole  : Has P w K mg base 1 "whole" (spP K S_whole) := T.D_whole.has fun f fd F =>
  fn_pure F sc_whole l_whole (fun cdv A outer s H E hr => d_whole T  hr) m_whole
set_option maxHeartbeats 4000000 in
theorem d_width  {f : Addr} {cdv : Value} {A : Around} {outer : List PySem.Env} {s : Shared} {H : Hp} {E : XK} (hr : Room 0 (A.deeper (envOfC "width" (defScope s_width) s.heap.objs.size f cdv))) :
    DSs (cxOf CX0 P w K mg base ["sign", "column"] "width" (defScope s_width) f cdv A outer s H E).nox K (defBody s_width) w_width := by
  have nd := sc_width.nd
  exact
(dss_one (ds_ret (de_ite (dt_eq (fun _ => hr.units) (de_v 0) (DE.v de_str)) (de_sub (de_globI (T.g_STOP.imp fun _ h _ => h)) (de_mod (de_v 1) (de_globI (T.g_STOP.imp fun _ h _ => h)))) de_int)))

theorem has_width  : Has P w K mg base 1 "width" (spP K S_width) := T.D_width.has fun f fd F =>
  fn_pure F sc_width l_width (fun cdv A outer s H E hr => d_width T  hr) m_width
set_option maxHeartbeats 4000000 in
theorem d_indent (C_width : Has P w K mg base 1 "width" (spP K S_width)) {f : Addr} {cdv : Value} {A : Around} {outer : List PySem.Env} {s : Shared} {H : Hp} {E : XK} (hr : Room 1 (A.deeper (envOfC "indent" (defScope s_indent) s.heap.objs.size f cdv))) :
    DSs (cxOf CX0 P w K mg base ["rest", "text", "column", "held", "at", "sign"] "indent" (defScope s_indent) f cdv A outer s H E).nox K (defBody s_indent) w_indent := by
  have nd := sc_indent.nd
  exact
(dss_cons (ds_asg (de_v 0) (dg_tup (dgs_cons (dg_name 1 nd) (dgs_cons (dg_name 2 nd) (dgs_cons (dg_name 3 nd) dgs_nil)))))
(dss_cons (ds_set 4 nd (de_add (de_v 2) (DE.v (de_v 3))))
(dss_cons (ds_for (di_seq (de_v 1)) (dg_name 5 nd)
(dss_cons (ds_if (dt_notin (de_v 5) (DE.v (de_globS (T.g_WHITE.imp fun _ h _ => h))))
(dss_one ds_break)
dss_nil)
(dss_one (ds_set 4 nd (de_add (de_v 4) (DE.v (de_call (fun _ => callOk C_width hr (by decide)) (da_cons (de_v 5) (da_cons (de_v 4) da_nil)))))))))
(dss_one (ds_ret (de_sub (de_v 4) (de_v 2)))))))

theorem has_indent (C_width : Has P w K mg base 1 "width" (spP K S_width)) : Has P w K mg base 2 "indent" (spP K S_indent) := T.D_indent.has fun f fd F =>
  fn_pure F sc_indent l_indent (fun cdv A outer s H E hr => d_indent T C_width hr) m_indent
set_option maxHeartbeats 4000000 in
theorem d_taken (C_width : Has P w K mg base 1 "width" (spP K S_width)) {f : Addr} {cdv : Value} {A : Around} {outer : List PySem.Env} {s : Shared} {H : Hp} {E : XK} (hr : Room 1 (A.deeper (envOfC "taken" (defScope s_taken) s.heap.objs.size f cdv))) :
    DSs (cxOf CX0 P w K mg base ["rest", "many", "text", "column", "held", "turn"] "taken" (defScope s_taken) f cdv A outer s H E).nox K (defBody s_taken) w_taken := by
  have nd := sc_taken.nd
  exact
(dss_cons (ds_asg (de_v 0) (dg_tup (dgs_cons (dg_name 2 nd) (dgs_cons (dg_name 3 nd) (dgs_cons (dg_name 4 nd) dgs_nil)))))
(dss_cons (ds_for (di_range1 (fun _ => T.n_range) (da_cons (de_v 1) da_nil)) (dg_name 5 nd)
(dss_cons (ds_if (dt_eq (fun _ => hr.units) (de_v 4) (DE.v de_int))
(dss_cons (ds_set 4 nd (de_call (fun _ => callOk C_width hr (by decide)) (da_cons (de_ix (de_v 2) de_int) (da_cons (de_v 3) da_nil))))
(dss_one (ds_set 2 nd (de_sl (de_v 2) (do_so de_int) do_no))))
dss_nil)
(dss_cons (ds_set 3 nd (de_add (de_v 3) (DE.v de_int)))
(dss_one (ds_set 4 nd (de_sub (de_v 4) de_int))))))
(dss_one (ds_ret (de_tup (da_cons (de_v 2) (da_cons (de_v 3) (da_cons (de_v 4) da_nil))))))))

theorem has_taken (C_width : Has P w K mg base 1 "width" (spP K S_width)) : Has P w K mg base 2 "taken" (spP K S_taken) := T.D_taken.has fun f fd F =>
  fn_pure F sc_taken l_taken (fun cdv A outer s H E hr => d_taken T C_width hr) m_taken
set_option maxHeartbeats 4000000 in
theorem d_told  {f : Addr} {cdv : Value} {A : Around} {outer : List PySem.Env} {s : Shared} {H : Hp} {E : XK} (hr : Room 0 (A.deeper (envOfC "told" (defScope s_told) s.heap.objs.size f cdv))) :
    DSs (cxOf CX0 P w K mg base ["rest"] "told" (defScope s_told) f cdv A outer s H E).nox K (defBody s_told) w_told := by
  have nd := sc_told.nd
  exact
(dss_one (ds_ret (de_add (de_mul de_str (de_ix (de_v 0) de_int)) (DE.v (de_ix (de_v 0) de_int)))))

theorem has_told  : Has P w K mg base 1 "told" (spP K S_told) := T.D_told.has fun f fd F =>
  fn_pure F sc_told l_told (fun cdv A outer s H E hr => d_told T  hr) m_told
theorem has_k_well : Has P w K mg base 1 "_law_well" (spF K S_k_well) := T.D_k_well.has fun f fd F => by
  have nd := sc_k_well.nd
  exact fn_fresh F sc_k_well l_k_well rfl (fun cdv A outer s H E hr => (da_cons (de_toInt (fun _ => T.n_int) (de_v 0)) (da_cons de_int da_nil))) m_k_well
set_option maxHeartbeats 4000000 in
theorem d_k_draw  {f : Addr} {cdv : Value} {A : Around} {outer : List PySem.Env} {s : Shared} {H : Hp} {E : XK} (hr : Room 0 (A.deeper (envOfC "_law_draw" (defScope s_k_draw) s.heap.objs.size f cdv))) :
    DSs (cxOf CX0 P w K mg base ["_law_well_here", "_law_many", "_law_digit", "_law_number", "_law_more"] "_law_draw" (defScope s_k_draw) f cdv A outer s H E).nox K (defBody s_k_draw) w_k_draw := by
  have nd := sc_k_draw.nd
  exact
(dss_cons (ds_if (dt_ge (de_ixo 0 de_int) (de_pow de_int de_int))
(dss_cons (ds_set 2 nd (de_mod (de_toInt (fun _ => T.n_int) (de_ixo 0 de_int)) (de_v 1)))
(dss_cons (ds_put 0 (de_div (de_ixo 0 de_int) (de_v 1)) de_int)
(dss_one (ds_ret (de_v 2)))))
dss_nil)
(dss_cons (ds_put 0 (de_add (de_ixo 0 de_int) (DE.v de_int)) de_int)
(dss_cons (ds_set 3 nd (de_mod (de_toInt (fun _ => T.n_int) (de_mul (de_toInt (fun _ => T.n_int) (de_add (de_add (de_mod (de_toInt (fun _ => T.n_int) (de_ixo 0 de_int)) de_int) (DE.v (de_mul de_int (de_ixo 0 de_int)))) (DE.v de_int))) de_int)) de_int))
(dss_cons (ds_set 4 nd (de_mod (de_toInt (fun _ => T.n_int) (de_div (de_ixo 0 de_int) de_int)) de_int))
(dss_cons (ds_set 3 nd (de_mod (de_toInt (fun _ => T.n_int) (de_mul (de_v 3) (de_add (de_add (de_div (de_v 3) de_int) (DE.v de_int)) (DE.v (de_v 4))))) de_int))
(dss_one (ds_ret (de_mod (de_toInt (fun _ => T.n_int) (de_div (de_mod (de_toInt (fun _ => T.n_int) (de_mul (de_v 3) (de_add (de_div (de_v 3) de_int) (DE.v de_int)))) de_int) de_int)) (de_v 1)))))))))

theorem has_k_draw  : Has P w K mg base 1 "_law_draw" (spW K S_k_draw) := T.D_k_draw.has fun f fd F =>
  fn_well F sc_k_draw l_k_draw (fun cdv A outer s H E hr => d_k_draw T  hr) m_k_draw
set_option maxHeartbeats 4000000 in
theorem d_k_one (C_k_draw : Has P w K mg base 1 "_law_draw" (spW K S_k_draw)) {f : Addr} {cdv : Value} {A : Around} {outer : List PySem.Env} {s : Shared} {H : Hp} {E : XK} (hr : Room 1 (A.deeper (envOfC "_law_one" (defScope s_k_one) s.heap.objs.size f cdv))) :
    DSs (cxOf CX0 P w K mg base ["_law_well_here", "_law_some"] "_law_one" (defScope s_k_one) f cdv A outer s H E).nox K (defBody s_k_one) w_k_one := by
  have nd := sc_k_one.nd
  exact
(dss_one (ds_ret (de_ix (de_v 1) (de_callW 0 (fun _ => callOk C_k_draw hr (by decide)) (da_cons (de_len (fun _ => T.n_len) (DE.v (de_v 1))) da_nil)))))

theorem has_k_one (C_k_draw : Has P w K mg base 1 "_law_draw" (spW K S_k_draw)) : Has P w K mg base 2 "_law_one" (spW K S_k_one) := T.D_k_one.has fun f fd F =>
  fn_well F sc_k_one l_k_one (fun cdv A outer s H E hr => d_k_one T C_k_draw hr) m_k_one
set_option maxHeartbeats 4000000 in
theorem d_k_line (C_k_one : Has P w K mg base 2 "_law_one" (spW K S_k_one)) (C_k_draw : Has P w K mg base 1 "_law_draw" (spW K S_k_draw)) {f : Addr} {cdv : Value} {A : Around} {outer : List PySem.Env} {s : Shared} {H : Hp} {E : XK} (hr : Room 2 (A.deeper (envOfC "_law_line" (defScope s_k_line) s.heap.objs.size f cdv))) :
    DSs (cxOf CX0 P w K mg base ["_law_well_here", "_law_some", "_law_k"] "_law_line" (defScope s_k_line) f cdv A outer s H E).nox K (defBody s_k_line) w_k_line := by
  have nd := sc_k_line.nd
  exact
(dss_cons (ds_set 1 nd (de_lst (da_cons de_str (da_cons de_str (da_cons de_str (da_cons de_str (da_cons de_str (da_cons de_str (da_cons de_str (da_cons de_str (da_cons de_str da_nil)))))))))))
(dss_one (ds_ret (de_join de_str (DE.v (de_lc 2 (fun _ => nd) (di_range1 (fun _ => T.n_range) (da_cons (de_callW 0 (fun _ => callOk C_k_draw hr (by decide)) (da_cons de_int da_nil)) da_nil)) (de_callW 0 (fun _ => callOk C_k_one hr (by decide)) (da_cons (de_v 1) da_nil)) (ok := fun _ => (by decide +kernel : blkC ["_law_well_here", "_law_some", "_law_k"] (defScope s_k_line) _ _ = true))))))))

theorem has_k_line (C_k_one : Has P w K mg base 2 "_law_one" (spW K S_k_one)) (C_k_draw : Has P w K mg base 1 "_law_draw" (spW K S_k_draw)) : Has P w K mg base 3 "_law_line" (spW K S_k_line) := T.D_k_line.has fun f fd F =>
  fn_well F sc_k_line l_k_line (fun cdv A outer s H E hr => d_k_line T C_k_one C_k_draw hr) m_k_line
set_option maxHeartbeats 4000000 in
theorem d_k_blanks  {f : Addr} {cdv : Value} {A : Around} {outer : List PySem.Env} {s : Shared} {H : Hp} {E : XK} (hr : Room 0 (A.deeper (envOfC "_law_blanks" (defScope s_k_blanks) s.heap.objs.size f cdv))) :
    DSs (cxOf CX0 P w K mg base ["_law_line_here", "_law_column", "_law_found", "_law_at", "_law_sign", "_law_many", "_law_left"] "_law_blanks" (defScope s_k_blanks) f cdv A outer s H E).nox K (defBody s_k_blanks) w_k_blanks := by
  have nd := sc_k_blanks.nd
  exact
(dss_cons (ds_new 2 nd)
(dss_cons (ds_for (di_enum (fun _ => T.n_enumerate) (de_v 0)) (dg_tup (dgs_cons (dg_name 3 nd) (dgs_cons (dg_name 4 nd) dgs_nil)))
(dss_cons (ds_if (dt_notin (de_v 4) (DE.v de_str))
(dss_one (ds_retO 2))
dss_nil)
(dss_cons (ds_set 5 nd (de_ite (dt_eq (fun _ => hr.units) (de_v 4) (DE.v de_str)) (de_sub de_int (de_mod (de_toInt (fun _ => T.n_int) (de_v 1)) de_int)) de_int))
(dss_cons (ds_for (di_down (fun _ => T.n_range) (da_cons (de_sub (de_v 5) de_int) (da_cons (de_neg de_int) (da_cons (de_neg de_int) da_nil)))) (dg_name 6 nd)
(dss_one (ds_app 2 (de_tup (da_cons (de_v 3) (da_cons (de_v 6) da_nil))))))
(dss_one (ds_set 1 nd (de_add (de_v 1) (DE.v (de_v 5)))))))))
(dss_one (ds_retO 2))))

theorem has_k_blanks  : Has P w K mg base 1 "_law_blanks" (spP K S_k_blanks) := T.D_k_blanks.has fun f fd F =>
  fn_pure F sc_k_blanks l_k_blanks (fun cdv A outer s H E hr => d_k_blanks T  hr) m_k_blanks
set_option maxHeartbeats 4000000 in
theorem d_k_walk_right (C_k_blanks : Has P w K mg base 1 "_law_blanks" (spP K S_k_blanks)) (C_whole : Has P w K mg base 1 "whole" (spP K S_whole)) (C_k_draw : Has P w K mg base 1 "_law_draw" (spW K S_k_draw)) (C_taken : Has P w K mg base 2 "taken" (spP K S_taken)) (C_indent : Has P w K mg base 2 "indent" (spP K S_indent)) (C_told : Has P w K mg base 1 "told" (spP K S_told)) {f : Addr} {cdv : Value} {A : Around} {outer : List PySem.Env} {s : Shared} {H : Hp} {E : XK} (hr : Room 2 (A.deeper (envOfC "_law_walk_right" (defScope s_k_walk_right) s.heap.objs.size f cdv))) :
    DSs (cxOf CX0 P w K mg base ["_law_well_here", "_law_line_here", "_law_table", "_law_rest", "_law_gone", "_law_k", "_law_step", "_law_at", "_law_left"] "_law_walk_right" (defScope s_k_walk_right) f cdv A outer s H E).nox K (defBody s_k_walk_right) w_k_walk_right := by
  have nd := sc_k_walk_right.nd
  exact
(dss_cons (ds_set 2 nd (de_call (fun _ => callOk C_k_blanks hr (by decide)) (da_cons (de_v 1) (da_cons de_int da_nil))))
(dss_cons (ds_set 3 nd (de_call (fun _ => callOk C_whole hr (by decide)) (da_cons (de_v 1) da_nil)))
(dss_cons (ds_if (dt_ne (fun _ => hr.units) (de_v 3) (DE.v (de_tup (da_cons (de_v 1) (da_cons de_int (da_cons de_int da_nil))))))
(dss_one (ds_ret de_bl))
dss_nil)
(dss_cons (ds_set 4 nd de_int)
(dss_cons (ds_for (di_range1 (fun _ => T.n_range) (da_cons de_int da_nil)) (dg_name 5 nd)
(dss_cons (ds_if (DW.t (dw_or (dt_ne (fun _ => hr.units) (de_call (fun _ => callOk C_indent hr (by decide)) (da_cons (de_v 3) da_nil)) (DE.v (de_sub (de_len (fun _ => T.n_len) (DE.v (de_v 2))) (de_v 4)))) (dw_or1 (dt_ne (fun _ => hr.units) (de_call (fun _ => callOk C_taken hr (by decide)) (da_cons (de_v 3) (da_cons de_int da_nil))) (DE.v (de_v 3))))))
(dss_one (ds_ret de_bl))
dss_nil)
(dss_cons (ds_set 6 nd (de_callW 0 (fun _ => callOk C_k_draw hr (by decide)) (da_cons (de_add (de_sub (de_len (fun _ => T.n_len) (DE.v (de_v 2))) (de_v 4)) (DE.v de_int)) da_nil)))
(dss_cons (ds_set 3 nd (de_call (fun _ => callOk C_taken hr (by decide)) (da_cons (de_v 3) (da_cons (de_v 6) da_nil))))
(dss_cons (ds_set 4 nd (de_add (de_v 4) (DE.v (de_v 6))))
(dss_cons (ds_asg (de_ite (dt_gt (de_v 4) de_int) (de_ix (de_v 2) (de_sub (de_v 4) de_int)) (de_tup (da_cons (de_neg de_int) (da_cons de_int da_nil)))) (dg_tup (dgs_cons (dg_name 7 nd) (dgs_cons (dg_name 8 nd) dgs_nil))))
(dss_one (ds_if (DW.t (dw_or (dt_ne (fun _ => hr.units) (de_v 3) (DE.v (de_tup (da_cons (de_sl (de_v 1) (do_so (de_add (de_v 7) (DE.v de_int))) do_no) (da_cons (de_v 4) (da_cons (de_v 8) da_nil)))))) (dw_or1 (dt_ne (fun _ => hr.units) (de_call (fun _ => callOk C_told hr (by decide)) (da_cons (de_v 3) da_nil)) (DE.v (de_add (de_mul de_str (de_v 8)) (DE.v (de_sl (de_v 1) (do_so (de_add (de_v 7) (DE.v de_int))) do_no))))))))
(dss_one (ds_ret de_bl))
dss_nil))))))))
(dss_one (ds_ret de_bl)))))))

theorem has_k_walk_right (C_k_blanks : Has P w K mg base 1 "_law_blanks" (spP K S_k_blanks)) (C_whole : Has P w K mg base 1 "whole" (spP K S_whole)) (C_k_draw : Has P w K mg base 1 "_law_draw" (spW K S_k_draw)) (C_taken : Has P w K mg base 2 "taken" (spP K S_taken)) (C_indent : Has P w K mg base 2 "indent" (spP K S_indent)) (C_told : Has P w K mg base 1 "told" (spP K S_told)) : Has P w K mg base 3 "_law_walk_right" (spW K S_k_walk_right) := T.D_k_walk_right.has fun f fd F =>
  fn_well F sc_k_walk_right l_k_walk_right (fun cdv A outer s H E hr => d_k_walk_right T C_k_blanks C_whole C_k_draw C_taken C_indent C_told hr) m_k_walk_right
set_option maxHeartbeats 4000000 in
theorem d_k_behind_right (C_k_blanks : Has P w K mg base 1 "_law_blanks" (spP K S_k_blanks)) (C_k_draw : Has P w K mg base 1 "_law_draw" (spW K S_k_draw)) (C_indent : Has P w K mg base 2 "indent" (spP K S_indent)) (C_taken : Has P w K mg base 2 "taken" (spP K S_taken)) {f : Addr} {cdv : Value} {A : Around} {outer : List PySem.Env} {s : Shared} {H : Hp} {E : XK} (hr : Room 2 (A.deeper (envOfC "_law_behind_right" (defScope s_k_behind_right) s.heap.objs.size f cdv))) :
    DSs (cxOf CX0 P w K mg base ["_law_well_here", "_law_line_here", "_law_column", "_law_table", "_law_rest", "_law_many", "_law_at", "_law_left"] "_law_behind_right" (defScope s_k_behind_right) f cdv A outer s H E).nox K (defBody s_k_behind_right) w_k_behind_right := by
  have nd := sc_k_behind_right.nd
  exact
(dss_cons (ds_set 2 nd (de_add de_int (DE.v (de_callW 0 (fun _ => callOk C_k_draw hr (by decide)) (da_cons de_int da_nil)))))
(dss_cons (ds_set 3 nd (de_call (fun _ => callOk C_k_blanks hr (by decide)) (da_cons (de_v 1) (da_cons (de_v 2) da_nil))))
(dss_cons (ds_set 4 nd (de_tup (da_cons (de_v 1) (da_cons (de_v 2) (da_cons de_int da_nil)))))
(dss_cons (ds_if (dt_ne (fun _ => hr.units) (de_call (fun _ => callOk C_indent hr (by decide)) (da_cons (de_v 4) da_nil)) (DE.v (de_len (fun _ => T.n_len) (DE.v (de_v 3)))))
(dss_one (ds_ret de_bl))
dss_nil)
(dss_cons (ds_set 5 nd (de_callW 0 (fun _ => callOk C_k_draw hr (by decide)) (da_cons (de_add (de_len (fun _ => T.n_len) (DE.v (de_v 3))) (DE.v de_int)) da_nil)))
(dss_cons (ds_asg (de_ite (dt_gt (de_v 5) de_int) (de_ix (de_v 3) (de_sub (de_v 5) de_int)) (de_tup (da_cons (de_neg de_int) (da_cons de_int da_nil)))) (dg_tup (dgs_cons (dg_name 6 nd) (dgs_cons (dg_name 7 nd) dgs_nil))))
(dss_one (ds_ret (de_eq (fun _ => hr.units) (de_call (fun _ => callOk C_taken hr (by decide)) (da_cons (de_v 4) (da_cons (de_v 5) da_nil))) (DE.v (de_tup (da_cons (de_sl (de_v 1) (do_so (de_add (de_v 6) (DE.v de_int))) do_no) (da_cons (de_add (de_v 2) (DE.v (de_v 5))) (da_cons (de_v 7) da_nil))))))))))))))

theorem has_k_behind_right (C_k_blanks : Has P w K mg base 1 "_law_blanks" (spP K S_k_blanks)) (C_k_draw : Has P w K mg base 1 "_law_draw" (spW K S_k_draw)) (C_indent : Has P w K mg base 2 "indent" (spP K S_indent)) (C_taken : Has P w K mg base 2 "taken" (spP K S_taken)) : Has P w K mg base 3 "_law_behind_right" (spW K S_k_behind_right) := T.D_k_behind_right.has fun f fd F =>
  fn_well F sc_k_behind_right l_k_behind_right (fun cdv A outer s H E hr => d_k_behind_right T C_k_blanks C_k_draw C_indent C_taken hr) m_k_behind_right
set_option maxHeartbeats 4000000 in
theorem d_law (C_k_well : Has P w K mg base 1 "_law_well" (spF K S_k_well)) (C_k_line : Has P w K mg base 3 "_law_line" (spW K S_k_line)) (C_k_one : Has P w K mg base 2 "_law_one" (spW K S_k_one)) (C_lines_of : Has P w K mg base 1 "lines_of" (spP K S_lines_of)) (C_k_walk_right : Has P w K mg base 3 "_law_walk_right" (spW K S_k_walk_right)) (C_k_behind_right : Has P w K mg base 3 "_law_behind_right" (spW K S_k_behind_right)) (C_k_draw : Has P w K mg base 1 "_law_draw" (spW K S_k_draw)) {f : Addr} {cdv : Value} {A : Around} {outer : List PySem.Env} {s : Shared} {H : Hp} {E : XK} (hr : Room 3 (A.deeper (envOfC "law" (defScope s_law) s.heap.objs.size f cdv))) :
    DSs (cxOf CX0 P w K mg base ["_law_script", "_law_cell", "_law_well_here", "_law_k", "_law_line_here", "_law_lines"] "law" (defScope s_law) f cdv A outer s H E).nox K (defBody s_law) w_law := by
  have nd := sc_law.nd
  exact
(dss_cons (ds_for (di_seq (de_add (de_sls 0 do_no (do_so de_int)) (DE.v (de_lst (da_cons de_int da_nil))))) (dg_name 1 nd)
(dss_cons (ds_setF 2 nd (callOk C_k_well hr (by decide)) (da_cons (de_v 1) da_nil))
(dss_cons (ds_for (di_range1 (fun _ => T.n_range) (da_cons de_int da_nil)) (dg_name 3 nd)
(dss_cons (ds_set 4 nd (de_callW 2 (fun _ => callOk C_k_line hr (by decide)) da_nil))
(dss_one (ds_if (DW.t (dw_or (dt_not (dt_val (de_callW 2 (fun _ => callOk C_k_walk_right hr (by decide)) (da_cons (de_v 4) da_nil)))) (dw_or1 (dt_not (dt_val (de_callW 2 (fun _ => callOk C_k_behind_right hr (by decide)) (da_cons (de_v 4) da_nil)))))))
(dss_one (ds_ret de_bl))
dss_nil))))
(dss_cons (ds_setLc 5 3 nd (di_range1 (fun _ => T.n_range) (da_cons (de_callW 2 (fun _ => callOk C_k_draw hr (by decide)) (da_cons de_int da_nil)) da_nil)) (de_callW 2 (fun _ => callOk C_k_one hr (by decide)) (da_cons (de_lst (da_cons de_str (da_cons de_str (da_cons de_str (da_cons de_str (da_cons de_str da_nil)))))) da_nil)) (ok := (by decide +kernel : blkC ["_law_script", "_law_cell", "_law_well_here", "_law_k", "_law_line_here", "_law_lines"] (defScope s_law) _ _ = true)))
(dss_cons (ds_if (dt_ne (fun _ => hr.units) (de_call (fun _ => callOk C_lines_of hr (by decide)) (da_cons (de_join de_str (DE.v (de_lc 4 (fun _ => nd) (di_seq (de_v 5)) (de_add (de_v 4) (DE.v de_str)) (ok := fun _ => (by decide +kernel : blkC ["_law_script", "_law_cell", "_law_well_here", "_law_k", "_law_line_here", "_law_lines"] (defScope s_law) _ _ = true))))) da_nil)) (DE.v (de_v 5)))
(dss_one (ds_ret de_bl))
dss_nil)
(dss_cons (ds_if (dt_ne (fun _ => hr.units) (de_call (fun _ => callOk C_lines_of hr (by decide)) (da_cons (de_join de_str (DE.v (de_v 5))) da_nil)) (DE.v (de_ite (DW.t (dw_and (dt_ne (fun _ => hr.units) (de_v 5) (DE.v (de_lst da_nil))) (dw_and1 (dt_eq (fun _ => hr.units) (de_ix (de_v 5) (de_neg de_int)) (DE.v de_str))))) (de_sl (de_v 5) do_no (do_so (de_neg de_int))) (de_v 5))))
(dss_one (ds_ret de_bl))
dss_nil)
(dss_one (ds_if (dt_ne (fun _ => hr.units) (de_call (fun _ => callOk C_lines_of hr (by decide)) (da_cons (de_join de_str (DE.v (de_add (de_v 5) (DE.v (de_lst (da_cons de_str da_nil)))))) da_nil)) (DE.v (de_add (de_v 5) (DE.v (de_lst (da_cons de_str da_nil))))))
(dss_one (ds_ret de_bl))
dss_nil))))))))
(dss_one (ds_ret de_bl)))

theorem ok_law (C_k_well : Has P w K mg base 1 "_law_well" (spF K S_k_well)) (C_k_line : Has P w K mg base 3 "_law_line" (spW K S_k_line)) (C_k_one : Has P w K mg base 2 "_law_one" (spW K S_k_one)) (C_lines_of : Has P w K mg base 1 "lines_of" (spP K S_lines_of)) (C_k_walk_right : Has P w K mg base 3 "_law_walk_right" (spW K S_k_walk_right)) (C_k_behind_right : Has P w K mg base 3 "_law_behind_right" (spW K S_k_behind_right)) (C_k_draw : Has P w K mg base 1 "_law_draw" (spW K S_k_draw)) {f : Addr} {fd : FuncData} (F : Fun K "law" "law" s_law f fd) : FnOk P w K mg base CX0 4 f fd ["_law_script"] (spLaw K) :=
  fn_law F sc_law (fun cdv A outer s H E hr => d_law T C_k_well C_k_line C_k_one C_lines_of C_k_walk_right C_k_behind_right C_k_draw hr) m_law
theorem all_law {f : Addr} {fd : FuncData} (F : Fun K "law" "law" s_law f fd) : FnOk P w K mg base CX0 4 f fd ["_law_script"] (spLaw K) := by
  have C_lines_of := has_lines_of (P := P) (w := w) (base := base) T 
  have C_whole := has_whole (P := P) (w := w) (base := base) T 
  have C_width := has_width (P := P) (w := w) (base := base) T 
  have C_indent := has_indent (P := P) (w := w) (base := base) T C_width
  have C_taken := has_taken (P := P) (w := w) (base := base) T C_width
  have C_told := has_told (P := P) (w := w) (base := base) T 
  have C_k_well := has_k_well (P := P) (w := w) (base := base) T 
  have C_k_draw := has_k_draw (P := P) (w := w) (base := base) T 
  have C_k_one := has_k_one (P := P) (w := w) (base := base) T C_k_draw
  have C_k_line := has_k_line (P := P) (w := w) (base := base) T C_k_one C_k_draw
  have C_k_blanks := has_k_blanks (P := P) (w := w) (base := base) T 
  have C_k_walk_right := has_k_walk_right (P := P) (w := w) (base := base) T C_k_blanks C_whole C_k_draw C_taken C_indent C_told
  have C_k_behind_right := has_k_behind_right (P := P) (w := w) (base := base) T C_k_blanks C_k_draw C_indent C_taken
  exact ok_law T C_k_well C_k_line C_k_one C_lines_of C_k_walk_right C_k_behind_right C_k_draw F
end
theorem all_mk {l : PySem.W.OpenLaw} {w : World} {K : Fr} {h : Heap} {mg : Str → Option Value} {fa : Addr} (X : K.In h) (G : h.Ns mainGlobals mg) (hfa : mg "law" = some (.ref fa))
    {f_lines_of : Addr} {od_lines_of an_lines_of : Option Addr} {sl_lines_of : Array (Option Value)} {oc_lines_of kV_lines_of dc_lines_of pm_lines_of cd_lines_of ct_lines_of : Value}
    {f_whole : Addr} {od_whole an_whole : Option Addr} {sl_whole : Array (Option Value)} {oc_whole kV_whole dc_whole pm_whole cd_whole ct_whole : Value}
    {f_width : Addr} {od_width an_width : Option Addr} {sl_width : Array (Option Value)} {oc_width kV_width dc_width pm_width cd_width ct_width : Value}
    {f_indent : Addr} {od_indent an_indent : Option Addr} {sl_indent : Array (Option Value)} {oc_indent kV_indent dc_indent pm_indent cd_indent ct_indent : Value}
    {f_taken : Addr} {od_taken an_taken : Option Addr} {sl_taken : Array (Option Value)} {oc_taken kV_taken dc_taken pm_taken cd_taken ct_taken : Value}
    {f_told : Addr} {od_told an_told : Option Addr} {sl_told : Array (Option Value)} {oc_told kV_told dc_told pm_told cd_told ct_told : Value}
    {f_k_well : Addr} {od_k_well an_k_well : Option Addr} {sl_k_well : Array (Option Value)} {oc_k_well kV_k_well dc_k_well pm_k_well cd_k_well ct_k_well : Value}
    {f_k_draw : Addr} {od_k_draw an_k_draw : Option Addr} {sl_k_draw : Array (Option Value)} {oc_k_draw kV_k_draw dc_k_draw pm_k_draw cd_k_draw ct_k_draw : Value}
    {f_k_one : Addr} {od_k_one an_k_one : Option Addr} {sl_k_one : Array (Option Value)} {oc_k_one kV_k_one dc_k_one pm_k_one cd_k_one ct_k_one : Value}
    {f_k_line : Addr} {od_k_line an_k_line : Option Addr} {sl_k_line : Array (Option Value)} {oc_k_line kV_k_line dc_k_line pm_k_line cd_k_line ct_k_line : Value}
    {f_k_blanks : Addr} {od_k_blanks an_k_blanks : Option Addr} {sl_k_blanks : Array (Option Value)} {oc_k_blanks kV_k_blanks dc_k_blanks pm_k_blanks cd_k_blanks ct_k_blanks : Value}
    {f_k_walk_right : Addr} {od_k_walk_right an_k_walk_right : Option Addr} {sl_k_walk_right : Array (Option Value)} {oc_k_walk_right kV_k_walk_right dc_k_walk_right pm_k_walk_right cd_k_walk_right ct_k_walk_right : Value}
    {f_k_behind_right : Addr} {od_k_behind_right an_k_behind_right : Option Addr} {sl_k_behind_right : Array (Option Value)} {oc_k_behind_right kV_k_behind_right dc_k_behind_right pm_k_behind_right cd_k_behind_right ct_k_behind_right : Value}
    {f_law : Addr} {od_law an_law : Option Addr} {sl_law : Array (Option Value)} {oc_law kV_law dc_law pm_law cd_law ct_law : Value}
    (a_lines_of : PySem.W.nsIn K mainGlobals "lines_of" = some (some (.ref f_lines_of))) (l_lines_of : K.lookup f_lines_of = some ⟨oc_lines_of, od_lines_of, .func (PySem.W.fnOf "lines_of" "lines_of" (defArgs s_lines_of) (defBody s_lines_of) (defScope s_lines_of) .none kV_lines_of dc_lines_of pm_lines_of an_lines_of cd_lines_of ct_lines_of), sl_lines_of⟩) (e_lines_of : PySem.W.codeIn K cd_lines_of "lines_of" = true) (k_lines_of : PySem.W.keepIn K (.ref f_lines_of) = true)
    (a_whole : PySem.W.nsIn K mainGlobals "whole" = some (some (.ref f_whole))) (l_whole : K.lookup f_whole = some ⟨oc_whole, od_whole, .func (PySem.W.fnOf "whole" "whole" (defArgs s_whole) (defBody s_whole) (defScope s_whole) .none kV_whole dc_whole pm_whole an_whole cd_whole ct_whole), sl_whole⟩) (e_whole : PySem.W.codeIn K cd_whole "whole" = true) (k_whole : PySem.W.keepIn K (.ref f_whole) = true)
    (a_width : PySem.W.nsIn K mainGlobals "width" = some (some (.ref f_width))) (l_width : K.lookup f_width = some ⟨oc_width, od_width, .func (PySem.W.fnOf "width" "width" (defArgs s_width) (defBody s_width) (defScope s_width) .none kV_width dc_width pm_width an_width cd_width ct_width), sl_width⟩) (e_width : PySem.W.codeIn K cd_width "width" = true) (k_width : PySem.W.keepIn K (.ref f_width) = true)
    (a_indent : PySem.W.nsIn K mainGlobals "indent" = some (some (.ref f_indent))) (l_indent : K.lookup f_indent = some ⟨oc_indent, od_indent, .func (PySem.W.fnOf "indent" "indent" (defArgs s_indent) (defBody s_indent) (defScope s_indent) .none kV_indent dc_indent pm_indent an_indent cd_indent ct_indent), sl_indent⟩) (e_indent : PySem.W.codeIn K cd_indent "indent" = true) (k_indent : PySem.W.keepIn K (.ref f_indent) = true)
    (a_taken : PySem.W.nsIn K mainGlobals "taken" = some (some (.ref f_taken))) (l_taken : K.lookup f_taken = some ⟨oc_taken, od_taken, .func (PySem.W.fnOf "taken" "taken" (defArgs s_taken) (defBody s_taken) (defScope s_taken) .none kV_taken dc_taken pm_taken an_taken cd_taken ct_taken), sl_taken⟩) (e_taken : PySem.W.codeIn K cd_taken "taken" = true) (k_taken : PySem.W.keepIn K (.ref f_taken) = true)
    (a_told : PySem.W.nsIn K mainGlobals "told" = some (some (.ref f_told))) (l_told : K.lookup f_told = some ⟨oc_told, od_told, .func (PySem.W.fnOf "told" "told" (defArgs s_told) (defBody s_told) (defScope s_told) .none kV_told dc_told pm_told an_told cd_told ct_told), sl_told⟩) (e_told : PySem.W.codeIn K cd_told "told" = true) (k_told : PySem.W.keepIn K (.ref f_told) = true)
    (a_k_well : PySem.W.nsIn K mainGlobals "_law_well" = some (some (.ref f_k_well))) (l_k_well : K.lookup f_k_well = some ⟨oc_k_well, od_k_well, .func (PySem.W.fnOf "_law_well" "_law_well" (defArgs s_k_well) (defBody s_k_well) (defScope s_k_well) .none kV_k_well dc_k_well pm_k_well an_k_well cd_k_well ct_k_well), sl_k_well⟩) (e_k_well : PySem.W.codeIn K cd_k_well "_law_well" = true) (k_k_well : PySem.W.keepIn K (.ref f_k_well) = true)
    (a_k_draw : PySem.W.nsIn K mainGlobals "_law_draw" = some (some (.ref f_k_draw))) (l_k_draw : K.lookup f_k_draw = some ⟨oc_k_draw, od_k_draw, .func (PySem.W.fnOf "_law_draw" "_law_draw" (defArgs s_k_draw) (defBody s_k_draw) (defScope s_k_draw) .none kV_k_draw dc_k_draw pm_k_draw an_k_draw cd_k_draw ct_k_draw), sl_k_draw⟩) (e_k_draw : PySem.W.codeIn K cd_k_draw "_law_draw" = true) (k_k_draw : PySem.W.keepIn K (.ref f_k_draw) = true)
    (a_k_one : PySem.W.nsIn K mainGlobals "_law_one" = some (some (.ref f_k_one))) (l_k_one : K.lookup f_k_one = some ⟨oc_k_one, od_k_one, .func (PySem.W.fnOf "_law_one" "_law_one" (defArgs s_k_one) (defBody s_k_one) (defScope s_k_one) .none kV_k_one dc_k_one pm_k_one an_k_one cd_k_one ct_k_one), sl_k_one⟩) (e_k_one : PySem.W.codeIn K cd_k_one "_law_one" = true) (k_k_one : PySem.W.keepIn K (.ref f_k_one) = true)
    (a_k_line : PySem.W.nsIn K mainGlobals "_law_line" = some (some (.ref f_k_line))) (l_k_line : K.lookup f_k_line = some ⟨oc_k_line, od_k_line, .func (PySem.W.fnOf "_law_line" "_law_line" (defArgs s_k_line) (defBody s_k_line) (defScope s_k_line) .none kV_k_line dc_k_line pm_k_line an_k_line cd_k_line ct_k_line), sl_k_line⟩) (e_k_line : PySem.W.codeIn K cd_k_line "_law_line" = true) (k_k_line : PySem.W.keepIn K (.ref f_k_line) = true)
    (a_k_blanks : PySem.W.nsIn K mainGlobals "_law_blanks" = some (some (.ref f_k_blanks))) (l_k_blanks : K.lookup f_k_blanks = some ⟨oc_k_blanks, od_k_blanks, .func (PySem.W.fnOf "_law_blanks" "_law_blanks" (defArgs s_k_blanks) (defBody s_k_blanks) (defScope s_k_blanks) .none kV_k_blanks dc_k_blanks pm_k_blanks an_k_blanks cd_k_blanks ct_k_blanks), sl_k_blanks⟩) (e_k_blanks : PySem.W.codeIn K cd_k_blanks "_law_blanks" = true) (k_k_blanks : PySem.W.keepIn K (.ref f_k_blanks) = true)
    (a_k_walk_right : PySem.W.nsIn K mainGlobals "_law_walk_right" = some (some (.ref f_k_walk_right))) (l_k_walk_right : K.lookup f_k_walk_right = some ⟨oc_k_walk_right, od_k_walk_right, .func (PySem.W.fnOf "_law_walk_right" "_law_walk_right" (defArgs s_k_walk_right) (defBody s_k_walk_right) (defScope s_k_walk_right) .none kV_k_walk_right dc_k_walk_right pm_k_walk_right an_k_walk_right cd_k_walk_right ct_k_walk_right), sl_k_walk_right⟩) (e_k_walk_right : PySem.W.codeIn K cd_k_walk_right "_law_walk_right" = true) (k_k_walk_right : PySem.W.keepIn K (.ref f_k_walk_right) = true)
    (a_k_behind_right : PySem.W.nsIn K mainGlobals "_law_behind_right" = some (some (.ref f_k_behind_right))) (l_k_behind_right : K.lookup f_k_behind_right = some ⟨oc_k_behind_right, od_k_behind_right, .func (PySem.W.fnOf "_law_behind_right" "_law_behind_right" (defArgs s_k_behind_right) (defBody s_k_behind_right) (defScope s_k_behind_right) .none kV_k_behind_right dc_k_behind_right pm_k_behind_right an_k_behind_right cd_k_behind_right ct_k_behind_right), sl_k_behind_right⟩) (e_k_behind_right : PySem.W.codeIn K cd_k_behind_right "_law_behind_right" = true) (k_k_behind_right : PySem.W.keepIn K (.ref f_k_behind_right) = true)
    (a_law : PySem.W.nsIn K mainGlobals "law" = some (some (.ref f_law))) (l_law : K.lookup f_law = some ⟨oc_law, od_law, .func (PySem.W.fnOf "law" "law" (defArgs s_law) (defBody s_law) (defScope s_law) .none kV_law dc_law pm_law an_law cd_law ct_law), sl_law⟩) (e_law : PySem.W.codeIn K cd_law "law" = true) (k_law : PySem.W.keepIn K (.ref f_law) = true)
    {t_STOP : Tok} (g_STOP : PySem.W.nsIn K mainGlobals "STOP" = some (some (.int 4 t_STOP)))
    {t_WHITE : Tok} (g_WHITE : PySem.W.nsIn K mainGlobals "WHITE" = some (some (.str (PySem.Str.ofString " \t") t_WHITE)))
    (n_range : PySem.W.nsIn K mainGlobals "range" = some none)
    (n_int : PySem.W.nsIn K mainGlobals "int" = some none)
    (n_len : PySem.W.nsIn K mainGlobals "len" = some none)
    (n_enumerate : PySem.W.nsIn K mainGlobals "enumerate" = some none) :
    ∃ fd : FuncData, (∀ (s : Shared) (v : Value), BindsTo s fd ⟨[v], []⟩ [("_law_script", v)]) ∧ ∀ base : Heap, K.In base → base.Ns mainGlobals mg → FnOk l.prog w K mg base CX0 4 fa fd ["_law_script"] (spLaw K) := by
  have e := hfa.symm.trans (PySem.W.mg_of X G a_law)
  cases e
  have T : Txt K mg := {
    D_lines_of := def_mk X G a_lines_of l_lines_of e_lines_of k_lines_of fun _ _ _ _ _ _ us hl => match us, hl with | [_], _ => rfl,
    D_whole := def_mk X G a_whole l_whole e_whole k_whole fun _ _ _ _ _ _ us hl => match us, hl with | [_], _ => rfl,
    D_width := def_mk X G a_width l_width e_width k_width fun _ _ _ _ _ _ us hl => match us, hl with | [_, _], _ => rfl,
    D_indent := def_mk X G a_indent l_indent e_indent k_indent fun _ _ _ _ _ _ us hl => match us, hl with | [_], _ => rfl,
    D_taken := def_mk X G a_taken l_taken e_taken k_taken fun _ _ _ _ _ _ us hl => match us, hl with | [_, _], _ => rfl,
    D_told := def_mk X G a_told l_told e_told k_told fun _ _ _ _ _ _ us hl => match us, hl with | [_], _ => rfl,
    D_k_well := def_mk X G a_k_well l_k_well e_k_well k_k_well fun _ _ _ _ _ _ us hl => match us, hl with | [_], _ => rfl,
    D_k_draw := def_mk X G a_k_draw l_k_draw e_k_draw k_k_draw fun _ _ _ _ _ _ us hl => match us, hl with | [_, _], _ => rfl,
    D_k_one := def_mk X G a_k_one l_k_one e_k_one k_k_one fun _ _ _ _ _ _ us hl => match us, hl with | [_, _], _ => rfl,
    D_k_line := def_mk X G a_k_line l_k_line e_k_line k_k_line fun _ _ _ _ _ _ us hl => match us, hl with | [_], _ => rfl,
    D_k_blanks := def_mk X G a_k_blanks l_k_blanks e_k_blanks k_k_blanks fun _ _ _ _ _ _ us hl => match us, hl with | [_, _], _ => rfl,
    D_k_walk_right := def_mk X G a_k_walk_right l_k_walk_right e_k_walk_right k_k_walk_right fun _ _ _ _ _ _ us hl => match us, hl with | [_, _], _ => rfl,
    D_k_behind_right := def_mk X G a_k_behind_right l_k_behind_right e_k_behind_right k_k_behind_right fun _ _ _ _ _ _ us hl => match us, hl with | [_, _], _ => rfl,
    D_law := def_mk X G a_law l_law e_law k_law fun _ _ _ _ _ _ us hl => match us, hl with | [_], _ => rfl,
    g_STOP := ⟨_, PySem.W.mg_of X G g_STOP⟩,
    g_WHITE := ⟨_, PySem.W.mg_of X G g_WHITE⟩,
    n_range := PySem.W.mg_none_of X G n_range,
    n_int := PySem.W.mg_none_of X G n_int,
    n_len := PySem.W.mg_none_of X G n_len,
    n_enumerate := PySem.W.mg_none_of X G n_enumerate }
  exact ⟨_, fun s v => .of_eq rfl, fun base _ _ => all_law T (fun_mk (st := s_law) l_law e_law k_law)⟩
theorem walk {l : PySem.W.OpenLaw} {q : Program} {loose : List Str} {XP : (Str → Option Value) → Heap → Prop} {YP : World → Heap → Prop} {d : DefRec} {K : Params → Fr} (hn : l.most = some 63) (hdf : d.params.defaults = [])
    (hY : ∀ (w : World) (h : Heap), YP w h → (K w.params).In h)
    (F : ∀ (w : World) (mg : Str → Option Value) (fa : Addr) (h : Heap), (K w.params).In h → h.Ns mainGlobals mg → mg d.name = some (.ref fa) →
      ∃ fd : FuncData, (∀ (s : Shared) (u : Value), BindsTo s fd ⟨[u], []⟩ [("_law_script", u)]) ∧ ∀ base : Heap, (K w.params).In base → base.Ns mainGlobals mg → FnOk l.prog w (K w.params) mg base CX0 4 fa fd ["_law_script"] (spLaw (K w.params))) :
    PySem.W.WalkO q loose XP YP l.row.toRowW d [] (fun f vs => PySem.call f vs) :=
  L2.walk_of (n := 63) (k := 4) (x := "_law_script") (CX := fun _ => CX0) (sp := fun w => spLaw (K w.params)) hn (by decide) hdf ⟨rfl, by decide, by decide⟩ hY F (fun _ _ a ns hl _ hS => ⟨a, ns, rfl, hl, hS, fun _ => rfl⟩) fun _ _ _ _ _ z => z
end Pm.plainmark_k10_columns
open PySem PySem.W PyProof.Rows in
set_option maxRecDepth 100000 in
set_option maxHeartbeats 0 in
theorem PySem.Challenge.cw_plainmark_k10_columns_holds : PySem.Challenge.rw_plainmark_k10_columns.Holds := by
  w_on; o_law; k_head; (case hw => w_witness2)
  k_fill
  refine Pm.plainmark_k10_columns.walk (l := PySem.Challenge.rw_plainmark_k10_columns) rfl rfl (fun w h Y => PySem.W.kIn_of Y) ?F
  case F =>
    intro w mg fa h KX G hmg
    refine' Pm.plainmark_k10_columns.all_mk KX G hmg ?a_lines_of ?l_lines_of ?e_lines_of ?k_lines_of ?a_whole ?l_whole ?e_whole ?k_whole ?a_width ?l_width ?e_width ?k_width ?a_indent ?l_indent ?e_indent ?k_indent ?a_taken ?l_taken ?e_taken ?k_taken ?a_told ?l_told ?e_told ?k_told ?a_k_well ?l_k_well ?e_k_well ?k_k_well ?a_k_draw ?l_k_draw ?e_k_draw ?k_k_draw ?a_k_one ?l_k_one ?e_k_one ?k_k_one ?a_k_line ?l_k_line ?e_k_line ?k_k_line ?a_k_blanks ?l_k_blanks ?e_k_blanks ?k_k_blanks ?a_k_walk_right ?l_k_walk_right ?e_k_walk_right ?k_k_walk_right ?a_k_behind_right ?l_k_behind_right ?e_k_behind_right ?k_k_behind_right ?a_law ?l_law ?e_law ?k_law ?g_STOP ?g_WHITE ?n_range ?n_int ?n_len ?n_enumerate
    (case a_lines_of => k_is)
    (case l_lines_of => k_is)
    (case e_lines_of => k_is)
    (case k_lines_of => k_is)
    (case a_whole => k_is)
    (case l_whole => k_is)
    (case e_whole => k_is)
    (case k_whole => k_is)
    (case a_width => k_is)
    (case l_width => k_is)
    (case e_width => k_is)
    (case k_width => k_is)
    (case a_indent => k_is)
    (case l_indent => k_is)
    (case e_indent => k_is)
    (case k_indent => k_is)
    (case a_taken => k_is)
    (case l_taken => k_is)
    (case e_taken => k_is)
    (case k_taken => k_is)
    (case a_told => k_is)
    (case l_told => k_is)
    (case e_told => k_is)
    (case k_told => k_is)
    (case a_k_well => k_is)
    (case l_k_well => k_is)
    (case e_k_well => k_is)
    (case k_k_well => k_is)
    (case a_k_draw => k_is)
    (case l_k_draw => k_is)
    (case e_k_draw => k_is)
    (case k_k_draw => k_is)
    (case a_k_one => k_is)
    (case l_k_one => k_is)
    (case e_k_one => k_is)
    (case k_k_one => k_is)
    (case a_k_line => k_is)
    (case l_k_line => k_is)
    (case e_k_line => k_is)
    (case k_k_line => k_is)
    (case a_k_blanks => k_is)
    (case l_k_blanks => k_is)
    (case e_k_blanks => k_is)
    (case k_k_blanks => k_is)
    (case a_k_walk_right => k_is)
    (case l_k_walk_right => k_is)
    (case e_k_walk_right => k_is)
    (case k_k_walk_right => k_is)
    (case a_k_behind_right => k_is)
    (case l_k_behind_right => k_is)
    (case e_k_behind_right => k_is)
    (case k_k_behind_right => k_is)
    (case a_law => k_is)
    (case l_law => k_is)
    (case e_law => k_is)
    (case k_law => k_is)
    (case g_STOP => k_is)
    (case g_WHITE => k_is)
    (case n_range => k_is)
    (case n_int => k_is)
    (case n_len => k_is)
    (case n_enumerate => k_is)

