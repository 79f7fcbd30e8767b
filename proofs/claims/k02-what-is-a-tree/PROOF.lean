import PyProof.Rows.All
import Wide.All
import OpenK.AllK
import Wide.FinOn
import HandS.ForMost
import KE.GoesMore
import HandS.Wide
import HandS.TupAny
import HandS.StrMore
import HandS.Flow
import HandS.Style
import HandS.IsInst
import HandS.Zip
import PySem.Challenge.RW_plainmark_k02_what_is_a_tree
set_option Elab.async false
set_option linter.all false
set_option maxRecDepth 100000
set_option maxHeartbeats 2000000
/-! enumerate(text): each sign in a new pair with its place -/
namespace Pm
open PySem PySem.Spec PyProof.Rows L2
def IteS (x : Str) : It :=
  ⟨fun i _ => i < x.cps.size,
   fun i H v H' => ∃ T c, v = .ref T ∧ H T = none ∧ x.cps[i]? = some c ∧ H' = upd H T (.tup [.int (i : Nat), .str ⟨#[c]⟩]),
   fun i _ => x.cps.size ≤ i⟩
theorem turn_enumS {P : Program} {w : World} {K : PySem.W.Frag} {elts : List Expr} {kk : Nat} {tpos : Pos} (x : Str) (t : Tok) (e it : Addr) :
    Turn P w K (.Tuple elts kk tpos) (IteS x) [e, it] e (fun i h => (∃ old, IsEnum h e it ((i : Nat) : Int) old) ∧ h.IsStrIter it (strIterType x) x t i ∧ e ≠ it ∧ i ≤ x.cps.size) where
  mem := by simp
  obj := fun i h st b hb => by
    obtain ⟨⟨old, he⟩, ⟨o, ho, hc, hd⟩, _, _⟩ := st
    have e' : b = e ∨ b = it := by simpa using hb
    rcases e' with z | z
    · rw [z]; exact ⟨_, he, fun v q => nomatch q⟩
    · rw [z]; exact ⟨o, ho, fun v q => by rw [hd] at q; cases q⟩
  keep := fun i h h' st k => let ⟨⟨old, he⟩, ⟨o, ho, r⟩, hne, hle⟩ := st; ⟨⟨old, k e (by simp) _ he⟩, ⟨o, k it (by simp) o ho, r⟩, hne, hle⟩
  item := by
    intro X hP hw hK hc i pins s σ H E I hf st hg
    subst hP hw hK
    obtain ⟨⟨old, he⟩, hit, hne, hle⟩ := st
    have hel : e < s.heap.objs.size := Heap.lt_size he
    have hil : it < s.heap.objs.size := by obtain ⟨_, q, _⟩ := hit; exact Heap.lt_size q
    have D : Draws X.prog X.w X.A.in1 it [it] x.cps.size (fun i v => ∃ c u, x.cps[i]? = some c ∧ v = .str ⟨#[c]⟩ u) (fun i h => h.IsStrIter it (strIterType x) x t i) := Draws.text (show X.A.in1.handled = none from I.ok.hd hc) it x t
    refine wpAny_pyNext_enum_itemD D he hit hg hne (by simpa using hne) fun u h' tk hPx ho hit' hT hsz hk => ?_
    obtain ⟨c, u', hcx, rfl⟩ := hPx
    refine ⟨_, rfl, wpAny_letOwnedTupleGo_enum (s := { s with heap := h', toks := tk + 1 }) ho fun h'' he' sb => ?_⟩
    have hT2 : h''.get? s.heap.objs.size = some { cls := .type "tuple", data := .seq #[.int i tk, .str ⟨#[c]⟩ u'] } := (sb.2 _ (Nat.ne_of_gt hel)).trans hT
    have new : ObjOk X.prog X.w (upd H s.heap.objs.size (.tup [.int (i : Nat), .str ⟨#[c]⟩])) h'' s.heap.objs.size (.tup [.int (i : Nat), .str ⟨#[c]⟩]) :=
      ⟨by show 2 ≤ sizeLine; decide, [.int i tk, .str ⟨#[c]⟩ u'], .cons ⟨_, rfl⟩ (.cons ⟨_, rfl⟩ .nil), ⟨_, hT2, rfl, _, rfl⟩⟩
    have I1 : Inv X pins σ (upd H s.heap.objs.size (.tup [.int (i : Nat), .str ⟨#[c]⟩])) { s with heap := h'', toks := tk + 1 } :=
      I.turnedNew (ch := [e, it]) (fun b ob hb q => (sb.2 b (fun z => hb (by simp [z]))).trans (hk b ob (fun z => hb (by simp [z])) (fun z => hb (by simp [z])) q)) hf (Nat.le_refl _) new
    have e1 : ((i + 1 : Nat) : Int) = (i : Int) + 1 := by omega
    have hgt : i < x.cps.size := hg
    have st2 : h''.IsStrIter it (strIterType x) x t (i + 1) := by
      obtain ⟨o, ho', r⟩ := hit'
      exact ⟨o, (sb.2 it (Ne.symm hne)).trans ho', r⟩
    refine ⟨.ref s.heap.objs.size, _, I1, rfl, ⟨_, c, rfl, I.hok.fresh (Nat.le_refl _), hcx, rfl⟩, ⟨⟨.str ⟨#[c]⟩ u', by rw [e1]; exact he'⟩, st2, hne, hgt⟩, fun b hb => ?_⟩
    · have hb' : b < s.heap.objs.size := by
        have e' : b = e ∨ b = it := by simpa using hb
        rcases e' with z | z
        · rw [z]; exact hel
        · rw [z]; exact hil
      rw [upd_ne (Nat.ne_of_lt hb')]
      exact (hf b hb).1
  done := by
    intro X hP hw hK hc i pins s σ H E I hf st hg
    subst hP hw hK
    obtain ⟨⟨old, he⟩, hit, hne, hle⟩ := st
    obtain ⟨f0, f1, f2, f3, f4, f5⟩ := hf it (by simp)
    have hge : x.cps.size ≤ i := hg
    have hie : i = x.cps.size := Nat.le_antisymm hle hge
    rw [hie] at he hit
    have D : Draws X.prog X.w X.A.in1 it [it] x.cps.size (fun i v => ∃ c u, x.cps[i]? = some c ∧ v = .str ⟨#[c]⟩ u) (fun i h => h.IsStrIter it (strIterType x) x t i) := Draws.text (show X.A.in1.handled = none from I.ok.hd hc) it x t
    exact wpAny_pyNext_enum_endD D he hit fun h' eb => ⟨rfl, I.turned (t' := s.toks) (fun b o hb q => eb b o hb q) f0 f1 f3 f4 f5⟩
  self := fun A i s Q E st h => let ⟨⟨_, he⟩, _⟩ := st; wpAny_pyIter_enum he h
def iEnumS (ta : TA) : TI := fun σ H R => ta σ H fun vs H1 => ∃ x, vs = [.str x] ∧ R (IteS x) H1
theorem pi_enumS {X : Cx} {e : Expr} {ta : TA} {p pos tpos : Pos} {elts : List Expr} {kk : Nat} (hg : Gl X "enumerate") (hm : X.mg "enumerate" = none) (ha : PA X [e] ta) (hs : starEach [e] X.env = [(false, eval e X.env)] := by rfl) :
    PI X (.Tuple elts kk tpos) (.Call (.Name "enumerate" p) [e] [] pos) (iEnumS ta) := by
  refine ⟨fun pins s σ H R I h => ?_⟩
  refine Call_ (ld_blt I hg hm boot_enumerate (PyProof.Rows.callWith_type1 (thn (ha.run pos pins s σ H _ I h) fun us s1 ⟨vs, H1, I1, r1, q1⟩ => ?_) hs rfl))
  obtain ⟨x, ex, q⟩ := q1
  subst ex
  cases r1 with
  | cons r rr =>
    cases rr
    obtain ⟨t, rfl⟩ := r
    refine call_enumerate_str fun h' he hit hsz hk => wpAny_pyIter_enum he ?_
    have I2 : Inv X pins σ H1 { s1 with heap := h' } := I1.kept (t' := s1.toks) hk
    refine ⟨s1.heap.objs.size + 1, [s1.heap.objs.size + 1, s1.heap.objs.size], _, _, H1, rfl, I2, turn_enumS x t (s1.heap.objs.size + 1) s1.heap.objs.size, ⟨⟨.none, he⟩, hit, Nat.succ_ne_self _, Nat.zero_le _⟩, fun b hb => ?_, q⟩
    have e' : b = s1.heap.objs.size + 1 ∨ b = s1.heap.objs.size := by simpa using hb
    have hle : s1.heap.objs.size ≤ b := by
      rcases e' with z | z
      · rw [z]; exact Nat.le_add_right _ _
      · rw [z]; exact Nat.le_refl _
    exact I1.fpOk hle (I1.hok.fresh hle)
end Pm
/-! The data layer: readings over plain data, the heap put away. -/
namespace Pm
open PySem PySem.Spec PyProof.Rows L2
abbrev Fr := PySem.W.Frag
/-- the heap without some addresses -/
def rm (M : List Addr) (H : Hp) : Hp := fun a => if a ∈ M then none else H a
theorem rm_of {M : List Addr} {H : Hp} {a : Addr} {o : HO} (h1 : a ∉ M) (h2 : H a = some o) : rm M H a = some o := by
  unfold rm; rw [if_neg h1]; exact h2
theorem rm_to {M : List Addr} {H : Hp} {a : Addr} {o : HO} (h : rm M H a = some o) : a ∉ M ∧ H a = some o := by
  unfold rm at h
  by_cases c : a ∈ M
  · rw [if_pos c] at h; cases h
  · rw [if_neg c] at h; exact ⟨c, h⟩
theorem rm_le {M : List Addr} {H : Hp} : Same (rm M H) H := fun _ _ e => (rm_to e).2
theorem rm_nil {H : Hp} : rm [] H = H := by funext a; unfold rm; rw [if_neg (by simp)]
theorem rm_upd {M : List Addr} {H : Hp} {a : Addr} {o : HO} (h : a ∈ M) : rm M (upd H a o) = rm M H := by
  funext b; unfold rm
  by_cases c : b ∈ M
  · rw [if_pos c, if_pos c]
  · rw [if_neg c, if_neg c, upd_ne (fun e => c (by rw [e]; exact h))]
theorem same_rd {H H' : Hp} {a : Addr} {u : HO} (e : Same H H') (h : Rd H a u) : Rd H' a u := by
  rcases h with h | ⟨o, h⟩
  · exact .inl (e _ _ h)
  · exact .inr ⟨o, e _ _ h⟩
theorem same_l {K : Fr} {H H' : Hp} {a : Addr} {xs : List V} (e : Same H H') (h : SqL K H a xs) : SqL K H' a xs := by
  rcases h with h | h
  · exact .inl (same_rd e h)
  · exact .inr h
theorem same_t {K : Fr} {H H' : Hp} {a : Addr} {xs : List V} (e : Same H H') (h : SqT K H a xs) : SqT K H' a xs := by
  rcases h with h | h
  · exact .inl (same_rd e h)
  · exact .inr h
/-! data as it stands in the heap: lists are tracked, tuples may be the text its own -/
def kD : Key → PyData
  | .inl i => .int i
  | .inr x => .str x
mutual
inductive Dt (K : Fr) (H : Hp) : V → PyData → Prop
  | non : Dt K H .non .none
  | bl (b : Bool) : Dt K H (.bl b) (.bool b)
  | int (i : Int) : Dt K H (.int i) (.int i)
  | str (x : Str) : Dt K H (.str x) (.str x)
  | lst {a : Addr} {xs : List V} {ds : List PyData} : H a = some (.lst xs) → DtAll K H xs ds → Dt K H (.ref a) (.list ds)
  | tup {a : Addr} {xs : List V} {ds : List PyData} : SqT K H a xs → DtAll K H xs ds → Dt K H (.ref a) (.tuple ds)
  | dic {a : Addr} {kvs : List (Key × V)} {ds : List (PyData × PyData)} : H a = some (.dK kvs) → DtKv K H kvs ds → Dt K H (.ref a) (.dict ds)
inductive DtAll (K : Fr) (H : Hp) : List V → List PyData → Prop
  | nil : DtAll K H [] []
  | cons {v : V} {vs : List V} {d : PyData} {ds : List PyData} : Dt K H v d → DtAll K H vs ds → DtAll K H (v :: vs) (d :: ds)
inductive DtKv (K : Fr) (H : Hp) : List (Key × V) → List (PyData × PyData) → Prop
  | nil : DtKv K H [] []
  | cons {k : Key} {v : V} {vs : List (Key × V)} {d : PyData} {ds : List (PyData × PyData)} : Dt K H v d → DtKv K H vs ds → DtKv K H ((k, v) :: vs) ((kD k, d) :: ds)
end
mutual
theorem Dt.dp {K : Fr} {H : Hp} : ∀ {v : V} {d : PyData}, Dt K H v d → d.canLay0 = true → Dp K H v d
  | _, _, .non, _ => .non
  | _, _, .bl b, _ => .bl b
  | _, _, .int i, _ => .int i
  | _, _, .str x, _ => .str x
  | _, _, .lst h r, c => .lst (.inl (.inl h)) (DtAll.dp r c)
  | _, _, .tup h r, c => .tup h (DtAll.dp r c)
  | _, _, .dic _ _, c => nomatch c
theorem DtAll.dp {K : Fr} {H : Hp} : ∀ {v : List V} {d : List PyData}, DtAll K H v d → PyData.canLayAll0 d = true → DpAll K H v d
  | _, _, .nil, _ => .nil
  | _, _, .cons h r, c => by
    have q := Bool.and_eq_true_iff.mp (show (_ && _) = true from c)
    exact .cons (Dt.dp h q.1) (DtAll.dp r q.2)
end
mutual
theorem Dt.up {K : Fr} {H H' : Hp} (e : Same H H') : ∀ {v : V} {d : PyData}, Dt K H v d → Dt K H' v d
  | _, _, .non => .non
  | _, _, .bl b => .bl b
  | _, _, .int i => .int i
  | _, _, .str x => .str x
  | _, _, .lst h r => .lst (e _ _ h) (DtAll.up e r)
  | _, _, .tup h r => .tup (same_t e h) (DtAll.up e r)
  | _, _, .dic h r => .dic (e _ _ h) (DtKv.up e r)
theorem DtAll.up {K : Fr} {H H' : Hp} (e : Same H H') : ∀ {v : List V} {d : List PyData}, DtAll K H v d → DtAll K H' v d
  | _, _, .nil => .nil
  | _, _, .cons h r => .cons (Dt.up e h) (DtAll.up e r)
theorem DtKv.up {K : Fr} {H H' : Hp} (e : Same H H') : ∀ {v : List (Key × V)} {d : List (PyData × PyData)}, DtKv K H v d → DtKv K H' v d
  | _, _, .nil => .nil
  | _, _, .cons h r => .cons (Dt.up e h) (DtKv.up e r)
end
theorem DtAll.len {K : Fr} {H : Hp} : ∀ {vs : List V} {ds : List PyData}, DtAll K H vs ds → vs.length = ds.length
  | _, _, .nil => rfl
  | _, _, .cons _ r => by rw [List.length_cons, List.length_cons, DtAll.len r]
theorem DtAll.get {K : Fr} {H : Hp} : ∀ {vs : List V} {ds : List PyData} {i : Nat} {v : V}, DtAll K H vs ds → vs[i]? = some v → ∃ d, ds[i]? = some d ∧ Dt K H v d
  | _, _, _, _, .nil, e => by simp at e
  | _, _, 0, _, .cons h _, e => by simp at e; subst e; exact ⟨_, rfl, h⟩
  | _, _, i + 1, v, .cons _ r, e => by
    obtain ⟨d, h1, h2⟩ := DtAll.get (i := i) (v := v) r (by simpa using e)
    exact ⟨d, by simpa using h1, h2⟩
theorem DtAll.getd {K : Fr} {H : Hp} : ∀ {vs : List V} {ds : List PyData} {i : Nat} {d : PyData}, DtAll K H vs ds → ds[i]? = some d → ∃ v, vs[i]? = some v ∧ Dt K H v d
  | _, _, _, _, .nil, e => by simp at e
  | _, _, 0, _, .cons h _, e => by simp at e; subst e; exact ⟨_, rfl, h⟩
  | _, _, i + 1, d, .cons _ r, e => by
    obtain ⟨v, h1, h2⟩ := DtAll.getd (i := i) (d := d) r (by simpa using e)
    exact ⟨v, by simpa using h1, h2⟩
theorem DtAll.app {K : Fr} {H : Hp} : ∀ {vs us : List V} {ds es : List PyData}, DtAll K H vs ds → DtAll K H us es → DtAll K H (vs ++ us) (ds ++ es)
  | _, _, _, _, .nil, s => s
  | _, _, _, _, .cons h r, s => .cons h (DtAll.app r s)
theorem DtAll.take {K : Fr} {H : Hp} : ∀ {vs : List V} {ds : List PyData} (n : Nat), DtAll K H vs ds → DtAll K H (vs.take n) (ds.take n)
  | _, _, 0, _ => .nil
  | _, _, _ + 1, .nil => .nil
  | _, _, n + 1, .cons h r => .cons h (DtAll.take n r)
theorem DtAll.drop {K : Fr} {H : Hp} : ∀ {vs : List V} {ds : List PyData} (n : Nat), DtAll K H vs ds → DtAll K H (vs.drop n) (ds.drop n)
  | _, _, 0, r => r
  | _, _, _ + 1, .nil => .nil
  | _, _, n + 1, .cons _ r => DtAll.drop n r
theorem DtAll.setAt {K : Fr} {H : Hp} {v : V} {d : PyData} (h : Dt K H v d) : ∀ {vs : List V} {ds : List PyData} (n : Nat), DtAll K H vs ds → DtAll K H (vs.set n v) (ds.set n d)
  | _, _, _, .nil => .nil
  | _, _, 0, .cons _ r => .cons h r
  | _, _, n + 1, .cons q r => .cons q (DtAll.setAt h n r)
/-! what a value of some data is -/
theorem Dt.isInt {K : Fr} {H : Hp} {v : V} {i : Int} (h : Dt K H v (.int i)) : v = .int i := by cases h; rfl
theorem Dt.isStr {K : Fr} {H : Hp} {v : V} {x : Str} (h : Dt K H v (.str x)) : v = .str x := by cases h; rfl
theorem Dt.isBl {K : Fr} {H : Hp} {v : V} {b : Bool} (h : Dt K H v (.bool b)) : v = .bl b := by cases h; rfl
theorem Dt.isNon {K : Fr} {H : Hp} {v : V} (h : Dt K H v .none) : v = .non := by cases h; rfl
theorem Dt.isTup {K : Fr} {H : Hp} {v : V} {ds : List PyData} (h : Dt K H v (.tuple ds)) : ∃ a xs, v = .ref a ∧ SqT K H a xs ∧ DtAll K H xs ds := by
  cases h with | tup h r => exact ⟨_, _, rfl, h, r⟩
theorem Dt.isDic {K : Fr} {H : Hp} {v : V} {ds : List (PyData × PyData)} (h : Dt K H v (.dict ds)) : ∃ a kvs, v = .ref a ∧ H a = some (.dK kvs) ∧ DtKv K H kvs ds := by
  cases h with | dic h r => exact ⟨_, _, rfl, h, r⟩
theorem Dt.isLst {K : Fr} {H : Hp} {v : V} {ds : List PyData} (h : Dt K H v (.list ds)) : ∃ a xs, v = .ref a ∧ H a = some (.lst xs) ∧ DtAll K H xs ds := by
  cases h with | lst h r => exact ⟨_, _, rfl, h, r⟩
/-! ### how a state goes on: M the addresses put away, B those that may change -/
structure Ext (M B : List Addr) (H : Hp) (M' B' : List Addr) (H' : Hp) : Prop where
  m : ∀ a, a ∈ M → a ∈ M'
  new : ∀ a, a ∈ M' → a ∈ M ∨ H a = none
  b : ∀ a, a ∈ B → a ∈ B'
  newb : ∀ a, a ∈ B' → a ∈ B ∨ H a = none
  keep : ∀ a o, a ∉ B → H a = some o → H' a = some o
  live : ∀ a, H' a = none → H a = none
theorem Ext.refl (M B : List Addr) (H : Hp) : Ext M B H M B H := ⟨fun _ h => h, fun _ h => .inl h, fun _ h => h, fun _ h => .inl h, fun _ _ _ e => e, fun _ e => e⟩
theorem Ext.trans {M B M1 B1 M2 B2 : List Addr} {H H1 H2 : Hp} (x : Ext M B H M1 B1 H1) (y : Ext M1 B1 H1 M2 B2 H2) : Ext M B H M2 B2 H2 where
  m := fun a h => y.m a (x.m a h)
  new := fun a h => by
    rcases y.new a h with q | q
    · exact x.new a q
    · exact .inr (x.live a q)
  b := fun a h => y.b a (x.b a h)
  newb := fun a h => by
    rcases y.newb a h with q | q
    · exact x.newb a q
    · exact .inr (x.live a q)
  keep := fun a o nb e => y.keep a o (fun hb => by
    rcases x.newb a hb with q | q
    · exact nb q
    · rw [q] at e; cases e) (x.keep a o nb e)
  live := fun a e => x.live a (y.live a e)
theorem Ext.same {M B : List Addr} {H H' : Hp} (e : Same H H') : Ext M B H M B H' := ⟨fun _ h => h, fun _ h => .inl h, fun _ h => h, fun _ h => .inl h, fun a o _ q => e a o q, fun a q => e.free q⟩
theorem same_new {H : Hp} {p : Addr} {o : HO} (h : H p = none) : Same H (upd H p o) := fun a u e => by
  rw [upd_ne (ne_of_none e h)]; exact e
theorem Ext.rm {M B M' B' : List Addr} {H H' : Hp} (x : Ext M B H M' B' H') (hs : ∀ a, a ∈ B → a ∈ M) : Same (rm M H) (rm M' H') := fun a o e => by
  obtain ⟨h1, h2⟩ := rm_to e
  refine rm_of (fun c => ?_) (x.keep a o (fun c => h1 (hs a c)) h2)
  rcases x.new a c with q | q
  · exact h1 q
  · rw [q] at h2; cases h2
/-! ### what stands in a slot -/
inductive SV where
  | un | dat (d : PyData) | own (ds : List PyData) | bor (l : Addr) (ds : List PyData) | scr (ns : List Int)
def SV.isL : SV → Bool
  | .own _ => true
  | .bor _ _ => true
  | _ => false
abbrev Env := List SV
def SlotOk (K : Fr) (M0 M B : List Addr) (H : Hp) (o : Option (Option V)) : SV → Prop
  | .un => True
  | .dat d => ∃ v, o = some (some v) ∧ Dt K (rm M H) v d
  | .scr ns => ∃ a, o = some (some (.ref a)) ∧ SqL K (rm M H) a (ns.map V.int)
  | .own ds => ∃ l xs, o = some (some (.ref l)) ∧ l ∈ B ∧ l ∉ M0 ∧ H l = some (.lst xs) ∧ DtAll K (rm M H) xs ds
  | .bor l ds => ∃ xs, o = some (some (.ref l)) ∧ l ∈ B ∧ l ∈ M0 ∧ H l = some (.lst xs) ∧ DtAll K (rm M H) xs ds
structure EnvOk (K : Fr) (M0 M B : List Addr) (H : Hp) (σ : L2.St) (ρ : Env) : Prop where
  len : σ.length = ρ.length
  sub : ∀ a, a ∈ B → a ∈ M
  dom : ∀ a, a ∈ M → H a ≠ none
  m0 : ∀ a, a ∈ M0 → a ∈ M
  slot : ∀ (i : Nat) (s : SV), ρ[i]? = some s → SlotOk K M0 M B H (σ[i]?) s
  sep : ∀ (i j : Nat) (s s' : SV) (l : Addr), i ≠ j → ρ[i]? = some s → ρ[j]? = some s' → s.isL = true → s'.isL = true → σ[i]? = some (some (.ref l)) → σ[j]? = some (some (.ref l)) → False
section
variable {K : Fr} {M0 M B M' B' : List Addr} {H H' : Hp} {σ : L2.St} {ρ : Env} {i : Nat} {v : V} {d : PyData}
/-- the heap grew only -/
theorem EnvOk.same (E : EnvOk K M0 M B H σ ρ) (e : Same H H') : EnvOk K M0 M B H' σ ρ where
  len := E.len
  sub := E.sub
  dom := fun a h q => E.dom a h (e.free q)
  m0 := E.m0
  slot := fun i s h => by
    have r := (Ext.same (M := M) (B := B) e).rm E.sub
    have z := E.slot i s h
    cases s with
    | un => trivial
    | dat d => obtain ⟨v, h1, h2⟩ := z; exact ⟨v, h1, Dt.up r h2⟩
    | scr ns => obtain ⟨v, h1, h2⟩ := z; exact ⟨v, h1, same_l r h2⟩
    | own ds => obtain ⟨l, xs, h1, h2, h3, h4, h5⟩ := z; exact ⟨l, xs, h1, h2, h3, e _ _ h4, DtAll.up r h5⟩
    | bor l ds => obtain ⟨xs, h1, h2, h3, h4, h5⟩ := z; exact ⟨xs, h1, h2, h3, e _ _ h4, DtAll.up r h5⟩
  sep := E.sep
theorem EnvOk.fresh (E : EnvOk K M0 M B H σ ρ) {p : Addr} (h : H p = none) : p ∉ M := fun c => E.dom p c h
theorem EnvOk.newt (E : EnvOk K M0 M B H σ ρ) {p : Addr} {xs : List V} {ds : List PyData} (h : H p = none) (r : DtAll K (rm M H) xs ds) : Dt K (rm M (upd H p (.tup xs))) (.ref p) (.tuple ds) :=
  .tup (.inl (.inl (rm_of (E.fresh h) upd_same))) (DtAll.up ((Ext.same (M := M) (B := B) (same_new h)).rm E.sub) r)
theorem EnvOk.newl (E : EnvOk K M0 M B H σ ρ) {p : Addr} {xs : List V} {ds : List PyData} (h : H p = none) (r : DtAll K (rm M H) xs ds) : Dt K (rm M (upd H p (.lst xs))) (.ref p) (.list ds) :=
  .lst (rm_of (E.fresh h) upd_same) (DtAll.up ((Ext.same (M := M) (B := B) (same_new h)).rm E.sub) r)
theorem EnvOk.up (E : EnvOk K M0 M B H σ ρ) (x : Ext M B H M' B' H') (h : Dt K (rm M H) v d) : Dt K (rm M' H') v d := Dt.up (x.rm E.sub) h
theorem EnvOk.upA (E : EnvOk K M0 M B H σ ρ) (x : Ext M B H M' B' H') {vs : List V} {ds : List PyData} (h : DtAll K (rm M H) vs ds) : DtAll K (rm M' H') vs ds := DtAll.up (x.rm E.sub) h
theorem get_set_eq {α : Type} {l : List α} {i : Nat} {a : α} (h : i < l.length) : (l.set i a)[i]? = some a := by simp [h]
theorem get_set_ne {α : Type} {l : List α} {i j : Nat} {a : α} (h : i ≠ j) : (l.set i a)[j]? = l[j]? := by simp [h]
theorem get_set_some {α : Type} {l : List α} {i j : Nat} {a s : α} (h : (l.set i a)[j]? = some s) : (i = j ∧ s = a ∧ i < l.length) ∨ (i ≠ j ∧ l[j]? = some s) := by
  by_cases c : i = j
  · subst c
    have hl : i < l.length := by
      have q := (List.getElem?_eq_some_iff.mp h).1
      simpa using q
    rw [get_set_eq hl] at h
    exact .inl ⟨rfl, (Option.some.inj h).symm, hl⟩
  · rw [get_set_ne c] at h
    exact .inr ⟨c, h⟩
/-- a slot gets data -/
theorem EnvOk.set (E : EnvOk K M0 M B H σ ρ) (i : Nat) (h : Dt K (rm M H) v d) : EnvOk K M0 M B H (σ.set i (some v)) (ρ.set i (.dat d)) where
  len := by rw [List.length_set, List.length_set]; exact E.len
  sub := E.sub
  dom := E.dom
  m0 := E.m0
  slot := fun j s hj => by
    rcases get_set_some hj with ⟨rfl, rfl, hl⟩ | ⟨n, hj'⟩
    · exact ⟨v, get_set_eq (by rw [E.len]; exact hl), h⟩
    · rw [get_set_ne n]; exact E.slot j s hj'
  sep := fun j k s s' l n h1 h2 l1 l2 s1 s2 => by
    rcases get_set_some h1 with ⟨rfl, rfl, _⟩ | ⟨n1, h1'⟩
    · cases l1
    · rcases get_set_some h2 with ⟨rfl, rfl, _⟩ | ⟨n2, h2'⟩
      · cases l2
      · rw [get_set_ne n1] at s1
        rw [get_set_ne n2] at s2
        exact E.sep j k s s' l n h1' h2' l1 l2 s1 s2
/-- a slot is forgotten -/
theorem EnvOk.forget (E : EnvOk K M0 M B H σ ρ) (i : Nat) (o : Option V) : EnvOk K M0 M B H (σ.set i o) (ρ.set i .un) where
  len := by rw [List.length_set, List.length_set]; exact E.len
  sub := E.sub
  dom := E.dom
  m0 := E.m0
  slot := fun j s hj => by
    rcases get_set_some hj with ⟨rfl, rfl, hl⟩ | ⟨n, hj'⟩
    · trivial
    · rw [get_set_ne n]; exact E.slot j s hj'
  sep := fun j k s s' l n h1 h2 l1 l2 s1 s2 => by
    rcases get_set_some h1 with ⟨rfl, rfl, _⟩ | ⟨n1, h1'⟩
    · cases l1
    · rcases get_set_some h2 with ⟨rfl, rfl, _⟩ | ⟨n2, h2'⟩
      · cases l2
      · rw [get_set_ne n1] at s1
        rw [get_set_ne n2] at s2
        exact E.sep j k s s' l n h1' h2' l1 l2 s1 s2
/-- a new content of a list that is put away -/
theorem EnvOk.put (E : EnvOk K M0 M B H σ ρ) {i : Nat} {s s' : SV} {l : Addr} {xs : List V} {ds : List PyData} (hs : ρ[i]? = some s) (hL : s.isL = true) (hl : σ[i]? = some (some (.ref l))) (h : H' l = some (.lst xs)) (r : DtAll K (rm M H') xs ds)
    (ks : ∀ a o, a ≠ l → H a = some o → H' a = some o)
    (hs' : (∃ es, s = .own es ∧ s' = .own ds) ∨ ∃ es, s = .bor l es ∧ s' = .bor l ds) : EnvOk K M0 M B H' σ (ρ.set i s') := by
  have hlB : l ∈ B := by
    have z := E.slot i s hs
    cases s with
    | un => cases hL
    | dat d => cases hL
    | scr ns => cases hL
    | own ds =>
      obtain ⟨l2, xs, h1, h2, _⟩ := z
      rw [h1] at hl
      injection hl with e; injection e with e; injection e with e
      exact e ▸ h2
    | bor l2 ds =>
      obtain ⟨xs, h1, h2, _⟩ := z
      rw [h1] at hl
      injection hl with e; injection e with e; injection e with e
      exact e ▸ h2
  have sm : Same (rm M H) (rm M H') := fun a o e => by
    obtain ⟨h1, h2⟩ := rm_to e
    exact rm_of h1 (ks a o (fun q => h1 (q ▸ E.sub _ hlB)) h2)
  refine ⟨by rw [List.length_set]; exact E.len, E.sub, fun a ha q => ?_, E.m0, fun j t hj => ?_, fun j k t t' l' n h1 h2 l1 l2 s1 s2 => ?_⟩
  · by_cases c : a = l
    · rw [c, h] at q; cases q
    · cases e : H a with
      | none => exact E.dom a ha e
      | some o => rw [ks a o c e] at q; cases q
  · rcases get_set_some hj with ⟨rfl, rfl, hl'⟩ | ⟨n, hj'⟩
    · have z := E.slot i s hs
      rcases hs' with ⟨es, rfl, rfl⟩ | ⟨es, rfl, rfl⟩
      · obtain ⟨l2, xs2, h1, h2, h3, _⟩ := z
        have e := h1.symm.trans hl
        injection e with e; injection e with e; injection e with e
        exact ⟨l, xs, hl, hlB, e ▸ h3, h, r⟩
      · obtain ⟨xs2, h1, h2, h3, _⟩ := z
        exact ⟨xs, hl, hlB, h3, h, r⟩
    · have z := E.slot j t hj'
      have apart : t.isL = true → ∀ l2, σ[j]? = some (some (.ref l2)) → l2 ≠ l := fun ht l2 hl2 q => E.sep i j s t l n hs hj' hL ht hl (q ▸ hl2)
      cases t with
      | un => trivial
      | dat d => obtain ⟨v, h1, h2⟩ := z; exact ⟨v, h1, Dt.up sm h2⟩
      | scr ns => obtain ⟨v, h1, h2⟩ := z; exact ⟨v, h1, same_l sm h2⟩
      | own ds => obtain ⟨l2, xs, h1, h2, h3, h4, h5⟩ := z; exact ⟨l2, xs, h1, h2, h3, ks _ _ (apart rfl l2 h1) h4, DtAll.up sm h5⟩
      | bor l2 ds => obtain ⟨xs, h1, h2, h3, h4, h5⟩ := z; exact ⟨xs, h1, h2, h3, ks _ _ (apart rfl l2 h1) h4, DtAll.up sm h5⟩
  · have back : ∀ (j : Nat) (t : SV), (ρ.set i s')[j]? = some t → t.isL = true → ∃ t0, ρ[j]? = some t0 ∧ t0.isL = true := fun j t hj ht => by
      rcases get_set_some hj with ⟨rfl, rfl, _⟩ | ⟨_, hj'⟩
      · exact ⟨s, hs, hL⟩
      · exact ⟨t, hj', ht⟩
    obtain ⟨a, a1, a2⟩ := back j t h1 l1
    obtain ⟨b, b1, b2⟩ := back k t' h2 l2
    exact E.sep j k a b l' n a1 b1 a2 b2 s1 s2
end
end Pm
namespace Pm
open PySem PySem.Spec PyProof.Rows L2
/-! ### the readings over data -/
abbrev WE := Env → (Env → PyData → Prop) → Prop
abbrev WT := Env → (Env → Bool → Prop) → Prop
abbrev WA := Env → (Env → List PyData → Prop) → Prop
def Env.at : Env → Nat → SV
  | [], _ => .un
  | s :: _, 0 => s
  | _ :: r, n + 1 => Env.at r n
theorem Env.at_get : ∀ {ρ : Env} {i : Nat} {s : SV}, ρ.at i = s → s ≠ .un → ρ[i]? = some s
  | [], i, s, h, n => absurd h.symm n
  | a :: r, 0, s, h, n => by have e : a = s := h; subst e; rfl
  | a :: r, i + 1, s, h, n => by
    have z : Env.at r i = s := h
    have q := Env.at_get z n
    simpa using q
def SV.items : SV → Option (List PyData)
  | .own ds => some ds
  | .bor _ ds => some ds
  | _ => none
def SV.put : SV → List PyData → SV
  | .own _, ds => .own ds
  | .bor l _, ds => .bor l ds
  | s, _ => s
/-- a value: data, or a list that is put away, its items data -/
def RV (K : Fr) (M : List Addr) (H : Hp) (v : V) (d : PyData) : Prop :=
  Dt K (rm M H) v d ∨ ∃ l xs ds, v = .ref l ∧ d = .list ds ∧ H l = some (.lst xs) ∧ DtAll K (rm M H) xs ds
abbrev RVs (K : Fr) (M : List Addr) (H : Hp) : List V → List PyData → Prop := Paired (RV K M H)
variable {ι : Type}
def DE (X : ι → Cx) (K : Fr) (e : Expr) (w : WE) : Prop := ∃ t : TE, (∀ i, PE (X i) e t) ∧ ∀ (M0 M B : List Addr) (σ : L2.St) (H : Hp) (ρ : Env) (P : Env → PyData → Prop) (Q : VK), EnvOk K M0 M B H σ ρ → w ρ P →
  (∀ ρ' d v H', P ρ' d → Ext M B H M B H' → EnvOk K M0 M B H' σ ρ' → Dt K (rm M H') v d → Q v H') → t σ H Q
def DV (X : ι → Cx) (K : Fr) (e : Expr) (w : WE) : Prop := ∃ t : TE, (∀ i, PE (X i) e t) ∧ ∀ (M0 M B : List Addr) (σ : L2.St) (H : Hp) (ρ : Env) (P : Env → PyData → Prop) (Q : VK), EnvOk K M0 M B H σ ρ → w ρ P →
  (∀ ρ' d v H', P ρ' d → Ext M B H M B H' → EnvOk K M0 M B H' σ ρ' → RV K M H' v d → Q v H') → t σ H Q
def DT (X : ι → Cx) (K : Fr) (e : Expr) (w : WT) : Prop := ∃ t : TT, (∀ i, PT (X i) e t) ∧ ∀ (M0 M B : List Addr) (σ : L2.St) (H : Hp) (ρ : Env) (P : Env → Bool → Prop) (Q : Bool → Hp → Prop), EnvOk K M0 M B H σ ρ → w ρ P →
  (∀ ρ' b H', P ρ' b → Ext M B H M B H' → EnvOk K M0 M B H' σ ρ' → Q b H') → t σ H Q
def DW (X : ι → Cx) (K : Fr) (e : Expr) (w : WT) : Prop := ∃ t : TT, (∀ i, PW (X i) e t) ∧ ∀ (M0 M B : List Addr) (σ : L2.St) (H : Hp) (ρ : Env) (P : Env → Bool → Prop) (Q : Bool → Hp → Prop), EnvOk K M0 M B H σ ρ → w ρ P →
  (∀ ρ' b H', P ρ' b → Ext M B H M B H' → EnvOk K M0 M B H' σ ρ' → Q b H') → t σ H Q
def DA (X : ι → Cx) (K : Fr) (es : List Expr) (w : WA) : Prop := ∃ t : TA, (∀ i, PA (X i) es t) ∧ ∀ (M0 M B : List Addr) (σ : L2.St) (H : Hp) (ρ : Env) (P : Env → List PyData → Prop) (Q : List V → Hp → Prop), EnvOk K M0 M B H σ ρ → w ρ P →
  (∀ ρ' ds vs H', P ρ' ds → Ext M B H M B H' → EnvOk K M0 M B H' σ ρ' → DtAll K (rm M H') vs ds → Q vs H') → t σ H Q
/-- one argument, a value -/
def DA1 (X : ι → Cx) (K : Fr) (es : List Expr) (w : WE) : Prop := ∃ t : TA, (∀ i, PA (X i) es t) ∧ ∀ (M0 M B : List Addr) (σ : L2.St) (H : Hp) (ρ : Env) (P : Env → PyData → Prop) (Q : List V → Hp → Prop), EnvOk K M0 M B H σ ρ → w ρ P →
  (∀ ρ' d v H', P ρ' d → Ext M B H M B H' → EnvOk K M0 M B H' σ ρ' → RV K M H' v d → Q [v] H') → t σ H Q
section
variable {X : ι → Cx} {K : Fr} {a b e : Expr} {es : List Expr} {wa wb we : WE}
theorem DE.v (h : DE X K e we) : DV X K e we := by
  obtain ⟨t, h1, h2⟩ := h
  exact ⟨t, h1, fun M0 M B σ H ρ P Q E w k => h2 M0 M B σ H ρ P Q E w fun ρ' d v H' p x E' r => k ρ' d v H' p x E' (.inl r)⟩
/-! ### names and constants -/
def wVar (i : Nat) : WE := fun ρ P => ∃ d, ρ.at i = .dat d ∧ P ρ d
def wOwn (i : Nat) : WE := fun ρ P => ∃ ds, (ρ.at i).items = some ds ∧ P ρ (.list ds)
def wC (d : PyData) : WE := fun ρ P => P ρ d
theorem de_v (j : Nat) (h : ∀ i, PE (X i) e (tVar j) := by intro i; exact pv _) : DE X K e (wVar j) := by
  refine ⟨tVar j, h, fun M0 M B σ H ρ P Q E w k => ?_⟩
  obtain ⟨d, h1, p⟩ := w
  obtain ⟨v, h2, r⟩ := E.slot j _ (Env.at_get h1 (by intro z; cases z))
  exact ⟨v, h2, k ρ d v H p (Ext.refl ..) E r⟩
theorem dv_own (j : Nat) (h : ∀ i, PE (X i) e (tVar j) := by intro i; exact pv _) : DV X K e (wOwn j) := by
  refine ⟨tVar j, h, fun M0 M B σ H ρ P Q E w k => ?_⟩
  obtain ⟨ds, h1, p⟩ := w
  have hs : ρ[j]? = some (ρ.at j) := Env.at_get rfl (fun z => by rw [z] at h1; cases h1)
  have z := E.slot j _ hs
  revert h1 z
  cases ρ.at j with
  | un => intro h1; cases h1
  | dat d => intro h1; cases h1
  | scr d => intro h1; cases h1
  | own ds' =>
    intro h1 z
    injection h1 with h1
    subst h1
    obtain ⟨l, xs, h2, _, _, h4, h5⟩ := z
    exact ⟨_, h2, k ρ _ _ H p (Ext.refl ..) E (.inr ⟨l, xs, _, rfl, rfl, h4, h5⟩)⟩
  | bor l ds' =>
    intro h1 z
    injection h1 with h1
    subst h1
    obtain ⟨xs, h2, _, _, h4, h5⟩ := z
    exact ⟨_, h2, k ρ _ _ H p (Ext.refl ..) E (.inr ⟨l, xs, _, rfl, rfl, h4, h5⟩)⟩
theorem de_c {v : V} {d : PyData} (h : ∀ i, PE (X i) e (tC v)) (r : ∀ H, Dt K H v d) : DE X K e (wC d) :=
  ⟨tC v, h, fun M0 M B σ H ρ P Q E w k => k ρ d v H w (Ext.refl ..) E (r _)⟩
theorem de_int {n : Int} {k : Nat} {pos : Pos} : DE X K (.Constant (.int n) k pos) (wC (.int n)) := de_c (fun i => pe_int) fun H => .int n
theorem de_str {n : Str} {k : Nat} {pos : Pos} : DE X K (.Constant (.str n) k pos) (wC (.str n)) := de_c (fun i => pe_str) fun H => .str n
theorem de_bl {n : Bool} {k : Nat} {pos : Pos} : DE X K (.Constant (.bool n) k pos) (wC (.bool n)) := de_c (fun i => pe_bl) fun H => .bl n
theorem de_non {k : Nat} {pos : Pos} : DE X K (.Constant .none k pos) (wC .none) := de_c (fun i => pe_non) fun H => .non
/-- a module's constant: u its Value -/
theorem de_glob {x : Str} {u : Value} {v : V} {d : PyData} {pos : Pos} (hm : ∀ i, (X i).mg x = some u) (r : RelV v u) (hd : ∀ H, Dt K H v d) (hg : ∀ i, Gl (X i) x := by intro i; rfl) (hd1 : (x == ("__debug__" : Str)) = false := by decide) : DE X K (.Name x pos) (wC d) :=
  de_c (fun i => pe_glob (hg i) (hm i) r hd1) hd
/-! ### operators -/
/-- an operation on data is as that on values -/
def OpD (K : Fr) (r : R2) (f : PyData → PyData → (PyData → Prop) → Prop) : Prop := ∀ (M : List Addr) (H : Hp) (x y : PyData) (v u : V) (P : PyData → Prop) (Q : VK), (∀ a, a ∈ M → H a ≠ none) → RV K M H v x → RV K M H u y → f x y P →
  (∀ d z H', P d → Same H H' → Dt K (rm M H') z d → Q z H') → r v u H Q
def wOp (f : PyData → PyData → (PyData → Prop) → Prop) (wa wb : WE) : WE := fun ρ P => wa ρ fun ρ1 x => wb ρ1 fun ρ2 y => f x y fun d => P ρ2 d
theorem RV.up {M0 M B : List Addr} {H H' : Hp} {σ : L2.St} {ρ : Env} {v : V} {d : PyData} (E : EnvOk K M0 M B H σ ρ) (e : Same H H') (h : RV K M H v d) : RV K M H' v d := by
  have s := (Ext.same (M := M) (B := B) e).rm E.sub
  rcases h with h | ⟨l, xs, ds, h1, h2, h3, h4⟩
  · exact .inl (Dt.up s h)
  · exact .inr ⟨l, xs, ds, h1, h2, e _ _ h3, DtAll.up s h4⟩
/-- the second operand's reading keeps the first: it is data, or the second changes nothing that is put away -/
theorem de_op {r : R2} {f : PyData → PyData → (PyData → Prop) → Prop} (hp : ∀ i ta tb, PE (X i) a ta → PE (X i) b tb → PE (X i) e (tOp r ta tb)) (hr : OpD K r f) (ha : DE X K a wa) (hb : DV X K b wb) : DE X K e (wOp f wa wb) := by
  obtain ⟨ta, a1, a2⟩ := ha
  obtain ⟨tb, b1, b2⟩ := hb
  refine ⟨tOp r ta tb, fun i => hp i ta tb (a1 i) (b1 i), fun M0 M B σ H ρ P Q E w k => ?_⟩
  refine a2 M0 M B σ H ρ _ _ E w fun ρ1 x v H1 w1 x1 E1 r1 => ?_
  refine b2 M0 M B σ H1 ρ1 _ _ E1 w1 fun ρ2 y u H2 w2 x2 E2 r2 => ?_
  refine hr M H2 x y v u _ Q E2.dom (.inl (E1.up x2 r1)) r2 w2 fun d z H3 p e3 r3 => ?_
  exact k ρ2 d z H3 p ((x1.trans x2).trans (Ext.same e3)) (E2.same e3) r3
theorem EnvOk.lst {M0 M B : List Addr} {H : Hp} {σ : L2.St} {ρ : Env} {j : Nat} {ds : List PyData} (E : EnvOk K M0 M B H σ ρ) (h1 : (ρ.at j).items = some ds) : ∃ l xs, ρ[j]? = some (ρ.at j) ∧ (ρ.at j).isL = true ∧ σ[j]? = some (some (.ref l)) ∧ l ∈ B ∧ H l = some (.lst xs) ∧ DtAll K (rm M H) xs ds ∧
    ((∃ es, ρ.at j = .own es) ∨ ∃ es, ρ.at j = .bor l es) := by
  have hs : ρ[j]? = some (ρ.at j) := Env.at_get rfl (fun z => by rw [z] at h1; cases h1)
  have z := E.slot j _ hs
  revert hs h1 z
  cases ρ.at j with
  | un => intro h1; cases h1
  | dat d => intro h1; cases h1
  | scr d => intro h1; cases h1
  | own ds' =>
    intro h1 hs z
    injection h1 with h1
    subst h1
    obtain ⟨l, xs, h2, h3, _, h4, h5⟩ := z
    exact ⟨l, xs, hs, rfl, h2, h3, h4, h5, .inl ⟨_, rfl⟩⟩
  | bor l ds' =>
    intro h1 hs z
    injection h1 with h1
    subst h1
    obtain ⟨xs, h2, h3, _, h4, h5⟩ := z
    exact ⟨l, xs, hs, rfl, h2, h3, h4, h5, .inr ⟨_, rfl⟩⟩
/-- .. the first operand a list that is put away -/
def wOpO (f : PyData → PyData → (PyData → Prop) → Prop) (j : Nat) (wb : WE) : WE := fun ρ P => (∃ ds0, (ρ.at j).items = some ds0) ∧ wb ρ fun ρ2 y => ∃ ds, (ρ2.at j).items = some ds ∧ f (.list ds) y fun d => P ρ2 d
theorem de_opo (j : Nat) {r : R2} {f : PyData → PyData → (PyData → Prop) → Prop} (hp : ∀ i ta tb, PE (X i) a ta → PE (X i) b tb → PE (X i) e (tOp r ta tb)) (hr : OpD K r f) (hb : DV X K b wb) (h : ∀ i, PE (X i) a (tVar j) := by intro i; exact pv _) : DE X K e (wOpO f j wb) := by
  obtain ⟨tb, b1, b2⟩ := hb
  refine ⟨tOp r (tVar j) tb, fun i => hp i _ tb (h i) (b1 i), fun M0 M B σ H ρ P Q E w k => ?_⟩
  obtain ⟨⟨ds0, h0⟩, w⟩ := w
  obtain ⟨l0, xs0, _, _, hl0, _⟩ := E.lst h0
  refine ⟨_, hl0, ?_⟩
  refine b2 M0 M B σ H ρ _ _ E w fun ρ2 y u H2 w2 x2 E2 r2 => ?_
  obtain ⟨ds, h1, w3⟩ := w2
  obtain ⟨l, xs, _, _, hl, _, h4, h5, _⟩ := E2.lst h1
  rw [hl0] at hl
  injection hl with hl; injection hl with hl; injection hl with hl
  subst hl
  refine hr M H2 _ y _ u _ Q E2.dom (.inr ⟨l0, xs, ds, rfl, rfl, h4, h5⟩) r2 w3 fun d z H3 p e3 r3 => ?_
  exact k ρ2 d z H3 p (x2.trans (Ext.same e3)) (E2.same e3) r3
end
end Pm
namespace Pm
open PySem PySem.Spec PyProof.Rows L2
variable {ι : Type} {X : ι → Cx} {K : Fr} {a b e : Expr} {es : List Expr} {wa wb we : WE}
/-! ### arguments, displays -/
def wNil : WA := fun ρ P => P ρ []
def wCons (w : WE) (r : WA) : WA := fun ρ P => w ρ fun ρ1 d => r ρ1 fun ρ2 ds => P ρ2 (d :: ds)
theorem da_nil : DA X K [] wNil := ⟨tNil, fun i => pa_nil, fun M0 M B σ H ρ P Q E w k => k ρ [] [] H w (Ext.refl ..) E .nil⟩
theorem da_cons {w : WE} {r : WA} (h : DE X K e w) (hs : DA X K es r) (he : ∀ i, starEach (e :: es) (X i).env = (false, eval e (X i).env) :: starEach es (X i).env := by intro i; rfl) : DA X K (e :: es) (wCons w r) := by
  obtain ⟨ta, a1, a2⟩ := h
  obtain ⟨tb, b1, b2⟩ := hs
  refine ⟨tCons ta tb, fun i => pa_cons (a1 i) (b1 i) (he i), fun M0 M B σ H ρ P Q E w k => ?_⟩
  refine a2 M0 M B σ H ρ _ _ E w fun ρ1 x v H1 w1 x1 E1 r1 => ?_
  refine b2 M0 M B σ H1 ρ1 _ _ E1 w1 fun ρ2 ds vs H2 w2 x2 E2 r2 => ?_
  exact k ρ2 _ _ H2 w2 (x1.trans x2) E2 (.cons (E1.up x2 r1) r2)
def wTup (w : WA) : WE := fun ρ P => w ρ fun ρ1 ds => ds.length ≤ sizeLine ∧ P ρ1 (.tuple ds)
def wLst (w : WA) : WE := fun ρ P => w ρ fun ρ1 ds => ds.length ≤ sizeLine ∧ P ρ1 (.list ds)
theorem de_tup {w : WA} {c : Nat} {pos : Pos} (h : DA X K es w) (hp : ∀ i t, PA (X i) es t → PE (X i) (.Tuple es c pos) (tTup t) := by intro i t h; exact pe_tup h) : DE X K (.Tuple es c pos) (wTup w) := by
  obtain ⟨t, a1, a2⟩ := h
  refine ⟨tTup t, fun i => hp i t (a1 i), fun M0 M B σ H ρ P Q E w k => ?_⟩
  refine a2 M0 M B σ H ρ _ _ E w fun ρ1 ds vs H1 w1 x1 E1 r1 => ?_
  refine ⟨by rw [DtAll.len r1]; exact w1.1, fun p np => ?_⟩
  exact k ρ1 _ _ _ w1.2 (x1.trans (Ext.same (same_new np))) (E1.same (same_new np)) (E1.newt np r1)
theorem de_lst {w : WA} {pos : Pos} (h : DA X K es w) (hp : ∀ i t, PA (X i) es t → PE (X i) (.List es pos) (tLst t) := by intro i t h; exact pe_lst h) : DE X K (.List es pos) (wLst w) := by
  obtain ⟨t, a1, a2⟩ := h
  refine ⟨tLst t, fun i => hp i t (a1 i), fun M0 M B σ H ρ P Q E w k => ?_⟩
  refine a2 M0 M B σ H ρ _ _ E w fun ρ1 ds vs H1 w1 x1 E1 r1 => ?_
  refine ⟨by rw [DtAll.len r1]; exact w1.1, fun p np => ?_⟩
  exact k ρ1 _ _ _ w1.2 (x1.trans (Ext.same (same_new np))) (E1.same (same_new np)) (E1.newl np r1)
/-! ### tests -/
def wTst (we : WE) : WT := fun ρ P => we ρ fun ρ1 d => ∃ b, d = .bool b ∧ P ρ1 b
theorem dt_val (h : DE X K e we) (hp : ∀ i t, PE (X i) e t → PT (X i) e (tB t) := by intro i t h; exact pt_val h) : DT X K e (wTst we) := by
  obtain ⟨t, a1, a2⟩ := h
  refine ⟨tB t, fun i => hp i t (a1 i), fun M0 M B σ H ρ P Q E w k => ?_⟩
  refine a2 M0 M B σ H ρ _ _ E w fun ρ1 d v H1 w1 x1 E1 r1 => ?_
  obtain ⟨b, rfl, p⟩ := w1
  exact ⟨b, Dt.isBl r1, k ρ1 b H1 p x1 E1⟩
def wAnd (t u : WT) : WT := fun ρ P => t ρ fun ρ1 c => (c = true → u ρ1 P) ∧ (c = false → P ρ1 false)
def wOr (t u : WT) : WT := fun ρ P => t ρ fun ρ1 c => (c = true → P ρ1 true) ∧ (c = false → u ρ1 P)
def wNot (t : WT) : WT := fun ρ P => t ρ fun ρ1 c => P ρ1 (!c)
theorem ite_of {c : Bool} {A B : Prop} (h1 : c = true → A) (h2 : c = false → B) : if c = true then A else B := by
  cases c with
  | true => rw [if_pos rfl]; exact h1 rfl
  | false => rw [if_neg Bool.false_ne_true]; exact h2 rfl
theorem dt_not {t : WT} {pos : Pos} (h : DT X K e t) (hp : ∀ i t, PT (X i) e t → PT (X i) (.UnaryOp .Not e pos) (tNot t) := by intro i t h; exact pt_not h) : DT X K (.UnaryOp .Not e pos) (wNot t) := by
  obtain ⟨t, a1, a2⟩ := h
  refine ⟨tNot t, fun i => hp i t (a1 i), fun M0 M B σ H ρ P Q E w k => ?_⟩
  exact a2 M0 M B σ H ρ _ _ E w fun ρ1 b H1 w1 x1 E1 => k ρ1 _ H1 w1 x1 E1
theorem DW.t {w : WT} (h : DW X K e w) : DT X K e w := by
  obtain ⟨t, a1, a2⟩ := h
  exact ⟨t, fun i => (a1 i).pt, a2⟩
theorem dw_and {t u : WT} {c : Expr} {rest : List Expr} {pos : Pos} (h : DT X K a t) (hr : DW X K (.BoolOp .And (c :: rest) pos) u) (hp : ∀ i t u, PT (X i) a t → PW (X i) (.BoolOp .And (c :: rest) pos) u → PW (X i) (.BoolOp .And (a :: c :: rest) pos) (tAnd t u) := by intro i t u h1 h2; exact pw_and h1 h2) : DW X K (.BoolOp .And (a :: c :: rest) pos) (wAnd t u) := by
  obtain ⟨t, a1, a2⟩ := h
  obtain ⟨u, b1, b2⟩ := hr
  refine ⟨tAnd t u, fun i => hp i t u (a1 i) (b1 i), fun M0 M B σ H ρ P Q E w k => ?_⟩
  refine a2 M0 M B σ H ρ _ _ E w fun ρ1 c H1 w1 x1 E1 => ite_of (fun e => ?_) (fun e => ?_)
  · exact b2 M0 M B σ H1 ρ1 _ _ E1 (w1.1 e) fun ρ2 b H2 w2 x2 E2 => k ρ2 b H2 w2 (x1.trans x2) E2
  · exact k ρ1 false H1 (w1.2 e) x1 E1
theorem dw_or {t u : WT} {c : Expr} {rest : List Expr} {pos : Pos} (h : DT X K a t) (hr : DW X K (.BoolOp .Or (c :: rest) pos) u) (hp : ∀ i t u, PT (X i) a t → PW (X i) (.BoolOp .Or (c :: rest) pos) u → PW (X i) (.BoolOp .Or (a :: c :: rest) pos) (tOr t u) := by intro i t u h1 h2; exact pw_or h1 h2) : DW X K (.BoolOp .Or (a :: c :: rest) pos) (wOr t u) := by
  obtain ⟨t, a1, a2⟩ := h
  obtain ⟨u, b1, b2⟩ := hr
  refine ⟨tOr t u, fun i => hp i t u (a1 i) (b1 i), fun M0 M B σ H ρ P Q E w k => ?_⟩
  refine a2 M0 M B σ H ρ _ _ E w fun ρ1 c H1 w1 x1 E1 => ite_of (fun e => ?_) (fun e => ?_)
  · exact k ρ1 true H1 (w1.1 e) x1 E1
  · exact b2 M0 M B σ H1 ρ1 _ _ E1 (w1.2 e) fun ρ2 b H2 w2 x2 E2 => k ρ2 b H2 w2 (x1.trans x2) E2
theorem dw_and1 {t : WT} {pos : Pos} (h : DT X K a t) (hp : ∀ i t, PT (X i) a t → PW (X i) (.BoolOp .And [a] pos) t := by intro i t h1; exact pw_and1 h1) : DW X K (.BoolOp .And [a] pos) t := by
  obtain ⟨t, a1, a2⟩ := h
  exact ⟨t, fun i => hp i t (a1 i), a2⟩
theorem dw_or1 {t : WT} {pos : Pos} (h : DT X K a t) (hp : ∀ i t, PT (X i) a t → PW (X i) (.BoolOp .Or [a] pos) t := by intro i t h1; exact pw_or1 h1) : DW X K (.BoolOp .Or [a] pos) t := by
  obtain ⟨t, a1, a2⟩ := h
  exact ⟨t, fun i => hp i t (a1 i), a2⟩
/-- a if t else b -/
def wIte (t : WT) (wa wb : WE) : WE := fun ρ P => t ρ fun ρ1 c => (c = true → wa ρ1 P) ∧ (c = false → wb ρ1 P)
theorem de_ite {t : WT} {c : Expr} {pos : Pos} (h : DT X K c t) (ha : DE X K a wa) (hb : DE X K b wb) : DE X K (.IfExp c a b pos) (wIte t wa wb) := by
  obtain ⟨t, c1, c2⟩ := h
  obtain ⟨ta, a1, a2⟩ := ha
  obtain ⟨tb, b1, b2⟩ := hb
  refine ⟨tIf t ta tb, fun i => pe_ifExp (c1 i) (a1 i) (b1 i), fun M0 M B σ H ρ P Q E w k => ?_⟩
  refine c2 M0 M B σ H ρ _ _ E w fun ρ1 c H1 w1 x1 E1 => ite_of (fun e => ?_) (fun e => ?_)
  · exact a2 M0 M B σ H1 ρ1 _ _ E1 (w1.1 e) fun ρ2 d v H2 w2 x2 E2 r2 => k ρ2 d v H2 w2 (x1.trans x2) E2 r2
  · exact b2 M0 M B σ H1 ρ1 _ _ E1 (w1.2 e) fun ρ2 d v H2 w2 x2 E2 r2 => k ρ2 d v H2 w2 (x1.trans x2) E2 r2
/-! ### what the operators are on data -/
theorem op_orR {Y : Cx} {f : Value → Value → Sem Value} {r1 r2 : R2} (h1 : OpR Y f r1) (h2 : OpR Y f r2) : OpR Y f (fun x y H Q => r1 x y H Q ∨ r2 x y H Q) := by
  intro pins s σ H x y v u Q I rx ry h
  rcases h with h | h
  · exact h1 pins s σ H x y v u Q I rx ry h
  · exact h2 pins s σ H x y v u Q I rx ry h
/-- .. on data that must be flat or tuples: what stands put away is a list -/
def RV.isInt {M : List Addr} {H : Hp} {v : V} {i : Int} (h : RV K M H v (.int i)) : v = .int i := by
  rcases h with h | ⟨_, _, _, _, q, _⟩
  · exact Dt.isInt h
  · cases q
theorem RV.isStr {M : List Addr} {H : Hp} {v : V} {i : Str} (h : RV K M H v (.str i)) : v = .str i := by
  rcases h with h | ⟨_, _, _, _, q, _⟩
  · exact Dt.isStr h
  · cases q
theorem RV.isBl {M : List Addr} {H : Hp} {v : V} {i : Bool} (h : RV K M H v (.bool i)) : v = .bl i := by
  rcases h with h | ⟨_, _, _, _, q, _⟩
  · exact Dt.isBl h
  · cases q
theorem RV.isNon {M : List Addr} {H : Hp} {v : V} (h : RV K M H v .none) : v = .non := by
  rcases h with h | ⟨_, _, _, _, q, _⟩
  · exact Dt.isNon h
  · cases q
theorem RV.isTup {M : List Addr} {H : Hp} {v : V} {ds : List PyData} (h : RV K M H v (.tuple ds)) : ∃ a xs, v = .ref a ∧ SqT K H a xs ∧ DtAll K (rm M H) xs ds := by
  rcases h with h | ⟨_, _, _, _, q, _⟩
  · obtain ⟨a, xs, h1, h2, h3⟩ := Dt.isTup h
    exact ⟨a, xs, h1, same_t rm_le h2, h3⟩
  · cases q
theorem RV.isLst {M : List Addr} {H : Hp} {v : V} {ds : List PyData} (h : RV K M H v (.list ds)) : ∃ a xs, v = .ref a ∧ H a = some (.lst xs) ∧ DtAll K (rm M H) xs ds := by
  rcases h with h | ⟨l, xs, ds', rfl, q, h1, h2⟩
  · obtain ⟨a, xs, h1, h2, h3⟩ := Dt.isLst h
    exact ⟨a, xs, h1, rm_le _ _ h2, h3⟩
  · injection q with q
    subst q
    exact ⟨l, xs, rfl, h1, h2⟩
theorem RV.dp {M : List Addr} {H : Hp} {v : V} {d : PyData} (h : RV K M H v d) (hc : d.canLay0 = true) : Dp K H v d := by
  rcases h with h | ⟨l, xs, ds', rfl, rfl, h1, h2⟩
  · exact (Dt.up rm_le h).dp hc
  · exact .lst (.inl (.inl h1)) ((DtAll.up rm_le h2).dp hc)
end Pm
namespace Pm
open PySem PySem.Spec PyProof.Rows L2
variable {ι : Type} {X : ι → Cx} {K : Fr} {a b e : Expr} {es : List Expr} {wa wb we : WE} {pos : Pos}
abbrev F2 := PyData → PyData → (PyData → Prop) → Prop
/-! ### + -/
def fAdd : F2
  | .int i, .int j, P => P (.int (i + j))
  | .str x, .str y, P => x.length + y.length ≤ sizeLine ∧ P (.str (x ++ y))
  | .list xs, .list ys, P => xs.length + ys.length ≤ sizeLine ∧ P (.list (xs ++ ys))
  | .tuple xs, .tuple ys, P => xs.length + ys.length ≤ sizeLine ∧ P (.tuple (xs ++ ys))
  | _, _, _ => False
def rAddStr : R2 := fun x y H Q => ∃ i j, x = .str i ∧ y = .str j ∧ i.length + j.length ≤ sizeLine ∧ Q (.str (i ++ j)) H
def rAddAny (K : Fr) : R2 := fun x y H Q => rI0 (fun i j => .int (i + j)) x y H Q ∨ rAddStr x y H Q ∨ rCat x y H Q ∨ rCatA K x y H Q
theorem op_addAny {Y : Cx} : OpR Y (binaryOp .Add) (rAddAny Y.K) := op_orR op_add (op_orR op_add_str (op_orR op_cat op_catA))
theorem od_add : OpD K (rAddAny K) fAdd := by
  intro M H x y v u P Q dom rx ry f k
  cases x with
  | int i =>
    cases y with
    | int j => rw [RV.isInt rx, RV.isInt ry]; exact .inl ⟨i, j, rfl, rfl, k _ _ H f (Same.refl _) (.int _)⟩
    | _ => exact f.elim
  | str i =>
    cases y with
    | str j => rw [RV.isStr rx, RV.isStr ry]; exact .inr (.inl ⟨i, j, rfl, rfl, f.1, k _ _ H f.2 (Same.refl _) (.str _)⟩)
    | _ => exact f.elim
  | list xs =>
    cases y with
    | list ys =>
      obtain ⟨a, vs, rfl, h1, h2⟩ := RV.isLst rx
      obtain ⟨b, us, rfl, h3, h4⟩ := RV.isLst ry
      refine .inr (.inr (.inl ⟨a, b, vs, us, rfl, rfl, h1, h3, by rw [DtAll.len h2, DtAll.len h4]; exact f.1, fun p np => ?_⟩))
      refine k _ _ _ f.2 (same_new np) ?_
      have hp : p ∉ M := fun c => dom p c np
      refine .lst (rm_of hp upd_same) (DtAll.up (fun a o e => ?_) (DtAll.app h2 h4))
      obtain ⟨z1, z2⟩ := rm_to e
      exact rm_of z1 (same_new np _ _ z2)
    | _ => exact f.elim
  | tuple xs =>
    cases y with
    | tuple ys =>
      obtain ⟨a, vs, rfl, h1, h2⟩ := RV.isTup rx
      obtain ⟨b, us, rfl, h3, h4⟩ := RV.isTup ry
      have r1 : Dt K (rm M H) (.ref a) (.tuple xs) := by rcases rx with r | ⟨_, _, _, _, q, _⟩ <;> first | exact r | cases q
      have r2 : Dt K (rm M H) (.ref b) (.tuple ys) := by rcases ry with r | ⟨_, _, _, _, q, _⟩ <;> first | exact r | cases q
      refine .inr (.inr (.inr ⟨a, b, vs, us, rfl, rfl, h1, h3, by rw [DtAll.len h2, DtAll.len h4]; exact f.1, fun e => ?_, fun e1 e2 => ?_, fun e1 e2 p np => ?_⟩))
      · refine k _ _ _ f.2 (Same.refl _) ?_
        subst e
        cases h2
        exact r2
      · refine k _ _ _ f.2 (Same.refl _) ?_
        subst e2
        cases h4
        rw [List.append_nil]
        exact r1
      · refine k _ _ _ f.2 (same_new np) ?_
        have hp : p ∉ M := fun c => dom p c np
        refine .tup (.inl (.inl (rm_of hp upd_same))) (DtAll.up (fun a o e => ?_) (DtAll.app h2 h4))
        obtain ⟨z1, z2⟩ := rm_to e
        exact rm_of z1 (same_new np _ _ z2)
    | _ => exact f.elim
  | _ => exact f.elim
theorem de_add (ha : DE X K a wa) (hb : DV X K b wb) (hK : ∀ i, (X i).K = K := by intro i; rfl) : DE X K (.BinOp a .Add b pos) (wOp fAdd wa wb) :=
  de_op (fun i ta tb h1 h2 => pe_op (by rw [← hK i]; exact op_addAny) h1 h2) od_add ha hb
/-- ints alone -/
def fI (C : Int → Int → Prop) (g : Int → Int → PyData) : F2
  | .int i, .int j, P => C i j ∧ P (g i j)
  | _, _, _ => False
theorem od_I {C : Int → Int → Prop} {g : Int → Int → V} {g' : Int → Int → PyData} (h : ∀ H i j, Dt K H (g i j) (g' i j)) : OpD K (rI C g) (fI C g') := by
  intro M H x y v u P Q dom rx ry f k
  cases x with
  | int i =>
    cases y with
    | int j => rw [RV.isInt rx, RV.isInt ry]; exact ⟨i, j, rfl, rfl, f.1, k _ _ H f.2 (Same.refl _) (h _ i j)⟩
    | _ => exact f.elim
  | _ => exact f.elim
def fI0 (g : Int → Int → PyData) : F2
  | .int i, .int j, P => P (g i j)
  | _, _, _ => False
theorem od_I0 {g : Int → Int → V} {g' : Int → Int → PyData} (h : ∀ H i j, Dt K H (g i j) (g' i j)) : OpD K (rI0 g) (fI0 g') := by
  intro M H x y v u P Q dom rx ry f k
  cases x with
  | int i =>
    cases y with
    | int j => rw [RV.isInt rx, RV.isInt ry]; exact ⟨i, j, rfl, rfl, k _ _ H f (Same.refl _) (h _ i j)⟩
    | _ => exact f.elim
  | _ => exact f.elim
abbrev fSub : F2 := fI0 fun i j => .int (i - j)
abbrev fMod : F2 := fI (fun _ j => 0 < j) fun i j => .int (i % j)
abbrev fDiv : F2 := fI CDivW fun i j => .int (i / j)
abbrev fPow : F2 := fI CPow fun i j => .int (i ^ j.toNat)
abbrev fLt : F2 := fI0 fun i j => .bool (decide (i < j))
abbrev fLe : F2 := fI0 fun i j => .bool (decide (i ≤ j))
abbrev fGt : F2 := fI0 fun i j => .bool (decide (j < i))
abbrev fGe : F2 := fI0 fun i j => .bool (decide (j ≤ i))
theorem de_sub (ha : DE X K a wa) (hb : DE X K b wb) : DE X K (.BinOp a .Sub b pos) (wOp fSub wa wb) := de_op (fun i ta tb h1 h2 => pe_op op_sub h1 h2) (od_I0 fun _ _ _ => .int _) ha hb.v
theorem de_mod (ha : DE X K a wa) (hb : DE X K b wb) : DE X K (.BinOp a .Mod b pos) (wOp fMod wa wb) := de_op (fun i ta tb h1 h2 => pe_op op_mod h1 h2) (od_I fun _ _ _ => .int _) ha hb.v
theorem de_div (ha : DE X K a wa) (hb : DE X K b wb) : DE X K (.BinOp a .FloorDiv b pos) (wOp fDiv wa wb) := de_op (fun i ta tb h1 h2 => pe_op op_fdivW h1 h2) (od_I fun _ _ _ => .int _) ha hb.v
theorem de_pow (ha : DE X K a wa) (hb : DE X K b wb) : DE X K (.BinOp a .Pow b pos) (wOp fPow wa wb) := de_op (fun i ta tb h1 h2 => pe_op op_pow h1 h2) (od_I fun _ _ _ => .int _) ha hb.v
theorem de_lt (ha : DE X K a wa) (hb : DE X K b wb) : DE X K (.Compare a [.Lt] [b] pos) (wOp fLt wa wb) := de_op (fun i ta tb h1 h2 => pe_cmpR op_lt h1 h2 (nomark _)) (od_I0 fun _ _ _ => .bl _) ha hb.v
theorem de_le (ha : DE X K a wa) (hb : DE X K b wb) : DE X K (.Compare a [.LtE] [b] pos) (wOp fLe wa wb) := de_op (fun i ta tb h1 h2 => pe_cmpR op_le h1 h2 (nomark _)) (od_I0 fun _ _ _ => .bl _) ha hb.v
theorem de_gt (ha : DE X K a wa) (hb : DE X K b wb) : DE X K (.Compare a [.Gt] [b] pos) (wOp fGt wa wb) := de_op (fun i ta tb h1 h2 => pe_cmpR op_gt h1 h2 (nomark _)) (od_I0 fun _ _ _ => .bl _) ha hb.v
theorem de_ge (ha : DE X K a wa) (hb : DE X K b wb) : DE X K (.Compare a [.GtE] [b] pos) (wOp fGe wa wb) := de_op (fun i ta tb h1 h2 => pe_cmpR op_ge h1 h2 (nomark _)) (od_I0 fun _ _ _ => .bl _) ha hb.v
/-! ### * -/
def repS (x : Str) (n : Nat) : Str := ⟨(List.replicate n x.cps.toList).flatten.toArray⟩
theorem foldl_app (n : Nat) (x : Array Nat) : ∀ z : Array Nat, (List.replicate n x).foldl (· ++ ·) z = z ++ (List.replicate n x.toList).flatten.toArray := by
  induction n with
  | zero => intro z; simp
  | succ n ih => intro z; rw [List.replicate_succ, List.foldl_cons, ih, List.replicate_succ, List.flatten_cons]; obtain ⟨z⟩ := z; obtain ⟨x⟩ := x; simp
theorem mul_rep (x : Str) (n : Int) : Txt.mul x n = repS x n.toNat := by
  unfold Txt.mul repS
  by_cases h : n < 1
  · have e : n.toNat = 0 := by omega
    rw [if_pos h, e]; rfl
  · rw [if_neg h]
    by_cases h2 : (n == 1 || x.length == 0) = true
    · rw [if_pos h2]
      rcases Bool.or_eq_true _ _ |>.mp h2 with h3 | h3
      · have e : n = 1 := by simpa using h3
        subst e
        simp
      · have e : x.cps = #[] := by
          have z : x.cps.size = 0 := by simpa [Str.length] using h3
          exact Array.eq_empty_of_size_eq_zero z
        obtain ⟨c⟩ := x
        subst e
        simp
    · rw [if_neg h2, foldl_app]
      simp
def rRepS : R2 := fun x y H Q => ∃ z n, x = .str z ∧ y = .int n ∧ -(2 ^ 63) ≤ n ∧ n < 2 ^ 63 ∧ z.length * n.toNat ≤ sizeLine ∧ Q (.str (repS z n.toNat)) H
theorem op_repS {Y : Cx} : OpR Y (binaryOp .Mult) rRepS := by
  intro pins s σ H x y v u Q I rx ry h
  obtain ⟨z, n, rfl, rfl, h1, h2, h3, q⟩ := h
  obtain ⟨t, rfl⟩ := rx
  obtain ⟨t', rfl⟩ := ry
  refine SB.mul (n := n) ⟨?_, fun hn hz => ?_, fun hn hz => ?_⟩ fun t' k => ?_
  · have e1 : decide (n < -(2 ^ 63 : Int)) = false := decide_eq_false (by omega)
    have e2 : decide (n ≥ 2 ^ 63) = false := decide_eq_false (by omega)
    rw [e1, e2]; rfl
  · have hn1 : (1 : Int) ≤ n := by omega
    rw [sizeLine_eq] at h3
    have e : ((z.length * n.toNat : Nat) : Int) = (z.length : Int) * n := by
      rw [Int.natCast_mul, Int.toNat_of_nonneg (by omega)]
    have h4 : (z.length : Int) * n ≤ 16777216 := by rw [← e]; exact Int.ofNat_le.mpr h3
    intro hgt
    have : (z.length : Int) ≤ (2 ^ 63 - 1) / n := by
      rw [Int.le_ediv_iff_mul_le (by omega)]
      omega
    omega
  · unfold Builtin.Str.tooLong
    exact decide_eq_false (by omega)
  · rw [mul_rep]
    exact ⟨.str _, H, I.tok _, ⟨_, rfl⟩, q⟩
def repD (xs : List PyData) (n : Nat) : List PyData := (List.replicate n xs).flatten
theorem DtAll.rep {H : Hp} {vs : List V} {ds : List PyData} (h : DtAll K H vs ds) : ∀ n : Nat, DtAll K H (List.replicate n vs).flatten (repD ds n)
  | 0 => .nil
  | n + 1 => by
    show DtAll K H (vs ++ (List.replicate n vs).flatten) (ds ++ (List.replicate n ds).flatten)
    exact DtAll.app h (DtAll.rep h n)
def fMul : F2
  | .int i, .int j, P => CMul i j ∧ P (.int (i * j))
  | .str x, .int n, P => -(2 ^ 63) ≤ n ∧ n < 2 ^ 63 ∧ x.length * n.toNat ≤ sizeLine ∧ P (.str (repS x n.toNat))
  | .list xs, .int n, P => -(2 ^ 63) ≤ n ∧ n < 2 ^ 63 ∧ xs.length * n.toNat ≤ sizeLine ∧ P (.list (repD xs n.toNat))
  | _, _, _ => False
def rMulAny : R2 := fun x y H Q => rI CMul (fun i j => .int (i * j)) x y H Q ∨ rRepS x y H Q ∨ rRep x y H Q
theorem od_mul : OpD K rMulAny fMul := by
  intro M H x y v u P Q dom rx ry f k
  cases x with
  | int i =>
    cases y with
    | int j => rw [RV.isInt rx, RV.isInt ry]; exact .inl ⟨i, j, rfl, rfl, f.1, k _ _ H f.2 (Same.refl _) (.int _)⟩
    | _ => exact f.elim
  | str i =>
    cases y with
    | int j => rw [RV.isStr rx, RV.isInt ry]; exact .inr (.inl ⟨i, j, rfl, rfl, f.1, f.2.1, f.2.2.1, k _ _ H f.2.2.2 (Same.refl _) (.str _)⟩)
    | _ => exact f.elim
  | list xs =>
    cases y with
    | int j =>
      rw [RV.isInt ry]
      obtain ⟨a, vs, rfl, h1, h2⟩ := RV.isLst rx
      refine .inr (.inr ⟨a, j, vs, rfl, rfl, h1, f.1, f.2.1, by rw [DtAll.len h2]; exact f.2.2.1, fun p np => ?_⟩)
      refine k _ _ _ f.2.2.2 (same_new np) ?_
      have hp : p ∉ M := fun c => dom p c np
      refine .lst (rm_of hp upd_same) (DtAll.up (fun a o e => ?_) (DtAll.rep h2 _))
      obtain ⟨z1, z2⟩ := rm_to e
      exact rm_of z1 (same_new np _ _ z2)
    | _ => exact f.elim
  | _ => exact f.elim
theorem de_mul (ha : DE X K a wa) (hb : DE X K b wb) : DE X K (.BinOp a .Mult b pos) (wOp fMul wa wb) := de_op (fun i ta tb h1 h2 => pe_op (op_orR op_mul (op_orR op_repS op_rep)) h1 h2) od_mul ha hb.v
end Pm
namespace Pm
open PySem PySem.Spec PyProof.Rows L2
variable {ι : Type} {X : ι → Cx} {K : Fr} {a b e : Expr} {es : List Expr} {wa wb we : WE} {pos : Pos}
/-! ### ==, != -/
/-- two data that can be compared: as deep as there is room -/
def eqOk (x y : PyData) : Bool := x.canLay0 && y.canLay0 && decide (min x.depth y.depth ≤ 64)
theorem eqOk_of {x y : PyData} (h1 : SeqAt.shaped x = true) (h2 : SeqAt.shaped y = true) : eqOk x y = true := by
  unfold eqOk
  rw [SeqAt.canLay_of_shaped h1, SeqAt.canLay_of_shaped h2]
  have := SeqAt.depth_of_shaped h1
  exact decide_eq_true (by omega)
theorem eqOk_l {x y : PyData} (h : eqOk x y = true) : x.canLay0 = true := (Bool.and_eq_true_iff.mp (Bool.and_eq_true_iff.mp h).1).1
theorem eqOk_r {x y : PyData} (h : eqOk x y = true) : y.canLay0 = true := (Bool.and_eq_true_iff.mp (Bool.and_eq_true_iff.mp h).1).2
theorem eqOk_d {x y : PyData} (h : eqOk x y = true) : min x.depth y.depth ≤ 64 := of_decide_eq_true (Bool.and_eq_true_iff.mp h).2
def fEq (neg : Bool) : F2
  | .int i, .int j, P => P (.bool (neg ^^ decide (i = j)))
  | .str i, .str j, P => P (.bool (neg ^^ decide (i = j)))
  | .bool i, .bool j, P => P (.bool (neg ^^ decide (i = j)))
  | x, y, P => eqOk x y = true ∧ P (.bool (neg ^^ PyData.eqv x y))
def rEqAny (K : Fr) (neg : Bool) : R2 := fun x y H Q => (scal x y = true ∧ Q (.bl (neg ^^ decide (x = y))) H) ∨ ∃ d e, Dp K H x d ∧ Dp K H y e ∧ eqOk d e = true ∧ Q (.bl (neg ^^ PyData.eqv d e)) H
theorem op_eqAny {Y : Cx} (hu : Y.A.units + 64 < cLine) : OpR Y (compareOp .Eq) (rEqAny Y.K false) := by
  intro pins s σ H x y v u Q I rx ry h
  rcases h with ⟨h1, h2⟩ | ⟨d, e, h1, h2, h3, h5⟩
  · exact op_eq pins s σ H x y v u Q I rx ry ⟨h1, by simpa using h2⟩
  · obtain ⟨as, r1⟩ := Dp.reads I d x v h1 rx
    obtain ⟨bs, r2⟩ := Dp.reads I e y u h2 ry
    have hd := eqOk_d h3
    exact SeqAt.compareEq_reads r1 r2 (eqOk_l h3) (eqOk_r h3) (by omega) ⟨.bl _, H, I, rfl, by simpa using h5⟩
theorem op_neAny {Y : Cx} (hu : Y.A.units + 64 < cLine) : OpR Y (compareOp .NotEq) (rEqAny Y.K true) := by
  intro pins s σ H x y v u Q I rx ry h
  rcases h with ⟨h1, h2⟩ | ⟨d, e, h1, h2, h3, h5⟩
  · exact op_ne pins s σ H x y v u Q I rx ry ⟨h1, by simpa using h2⟩
  · obtain ⟨as, r1⟩ := Dp.reads I d x v h1 rx
    obtain ⟨bs, r2⟩ := Dp.reads I e y u h2 ry
    have hd := eqOk_d h3
    exact SeqAt.compareNe_reads r1 r2 (eqOk_l h3) (eqOk_r h3) (by omega) ⟨.bl _, H, I, rfl, by simpa using h5⟩
theorem decV_int {i j : Int} : decide (V.int i = V.int j) = decide (i = j) := by simp
theorem decV_str {i j : Str} : decide (V.str i = V.str j) = decide (i = j) := by simp
theorem decV_bl {i j : Bool} : decide (V.bl i = V.bl j) = decide (i = j) := by simp
theorem od_eq {neg : Bool} : OpD K (rEqAny K neg) (fEq neg) := by
  intro M H x y v u P Q dom rx ry f k
  have gen : eqOk x y = true ∧ P (.bool (neg ^^ PyData.eqv x y)) → rEqAny K neg v u H Q := fun f => .inr ⟨x, y, rx.dp (eqOk_l f.1), ry.dp (eqOk_r f.1), f.1, k _ _ H f.2 (Same.refl _) (.bl _)⟩
  cases x with
  | int i =>
    cases y with
    | int j => rw [RV.isInt rx, RV.isInt ry]; exact .inl ⟨rfl, by rw [decV_int]; exact k _ _ H f (Same.refl _) (.bl _)⟩
    | _ => exact gen f
  | str i =>
    cases y with
    | str j => rw [RV.isStr rx, RV.isStr ry]; exact .inl ⟨rfl, by rw [decV_str]; exact k _ _ H f (Same.refl _) (.bl _)⟩
    | _ => exact gen f
  | bool i =>
    cases y with
    | bool j => rw [RV.isBl rx, RV.isBl ry]; exact .inl ⟨rfl, by rw [decV_bl]; exact k _ _ H f (Same.refl _) (.bl _)⟩
    | _ => exact gen f
  | _ => exact gen f
theorem de_eq (hu : ∀ i, (X i).A.units + 64 < cLine) (ha : DE X K a wa) (hb : DV X K b wb) (hK : ∀ i, (X i).K = K := by intro i; rfl) : DE X K (.Compare a [.Eq] [b] pos) (wOp (fEq false) wa wb) :=
  de_op (fun i ta tb h1 h2 => pe_cmpR (by rw [← hK i]; exact op_eqAny (hu i)) h1 h2 (nomark _)) od_eq ha hb
theorem de_ne (hu : ∀ i, (X i).A.units + 64 < cLine) (ha : DE X K a wa) (hb : DV X K b wb) (hK : ∀ i, (X i).K = K := by intro i; rfl) : DE X K (.Compare a [.NotEq] [b] pos) (wOp (fEq true) wa wb) :=
  de_op (fun i ta tb h1 h2 => pe_cmpR (by rw [← hK i]; exact op_neAny (hu i)) h1 h2 (nomark _)) od_eq ha hb
theorem de_eqo (j : Nat) (hu : ∀ i, (X i).A.units + 64 < cLine) (hb : DV X K b wb) (h : ∀ i, PE (X i) a (tVar j) := by intro i; exact pv _) (hK : ∀ i, (X i).K = K := by intro i; rfl) : DE X K (.Compare a [.Eq] [b] pos) (wOpO (fEq false) j wb) :=
  de_opo j (fun i ta tb h1 h2 => pe_cmpR (by rw [← hK i]; exact op_eqAny (hu i)) h1 h2 (nomark _)) od_eq hb h
theorem de_neo (j : Nat) (hu : ∀ i, (X i).A.units + 64 < cLine) (hb : DV X K b wb) (h : ∀ i, PE (X i) a (tVar j) := by intro i; exact pv _) (hK : ∀ i, (X i).K = K := by intro i; rfl) : DE X K (.Compare a [.NotEq] [b] pos) (wOpO (fEq true) j wb) :=
  de_opo j (fun i ta tb h1 h2 => pe_cmpR (by rw [← hK i]; exact op_neAny (hu i)) h1 h2 (nomark _)) od_eq hb h
/-! ### is None, is not None -/
def isN : PyData → Bool
  | .none => true
  | _ => false
def fIs (neg : Bool) : F2 := fun x y P => y = .none ∧ P (.bool (neg ^^ isN x))
theorem rv_isN {M : List Addr} {H : Hp} {v : V} {d : PyData} (r : RV K M H v d) : decide (v = .non) = isN d := by
  rcases r with r | ⟨_, _, _, rfl, rfl, _⟩
  · cases r <;> simp [isN]
  · simp [isN]
theorem od_is : OpD K (fun x y H Q => y = .non ∧ Q (.bl (decide (x = .non))) H) (fIs false) := by
  intro M H x y v u P Q dom rx ry f k
  obtain ⟨rfl, f⟩ := f
  exact ⟨RV.isNon ry, by rw [rv_isN rx]; exact k _ _ H f (Same.refl _) (by simpa using Dt.bl _)⟩
theorem od_isnot : OpD K (fun x y H Q => y = .non ∧ Q (.bl (!decide (x = .non))) H) (fIs true) := by
  intro M H x y v u P Q dom rx ry f k
  obtain ⟨rfl, f⟩ := f
  exact ⟨RV.isNon ry, by rw [rv_isN rx]; exact k _ _ H f (Same.refl _) (by simpa using Dt.bl _)⟩
theorem de_is (ha : DE X K a wa) (hb : DE X K b wb) : DE X K (.Compare a [.Is] [b] pos) (wOp (fIs false) wa wb) := de_op (fun i ta tb h1 h2 => pe_cmpR op_isN h1 h2 (nomark _)) od_is ha hb.v
theorem de_isnot (ha : DE X K a wa) (hb : DE X K b wb) : DE X K (.Compare a [.IsNot] [b] pos) (wOp (fIs true) wa wb) := de_op (fun i ta tb h1 h2 => pe_cmpR op_notN h1 h2 (nomark _)) od_isnot ha hb.v
/-! ### in, not in -/
def inS (x z : Str) : Bool := match x.cps.toList with
  | [c] => decide (c ∈ z.cps.toList)
  | _ => !(Builtin.Str.occurrences z x 0 z.length 1).isEmpty
def flatD : PyData → Bool
  | .none => true
  | .bool _ => true
  | .int _ => true
  | .str _ => true
  | _ => false
def fIn (neg : Bool) : F2
  | .str x, .str z, P => P (.bool (neg ^^ inS x z))
  | x, .list ys, P => flatD x = true ∧ ys.all flatD = true ∧ P (.bool (neg ^^ ys.any fun y => PyData.eqv y x))
  | x, .tuple ys, P => flatD x = true ∧ ys.all flatD = true ∧ P (.bool (neg ^^ ys.any fun y => PyData.eqv y x))
  | _, _, _ => False
def rInS (neg : Bool) : R2 := fun x y H Q => ∃ i j, x = .str i ∧ y = .str j ∧ Q (.bl (neg ^^ inS i j)) H
theorem op_inS' {Y : Cx} : OpR Y (compareOp .In) (rInS false) := by
  intro pins s σ H x y v u Q I rx ry h
  obtain ⟨i, j, rfl, rfl, q⟩ := h
  unfold inS at q
  split at q
  · rename_i c hc
    have e : i = ⟨#[c]⟩ := by obtain ⟨⟨i⟩⟩ := i; simpa using hc
    subst e
    exact op_in_sign pins s σ H _ _ v u Q I rx ry ⟨c, j, rfl, rfl, by simpa using q⟩
  · exact op_in_str pins s σ H _ _ v u Q I rx ry ⟨i, j, rfl, rfl, by simpa using q⟩
theorem op_notinS' {Y : Cx} : OpR Y (compareOp .NotIn) (rInS true) := by
  intro pins s σ H x y v u Q I rx ry h
  obtain ⟨i, j, rfl, rfl, q⟩ := h
  unfold inS at q
  split at q
  · rename_i c hc
    have e : i = ⟨#[c]⟩ := by obtain ⟨⟨i⟩⟩ := i; simpa using hc
    subst e
    exact op_notIn_sign pins s σ H _ _ v u Q I rx ry ⟨c, j, rfl, rfl, by simpa using q⟩
  · exact op_notIn_str pins s σ H _ _ v u Q I rx ry ⟨i, j, rfl, rfl, by simpa using q⟩
theorem flat_dt {H : Hp} {v : V} {d : PyData} (r : Dt K H v d) : flatV v = flatD d := by cases r <;> rfl
theorem flat_all {H : Hp} : ∀ {vs : List V} {ds : List PyData}, DtAll K H vs ds → vs.all flatV = ds.all flatD
  | _, _, .nil => rfl
  | _, _, .cons h r => by rw [List.all_cons, List.all_cons, flat_dt h, flat_all r]
theorem eq_flat {H : Hp} {v u : V} {d e : PyData} (r : Dt K H v d) (q : Dt K H u e) (f1 : flatD d = true) (f2 : flatD e = true) : eqV v u = PyData.eqv d e := by
  cases r <;> cases q <;> first | rfl | exact absurd f1 Bool.false_ne_true | exact absurd f2 Bool.false_ne_true
theorem in_flat {H : Hp} {u : V} {e : PyData} (q : Dt K H u e) (f2 : flatD e = true) : ∀ {vs : List V} {ds : List PyData}, DtAll K H vs ds → ds.all flatD = true → inV u vs = ds.any fun y => PyData.eqv y e
  | _, _, .nil, _ => rfl
  | _, _, .cons h r, f => by
    rw [List.all_cons, Bool.and_eq_true] at f
    have ih := in_flat q f2 r f.2
    unfold inV at ih ⊢
    rw [List.any_cons, List.any_cons, ih, eq_flat h q f.1 f2]
def rInAny (K : Fr) (neg : Bool) : R2 := fun x y H Q => rInS neg x y H Q ∨ rIn K neg x y H Q
theorem od_in {neg : Bool} : OpD K (rInAny K neg) (fIn neg) := by
  intro M H x y v u P Q dom rx ry f k
  have xx : ∀ b : Bool, (if neg = true then !b else b) = (neg ^^ b) := by intro b; cases neg <;> cases b <;> rfl
  have seq : ∀ (p : Addr) (vs : List V) (ds : List PyData), (SqL K H p vs ∨ SqT K H p vs) → DtAll K (rm M H) vs ds → u = .ref p → flatD x = true ∧ ds.all flatD = true ∧ P (.bool (neg ^^ ds.any fun y => PyData.eqv y x)) → rInAny K neg v u H Q := fun p vs ds hs hd hu f => by
    have r1 : Dt K (rm M H) v x := by
      rcases rx with r | ⟨_, _, _, _, rfl, _⟩
      · exact r
      · exact absurd f.1 (by simp [flatD])
    refine .inr ⟨p, vs, hu, hs, by rw [flat_dt r1]; exact f.1, by rw [flat_all hd]; exact f.2.1, ?_⟩
    rw [xx, in_flat r1 f.1 hd f.2.1]
    exact k _ _ H f.2.2 (Same.refl _) (.bl _)
  cases y with
  | str z =>
    cases x with
    | str x => rw [RV.isStr rx, RV.isStr ry]; exact .inl ⟨x, z, rfl, rfl, k _ _ H f (Same.refl _) (.bl _)⟩
    | _ => exact f.elim
  | list ds =>
    obtain ⟨p, vs, rfl, h1, h2⟩ := RV.isLst ry
    exact seq p vs ds (.inl (.inl (.inl h1))) h2 rfl (by cases x <;> exact f)
  | tuple ds =>
    obtain ⟨p, vs, rfl, h1, h2⟩ := RV.isTup ry
    exact seq p vs ds (.inr h1) h2 rfl (by cases x <;> exact f)
  | _ => cases x <;> exact f.elim
theorem de_in (ha : DE X K a wa) (hb : DV X K b wb) (hm : behindInMarks .In b = false := by rfl) (hK : ∀ i, (X i).K = K := by intro i; rfl) : DE X K (.Compare a [.In] [b] pos) (wOp (fIn false) wa wb) :=
  de_op (fun i ta tb h1 h2 => pe_cmpR (by rw [← hK i]; exact op_orR op_inS' op_in_seq) h1 h2 hm) od_in ha hb
theorem de_notin (ha : DE X K a wa) (hb : DV X K b wb) (hm : behindInMarks .NotIn b = false := by rfl) (hK : ∀ i, (X i).K = K := by intro i; rfl) : DE X K (.Compare a [.NotIn] [b] pos) (wOp (fIn true) wa wb) :=
  de_op (fun i ta tb h1 h2 => pe_cmpR (by rw [← hK i]; exact op_orR op_notinS' op_notIn_seq) h1 h2 hm) od_in ha hb
/-! ### x[i] -/
def fIx : F2
  | .list xs, .int i, P => ∃ d, atI xs i = some d ∧ P d
  | .tuple xs, .int i, P => ∃ d, atI xs i = some d ∧ P d
  | .str z, .int i, P => z.length ≤ sizeLine ∧ ∃ c, atI z.cps.toList i = some c ∧ P (.str ⟨#[c]⟩)
  | _, _, _ => False
theorem at_dt {H : Hp} {vs : List V} {ds : List PyData} {i : Int} {d : PyData} (r : DtAll K H vs ds) (h : atI ds i = some d) : ∃ v, atI vs i = some v ∧ Dt K H v d := by
  unfold atI at h ⊢
  rw [DtAll.len r]
  cases hn : ixN ds.length i with
  | none => rw [hn] at h; cases h
  | some j =>
    rw [hn] at h
    obtain ⟨v, h1, h2⟩ := DtAll.getd r (show ds[j]? = some d from h)
    exact ⟨v, h1, h2⟩
theorem od_ix : OpD K (rIx K) fIx := by
  intro M H x y v u P Q dom rx ry f k
  cases y with
  | int i =>
    rw [RV.isInt ry]
    cases x with
    | list ds =>
      obtain ⟨p, vs, rfl, h1, h2⟩ := RV.isLst rx
      obtain ⟨d, h3, f⟩ := f
      obtain ⟨w, h4, h5⟩ := at_dt h2 h3
      exact .inl ⟨p, vs, i, w, rfl, rfl, SqL.of h1, h4, k _ _ H f (Same.refl _) h5⟩
    | tuple ds =>
      obtain ⟨p, vs, rfl, h1, h2⟩ := RV.isTup rx
      obtain ⟨d, h3, f⟩ := f
      obtain ⟨w, h4, h5⟩ := at_dt h2 h3
      exact .inr (.inl ⟨p, vs, i, w, rfl, rfl, h1, h4, k _ _ H f (Same.refl _) h5⟩)
    | str z =>
      rw [RV.isStr rx]
      obtain ⟨h1, c, h2, f⟩ := f
      exact .inr (.inr ⟨z, i, c, rfl, rfl, h1, h2, k _ _ H f (Same.refl _) (.str _)⟩)
    | _ => exact f.elim
  | _ => cases x <;> exact f.elim
theorem de_ix (ha : DE X K a wa) (hb : DE X K b wb) (hs : PlainIx b := by exact fun _ _ => rfl) (hK : ∀ i, (X i).K = K := by intro i; rfl) : DE X K (.Subscript a b pos) (wOp fIx wa wb) :=
  de_op (fun i ta tb h1 h2 => by rw [← hK i]; exact pe_ix ix_seq h1 h2 hs) od_ix ha hb.v
theorem de_ixo (j : Nat) (hb : DE X K b wb) (hs : PlainIx b := by exact fun _ _ => rfl) (h : ∀ i, PE (X i) a (tVar j) := by intro i; exact pv _) (hK : ∀ i, (X i).K = K := by intro i; rfl) : DE X K (.Subscript a b pos) (wOpO fIx j wb) :=
  de_opo j (fun i ta tb h1 h2 => by rw [← hK i]; exact pe_ix ix_seq h1 h2 hs) od_ix hb.v h
/-! ### x[lo:hi] -/
abbrev WO := Env → (Env → Option Int → Prop) → Prop
def DO (X : ι → Cx) (K : Fr) (e : Option Expr) (w : WO) : Prop := ∃ t : TO, (∀ i, PO (X i) e t) ∧ ∀ (M0 M B : List Addr) (σ : L2.St) (H : Hp) (ρ : Env) (P : Env → Option Int → Prop) (Q : Option Int → Hp → Prop), EnvOk K M0 M B H σ ρ → w ρ P →
  (∀ ρ' o H', P ρ' o → Ext M B H M B H' → EnvOk K M0 M B H' σ ρ' → Q o H') → t σ H Q
def wNo : WO := fun ρ P => P ρ none
def wSo (we : WE) : WO := fun ρ P => we ρ fun ρ1 d => ∃ i, d = .int i ∧ P ρ1 (some i)
theorem do_no : DO X K none wNo := ⟨tNoPart, fun i => po_none, fun M0 M B σ H ρ P Q E w k => k ρ none H w (Ext.refl ..) E⟩
theorem do_so (h : DE X K e we) : DO X K (some e) (wSo we) := by
  obtain ⟨t, a1, a2⟩ := h
  refine ⟨tPart t, fun i => po_some (a1 i), fun M0 M B σ H ρ P Q E w k => ?_⟩
  refine a2 M0 M B σ H ρ _ _ E w fun ρ1 d v H1 w1 x1 E1 r1 => ?_
  obtain ⟨i, rfl, p⟩ := w1
  exact ⟨i, Dt.isInt r1, k ρ1 _ H1 p x1 E1⟩
def cutD {α : Type} (xs : List α) (lo hi : Option Int) : List α := (xs.drop (HT.sIx xs.length 0 lo)).take (HT.sIx xs.length xs.length hi - HT.sIx xs.length 0 lo)
theorem DtAll.cut {H : Hp} {vs : List V} {ds : List PyData} (r : DtAll K H vs ds) (lo hi : Option Int) : DtAll K H (cutV vs lo hi) (cutD ds lo hi) := by
  unfold cutV cutD
  rw [DtAll.len r]
  exact DtAll.take _ (DtAll.drop _ r)
def fSl : PyData → Option Int → Option Int → (PyData → Prop) → Prop
  | .str z, lo, hi, P => z.length ≤ sizeLine ∧ P (.str (cutS z lo hi))
  | .list xs, lo, hi, P => P (.list (cutD xs lo hi))
  | .tuple xs, lo, hi, P => P (.tuple (cutD xs lo hi))
  | _, _, _, _ => False
def rSlAny (K : Fr) : V → Option Int → Option Int → Hp → VK → Prop := fun x lo hi H Q => rSlS x lo hi H Q ∨ rSlL K x lo hi H Q ∨ rSlA K x lo hi H Q
theorem sl_any {Y : Cx} : SlR Y (rSlAny Y.K) := sl_str.or (sl_list.or sl_tupA)
theorem sl_d {M : List Addr} {H : Hp} {x : PyData} {v : V} {lo hi : Option Int} {P : PyData → Prop} {Q : VK} (dom : ∀ a, a ∈ M → H a ≠ none) (rx : RV K M H v x) (f : fSl x lo hi P) (k : ∀ d z H', P d → Same H H' → Dt K (rm M H') z d → Q z H') : rSlAny K v lo hi H Q := by
  have up : ∀ {p : Addr} {o : HO}, H p = none → Same (rm M H) (rm M (upd H p o)) := fun np a o e => by
    obtain ⟨z1, z2⟩ := rm_to e
    exact rm_of z1 (same_new np _ _ z2)
  cases x with
  | str z => rw [RV.isStr rx]; exact .inl ⟨z, rfl, f.1, k _ _ H f.2 (Same.refl _) (.str _)⟩
  | list ds =>
    obtain ⟨p, vs, rfl, h1, h2⟩ := RV.isLst rx
    exact .inr (.inl ⟨p, vs, rfl, SqL.of h1, fun q nq => k _ _ _ f (same_new nq) (.lst (rm_of (fun c => dom q c nq) upd_same) (DtAll.up (up nq) (DtAll.cut h2 lo hi)))⟩)
  | tuple ds =>
    have r1 : Dt K (rm M H) v (.tuple ds) := by rcases rx with r | ⟨_, _, _, _, q, _⟩ <;> first | exact r | cases q
    obtain ⟨p, vs, rfl, h1, h2⟩ := RV.isTup rx
    refine .inr (.inr ⟨p, vs, rfl, h1, fun ⟨c1, c2⟩ => ?_, fun _ q nq => k _ _ _ f (same_new nq) (.tup (.inl (.inl (rm_of (fun c => dom q c nq) upd_same))) (DtAll.up (up nq) (DtAll.cut h2 lo hi)))⟩)
    refine k _ _ H f (Same.refl _) ?_
    have e : cutD ds lo hi = ds := by
      unfold cutD
      rw [← DtAll.len h2, c1, c2]
      simp [DtAll.len h2]
    rw [e]
    exact r1
  | _ => exact f.elim
def wSl (we : WE) (wl wh : WO) : WE := fun ρ P => we ρ fun ρ1 x => wl ρ1 fun ρ2 lo => wh ρ2 fun ρ3 hi => fSl x lo hi fun d => P ρ3 d
def wSlO (j : Nat) (wl wh : WO) : WE := fun ρ P => (∃ ds0, (ρ.at j).items = some ds0) ∧ wl ρ fun ρ2 lo => wh ρ2 fun ρ3 hi => ∃ ds, (ρ3.at j).items = some ds ∧ P ρ3 (.list (cutD ds lo hi))
theorem de_sl {wl wh : WO} {lo hi : Option Expr} {p2 : Pos} (ha : DE X K a wa) (hl : DO X K lo wl) (hh : DO X K hi wh) (hK : ∀ i, (X i).K = K := by intro i; rfl) : DE X K (.Subscript a (.Slice lo hi none p2) pos) (wSl wa wl wh) := by
  obtain ⟨t, a1, a2⟩ := ha
  obtain ⟨tl, l1, l2⟩ := hl
  obtain ⟨th, h1, h2⟩ := hh
  refine ⟨tSl (rSlAny K) t tl th, fun i => by rw [← hK i]; exact pe_slice sl_any (a1 i) (l1 i) (h1 i), fun M0 M B σ H ρ P Q E w k => ?_⟩
  refine a2 M0 M B σ H ρ _ _ E w fun ρ1 d v H1 w1 x1 E1 r1 => ?_
  refine l2 M0 M B σ H1 ρ1 _ _ E1 w1 fun ρ2 lo H2 w2 x2 E2 => ?_
  refine h2 M0 M B σ H2 ρ2 _ _ E2 w2 fun ρ3 hi H3 w3 x3 E3 => ?_
  refine sl_d E3.dom (.inl (E1.up (x2.trans x3) r1)) w3 fun d z H4 p e4 r4 => ?_
  exact k ρ3 d z H4 p ((x1.trans (x2.trans x3)).trans (Ext.same e4)) (E3.same e4) r4
theorem de_slo (j : Nat) {wl wh : WO} {lo hi : Option Expr} {p2 : Pos} (hl : DO X K lo wl) (hh : DO X K hi wh) (h : ∀ i, PE (X i) a (tVar j) := by intro i; exact pv _) (hK : ∀ i, (X i).K = K := by intro i; rfl) : DE X K (.Subscript a (.Slice lo hi none p2) pos) (wSlO j wl wh) := by
  obtain ⟨tl, l1, l2⟩ := hl
  obtain ⟨th, h1, h2⟩ := hh
  refine ⟨tSl (rSlAny K) (tVar j) tl th, fun i => by rw [← hK i]; exact pe_slice sl_any (h i) (l1 i) (h1 i), fun M0 M B σ H ρ P Q E w k => ?_⟩
  obtain ⟨⟨ds0, h0⟩, w⟩ := w
  obtain ⟨l0, xs0, _, _, hl0, _⟩ := E.lst h0
  refine ⟨_, hl0, ?_⟩
  refine l2 M0 M B σ H ρ _ _ E w fun ρ2 lo H2 w2 x2 E2 => ?_
  refine h2 M0 M B σ H2 ρ2 _ _ E2 w2 fun ρ3 hi H3 w3 x3 E3 => ?_
  obtain ⟨ds, h1, w4⟩ := w3
  obtain ⟨l, xs, _, _, hl, _, h4, h5, _⟩ := E3.lst h1
  rw [hl0] at hl
  injection hl with hl; injection hl with hl; injection hl with hl
  subst hl
  refine sl_d (x := .list ds) (P := fun d => P ρ3 d) E3.dom (.inr ⟨l0, xs, ds, rfl, rfl, h4, h5⟩) w4 fun d z H4 p e4 r4 => ?_
  exact k ρ3 d z H4 p ((x2.trans x3).trans (Ext.same e4)) (E3.same e4) r4
end Pm
namespace Pm
open PySem PySem.Spec PyProof.Rows L2
variable {ι : Type} {X : ι → Cx} {K : Fr} {a b e : Expr} {es : List Expr} {wa wb we : WE} {pos : Pos}
/-! ### built-ins of one argument -/
abbrev F1 := PyData → (PyData → Prop) → Prop
def CallD (K : Fr) (r : List V → Hp → VK → Prop) (f : F1) : Prop := ∀ (M : List Addr) (H : Hp) (x : PyData) (v : V) (P : PyData → Prop) (Q : VK), (∀ a, a ∈ M → H a ≠ none) → RV K M H v x → f x P →
  (∀ d z H', P d → Same H H' → Dt K (rm M H') z d → Q z H') → r [v] H Q
def wU (f : F1) (we : WE) : WE := fun ρ P => we ρ fun ρ1 d => f d fun z => P ρ1 z
theorem de_u {c : Expr} {r : List V → Hp → VK → Prop} {f : F1} (hp : ∀ i t, PE (X i) e t → PE (X i) c (tCB r (tCons t tNil))) (cd : CallD K r f) (h : DV X K e we) : DE X K c (wU f we) := by
  obtain ⟨t, a1, a2⟩ := h
  refine ⟨tCB r (tCons t tNil), fun i => hp i t (a1 i), fun M0 M B σ H ρ P Q E w k => ?_⟩
  refine a2 M0 M B σ H ρ _ _ E w fun ρ1 d v H1 w1 x1 E1 r1 => ?_
  exact cd M H1 d v _ Q E1.dom r1 w1 fun d z H2 p e2 r2 => k ρ1 d z H2 p (x1.trans (Ext.same e2)) (E1.same e2) r2
theorem up_new {M : List Addr} {H : Hp} {p : Addr} {o : HO} (np : H p = none) : Same (rm M H) (rm M (upd H p o)) := fun a o e => by
  obtain ⟨z1, z2⟩ := rm_to e
  exact rm_of z1 (same_new np _ _ z2)
def fLen : F1
  | .str x, P => x.length ≤ sizeLine ∧ P (.int x.length)
  | .list xs, P => P (.int xs.length)
  | .tuple xs, P => P (.int xs.length)
  | _, _ => False
theorem cd_len : CallD K (fun xs H Q => ∃ x n, xs = [x] ∧ LenV K x H n ∧ Q (.int n) H) fLen := by
  intro M H x v P Q dom r f k
  cases x with
  | str z => rw [RV.isStr r]; exact ⟨_, _, rfl, ⟨f.1, rfl⟩, k _ _ H f.2 (Same.refl _) (.int _)⟩
  | list ds =>
    obtain ⟨p, vs, rfl, h1, h2⟩ := RV.isLst r
    exact ⟨_, _, rfl, .inl ⟨vs, SqL.of h1, rfl⟩, by rw [DtAll.len h2]; exact k _ _ H f (Same.refl _) (.int _)⟩
  | tuple ds =>
    obtain ⟨p, vs, rfl, h1, h2⟩ := RV.isTup r
    exact ⟨_, _, rfl, .inr ⟨vs, h1, rfl⟩, by rw [DtAll.len h2]; exact k _ _ H f (Same.refl _) (.int _)⟩
  | _ => exact f.elim
theorem de_len {p : Pos} (hm : ∀ i, (X i).mg "len" = none) (h : DV X K e we) (hK : ∀ i, (X i).K = K := by intro i; rfl) (hg : ∀ i, Gl (X i) "len" := by intro i; rfl)
    (he : ∀ i, starEach (e :: []) (X i).env = (false, eval e (X i).env) :: starEach [] (X i).env := by intro i; rfl) : DE X K (.Call (.Name "len" p) [e] [] pos) (wU fLen we) :=
  de_u (fun i t h => by rw [← hK i]; exact pe_callB call_len (hg i) (hm i) PySem.boot_len (pa_cons h pa_nil (he i)) (by decide) (by decide) (he i) rfl) cd_len h
def fInt : F1
  | .int i, P => P (.int i)
  | .bool b, P => P (.int (if b then 1 else 0))
  | _, _ => False
theorem cd_int : CallD K (fun xs H Q => (∃ i, xs = [.int i] ∧ Q (.int i) H) ∨ ∃ k, xs = [.bl k] ∧ Q (.int (if k then 1 else 0)) H) fInt := by
  intro M H x v P Q dom r f k
  cases x with
  | int i => rw [RV.isInt r]; exact .inl ⟨i, rfl, k _ _ H f (Same.refl _) (.int _)⟩
  | bool i => rw [RV.isBl r]; exact .inr ⟨i, rfl, k _ _ H f (Same.refl _) (.int _)⟩
  | _ => exact f.elim
theorem de_toInt {p : Pos} (hm : ∀ i, (X i).mg "int" = none) (h : DE X K e we) (hg : ∀ i, Gl (X i) "int" := by intro i; rfl)
    (he : ∀ i, starEach (e :: []) (X i).env = (false, eval e (X i).env) :: starEach [] (X i).env := by intro i; rfl) : DE X K (.Call (.Name "int" p) [e] [] pos) (wU fInt we) :=
  de_u (fun i t h => pe_callTy call_int1 (hg i) (hm i) (by decide +kernel) (pa_cons h pa_nil (he i)) (by decide) (by decide) (he i) rfl) cd_int h.v
def fTuple : F1
  | .list xs, P => P (.tuple xs)
  | .tuple xs, P => P (.tuple xs)
  | _, _ => False
theorem cd_tuple : CallD K (fun xs H Q => ∃ p ys, xs = [.ref p] ∧ ((SqL K H p ys ∧ ∀ l, H l = none → Q (.ref l) (upd H l (.tup ys))) ∨ (SqT K H p ys ∧ Q (.ref p) H))) fTuple := by
  intro M H x v P Q dom r f k
  cases x with
  | list ds =>
    obtain ⟨p, vs, rfl, h1, h2⟩ := RV.isLst r
    exact ⟨p, vs, rfl, .inl ⟨SqL.of h1, fun l nl => k _ _ _ f (same_new nl) (.tup (.inl (.inl (rm_of (fun c => dom l c nl) upd_same))) (DtAll.up (up_new nl) h2))⟩⟩
  | tuple ds =>
    have r1 : Dt K (rm M H) v (.tuple ds) := by rcases r with r | ⟨_, _, _, _, q, _⟩ <;> first | exact r | cases q
    obtain ⟨p, vs, rfl, h1, h2⟩ := RV.isTup r
    exact ⟨p, vs, rfl, .inr ⟨h1, k _ _ H f (Same.refl _) r1⟩⟩
  | _ => exact f.elim
theorem de_tuple {p : Pos} (hm : ∀ i, (X i).mg "tuple" = none) (h : DV X K e we) (hK : ∀ i, (X i).K = K := by intro i; rfl) (hg : ∀ i, Gl (X i) "tuple" := by intro i; rfl)
    (he : ∀ i, starEach (e :: []) (X i).env = (false, eval e (X i).env) :: starEach [] (X i).env := by intro i; rfl) : DE X K (.Call (.Name "tuple" p) [e] [] pos) (wU fTuple we) :=
  de_u (fun i t h => by rw [← hK i]; exact pe_callTy call_tuple_of (hg i) (hm i) (by decide +kernel) (pa_cons h pa_nil (he i)) (by decide) (by decide) (he i) rfl) cd_tuple h
def fList : F1
  | .list xs, P => P (.list xs)
  | .tuple xs, P => P (.list xs)
  | _, _ => False
theorem cd_list : CallD K (fun xs H Q => ∃ p ys, xs = [.ref p] ∧ (SqL K H p ys ∨ SqT K H p ys) ∧ ∀ l, H l = none → Q (.ref l) (upd H l (.lst ys))) fList := by
  intro M H x v P Q dom r f k
  cases x with
  | list ds =>
    obtain ⟨p, vs, rfl, h1, h2⟩ := RV.isLst r
    exact ⟨p, vs, rfl, .inl (SqL.of h1), fun l nl => k _ _ _ f (same_new nl) (.lst (rm_of (fun c => dom l c nl) upd_same) (DtAll.up (up_new nl) h2))⟩
  | tuple ds =>
    obtain ⟨p, vs, rfl, h1, h2⟩ := RV.isTup r
    exact ⟨p, vs, rfl, .inr h1, fun l nl => k _ _ _ f (same_new nl) (.lst (rm_of (fun c => dom l c nl) upd_same) (DtAll.up (up_new nl) h2))⟩
  | _ => exact f.elim
theorem de_list {p : Pos} (hm : ∀ i, (X i).mg "list" = none) (h : DV X K e we) (hK : ∀ i, (X i).K = K := by intro i; rfl) (hg : ∀ i, Gl (X i) "list" := by intro i; rfl)
    (he : ∀ i, starEach (e :: []) (X i).env = (false, eval e (X i).env) :: starEach [] (X i).env := by intro i; rfl) : DE X K (.Call (.Name "list" p) [e] [] pos) (wU fList we) :=
  de_u (fun i t h => by rw [← hK i]; exact pe_callTy call_list_of (hg i) (hm i) (by decide +kernel) (pa_cons h pa_nil (he i)) (by decide) (by decide) (he i) rfl) cd_list h
/-- any, all of a list of truth values -/
def fBools (g : List Bool → Bool) : F1 := fun d P => ∃ bs : List Bool, d = .list (bs.map .bool) ∧ P (.bool (g bs))
theorem dt_bools {H : Hp} : ∀ {vs : List V} {bs : List Bool}, DtAll K H vs (bs.map .bool) → vs = bs.map V.bl
  | _, [], .nil => rfl
  | _, b :: bs, .cons h r => by rw [List.map_cons, Dt.isBl h, dt_bools r]
theorem cd_any : CallD K (rAny K) (fBools fun bs => bs.any id) := by
  intro M H x v P Q dom r f k
  obtain ⟨bs, rfl, f⟩ := f
  obtain ⟨p, vs, rfl, h1, h2⟩ := RV.isLst r
  exact ⟨p, bs, rfl, SqL.of (by rw [← dt_bools h2]; exact h1), k _ _ H f (Same.refl _) (.bl _)⟩
theorem cd_all : CallD K (rAll K) (fBools fun bs => bs.all id) := by
  intro M H x v P Q dom r f k
  obtain ⟨bs, rfl, f⟩ := f
  obtain ⟨p, vs, rfl, h1, h2⟩ := RV.isLst r
  exact ⟨p, bs, rfl, SqL.of (by rw [← dt_bools h2]; exact h1), k _ _ H f (Same.refl _) (.bl _)⟩
theorem de_any {p : Pos} (hm : ∀ i, (X i).mg "any" = none) (h : DV X K e we) (hK : ∀ i, (X i).K = K := by intro i; rfl) (hg : ∀ i, Gl (X i) "any" := by intro i; rfl) (hc : ∀ i, (X i).calm = true := by intro i; rfl)
    (he : ∀ i, starEach (e :: []) (X i).env = (false, eval e (X i).env) :: starEach [] (X i).env := by intro i; rfl) : DE X K (.Call (.Name "any" p) [e] [] pos) (wU (fBools fun bs => bs.any id) we) :=
  de_u (fun i t h => by rw [← hK i]; exact pe_callB (cr_any (hc i)) (hg i) (hm i) (by decide +kernel) (pa_cons h pa_nil (he i)) (by decide) (by decide) (he i) rfl) cd_any h
theorem de_all {p : Pos} (hm : ∀ i, (X i).mg "all" = none) (h : DV X K e we) (hK : ∀ i, (X i).K = K := by intro i; rfl) (hg : ∀ i, Gl (X i) "all" := by intro i; rfl) (hc : ∀ i, (X i).calm = true := by intro i; rfl)
    (he : ∀ i, starEach (e :: []) (X i).env = (false, eval e (X i).env) :: starEach [] (X i).env := by intro i; rfl) : DE X K (.Call (.Name "all" p) [e] [] pos) (wU (fBools fun bs => bs.all id) we) :=
  de_u (fun i t h => by rw [← hK i]; exact pe_callB (cr_all (hc i)) (hg i) (hm i) (by decide +kernel) (pa_cons h pa_nil (he i)) (by decide) (by decide) (he i) rfl) cd_all h
/-! ### methods of texts -/
abbrev FM := Str → List PyData → (PyData → Prop) → Prop
def MtD (K : Fr) (r : V → List V → Hp → VK → Prop) (f : FM) : Prop := ∀ (M : List Addr) (H : Hp) (x : Str) (ds : List PyData) (vs : List V) (P : PyData → Prop) (Q : VK), (∀ a, a ∈ M → H a ≠ none) → DtAll K (rm M H) vs ds → f x ds P →
  (∀ d z H', P d → Same H H' → Dt K (rm M H') z d → Q z H') → r (.str x) vs H Q
def wM (f : FM) (wo : WE) (wa : WA) : WE := fun ρ P => wo ρ fun ρ1 x => ∃ s, x = .str s ∧ wa ρ1 fun ρ2 ds => f s ds fun d => P ρ2 d
theorem de_m {c : Expr} {r : V → List V → Hp → VK → Prop} {f : FM} {wo : WE} {wa : WA} (hp : ∀ i t u, PE (X i) a t → PA (X i) es u → PE (X i) c (tBM K "str" r t u)) (md : MtD K r f) (h : DE X K a wo) (ha : DA X K es wa) : DE X K c (wM f wo wa) := by
  obtain ⟨t, a1, a2⟩ := h
  obtain ⟨u, b1, b2⟩ := ha
  refine ⟨_, fun i => hp i t u (a1 i) (b1 i), fun M0 M B σ H ρ P Q E w k => ?_⟩
  refine a2 M0 M B σ H ρ _ _ E w fun ρ1 d v H1 w1 x1 E1 r1 => ?_
  obtain ⟨s, rfl, w1⟩ := w1
  rw [Dt.isStr r1]
  refine ⟨rfl, b2 M0 M B σ H1 ρ1 _ _ E1 w1 fun ρ2 ds vs H2 w2 x2 E2 r2 => ?_⟩
  exact md M H2 s ds vs _ Q E2.dom r2 w2 fun d z H3 p e3 r3 => k ρ2 d z H3 p ((x1.trans x2).trans (Ext.same e3)) (E2.same e3) r3
/-- sep.join(x), x a list or a tuple of texts -/
def fJoin (s : Str) : F1 := fun d P => ∃ ys : List Str, (d = .list (ys.map .str) ∨ d = .tuple (ys.map .str)) ∧ (ys.map (·.length)).sum + ys.length * s.length ≤ 16777216 ∧ P (.str (Txt.join s ys))
theorem dt_strs {H : Hp} : ∀ {vs : List V} {bs : List Str}, DtAll K H vs (bs.map .str) → vs = bs.map V.str
  | _, [], .nil => rfl
  | _, b :: bs, .cons h r => by rw [List.map_cons, Dt.isStr h, dt_strs r]
def wJoin (wo we : WE) : WE := fun ρ P => wo ρ fun ρ1 x => ∃ s, x = .str s ∧ we ρ1 fun ρ2 d => fJoin s d fun z => P ρ2 z
theorem de_join {wo : WE} {apos cpos : Pos} (h : DE X K a wo) (ha : DV X K e we) (hK : ∀ i, (X i).K = K := by intro i; rfl) (he : ∀ i, starEach (e :: []) (X i).env = (false, eval e (X i).env) :: starEach [] (X i).env := by intro i; rfl)
    (hp : ∀ i t u, PE (X i) a t → PA (X i) [e] u → PE (X i) (.Call (.Attribute a "join" apos) [e] [] cpos) (tBM (X i).K "str" (fun x xs H Q => ∃ a p, ∃ ys : List Str, x = .str a ∧ xs = [.ref p] ∧ (SqL (X i).K H p (ys.map V.str) ∨ SqT (X i).K H p (ys.map V.str)) ∧ (ys.map (·.length)).sum + ys.length * a.length ≤ 16777216 ∧ Q (.str (Txt.join a ys)) H) t u) := by intro i t u h1 h2; exact pe_bm PySem.F.plainAttrs_str PySem.F.slot_str_join PySem.F.type_str_join mt_join h1 h2) :
    DE X K (.Call (.Attribute a "join" apos) [e] [] cpos) (wJoin wo we) := by
  obtain ⟨t, a1, a2⟩ := h
  obtain ⟨u, b1, b2⟩ := ha
  refine ⟨tBM K "str" (fun x xs H Q => ∃ a p, ∃ ys : List Str, x = .str a ∧ xs = [.ref p] ∧ (SqL K H p (ys.map V.str) ∨ SqT K H p (ys.map V.str)) ∧ (ys.map (·.length)).sum + ys.length * a.length ≤ 16777216 ∧ Q (.str (Txt.join a ys)) H) t (tCons u tNil), fun i => by rw [← hK i]; exact hp i t _ (a1 i) (pa_cons (b1 i) pa_nil (he i)), fun M0 M B σ H ρ P Q E w k => ?_⟩
  refine a2 M0 M B σ H ρ _ _ E w fun ρ1 d v H1 w1 x1 E1 r1 => ?_
  obtain ⟨s, rfl, w1⟩ := w1
  rw [Dt.isStr r1]
  refine ⟨rfl, b2 M0 M B σ H1 ρ1 _ _ E1 w1 fun ρ2 d v H2 w2 x2 E2 r2 => ?_⟩
  obtain ⟨ys, hd, hz, w2⟩ := w2
  rcases hd with rfl | rfl
  · obtain ⟨p, vs, rfl, h1, h2⟩ := RV.isLst r2
    exact ⟨s, p, ys, rfl, rfl, .inl (SqL.of (by rw [← dt_strs h2]; exact h1)), hz, k ρ2 _ _ H2 w2 (x1.trans x2) E2 (.str _)⟩
  · obtain ⟨p, vs, rfl, h1, h2⟩ := RV.isTup r2
    exact ⟨s, p, ys, rfl, rfl, .inr (by rw [← dt_strs h2]; exact h1), hz, k ρ2 _ _ H2 w2 (x1.trans x2) E2 (.str _)⟩
/-- x.split(sep) -/
def fSplit : FM
  | x, [.str y], P => (y.length == 0) = false ∧ x.length + 2 ≤ sizeLine ∧ P (.list ((Txt.split x y).map .str))
  | _, _, _ => False
theorem dt_ofstrs {H : Hp} : ∀ {bs : List Str}, DtAll K H (bs.map V.str) (bs.map .str)
  | [] => .nil
  | b :: bs => .cons (.str b) dt_ofstrs
theorem md_split : MtD K (fun x xs H Q => ∃ a b, x = .str a ∧ xs = [.str b] ∧ (b.length == 0) = false ∧ a.length + 2 ≤ sizeLine ∧ rNewStrs (Txt.split a b) H Q) fSplit := by
  intro M H x ds vs P Q dom r f k
  match ds, f with
  | [.str y], f =>
    cases r with
    | cons r1 r2 =>
      cases r2
      rw [Dt.isStr r1]
      exact ⟨x, y, rfl, rfl, f.1, f.2.1, fun p np => k _ _ _ f.2.2 (same_new np) (.lst (rm_of (fun c => dom p c np) upd_same) dt_ofstrs)⟩
theorem de_split {wo : WE} {wa : WA} {apos cpos : Pos} (h : DE X K a wo) (ha : DA X K [e] wa) (hK : ∀ i, (X i).K = K := by intro i; rfl)
    (hp : ∀ i t u, PE (X i) a t → PA (X i) [e] u → PE (X i) (.Call (.Attribute a "split" apos) [e] [] cpos) (tBM (X i).K "str" (fun x xs H Q => ∃ a b, x = .str a ∧ xs = [.str b] ∧ (b.length == 0) = false ∧ a.length + 2 ≤ sizeLine ∧ rNewStrs (Txt.split a b) H Q) t u) := by intro i t u h1 h2; exact pe_bm PySem.F.plainAttrs_str PySem.F.slot_str_split PySem.F.type_str_split mt_split h1 h2) :
    DE X K (.Call (.Attribute a "split" apos) [e] [] cpos) (wM fSplit wo wa) :=
  de_m (fun i t u h1 h2 => by rw [← hK i]; exact hp i t u h1 h2) md_split h ha
end Pm
namespace Pm
open PySem PySem.Spec PyProof.Rows L2
variable {ι : Type} {X : ι → Cx} {K : Fr} {a b e tg : Expr} {es : List Expr} {wa wb we : WE} {pos : Pos}
/-! ### what is walked -/
abbrev WI := Env → (Env → List PyData → Prop) → Prop
def IterOk (K : Fr) (M : List Addr) (H1 : Hp) (J : It) (items : List PyData) : Prop := ∀ (M' : List Addr) (H' : Hp), Same (rm M H1) (rm M' H') → (∀ a, a ∈ M' → H' a ≠ none) →
  (∀ (i : Nat) (d : PyData), items[i]? = some d → J.go i H' ∧ ∀ x H'', J.yld i H' x H'' → Same H' H'' ∧ Dt K (rm M' H'') x d) ∧ J.stop items.length H'
def DI (X : ι → Cx) (K : Fr) (tg iter : Expr) (w : WI) : Prop := ∃ t : TI, (∀ i, PI (X i) tg iter t) ∧ ∀ (M0 M B : List Addr) (σ : L2.St) (H : Hp) (ρ : Env) (P : Env → List PyData → Prop) (R : It → Hp → Prop), EnvOk K M0 M B H σ ρ → w ρ P →
  (∀ ρ' items J H', P ρ' items → Ext M B H M B H' → EnvOk K M0 M B H' σ ρ' → IterOk K M H' J items → R J H') → t σ H R
theorem pi_or {Y : Cx} {iter : Expr} {w1 w2 : TI} (h1 : PI Y tg iter w1) (h2 : PI Y tg iter w2) : PI Y tg iter (fun σ H R => w1 σ H R ∨ w2 σ H R) := by
  refine ⟨fun pins s σ H R I h => ?_⟩
  rcases h with h | h
  · exact h1.run pins s σ H R I h
  · exact h2.run pins s σ H R I h
def signsD (z : Str) : List PyData := z.cps.toList.map fun c => .str ⟨#[c]⟩
def fSeq (d : PyData) (P : List PyData → Prop) : Prop := match d with
  | .list ds => P ds
  | .tuple ds => P ds
  | .str z => P (signsD z)
  | _ => False
def wSeqI (we : WE) : WI := fun ρ P => we ρ fun ρ1 d => fSeq d fun ds => P ρ1 ds
def iAny (K : Fr) (tl : TE) : TI := fun σ H R => tl σ H fun x H1 => (∃ a, x = .ref a ∧ (∃ xs, SqL K H1 a xs) ∧ R (Itl K a) H1) ∨ (∃ a, x = .ref a ∧ (∃ xs, SqT K H1 a xs) ∧ R (Itt K a) H1) ∨ ∃ x', x = .str x' ∧ R (Its x') H1
theorem pi_any {Y : Cx} {l : Expr} {tl : TE} (hl : PE Y l tl) : PI Y tg l (iAny Y.K tl) := by
  refine ⟨fun pins s σ H R I h => ?_⟩
  refine thn (hl.run pins s σ H _ I h) fun v s1 ⟨x, H1, I1, r1, q1⟩ => ?_
  rcases q1 with ⟨a, e, ⟨xs, hq⟩, q⟩ | ⟨a, e, ⟨xs, hq⟩, q⟩ | ⟨x', e, q⟩
  · subst e
    cases r1
    obtain ⟨its, rv, p, hz⟩ := I1.list hq
    refine wpAny_pyIter_list p.isList ?_
    refine ⟨s1.heap.objs.size, [s1.heap.objs.size], _, _, H1, rfl, I1.kept (t' := s1.toks) fun b o e => Heap.get?_push_of_some _ e, turn_list a _, ⟨_, Heap.get?_push_size _ rfl, rfl, rfl⟩, fun b hb => ?_, q⟩
    have e : b = s1.heap.objs.size := by simpa using hb
    subst e
    exact I1.fpOk (Nat.le_refl _) (I1.hok.fresh (Nat.le_refl _))
  · subst e
    cases r1
    obtain ⟨its, rv, p, hz⟩ := I1.tuple hq
    refine wpAny_pyIter_tuple (show s1.heap.IsTuple a its.toArray from p) ?_
    refine ⟨s1.heap.objs.size, [s1.heap.objs.size], _, _, H1, rfl, I1.kept (t' := s1.toks) fun b o e => Heap.get?_push_of_some _ e, turn_tuple a _, ⟨_, Heap.get?_push_size _ rfl, rfl, rfl⟩, fun b hb => ?_, q⟩
    have e : b = s1.heap.objs.size := by simpa using hb
    subst e
    exact I1.fpOk (Nat.le_refl _) (I1.hok.fresh (Nat.le_refl _))
  · subst e
    obtain ⟨t, rfl⟩ := r1
    cases ha : x'.cps.all (· < 128)
    · exact wpAny_pyIter_wide ha (pi_one (tk := s1.toks) I1 _ (turn_str _ x' t "str_iterator" (.inr rfl)) ⟨_, Heap.get?_push_size _ rfl, rfl, rfl⟩ q)
    · exact wpAny_pyIter_ascii ha (pi_one (tk := s1.toks) I1 _ (turn_str _ x' t "str_ascii_iterator" (.inl rfl)) ⟨_, Heap.get?_push_size _ rfl, rfl, rfl⟩ q)
theorem it_list {M : List Addr} {H : Hp} {a : Addr} {xs : List V} {ds : List PyData} (h : rm M H a = some (.lst xs)) (r : DtAll K (rm M H) xs ds) : IterOk K M H (Itl K a) ds := fun M' H' s dom => by
  have h' : H' a = some (.lst xs) := (rm_to (s _ _ h)).2
  refine ⟨fun i d hd => ?_, ⟨xs, SqL.of h', by rw [DtAll.len r]; exact Nat.le_refl _⟩⟩
  obtain ⟨v, hv, rv⟩ := DtAll.getd r hd
  refine ⟨⟨xs, v, SqL.of h', hv⟩, fun x H'' y => ?_⟩
  obtain ⟨rfl, hy⟩ := y
  have e := hy xs (SqL.of h')
  rw [hv] at e
  cases e
  exact ⟨Same.refl _, Dt.up s rv⟩
theorem it_tup {M : List Addr} {H : Hp} {a : Addr} {xs : List V} {ds : List PyData} (h : SqT K (rm M H) a xs) (r : DtAll K (rm M H) xs ds) : IterOk K M H (Itt K a) ds := fun M' H' s dom => by
  have h' : SqT K H' a xs := same_t rm_le (same_t s h)
  refine ⟨fun i d hd => ?_, ⟨xs, h', by rw [DtAll.len r]; exact Nat.le_refl _⟩⟩
  obtain ⟨v, hv, rv⟩ := DtAll.getd r hd
  refine ⟨⟨xs, v, h', hv⟩, fun x H'' y => ?_⟩
  obtain ⟨rfl, hy⟩ := y
  have e := hy xs h'
  rw [hv] at e
  cases e
  exact ⟨Same.refl _, Dt.up s rv⟩
theorem signs_get {z : Str} {i : Nat} {d : PyData} (h : (signsD z)[i]? = some d) : ∃ c, z.cps[i]? = some c ∧ d = .str ⟨#[c]⟩ := by
  unfold signsD at h
  rw [List.getElem?_map] at h
  cases e : z.cps.toList[i]? with
  | none => rw [e] at h; cases h
  | some c =>
    rw [e] at h
    exact ⟨c, by simpa using e, (Option.some.inj h).symm⟩
theorem signs_len {z : Str} : (signsD z).length = z.cps.size := by simp [signsD]
theorem it_str {M : List Addr} {H : Hp} {z : Str} : IterOk K M H (Its z) (signsD z) := fun M' H' s dom => by
  refine ⟨fun i d hd => ?_, by rw [signs_len]; exact Nat.le_refl _⟩
  obtain ⟨c, hc, rfl⟩ := signs_get hd
  refine ⟨(Array.getElem?_eq_some_iff.mp hc).1, fun x H'' y => ?_⟩
  obtain ⟨rfl, c', hc', rfl⟩ := y
  rw [hc] at hc'
  cases hc'
  exact ⟨Same.refl _, .str _⟩
theorem di_seq (h : DE X K e we) (hK : ∀ i, (X i).K = K := by intro i; rfl) : DI X K tg e (wSeqI we) := by
  obtain ⟨t, a1, a2⟩ := h
  refine ⟨iAny K t, fun i => by rw [← hK i]; exact pi_any (a1 i), fun M0 M B σ H ρ P R E w k => ?_⟩
  refine a2 M0 M B σ H ρ _ _ E w fun ρ1 d v H1 w1 x1 E1 r1 => ?_
  cases d with
  | list ds =>
    obtain ⟨p, vs, rfl, h1, h2⟩ := Dt.isLst r1
    exact .inl ⟨p, rfl, ⟨vs, SqL.of (rm_le _ _ h1)⟩, k ρ1 ds _ H1 w1 x1 E1 (it_list h1 h2)⟩
  | tuple ds =>
    obtain ⟨p, vs, rfl, h1, h2⟩ := Dt.isTup r1
    exact .inr (.inl ⟨p, rfl, ⟨vs, same_t rm_le h1⟩, k ρ1 ds _ H1 w1 x1 E1 (it_tup h1 h2)⟩)
  | str z =>
    rw [Dt.isStr r1]
    exact .inr (.inr ⟨z, rfl, k ρ1 _ _ H1 w1 x1 E1 it_str⟩)
  | _ => exact w1.elim
/-! ### ranges -/
def rangeD (lo : Int) (n : Nat) : List PyData := (List.range n).map fun (k : Nat) => .int (lo + (k : Int))
theorem rangeD_get {lo : Int} {n i : Nat} {d : PyData} (h : (rangeD lo n)[i]? = some d) : i < n ∧ d = .int (lo + (i : Int)) := by
  unfold rangeD at h
  rw [List.getElem?_map] at h
  by_cases c : i < n
  · rw [List.getElem?_range c] at h
    exact ⟨c, (Option.some.inj h).symm⟩
  · rw [List.getElem?_eq_none (by simpa using Nat.le_of_not_lt c)] at h
    cases h
theorem rangeD_len {lo : Int} {n : Nat} : (rangeD lo n).length = n := by simp [rangeD]
theorem it_range {M : List Addr} {H : Hp} {lo : Int} {n : Nat} : IterOk K M H (Itr lo n) (rangeD lo n) := fun M' H' s dom => by
  refine ⟨fun i d hd => ?_, by rw [rangeD_len]; exact Nat.le_refl _⟩
  obtain ⟨h1, rfl⟩ := rangeD_get hd
  refine ⟨h1, fun x H'' y => ?_⟩
  obtain ⟨rfl, rfl⟩ := y
  exact ⟨Same.refl _, .int _⟩
def wRange1 (wa : WA) : WI := fun ρ P => wa ρ fun ρ1 ds => ∃ j : Int, ds = [.int j] ∧ -(2 ^ 62) ≤ j ∧ j < 2 ^ 62 ∧ P ρ1 (rangeD 0 j.toNat)
def wRange2 (wa : WA) : WI := fun ρ P => wa ρ fun ρ1 ds => ∃ i j : Int, ds = [.int i, .int j] ∧ (-(2 ^ 62) ≤ i ∧ i < 2 ^ 62 ∧ -(2 ^ 62) ≤ j ∧ j < 2 ^ 62) ∧ P ρ1 (rangeD i (j - i).toNat)
theorem di_range1 {w : WA} {p : Pos} (hm : ∀ i, (X i).mg "range" = none) (h : DA X K [a] w) (hg : ∀ i, Gl (X i) "range" := by intro i; rfl) (hs : ∀ i, starEach [a] (X i).env = [(false, eval a (X i).env)] := by intro i; rfl) : DI X K tg (.Call (.Name "range" p) [a] [] pos) (wRange1 w) := by
  obtain ⟨t, a1, a2⟩ := h
  refine ⟨iRng1 t, fun i => pi_range1 (hg i) (hm i) (a1 i) (hs i), fun M0 M B σ H ρ P R E w k => ?_⟩
  refine a2 M0 M B σ H ρ _ _ E w fun ρ1 ds vs H1 w1 x1 E1 r1 => ?_
  obtain ⟨j, rfl, h1, h2, w1⟩ := w1
  cases r1 with
  | cons q1 q2 =>
    cases q2
    rw [Dt.isInt q1]
    exact ⟨j, rfl, h1, h2, k ρ1 _ _ H1 w1 x1 E1 it_range⟩
theorem di_range2 {w : WA} {p : Pos} (hm : ∀ i, (X i).mg "range" = none) (h : DA X K [a, b] w) (hg : ∀ i, Gl (X i) "range" := by intro i; rfl) (hs : ∀ i, starEach [a, b] (X i).env = [(false, eval a (X i).env), (false, eval b (X i).env)] := by intro i; rfl) (hs2 : ∀ i, starEach [b] (X i).env = [(false, eval b (X i).env)] := by intro i; rfl) : DI X K tg (.Call (.Name "range" p) [a, b] [] pos) (wRange2 w) := by
  obtain ⟨t, a1, a2⟩ := h
  refine ⟨iRng2 t, fun i => pi_range2 (hg i) (hm i) (a1 i) (hs i) (hs2 i), fun M0 M B σ H ρ P R E w k => ?_⟩
  refine a2 M0 M B σ H ρ _ _ E w fun ρ1 ds vs H1 w1 x1 E1 r1 => ?_
  obtain ⟨i, j, rfl, hb, w1⟩ := w1
  cases r1 with
  | cons q1 q2 =>
    cases q2 with
    | cons q2 q3 =>
      cases q3
      rw [Dt.isInt q1, Dt.isInt q2]
      exact ⟨i, j, rfl, hb, k ρ1 _ _ H1 w1 x1 E1 it_range⟩
/-- i, i - 1, .. down to j + 1 -/
def downD (i : Int) (n : Nat) : List PyData := (List.range n).map fun (k : Nat) => .int (i + (k : Int) * (-1))
theorem downD_get {lo : Int} {n i : Nat} {d : PyData} (h : (downD lo n)[i]? = some d) : i < n ∧ d = .int (lo + (i : Int) * (-1)) := by
  unfold downD at h
  rw [List.getElem?_map] at h
  by_cases c : i < n
  · rw [List.getElem?_range c] at h
    exact ⟨c, (Option.some.inj h).symm⟩
  · rw [List.getElem?_eq_none (by simpa using Nat.le_of_not_lt c)] at h
    cases h
theorem downD_len {lo : Int} {n : Nat} : (downD lo n).length = n := by simp [downD]
theorem it_down {M : List Addr} {H : Hp} {lo : Int} {n : Nat} : IterOk K M H (Itc lo (-1) n) (downD lo n) := fun M' H' s dom => by
  refine ⟨fun i d hd => ?_, by rw [downD_len]; exact Nat.le_refl _⟩
  obtain ⟨h1, rfl⟩ := downD_get hd
  refine ⟨h1, fun x H'' y => ?_⟩
  obtain ⟨rfl, rfl⟩ := y
  exact ⟨Same.refl _, .int _⟩
def wDown (wa : WA) : WI := fun ρ P => wa ρ fun ρ1 ds => ∃ i j : Int, ds = [.int i, .int j, .int (-1)] ∧ (-(2 ^ 62) ≤ i ∧ i < 2 ^ 62 ∧ -(2 ^ 62) ≤ j ∧ j < 2 ^ 62) ∧ P ρ1 (downD i (i - j).toNat)
theorem di_down {c : Expr} {w : WA} {p : Pos} (hm : ∀ i, (X i).mg "range" = none) (h : DA X K [a, b, c] w) (hg : ∀ i, Gl (X i) "range" := by intro i; rfl) (hs : ∀ i, starEach [a, b, c] (X i).env = (false, eval a (X i).env) :: starEach [b, c] (X i).env := by intro i; rfl)
    (hpl : ∀ i, (backTo pos (starEach [b, c] (X i).env)).any (·.1) = false := by intro i; rfl) : DI X K tg (.Call (.Name "range" p) [a, b, c] [] pos) (wDown w) := by
  obtain ⟨t, a1, a2⟩ := h
  refine ⟨iRng3 t, fun i => pi_range3 (hg i) (hm i) (a1 i) (hs i) (hpl i), fun M0 M B σ H ρ P R E w k => ?_⟩
  refine a2 M0 M B σ H ρ _ _ E w fun ρ1 ds vs H1 w1 x1 E1 r1 => ?_
  obtain ⟨i, j, rfl, hb, w1⟩ := w1
  cases r1 with
  | cons q1 q2 =>
    cases q2 with
    | cons q2 q3 =>
      cases q3 with
      | cons q3 q4 =>
        cases q4
        rw [Dt.isInt q1, Dt.isInt q2, Dt.isInt q3]
        exact ⟨i, j, -1, _, rfl, RgC.neg hb.1 hb.2.1 hb.2.2.1 hb.2.2.2, k ρ1 _ _ H1 w1 x1 E1 it_down⟩
/-! ### enumerate -/
def enumD (ds : List PyData) : List PyData := ds.zipIdx.map fun p => .tuple [.int (p.2 : Nat), p.1]
theorem enumD_get {ds : List PyData} {i : Nat} {d : PyData} (h : (enumD ds)[i]? = some d) : ∃ x, ds[i]? = some x ∧ d = .tuple [.int (i : Nat), x] := by
  unfold enumD at h
  rw [List.getElem?_map, List.getElem?_zipIdx] at h
  cases e : ds[i]? with
  | none => rw [e] at h; cases h
  | some x =>
    rw [e] at h
    refine ⟨x, rfl, ?_⟩
    have := (Option.some.inj h).symm
    simpa using this
theorem enumD_len {ds : List PyData} : (enumD ds).length = ds.length := by simp [enumD]
theorem it_enumS {M : List Addr} {H : Hp} {z : Str} : IterOk K M H (IteS z) (enumD (signsD z)) := fun M' H' s dom => by
  refine ⟨fun i d hd => ?_, by rw [enumD_len, signs_len]; exact Nat.le_refl _⟩
  obtain ⟨x, hx, rfl⟩ := enumD_get hd
  obtain ⟨c, hc, rfl⟩ := signs_get hx
  refine ⟨(Array.getElem?_eq_some_iff.mp hc).1, fun x H'' y => ?_⟩
  obtain ⟨T, c', rfl, nT, hc', rfl⟩ := y
  rw [hc] at hc'
  cases hc'
  exact ⟨same_new nT, .tup (.inl (.inl (rm_of (fun q => dom T q nT) upd_same))) (.cons (.int _) (.cons (.str _) .nil))⟩
theorem it_enumL {M : List Addr} {H : Hp} {a : Addr} {xs : List V} {ds : List PyData} (h : rm M H a = some (.lst xs)) (r : DtAll K (rm M H) xs ds) : IterOk K M H (Ite K a) (enumD ds) := fun M' H' s dom => by
  have h' : H' a = some (.lst xs) := (rm_to (s _ _ h)).2
  refine ⟨fun i d hd => ?_, ⟨xs, SqL.of h', by rw [enumD_len, DtAll.len r]; exact Nat.le_refl _⟩⟩
  obtain ⟨x, hx, rfl⟩ := enumD_get hd
  obtain ⟨v, hv, rv⟩ := DtAll.getd r hx
  refine ⟨⟨xs, v, SqL.of h', hv⟩, fun x H'' y => ?_⟩
  obtain ⟨T, x', rfl, nT, rfl, hy⟩ := y
  have e := hy xs (SqL.of h')
  rw [hv] at e
  cases e
  exact ⟨same_new nT, .tup (.inl (.inl (rm_of (fun q => dom T q nT) upd_same))) (.cons (.int _) (.cons (Dt.up (up_new nT) (Dt.up s rv)) .nil))⟩
def wEnum (we : WE) : WI := fun ρ P => we ρ fun ρ1 d => match d with
  | .list ds => P ρ1 (enumD ds)
  | .str z => P ρ1 (enumD (signsD z))
  | _ => False
def iEnumA (K : Fr) (ta : TA) : TI := fun σ H R => ta σ H fun vs H1 => (∃ a xs, vs = [.ref a] ∧ SqL K H1 a xs ∧ R (Ite K a) H1) ∨ ∃ x, vs = [.str x] ∧ R (IteS x) H1
theorem pi_enumA {Y : Cx} {ta : TA} {p pos tpos : Pos} {elts : List Expr} {kk : Nat} (hg : Gl Y "enumerate") (hm : Y.mg "enumerate" = none) (ha : PA Y [e] ta) (hs : starEach [e] Y.env = [(false, eval e Y.env)] := by rfl) :
    PI Y (.Tuple elts kk tpos) (.Call (.Name "enumerate" p) [e] [] pos) (iEnumA Y.K ta) := by
  refine ⟨fun pins s σ H R I h => ?_⟩
  refine Call_ (ld_blt I hg hm boot_enumerate (PyProof.Rows.callWith_type1 (thn (ha.run pos pins s σ H _ I h) fun us s1 ⟨vs, H1, I1, r1, q1⟩ => ?_) hs rfl))
  rcases q1 with ⟨a, xs, ex, hq, q⟩ | ⟨x, ex, q⟩
  · subst ex
    cases r1 with
    | cons r rr =>
      cases rr
      cases r
      obtain ⟨its, rv, p', hz⟩ := I1.list hq
      refine call_enumerate_list p'.isList fun h' he hit hsz hk => wpAny_pyIter_enum he ?_
      have I2 : Inv Y pins σ H1 { s1 with heap := h' } := I1.kept (t' := s1.toks) hk
      refine ⟨s1.heap.objs.size + 1, [s1.heap.objs.size + 1, s1.heap.objs.size], _, _, H1, rfl, I2, turn_enum a (s1.heap.objs.size + 1) s1.heap.objs.size, ⟨⟨.none, he⟩, hit, Nat.succ_ne_self _⟩, fun b hb => ?_, q⟩
      have e' : b = s1.heap.objs.size + 1 ∨ b = s1.heap.objs.size := by simpa using hb
      have hle : s1.heap.objs.size ≤ b := by
        rcases e' with z | z
        · rw [z]; exact Nat.le_add_right _ _
        · rw [z]; exact Nat.le_refl _
      exact I1.fpOk hle (I1.hok.fresh hle)
  · subst ex
    cases r1 with
    | cons r rr =>
      cases rr
      obtain ⟨t, rfl⟩ := r
      refine call_enumerate_str fun h' he hit hsz hk => wpAny_pyIter_enum he ?_
      have I2 : Inv Y pins σ H1 { s1 with heap := h' } := I1.kept (t' := s1.toks) hk
      refine ⟨s1.heap.objs.size + 1, [s1.heap.objs.size + 1, s1.heap.objs.size], _, _, H1, rfl, I2, turn_enumS x t (s1.heap.objs.size + 1) s1.heap.objs.size, ⟨⟨.none, he⟩, hit, Nat.succ_ne_self _, Nat.zero_le _⟩, fun b hb => ?_, q⟩
      have e' : b = s1.heap.objs.size + 1 ∨ b = s1.heap.objs.size := by simpa using hb
      have hle : s1.heap.objs.size ≤ b := by
        rcases e' with z | z
        · rw [z]; exact Nat.le_add_right _ _
        · rw [z]; exact Nat.le_refl _
      exact I1.fpOk hle (I1.hok.fresh hle)
theorem di_enum {p tpos : Pos} {elts : List Expr} {kk : Nat} (hm : ∀ i, (X i).mg "enumerate" = none) (h : DE X K e we) (hK : ∀ i, (X i).K = K := by intro i; rfl) (hg : ∀ i, Gl (X i) "enumerate" := by intro i; rfl) (hs : ∀ i, starEach [e] (X i).env = [(false, eval e (X i).env)] := by intro i; rfl) :
    DI X K (.Tuple elts kk tpos) (.Call (.Name "enumerate" p) [e] [] pos) (wEnum we) := by
  obtain ⟨t, a1, a2⟩ := h
  refine ⟨iEnumA K (tCons t tNil), fun i => by rw [← hK i]; exact pi_enumA (hg i) (hm i) (pa_cons (a1 i) pa_nil (hs i)) (hs i), fun M0 M B σ H ρ P R E w k => ?_⟩
  refine a2 M0 M B σ H ρ _ _ E w fun ρ1 d v H1 w1 x1 E1 r1 => ?_
  cases d with
  | list ds =>
    obtain ⟨p, vs, rfl, h1, h2⟩ := Dt.isLst r1
    exact .inl ⟨p, vs, rfl, SqL.of (rm_le _ _ h1), k ρ1 _ _ H1 w1 x1 E1 (it_enumL h1 h2)⟩
  | str z =>
    rw [Dt.isStr r1]
    exact .inr ⟨z, rfl, k ρ1 _ _ H1 w1 x1 E1 it_enumS⟩
  | _ => exact w1.elim
end Pm
namespace Pm
open PySem PySem.Spec PyProof.Rows L2
variable {ι : Type} {X : ι → Cx} {K : Fr} {a b e tg : Expr} {es : List Expr} {wa wb we : WE} {pos : Pos}
/-! ### list comprehensions, one name -/
/-- the contexts of a comprehension's block -/
abbrev Blk (ι : Type) : Type := ι × Shared × Hp × Addr × List (Str × Addr) × List Addr
abbrev blkX (X : ι → Cx) (scope : Scope) : Blk ι → Cx := fun p => (X p.1).blk p.2.1 p.2.2.1 scope (compEnvC scope p.2.2.2.2.1 p.2.2.2.1 (X p.1).env) p.2.2.2.2.2
def lcD (i : Nat) (wt : WT) (we : WE) : List PyData → Env → List PyData → (Env → List PyData → Prop) → Prop
  | [], ρ, acc, P => P ρ acc
  | d :: ds, ρ, acc, P => wt (ρ.set i (.dat d)) fun ρ1 c => (c = true → we ρ1 fun ρ2 y => acc.length < sizeLine ∧ lcD i wt we ds (ρ2.set i .un) (acc ++ [y]) P) ∧ (c = false → lcD i wt we ds (ρ1.set i .un) acc P)
def wLc (i : Nat) (wi : WI) (wt : WT) (we : WE) : WE := fun ρ P => wi ρ fun ρ1 items => lcD i wt we items (ρ1.set i .un) [] fun ρ2 ds => P ρ2 (.list ds)
/-- the slots but i are the same -/
theorem EnvOk.swap {M0 M B : List Addr} {H : Hp} {σ τ : L2.St} {ρ : Env} {i : Nat} (E : EnvOk K M0 M B H τ ρ) (hl : σ.length = τ.length) (h : ∀ j, j ≠ i → σ[j]? = τ[j]?) : EnvOk K M0 M B H σ (ρ.set i .un) where
  len := by rw [List.length_set, hl]; exact E.len
  sub := E.sub
  dom := E.dom
  m0 := E.m0
  slot := fun j s hj => by
    rcases get_set_some hj with ⟨rfl, rfl, _⟩ | ⟨n, hj'⟩
    · trivial
    · rw [h j (Ne.symm n)]; exact E.slot j s hj'
  sep := fun j k s s' l n h1 h2 l1 l2 s1 s2 => by
    rcases get_set_some h1 with ⟨rfl, rfl, _⟩ | ⟨n1, h1'⟩
    · cases l1
    · rcases get_set_some h2 with ⟨rfl, rfl, _⟩ | ⟨n2, h2'⟩
      · cases l2
      · rw [h j (Ne.symm n1)] at s1
        rw [h k (Ne.symm n2)] at s2
        exact E.sep j k s s' l n h1' h2' l1 l2 s1 s2
/-- one more address put away / taken back -/
theorem EnvOk.less {M0 M B : List Addr} {H : Hp} {σ : L2.St} {ρ : Env} {p : Addr} (E : EnvOk K M0 (p :: M) B H σ ρ) (h0 : ∀ a, a ∈ M0 → a ∈ M) (hs : ∀ a, a ∈ B → a ∈ M) : EnvOk K M0 M B H σ ρ where
  len := E.len
  sub := hs
  dom := fun a h => E.dom a (List.mem_cons_of_mem _ h)
  m0 := h0
  slot := fun i s h => by
    have r : Same (rm (p :: M) H) (rm M H) := fun a o e => by
      obtain ⟨z1, z2⟩ := rm_to e
      exact rm_of (fun c => z1 (List.mem_cons_of_mem _ c)) z2
    have z := E.slot i s h
    cases s with
    | un => trivial
    | dat d => obtain ⟨v, h1, h2⟩ := z; exact ⟨v, h1, Dt.up r h2⟩
    | scr ns => obtain ⟨v, h1, h2⟩ := z; exact ⟨v, h1, same_l r h2⟩
    | own ds => obtain ⟨l, xs, h1, h2, h3, h4, h5⟩ := z; exact ⟨l, xs, h1, h2, h3, h4, DtAll.up r h5⟩
    | bor l ds => obtain ⟨xs, h1, h2, h3, h4, h5⟩ := z; exact ⟨xs, h1, h2, h3, h4, DtAll.up r h5⟩
  sep := E.sep
theorem EnvOk.more {M0 M B : List Addr} {H H' : Hp} {σ : L2.St} {ρ : Env} {p : Addr} {o : HO} (E : EnvOk K M0 M B H σ ρ) (np : H p = none) (hp : H' p = some o) (sm : ∀ a u, a ≠ p → H a = some u → H' a = some u) : EnvOk K M0 (p :: M) B H' σ ρ := by
  have r : Same (rm M H) (rm (p :: M) H') := fun a u e => by
    obtain ⟨z1, z2⟩ := rm_to e
    have n : a ≠ p := fun q => by rw [q, np] at z2; cases z2
    refine rm_of (fun c => ?_) (sm a u n z2)
    rcases List.mem_cons.mp c with q | q
    · exact n q
    · exact z1 q
  refine ⟨E.len, fun a h => List.mem_cons_of_mem _ (E.sub a h), fun a h q => ?_, fun a h => List.mem_cons_of_mem _ (E.m0 a h), fun i s h => ?_, E.sep⟩
  · rcases List.mem_cons.mp h with c | c
    · rw [c, hp] at q; cases q
    · cases hz : H a with
      | none => exact E.dom a c hz
      | some u => rw [sm a u (fun q2 => by rw [q2, np] at hz; cases hz) hz] at q; cases q
  · have z := E.slot i s h
    have keepL : ∀ (l : Addr) (xs : List V), H l = some (.lst xs) → H' l = some (.lst xs) := fun l xs hl => sm l _ (fun q => by rw [q, np] at hl; cases hl) hl
    cases s with
    | un => trivial
    | dat d => obtain ⟨v, h1, h2⟩ := z; exact ⟨v, h1, Dt.up r h2⟩
    | scr ns => obtain ⟨v, h1, h2⟩ := z; exact ⟨v, h1, same_l r h2⟩
    | own ds => obtain ⟨l, xs, h1, h2, h3, h4, h5⟩ := z; exact ⟨l, xs, h1, h2, h3, keepL _ _ h4, DtAll.up r h5⟩
    | bor l ds => obtain ⟨xs, h1, h2, h3, h4, h5⟩ := z; exact ⟨xs, h1, h2, h3, keepL _ _ h4, DtAll.up r h5⟩
/-- the reading of a comprehension -/
theorem lc_read {i : Nat} {ti : TI} {tt : TT} {te : TE} {wi : WI} {wt : WT}
    (hi : ∀ (M0 M B : List Addr) (σ : L2.St) (H : Hp) (ρ : Env) (P : Env → List PyData → Prop) (R : It → Hp → Prop), EnvOk K M0 M B H σ ρ → wi ρ P → (∀ ρ' items J H', P ρ' items → Ext M B H M B H' → EnvOk K M0 M B H' σ ρ' → IterOk K M H' J items → R J H') → ti σ H R)
    (ht : ∀ (M0 M B : List Addr) (σ : L2.St) (H : Hp) (ρ : Env) (P : Env → Bool → Prop) (Q : Bool → Hp → Prop), EnvOk K M0 M B H σ ρ → wt ρ P → (∀ ρ' b H', P ρ' b → Ext M B H M B H' → EnvOk K M0 M B H' σ ρ' → Q b H') → tt σ H Q)
    (he : ∀ (M0 M B : List Addr) (σ : L2.St) (H : Hp) (ρ : Env) (P : Env → PyData → Prop) (Q : VK), EnvOk K M0 M B H σ ρ → we ρ P → (∀ ρ' d v H', P ρ' d → Ext M B H M B H' → EnvOk K M0 M B H' σ ρ' → Dt K (rm M H') v d → Q v H') → te σ H Q) :
    ∀ (M0 M B : List Addr) (σ : L2.St) (H : Hp) (ρ : Env) (P : Env → PyData → Prop) (Q : VK), EnvOk K M0 M B H σ ρ → wLc i wi wt we ρ P → (∀ ρ' d v H', P ρ' d → Ext M B H M B H' → EnvOk K M0 M B H' σ ρ' → Dt K (rm M H') v d → Q v H') → tLc ti (gName i) tt te [i] σ H Q := by
  intro M0 M B σ H ρ P Q E w k
  refine hi M0 M B σ H ρ _ _ E w fun ρ1 items J H1 w1 x1 E1 it => ?_
  intro D nD
  have hDM : D ∉ M := fun c => E1.dom D c nD
  have hDB : D ∉ B := fun c => hDM (E1.sub D c)
  -- W: the list so far
  refine ⟨fun n m H2 => m = items.length - n ∧ ∃ (ρ2 : Env) (acc : List V) (ds : List PyData), n ≤ items.length ∧ lcD i wt we (items.drop n) ρ2 ds (fun ρ2 ds => P ρ2 (.list ds)) ∧ H2 D = some (.lst acc) ∧ DtAll K (rm (D :: M) H2) acc ds ∧ EnvOk K M0 (D :: M) B H2 σ ρ2 ∧
      (∀ a o, a ∉ B → a ≠ D → H1 a = some o → H2 a = some o) ∧ (∀ a, H2 a = none → H1 a = none), ⟨_, rfl, ρ1.set i .un, [], [], Nat.zero_le _, w1, upd_same, .nil, ?_, fun a o _ n e => by rw [upd_ne n]; exact e, fun a e => (same_new nD).free e⟩, ?_⟩
  · have E2 : EnvOk K M0 (D :: M) B (upd H1 D (.lst [])) σ ρ1 := E1.more nD upd_same fun a u n e => by rw [upd_ne n]; exact e
    exact E2.swap rfl fun _ _ => rfl
  · rintro n m H2 ⟨rfl, ρ2, acc, ds, hn, w2, hD, hA, E2, fr, lv⟩
    have hEx : Ext M B H1 M B H2 := ⟨fun _ h => h, fun _ h => .inl h, fun _ h => h, fun _ h => .inl h, fun a o nb e => fr a o nb (fun q => by rw [q, nD] at e; cases e) e, lv⟩
    have hsm : Same (rm M H1) (rm (D :: M) H2) := fun a o e => by
      obtain ⟨z1, z2⟩ := rm_to e
      have nn : a ≠ D := fun q => by rw [q, nD] at z2; cases z2
      refine rm_of (fun c => ?_) (fr a o (fun c => z1 (E1.sub a c)) nn z2)
      rcases List.mem_cons.mp c with q | q
      · exact nn q
      · exact z1 q
    obtain ⟨hgo, hst⟩ := it (D :: M) H2 hsm E2.dom
    by_cases hlt : n < items.length
    · right
      have hnd : items[n]? = some items[n] := List.getElem?_eq_getElem hlt
      obtain ⟨g1, g2⟩ := hgo n _ hnd
      rw [List.drop_eq_getElem_cons hlt] at w2
      refine ⟨g1, fun H' => ∃ m', m' < items.length - n ∧ (m' = items.length - (n + 1) ∧ ∃ (ρ2 : Env) (acc : List V) (ds : List PyData), n + 1 ≤ items.length ∧ lcD i wt we (items.drop (n + 1)) ρ2 ds (fun ρ2 ds => P ρ2 (.list ds)) ∧ H' D = some (.lst acc) ∧ DtAll K (rm (D :: M) H') acc ds ∧ EnvOk K M0 (D :: M) B H' σ ρ2 ∧
        (∀ a o, a ∉ B → a ≠ D → H1 a = some o → H' a = some o) ∧ (∀ a, H' a = none → H1 a = none)), fun H' h => h, fun x H3 hy => ?_⟩
      obtain ⟨s3, rx⟩ := g2 x H3 hy
      have E3 : EnvOk K M0 (D :: M) B H3 σ ρ2 := E2.same s3
      -- the block's slots
      have E4 : EnvOk K M0 (D :: M) B H3 ((wipe σ [i]).set i (some x)) (ρ2.set i (.dat items[n])) := by
        have q : EnvOk K M0 (D :: M) B H3 (wipe σ [i]) (ρ2.set i .un) := E3.forget i none
        have q2 := q.set i rx
        rw [List.set_set] at q2
        exact q2
      have hsl : ∀ j, j ≠ i → σ[j]? = ((wipe σ [i]).set i (some x))[j]? := fun j n => by
        rw [get_set_ne (Ne.symm n)]
        show σ[j]? = (σ.set i none)[j]?
        rw [get_set_ne (Ne.symm n)]
      have hln : σ.length = ((wipe σ [i]).set i (some x)).length := by
        show σ.length = ((σ.set i none).set i (some x)).length
        rw [List.length_set, List.length_set]
      refine ⟨?_, ?_⟩
      · show (((σ.set i none).set i (some x)).set i none) = σ.set i none
        rw [List.set_set, List.set_set]
      · refine ht M0 (D :: M) B _ H3 _ _ _ E4 w2 fun ρ4 c H4 w4 x4 E5 => ?_
        have hD4 : H4 D = some (.lst acc) := x4.keep D _ hDB (s3 _ _ hD)
        have up4 : Same (rm (D :: M) H2) (rm (D :: M) H4) := ((Ext.same (M := D :: M) (B := B) s3).trans x4).rm E2.sub
        have fr4 : ∀ a o, a ∉ B → a ≠ D → H1 a = some o → H4 a = some o := fun a o nb nn e => x4.keep a o nb (s3 _ _ (fr a o nb nn e))
        have lv4 : ∀ a, H4 a = none → H1 a = none := fun a e => lv a (s3.free (x4.live a e))
        refine ite_of (fun ec => ?_) (fun ec => ?_)
        · refine he M0 (D :: M) B _ H4 _ _ _ E5 (w4.1 ec) fun ρ5 y v H5 w5 x5 E6 r5 => ?_
          obtain ⟨hz, w5⟩ := w5
          have hD5 : H5 D = some (.lst acc) := x5.keep D _ hDB hD4
          refine ⟨acc, hD5, by rw [DtAll.len hA]; exact hz, items.length - (n + 1), by omega, rfl, ρ5.set i .un, acc ++ [v], ds ++ [y], hlt, w5, upd_same, ?_, ?_, fun a o nb nn e => by rw [upd_ne nn]; exact x5.keep a o nb (fr4 a o nb nn e), fun a e => ?_⟩
          · rw [rm_upd (List.mem_cons_self ..)]
            exact DtAll.app (DtAll.up (x5.rm E5.sub) (DtAll.up up4 hA)) (.cons r5 .nil)
          · have q := E6.swap (σ := σ) (i := i) hln hsl
            have q2 : EnvOk K M0 (D :: M) B (upd H5 D (.lst (acc ++ [v]))) σ (ρ5.set i .un) := by
              refine ⟨q.len, q.sub, fun a h z => ?_, q.m0, fun j s hj => ?_, q.sep⟩
              · by_cases c : a = D
                · rw [c, upd_same] at z; cases z
                · rw [upd_ne c] at z; exact q.dom a h z
              · have z := q.slot j s hj
                have nl : ∀ l, l ∈ B → l ≠ D := fun l hl q => hDB (q ▸ hl)
                cases s with
                | un => trivial
                | dat d => obtain ⟨v, h1, h2⟩ := z; exact ⟨v, h1, by rw [rm_upd (List.mem_cons_self ..)]; exact h2⟩
                | scr d => obtain ⟨v, h1, h2⟩ := z; exact ⟨v, h1, by rw [rm_upd (List.mem_cons_self ..)]; exact h2⟩
                | own ds => obtain ⟨l, xs, h1, h2, h3, h4, h5⟩ := z; exact ⟨l, xs, h1, h2, h3, by rw [upd_ne (nl l h2)]; exact h4, by rw [rm_upd (List.mem_cons_self ..)]; exact h5⟩
                | bor l ds => obtain ⟨xs, h1, h2, h3, h4, h5⟩ := z; exact ⟨xs, h1, h2, h3, by rw [upd_ne (nl l h2)]; exact h4, by rw [rm_upd (List.mem_cons_self ..)]; exact h5⟩
            exact q2
          · by_cases c : a = D
            · rw [c, upd_same] at e; cases e
            · rw [upd_ne c] at e; exact lv4 a (x5.live a e)
        · exact ⟨items.length - (n + 1), by omega, rfl, ρ4.set i .un, acc, ds, hlt, w4.2 ec, hD4, DtAll.up up4 hA, E5.swap (σ := σ) (i := i) hln hsl, fr4, lv4⟩
    · left
      have en : n = items.length := by omega
      rw [en] at w2 ⊢
      rw [List.drop_length] at w2
      refine ⟨hst, k ρ2 _ _ H2 w2 (x1.trans hEx) (E2.less E1.m0 E1.sub) (.lst (rm_of hDM hD) (DtAll.up (fun a o e => ?_) hA))⟩
      obtain ⟨z1, z2⟩ := rm_to e
      exact rm_of (fun c => z1 (List.mem_cons_of_mem _ c)) z2
def wYes : WT := fun ρ P => P ρ true
/-- [elt for x in iter if t] -/
theorem de_lcif (i : Nat) {elt iter c : Expr} {x : Str} {px pos : Pos} {scope : Scope} {wi : WI} {wt : WT} (hN : ∀ j, (X j).N.Nodup) (hi : DI X K (.Name x px) iter wi) (ht : DT (blkX X scope) K c wt) (he : DE (blkX X scope) K elt we)
    (ok : ∀ j, blkC (X j).N (X j).env.scope scope [(x, i)] = true := by intro j; decide +kernel) (hg : ∀ p, PG (blkX X scope p) (.Name x px) (gName i) := by intro p; exact pg_name (by assumption) rfl (Or.inl rfl))
    (hc : ∀ j, (X j).calm = true := by intro j; rfl) (hs : ∀ j x, foldedSetIterable iter (X j).env x = pure x := by intro _ _; rfl) : DE X K (.ListComp elt [⟨.Name x px, iter, [c], 0⟩] scope pos) (wLc i wi wt we) := by
  obtain ⟨ti, i1, i2⟩ := hi
  obtain ⟨tt, t1, t2⟩ := ht
  obtain ⟨te, e1, e2⟩ := he
  exact ⟨tLc ti (gName i) tt te [i], fun j => pe_lc (own := [(x, i)]) (hc j) (hN j) (i1 j) (blkOk_by (ok j)) (fun s H C cl fp => hg (j, s, H, C, cl, fp)) (fun s H C cl fp => pts_one (t1 (j, s, H, C, cl, fp))) (fun s H C cl fp => e1 (j, s, H, C, cl, fp)) (hs j), lc_read i2 t2 e2⟩
theorem de_lc (i : Nat) {elt iter : Expr} {x : Str} {px pos : Pos} {scope : Scope} {wi : WI} (hN : ∀ j, (X j).N.Nodup) (hi : DI X K (.Name x px) iter wi) (he : DE (blkX X scope) K elt we)
    (ok : ∀ j, blkC (X j).N (X j).env.scope scope [(x, i)] = true := by intro j; decide +kernel) (hg : ∀ p, PG (blkX X scope p) (.Name x px) (gName i) := by intro p; exact pg_name (by assumption) rfl (Or.inl rfl))
    (hc : ∀ j, (X j).calm = true := by intro j; rfl) (hs : ∀ j x, foldedSetIterable iter (X j).env x = pure x := by intro _ _; rfl) : DE X K (.ListComp elt [⟨.Name x px, iter, [], 0⟩] scope pos) (wLc i wi wYes we) := by
  obtain ⟨ti, i1, i2⟩ := hi
  obtain ⟨te, e1, e2⟩ := he
  exact ⟨tLc ti (gName i) tYes te [i], fun j => pe_lc (own := [(x, i)]) (hc j) (hN j) (i1 j) (blkOk_by (ok j)) (fun s H C cl fp => hg (j, s, H, C, cl, fp)) (fun s H C cl fp => pts_nil) (fun s H C cl fp => e1 (j, s, H, C, cl, fp)) (hs j),
    lc_read i2 (fun M0 M B σ H ρ P Q E w k => k ρ true H w (Ext.refl ..) E) e2⟩
end Pm
/-! Room for deep recursions: one frame a level (the hand layer's own Room takes three). -/
namespace Pm
open PySem PySem.Spec PyProof.Rows L2
structure Room (k : Nat) (A : Around) : Prop where
  hd : A.handled = none
  dp : A.depth + (k + 8) < recursionLimit
  un : A.units + (4 * k + 400) < cLine
theorem Room.mono {j k : Nat} {A : Around} (r : Room k A) (h : j ≤ k) : Room j A := ⟨r.hd, by have a := r.dp; omega, by have a := r.un; omega⟩
theorem Room.deeper {k : Nat} {A : Around} (r : Room (k + 1) A) (z : PySem.Env) : Room k (A.deeper z) where
  hd := r.hd
  dp := by
    have a := r.dp
    show (A.depth + 1) + (k + 8) < _
    omega
  un := by
    have a := r.un
    show (A.units + 3) + (4 * k + 400) < _
    omega
theorem Room.units {k : Nat} {A : Around} (r : Room k A) : A.units + 64 < cLine := by
  have a := r.un
  omega
theorem Room.depth {k : Nat} {A : Around} (r : Room k A) : A.depth < recursionLimit := by
  have a := r.dp
  omega
/-- the hand layer's room, where there is much -/
theorem Room.of {k j : Nat} {A : Around} (r : L2.Room k A) (h1 : j + 8 ≤ 3 * k + 5) (h2 : 4 * j + 400 ≤ 16 * k + 200) : Room j A :=
  ⟨r.hd, by have a := r.dp; omega, by have a := r.un; omega⟩
theorem Room.to {k j : Nat} {A : Around} (r : Room k A) (h1 : 3 * j + 5 ≤ k + 8) (h2 : 16 * j + 200 ≤ 4 * k + 400) : L2.Room j A :=
  ⟨r.hd, by have a := r.dp; omega, by have a := r.un; omega⟩
section
variable {P : Program} {w : World} {K : Fr} {mg : Str → Option Value} {base : Heap} {CX : CXT} {k j : Nat} {f : Addr} {fd : FuncData} {ps : List Str} {sp : Sp}
/-- the run of a def, where there is room for k levels -/
structure FnOk (P : Program) (w : World) (K : Fr) (mg : Str → Option Value) (base : Heap) (CX : CXT) (k : Nat) (f : Addr) (fd : FuncData) (ps : List Str) (sp : Sp) : Prop where
  len : ∀ vs H Q E, sp vs H Q E → vs.length = ps.length
  run : ∀ (A : Around), Room k A → ∀ (fr : List PySem.Env) (s : Shared) (H : Hp) (as : Args) (us : List Value) (vs : List V) (Q : VK) (E : XK),
    Env0 P w K mg base A fr s H → BindsTo s fd as (ps.zip us) → Vals vs us → sp vs H Q E → codeAny (model P w) A (.call (.ref f) as) (CR CX fr P w H s Q E) s
theorem FnOk.kit (F : FnOk P w K mg base CX j f fd ps sp) (h1 : j + 8 ≤ 3 * k + 5) (h2 : 4 * j + 400 ≤ 16 * k + 200) : L2.FnOk P w K mg base CX k f fd ps sp where
  len := F.len
  run := fun A fr s H as us vs Q E hr => F.run A (Room.of hr h1 h2) fr s H as us vs Q E
theorem FnOk.ofKit (F : L2.FnOk P w K mg base CX j f fd ps sp) (h1 : 3 * j + 5 ≤ k + 8) (h2 : 16 * j + 200 ≤ 4 * k + 400) : FnOk P w K mg base CX k f fd ps sp where
  len := F.len
  run := fun A hr fr s H as us vs Q E => F.run A fr s H as us vs Q E (hr.to h1 h2)
end
section
variable {X : Cx} {CX : CXT} {k : Nat} {f : Addr} {fd : FuncData} {ps : List Str} {sp : Sp} {ds : List Value} {dvs : List V} {E : XK} {x : Str} {p pos : Pos} {e : Expr} {es : List Expr} {t : TA}
/-- the end of a call, as the caller goes on -/
theorem back_of {pins : List (Addr × Obj)} {σ : L2.St} {H : Hp} {s : Shared} {Q : VK} (I : Inv X pins σ H s) (hx : Passes CX X E) : ∀ (r : Result) (s' : Shared), CR CX X.stack X.prog X.w H s Q E r s' → (match r with
    | .ok (.ret u) => EP X pins σ Q u s'
    | .ok _ => False
    | .error u => X.xe u s')
  | .error _, _, q => hx _ _ _ _ _ _ I q
  | .ok (.ret _), _, q => I.after q
  | .ok .next, _, q => q.elim
  | .ok .brk, _, q => q.elim
  | .ok .cont, _, q => q.elim
theorem runF {pins : List (Addr × Obj)} {σ : L2.St} {H : Hp} {s : Shared} {Q : VK} {us : List Value} {vs : List V} (F : FnOk X.prog X.w X.K X.mg X.base CX k f fd ps sp) (room : Room k X.A) (bind : Binds X.K fd ps ds) (hd : Vals dvs ds)
    (hx : Passes CX X E) (I : Inv X pins σ H s) (rl : Vals vs us) (want : sp (vs ++ dvs) H Q E) : wpAny (model X.prog X.w) X.A (call (.ref f) us) (EP X pins σ Q) X.xe s := by
  have both := rl.append hd
  have len : (us ++ ds).length = ps.length := both.length ▸ F.len _ _ _ _ want
  have go := F.run X.A room X.stack s H ⟨us, []⟩ _ _ Q E I.env0 (bind s us I.kIn len) both want
  exact wpAny_call (codeAny_mono go fun r s' q => by
    have z := back_of I hx r s' q
    match r, z with
    | .error _, z => exact z
    | .ok (.ret _), z => exact z)
theorem pe_call (F : FnOk X.prog X.w X.K X.mg X.base CX k f fd ps sp) (room : Room k X.A) (hg : Gl X x) (hm : X.mg x = some (.ref f)) (keep : PySem.W.keepIn X.K (.ref f) = true) (bind : Binds X.K fd ps ds) (hd : Vals dvs ds) (hx : Passes CX X E) (ha : PA X (e :: es) t)
    (hdb : (x == ("__debug__" : Str)) = false := by decide) (st : starEach (e :: es) X.env = (false, eval e X.env) :: starEach es X.env := by rfl) (pl : (backTo pos (starEach es X.env)).any (·.1) = false := by rfl) : PE X (.Call (.Name x p) (e :: es) [] pos) (tCall sp dvs E t) :=
  ⟨fun pins s σ H Q I want => wpAny_Call_Name_kw (ld_glob I hg hm (PySem.W.callWith_K (h₀ := X.base) I.ok.mod.kin keep (thn (ha.run pos pins s σ H _ I want) fun us s1 o => by
    obtain ⟨vs, H1, J, rl, q⟩ := o
    exact ⟨J.kIn, runF F room bind hd hx J rl q⟩) st pl) hdb)⟩
theorem pe_call0 (F : FnOk X.prog X.w X.K X.mg X.base CX k f fd ps sp) (room : Room k X.A) (hg : Gl X x) (hm : X.mg x = some (.ref f)) (keep : PySem.W.keepIn X.K (.ref f) = true) (bind : Binds X.K fd ps ds) (hd : Vals dvs ds) (hx : Passes CX X E)
    (hdb : (x == ("__debug__" : Str)) = false := by decide) : PE X (.Call (.Name x p) [] [] pos) (tCall sp dvs E tNil) :=
  ⟨fun pins s σ H Q I want => wpAny_Call_Name_kw (ld_glob I hg hm (PySem.W.callWith_K0 I.kIn keep (runF (us := []) F room bind hd hx I .nil want)) hdb)⟩
end
/-- a def of the text by its body -/
theorem Fun_ok {P : Program} {w : World} {K : Fr} {mg : Str → Option Value} {base : Heap} {x qual : Str} {st : Stmt} {f : Addr} {fd : FuncData} {N ps : List Str} {k : Nat} {sp : Sp} (F : Fun K x qual st f fd) (sc : FnScope N ps (defScope st)) (len : ∀ vs H Q E, sp vs H Q E → vs.length = ps.length)
    (body : ∀ (cdv : Value) (A : Around) (outer : List PySem.Env) (s : Shared) (H : Hp) (vs : List V) (Q : VK) (E : XK), Room k (A.deeper (envOfC qual (defScope st) s.heap.objs.size f cdv)) → sp vs H Q E →
      ∃ t, PSs (cxOf CX0 P w K mg base N qual (defScope st) f cdv A outer s H E).nox (defBody st) t ∧ t { nx := fun _ H' => Q .non H', rt := Q } (L2.start N vs) H) : FnOk P w K mg base CX0 (k + 1) f fd ps sp where
  len := len
  run := fun A room outer s H as us vs Q E st0 bnd rl want => by
    obtain ⟨oc, od, kV, doc, pm, an, cdv, ct, osl, rfl, look, code⟩ := F.ex
    have keeps : ∀ b o, base.get? b = some o → s.heap.get? b = some o := fun b o q => (st0.bs b o q).1
    have kin := st0.mod.kin.keeps keeps
    have kinds : ∀ y ∈ ps.zip us, (defScope st).names.lookup y.1 = some .local ∨ ((defScope st).names.lookup y.1 = some .cell ∧ ((cellsFrom (s.heap.objs.size + 1) (defScope st).names []).lookup y.1).isSome = true) := by
      rintro ⟨n, v⟩ hy
      exact (sc.par n (List.of_mem_zip hy).1).imp id fun q => ⟨q, PySem.W.cellsFrom_some _ _ _ (.inl q)⟩
    refine codeAny_call_function room.depth (kin _ _ look) rfl sc.co sc.gen rfl (PySem.W.codeRec_of kin code) (bnd _ _ _ _ ?_)
    refine wpAny_newFunctionEnv_cells sc.kind kinds fun env he s1 x => ?_
    subst he
    refine ⟨(st0.mod.nolimit.keeps keeps).keeps x.toInCall.keep, codeAny_func ?_⟩
    obtain ⟨t, ht, hq⟩ := body cdv A outer s H vs Q E (room.deeper _) want
    have I := inv_start (CX := CX0) (E := E) sc room.hd st0 (len _ _ _ _ want) rl x
    refine wpAny_mono (ht.nox.run [] s1 _ H _ I hq) (fun fl s' o => ?_) fun _ _ o => o
    match fl, o with
    | .ret u, ⟨v, _, H', J, rv, q⟩ => exact ⟨v, H', J.os, J.bare, J.base, J.hok, rv, q⟩
    | .next, ⟨_, H', J, q⟩ => exact ⟨.non, H', J.os, J.bare, J.base, J.hok, rfl, q⟩
    | .brk, ⟨_, _, _, q⟩ => exact q.elim
    | .cont, ⟨_, _, _, q⟩ => exact q.elim
end Pm
namespace Pm
open PySem PySem.Spec PyProof.Rows L2
variable {ι : Type} {X : ι → Cx} {K : Fr} {a b e tg : Expr} {es : List Expr} {wa wb we : WE} {pos : Pos}
/-! ### a def by data: what its call asks (S: arguments, what is wanted of the answer) -/
abbrev SpD := List PyData → (PyData → Prop) → Prop
def spP (K : Fr) (S : SpD) : Sp := fun vs H Q _ => ∃ (M : List Addr) (ds : List PyData) (P : PyData → Prop), (∀ a, a ∈ M → H a ≠ none) ∧ DtAll K (rm M H) vs ds ∧ S ds P ∧ ∀ d v H', P d → Same H H' → Dt K (rm M H') v d → Q v H'
/-- .. the first argument a list that the def may change -/
abbrev SpW := List PyData → List PyData → (List PyData → PyData → Prop) → Prop
def spW (K : Fr) (S : SpW) : Sp := fun vs H Q _ => ∃ (M : List Addr) (l : Addr) (us xs : List V) (ws ds : List PyData) (P : List PyData → PyData → Prop), vs = .ref l :: us ∧ (∀ a, a ∈ M → H a ≠ none) ∧ l ∈ M ∧ H l = some (.lst xs) ∧ DtAll K (rm M H) xs ws ∧ DtAll K (rm M H) us ds ∧ S ws ds P ∧
  ∀ ws' d v H' xs', P ws' d → (∀ a o, a ≠ l → H a = some o → H' a = some o) → H' l = some (.lst xs') → DtAll K (rm M H') xs' ws' → Dt K (rm M H') v d → Q v H'
/-- what stands behind a name of the module: a def with its promise -/
def CallOk (Y : Cx) (x : Str) (sp : Sp) : Prop := ∃ (k : Nat) (f : Addr) (fd : FuncData) (ps : List Str), FnOk Y.prog Y.w Y.K Y.mg Y.base CX0 k f fd ps sp ∧ Room k Y.A ∧ Y.mg x = some (.ref f) ∧ PySem.W.keepIn Y.K (.ref f) = true ∧ Binds Y.K fd ps []
def wCall (S : SpD) (wa : WA) : WE := fun ρ P => wa ρ fun ρ1 ds => S ds fun d => P ρ1 d
theorem de_call {x : Str} {S : SpD} {w : WA} {p : Pos} (c : ∀ i, CallOk (X i) x (spP K S)) (h : DA X K (e :: es) w) (hg : ∀ i, Gl (X i) x := by intro i; rfl) (hdb : (x == ("__debug__" : Str)) = false := by decide)
    (he : ∀ i, starEach (e :: es) (X i).env = (false, eval e (X i).env) :: starEach es (X i).env := by intro i; rfl) (hpl : ∀ i, (backTo pos (starEach es (X i).env)).any (·.1) = false := by intro i; rfl) : DE X K (.Call (.Name x p) (e :: es) [] pos) (wCall S w) := by
  obtain ⟨t, a1, a2⟩ := h
  refine ⟨tCall (spP K S) [] E0 t, fun i => ?_, fun M0 M B σ H ρ P Q E w k => ?_⟩
  · obtain ⟨k, f, fd, ps, F, hr, hm, hk, hb⟩ := c i
    exact pe_call F hr (hg i) hm hk hb .nil pass0 (a1 i) hdb (he i) (hpl i)
  · refine a2 M0 M B σ H ρ _ _ E w fun ρ1 ds vs H1 w1 x1 E1 r1 => ?_
    refine ⟨M, ds, _, E1.dom, by rw [List.append_nil]; exact r1, w1, fun d v H2 p e2 r2 => ?_⟩
    exact k ρ1 d v H2 p (x1.trans (Ext.same e2)) (E1.same e2) r2
/-- .. without arguments -/
theorem de_call0 {x : Str} {S : SpD} {p : Pos} (c : ∀ i, CallOk (X i) x (spP K S)) (hg : ∀ i, Gl (X i) x := by intro i; rfl) (hdb : (x == ("__debug__" : Str)) = false := by decide) : DE X K (.Call (.Name x p) [] [] pos) (wCall S wNil) := by
  refine ⟨tCall (spP K S) [] E0 tNil, fun i => ?_, fun M0 M B σ H ρ P Q E w k => ?_⟩
  · obtain ⟨k, f, fd, ps, F, hr, hm, hk, hb⟩ := c i
    exact pe_call0 F hr (hg i) hm hk hb .nil pass0 hdb
  · exact ⟨M, [], _, E.dom, .nil, w, fun d v H2 p e2 r2 => k ρ d v H2 p (Ext.same e2) (E.same e2) r2⟩
/-- a def whose first argument is a list that is put away, here the name in slot j -/
def wCallW (S : SpW) (j : Nat) (wa : WA) : WE := fun ρ P => (∃ ds0, (ρ.at j).items = some ds0) ∧ wa ρ fun ρ1 ds => ∃ ws, (ρ1.at j).items = some ws ∧ S ws ds fun ws' d => P (ρ1.set j ((ρ1.at j).put ws')) d
theorem de_callW (j : Nat) {x : Str} {S : SpW} {w : WA} {p : Pos} (c : ∀ i, CallOk (X i) x (spW K S)) (h : DA X K es w) (hv : ∀ i, PE (X i) a (tVar j) := by intro i; exact pv _) (hg : ∀ i, Gl (X i) x := by intro i; rfl) (hdb : (x == ("__debug__" : Str)) = false := by decide)
    (he : ∀ i, starEach (a :: es) (X i).env = (false, eval a (X i).env) :: starEach es (X i).env := by intro i; rfl) (hpl : ∀ i, (backTo pos (starEach es (X i).env)).any (·.1) = false := by intro i; rfl) : DE X K (.Call (.Name x p) (a :: es) [] pos) (wCallW S j w) := by
  obtain ⟨t, a1, a2⟩ := h
  refine ⟨tCall (spW K S) [] E0 (tCons (tVar j) t), fun i => ?_, fun M0 M B σ H ρ P Q E w k => ?_⟩
  · obtain ⟨k, f, fd, ps, F, hr, hm, hk, hb⟩ := c i
    exact pe_call F hr (hg i) hm hk hb .nil pass0 (pa_cons (hv i) (a1 i) (he i)) hdb (he i) (hpl i)
  · obtain ⟨⟨ds0, h0⟩, w⟩ := w
    obtain ⟨l0, xs0, _, _, hl0, _⟩ := E.lst h0
    refine ⟨_, hl0, ?_⟩
    refine a2 M0 M B σ H ρ _ _ E w fun ρ1 ds vs H1 w1 x1 E1 r1 => ?_
    obtain ⟨ws, h1, w1⟩ := w1
    obtain ⟨l, xs, hs, hL, hl, hlB, h4, h5, h6⟩ := E1.lst h1
    rw [hl0] at hl
    injection hl with hl; injection hl with hl; injection hl with hl
    subst hl
    refine ⟨M, l0, vs, xs, ws, ds, _, by rw [List.append_nil], E1.dom, E1.sub _ hlB, h4, h5, r1, w1, fun ws' d v H2 xs' p kp h7 h8 r2 => ?_⟩
    have ext : Ext M B H1 M B H2 := ⟨fun _ h => h, fun _ h => .inl h, fun _ h => h, fun _ h => .inl h, fun a o nb e => kp a o (fun q => nb (q ▸ hlB)) e, fun a e => by
      cases hz : H1 a with
      | none => rfl
      | some o =>
        by_cases c : a = l0
        · rw [c, h7] at e; cases e
        · rw [kp a o c hz] at e; cases e⟩
    refine k _ d v H2 p (x1.trans ext) (E1.put hs hL hl0 h7 h8 kp ?_) r2
    rcases h6 with ⟨es, h6⟩ | ⟨es, h6⟩
    · exact .inl ⟨es, h6, by rw [h6]; rfl⟩
    · exact .inr ⟨es, h6, by rw [h6]; rfl⟩
/-! ### statements -/
structure DEnds where
  nx : Env → Prop
  rt : Env → PyData → Prop
  bk : Env → Prop := fun _ => False
  ct : Env → Prop := fun _ => False
abbrev WS := DEnds → Env → Prop
structure Fits (K : Fr) (M0 M B : List Addr) (H : Hp) (E : DEnds) (D : Ends) : Prop where
  nx : ∀ ρ' M' B' σ' H', E.nx ρ' → Ext M B H M' B' H' → EnvOk K M0 M' B' H' σ' ρ' → D.nx σ' H'
  bk : ∀ ρ' M' B' σ' H', E.bk ρ' → Ext M B H M' B' H' → EnvOk K M0 M' B' H' σ' ρ' → D.bk σ' H'
  ct : ∀ ρ' M' B' σ' H', E.ct ρ' → Ext M B H M' B' H' → EnvOk K M0 M' B' H' σ' ρ' → D.ct σ' H'
  rt : ∀ ρ' d v M' B' σ' H', E.rt ρ' d → Ext M B H M' B' H' → EnvOk K M0 M' B' H' σ' ρ' → Dt K (rm M0 H') v d → D.rt v H'
theorem Fits.go {M0 M B M' B' : List Addr} {H H' : Hp} {E : DEnds} {D : Ends} (F : Fits K M0 M B H E D) (x : Ext M B H M' B' H') : Fits K M0 M' B' H' E D :=
  ⟨fun ρ' M2 B2 σ' H2 h y => F.nx ρ' M2 B2 σ' H2 h (x.trans y), fun ρ' M2 B2 σ' H2 h y => F.bk ρ' M2 B2 σ' H2 h (x.trans y), fun ρ' M2 B2 σ' H2 h y => F.ct ρ' M2 B2 σ' H2 h (x.trans y), fun ρ' d v M2 B2 σ' H2 h y => F.rt ρ' d v M2 B2 σ' H2 h (x.trans y)⟩
def DS (Y : Cx) (K : Fr) (st : Stmt) (w : WS) : Prop := ∃ t : TS, PS Y st t ∧ ∀ (M0 M B : List Addr) (σ : L2.St) (H : Hp) (ρ : Env) (E : DEnds) (D : Ends), EnvOk K M0 M B H σ ρ → w E ρ → Fits K M0 M B H E D → t D σ H
def DSs (Y : Cx) (K : Fr) (st : List Stmt) (w : WS) : Prop := ∃ t : TS, PSs Y st t ∧ ∀ (M0 M B : List Addr) (σ : L2.St) (H : Hp) (ρ : Env) (E : DEnds) (D : Ends), EnvOk K M0 M B H σ ρ → w E ρ → Fits K M0 M B H E D → t D σ H
/-- one context -/
abbrev one (Y : Cx) : Unit → Cx := fun _ => Y
section
variable {Y : Cx} {st : Stmt} {rest : List Stmt} {w u : WS}
def wSeq (w u : WS) : WS := fun E ρ => w { E with nx := u E } ρ
theorem dss_cons (h1 : DS Y K st w) (h2 : DSs Y K rest u) : DSs Y K (st :: rest) (wSeq w u) := by
  obtain ⟨t, a1, a2⟩ := h1
  obtain ⟨s, b1, b2⟩ := h2
  refine ⟨tSeq t s, pss_cons a1 b1, fun M0 M B σ H ρ E D Ev h F => ?_⟩
  refine a2 M0 M B σ H ρ _ _ Ev h ⟨fun ρ' M' B' σ' H' p x E' => ?_, F.bk, F.ct, F.rt⟩
  exact b2 M0 M' B' σ' H' ρ' E D E' p (F.go x)
theorem dss_one (h1 : DS Y K st w) : DSs Y K [st] w := by
  obtain ⟨t, a1, a2⟩ := h1
  exact ⟨t, pss_one a1, a2⟩
def wSkip : WS := fun E ρ => E.nx ρ
theorem dss_nil : DSs Y K [] wSkip := ⟨tNext, pss_nil, fun M0 M B σ H ρ E D Ev h F => F.nx ρ M B σ H h (Ext.refl ..) Ev⟩
def wBreak : WS := fun E ρ => E.bk ρ
def wCont : WS := fun E ρ => E.ct ρ
theorem ds_pass {p : Pos} : DS Y K (.Pass p) wSkip := ⟨_, ps_pass, fun M0 M B σ H ρ E D Ev h F => F.nx ρ M B σ H h (Ext.refl ..) Ev⟩
theorem ds_break {p : Pos} : DS Y K (.Break p) wBreak := ⟨_, ps_break, fun M0 M B σ H ρ E D Ev h F => F.bk ρ M B σ H h (Ext.refl ..) Ev⟩
theorem ds_continue {p : Pos} : DS Y K (.Continue p) wCont := ⟨_, ps_continue, fun M0 M B σ H ρ E D Ev h F => F.ct ρ M B σ H h (Ext.refl ..) Ev⟩
def wRet (we : WE) : WS := fun E ρ => we ρ fun ρ1 d => E.rt ρ1 d
theorem rm_sub {M0 M : List Addr} {H : Hp} (h : ∀ a, a ∈ M0 → a ∈ M) : Same (rm M H) (rm M0 H) := fun a o e => by
  obtain ⟨z1, z2⟩ := rm_to e
  exact rm_of (fun c => z1 (h a c)) z2
theorem ds_ret (h : DE (one Y) K e we) : DS Y K (.Return (some e) pos) (wRet we) := by
  obtain ⟨t, a1, a2⟩ := h
  refine ⟨tRet t, ps_ret (a1 ()), fun M0 M B σ H ρ E D Ev h F => ?_⟩
  exact a2 M0 M B σ H ρ _ _ Ev h fun ρ1 d v H1 w1 x1 E1 r1 => F.rt ρ1 d v M B σ H1 w1 x1 E1 (Dt.up (rm_sub Ev.m0) r1)
def wRetN : WS := fun E ρ => E.rt ρ .none
theorem ds_retN : DS Y K (.Return none pos) wRetN := ⟨tRetN, ps_retN, fun M0 M B σ H ρ E D Ev h F => F.rt ρ .none .non M B σ H h (Ext.refl ..) Ev .non⟩
/-- return x, x a list of the def's own -/
def wRetO (j : Nat) : WS := fun E ρ => ∃ ds, ρ.at j = .own ds ∧ E.rt ρ (.list ds)
theorem ds_retO (j : Nat) (hv : PE Y e (tVar j) := by exact pv _) : DS Y K (.Return (some e) pos) (wRetO j) := by
  refine ⟨tRet (tVar j), ps_ret hv, fun M0 M B σ H ρ E D Ev h F => ?_⟩
  obtain ⟨ds, h1, h⟩ := h
  obtain ⟨l, xs, h2, h3, h4, h5, h6⟩ := Ev.slot j _ (Env.at_get h1 (by intro z; cases z))
  exact ⟨_, h2, F.rt ρ _ _ M B σ H h (Ext.refl ..) Ev (.lst (rm_of h4 h5) (DtAll.up (rm_sub Ev.m0) h6))⟩
def wIf (t : WT) (w u : WS) : WS := fun E ρ => t ρ fun ρ1 c => (c = true → w E ρ1) ∧ (c = false → u E ρ1)
theorem ds_if {c : Expr} {x y : List Stmt} {t : WT} (hc : DT (one Y) K c t) (h1 : DSs Y K x w) (h2 : DSs Y K y u) : DS Y K (.If c x y pos) (wIf t w u) := by
  obtain ⟨t, c1, c2⟩ := hc
  obtain ⟨s1, a1, a2⟩ := h1
  obtain ⟨s2, b1, b2⟩ := h2
  refine ⟨tIfS t s1 s2, ps_if (c1 ()) a1 b1, fun M0 M B σ H ρ E D Ev h F => ?_⟩
  refine c2 M0 M B σ H ρ _ _ Ev h fun ρ1 c H1 w1 x1 E1 => ite_of (fun e => ?_) (fun e => ?_)
  · exact a2 M0 M B σ H1 ρ1 E D E1 (w1.1 e) (F.go x1)
  · exact b2 M0 M B σ H1 ρ1 E D E1 (w1.2 e) (F.go x1)
/-- x = e -/
def wSet (i : Nat) (we : WE) : WS := fun E ρ => we ρ fun ρ1 d => E.nx (ρ1.set i (.dat d))
theorem ds_set (i : Nat) {x : Str} {px : Pos} (nd : Y.N.Nodup) (h : DE (one Y) K e we) (hp : Y.N.Nodup → ∀ t, PE Y e t → PS Y (.Assign [.Name x px] e pos) (tAsg t (gName i)) := by intro nd t h; exact ps_set nd rfl (by first | exact Or.inl rfl | exact Or.inr rfl) h) : DS Y K (.Assign [.Name x px] e pos) (wSet i we) := by
  obtain ⟨t, a1, a2⟩ := h
  refine ⟨tAsg t (gName i), hp nd t (a1 ()), fun M0 M B σ H ρ E D Ev h F => ?_⟩
  exact a2 M0 M B σ H ρ _ _ Ev h fun ρ1 d v H1 w1 x1 E1 r1 => F.nx _ M B _ H1 w1 x1 (E1.set i r1)
/-- x = [] -/
def wNew (i : Nat) : WS := fun E ρ => E.nx (ρ.set i (.own []))
theorem ds_new (i : Nat) {x : Str} {px pl : Pos} (nd : Y.N.Nodup) (hp : Y.N.Nodup → PS Y (.Assign [.Name x px] (.List [] pl) pos) (tAsg (tLst tNil) (gName i)) := by intro nd; exact ps_set nd rfl (by first | exact Or.inl rfl | exact Or.inr rfl) (pe_lst pa_nil)) : DS Y K (.Assign [.Name x px] (.List [] pl) pos) (wNew i) := by
  refine ⟨_, hp nd, fun M0 M B σ H ρ E D Ev h F => ?_⟩
  refine ⟨Nat.zero_le _, fun p np => ?_⟩
  have hpM : p ∉ M := fun c => Ev.dom p c np
  have nd : Same (rm M H) (rm (p :: M) (upd H p (.lst []))) := fun a o e => by
    obtain ⟨z1, z2⟩ := rm_to e
    have n : a ≠ p := fun q => by rw [q, np] at z2; cases z2
    refine rm_of (fun c => ?_) (by rw [upd_ne n]; exact z2)
    rcases List.mem_cons.mp c with q | q
    · exact n q
    · exact z1 q
  have nd2 : Same (rm M (upd H p (.lst []))) (rm (p :: M) (upd H p (.lst []))) → True := fun _ => trivial
  have E1 : EnvOk K M0 (p :: M) B (upd H p (.lst [])) σ ρ := Ev.more np upd_same fun a u n e => by rw [upd_ne n]; exact e
  refine F.nx _ (p :: M) (p :: B) _ _ h ⟨fun a h => List.mem_cons_of_mem _ h, fun a h => ?_, fun a h => List.mem_cons_of_mem _ h, fun a h => ?_, fun a o _ e => same_new np a o e, fun a e => (same_new np).free e⟩ ?_
  · rcases List.mem_cons.mp h with q | q
    · rw [q]; exact .inr np
    · exact .inl q
  · rcases List.mem_cons.mp h with q | q
    · rw [q]; exact .inr np
    · exact .inl q
  · -- the slot
    refine ⟨by rw [List.length_set, List.length_set]; exact E1.len, fun a h => ?_, E1.dom, E1.m0, fun j s hj => ?_, fun j k s s' l' n h1 h2 l1 l2 s1 s2 => ?_⟩
    · rcases List.mem_cons.mp h with q | q
      · rw [q]; exact List.mem_cons_self ..
      · exact E1.sub a q
    · rcases get_set_some hj with ⟨rfl, rfl, hl⟩ | ⟨n, hj'⟩
      · exact ⟨p, [], get_set_eq (by rw [E1.len]; exact hl), List.mem_cons_self .., fun c => hpM (Ev.m0 _ c), upd_same, .nil⟩
      · rw [get_set_ne n]
        have z := E1.slot j s hj'
        cases s with
        | un => trivial
        | dat d => exact z
        | scr d => exact z
        | own ds => obtain ⟨l, xs, h1, h2, h3⟩ := z; exact ⟨l, xs, h1, List.mem_cons_of_mem _ h2, h3⟩
        | bor l ds => obtain ⟨xs, h1, h2, h3⟩ := z; exact ⟨xs, h1, List.mem_cons_of_mem _ h2, h3⟩
    · have old : ∀ (j : Nat) (s : SV), ρ[j]? = some s → s.isL = true → σ[j]? = some (some (.ref p)) → False := fun j s hj hs e => by
        have z := Ev.slot j s hj
        cases s with
        | un => cases hs
        | dat d => cases hs
        | scr d => cases hs
        | own ds =>
          obtain ⟨l2, xs, h1, h2, _⟩ := z
          rw [h1] at e
          injection e with e; injection e with e; injection e with e
          exact hpM (e ▸ Ev.sub _ h2)
        | bor l2 ds =>
          obtain ⟨xs, h1, h2, _⟩ := z
          rw [h1] at e
          injection e with e; injection e with e; injection e with e
          exact hpM (e ▸ Ev.sub _ h2)
      rcases get_set_some h1 with ⟨rfl, rfl, hl1⟩ | ⟨n1, h1'⟩
      · rw [get_set_eq (by rw [Ev.len]; exact hl1)] at s1
        injection s1 with s1; injection s1 with s1; injection s1 with s1
        rcases get_set_some h2 with ⟨rfl, rfl, _⟩ | ⟨n2, h2'⟩
        · exact n rfl
        · rw [get_set_ne n2] at s2
          rw [← s1] at s2
          exact old k s' h2' l2 s2
      · rw [get_set_ne n1] at s1
        rcases get_set_some h2 with ⟨rfl, rfl, hl2⟩ | ⟨n2, h2'⟩
        · rw [get_set_eq (by rw [Ev.len]; exact hl2)] at s2
          injection s2 with s2; injection s2 with s2; injection s2 with s2
          rw [← s2] at s1
          exact old j s h1' l1 s1
        · rw [get_set_ne n2] at s2
          exact Ev.sep j k s s' l' n h1' h2' l1 l2 s1 s2
theorem put_or {ρ : Env} {j : Nat} {l : Addr} {ds : List PyData} (h : (∃ es, ρ.at j = .own es) ∨ ∃ es, ρ.at j = .bor l es) : (∃ es, ρ.at j = .own es ∧ (ρ.at j).put ds = .own ds) ∨ ∃ es, ρ.at j = .bor l es ∧ (ρ.at j).put ds = .bor l ds := by
  rcases h with ⟨es, h⟩ | ⟨es, h⟩
  · exact .inl ⟨es, h, by rw [h]; rfl⟩
  · exact .inr ⟨es, h, by rw [h]; rfl⟩
theorem ext_at {M B : List Addr} {H : Hp} {l : Addr} {o : HO} (hl : l ∈ B) : Ext M B H M B (upd H l o) :=
  ⟨fun _ h => h, fun _ h => .inl h, fun _ h => h, fun _ h => .inl h, fun a o nb e => by rw [upd_ne (fun q => nb (by rw [q]; exact hl))]; exact e, fun a e => by
    by_cases c : a = l
    · rw [c, upd_same] at e; cases e
    · rw [upd_ne c] at e; exact e⟩
/-- x.append(e) -/
def wApp (j : Nat) (we : WE) : WS := fun E ρ => (∃ ds0, (ρ.at j).items = some ds0) ∧ we ρ fun ρ1 d => ∃ ds, (ρ1.at j).items = some ds ∧ ds.length < sizeLine ∧ E.nx (ρ1.set j ((ρ1.at j).put (ds ++ [d])))
theorem ds_app (j : Nat) {o : Expr} {apos cpos : Pos} (h : DE (one Y) K e we) (hv : PE Y o (tVar j) := by exact pv _) (hK : Y.K = K := by rfl) (he : starEach (e :: []) Y.env = (false, eval e Y.env) :: starEach [] Y.env := by rfl)
    (hp : ∀ t, PE Y o (tVar j) → PA Y [e] t → PS Y (.Expr (.Call (.Attribute o "append" apos) [e] [] cpos) pos) (tDrop (tBM Y.K "list" rAppend (tVar j) t)) := by intro t h1 h2; exact ps_expr (pe_bm PySem.F.plainAttrs_list PySem.F.slot_list_append PySem.F.type_list_append mt_append h1 h2)) :
    DS Y K (.Expr (.Call (.Attribute o "append" apos) [e] [] cpos) pos) (wApp j we) := by
  obtain ⟨t, a1, a2⟩ := h
  refine ⟨_, hp _ hv (pa_cons (a1 ()) pa_nil he), fun M0 M B σ H ρ E D Ev h F => ?_⟩
  obtain ⟨⟨ds0, h0⟩, h⟩ := h
  obtain ⟨l0, xs0, _, _, hl0, _, h40, _⟩ := Ev.lst h0
  refine ⟨_, hl0, .inl ⟨rfl, xs0, SqL.of h40⟩, ?_⟩
  refine a2 M0 M B σ H ρ _ _ Ev h fun ρ1 d v H1 w1 x1 E1 r1 => ?_
  obtain ⟨ds, h1, hz, w1⟩ := w1
  obtain ⟨l, xs, hs, hL, hl, hlB, h4, h5, h6⟩ := E1.lst h1
  rw [hl0] at hl
  injection hl with hl; injection hl with hl; injection hl with hl
  subst hl
  refine ⟨l0, xs, v, rfl, rfl, h4, by rw [DtAll.len h5]; exact hz, ?_⟩
  refine F.nx _ M B σ _ w1 (x1.trans (ext_at hlB)) (E1.put hs hL hl0 upd_same (by rw [rm_upd (E1.sub _ hlB)]; exact DtAll.app h5 (.cons r1 .nil)) (fun a o n e => by rw [upd_ne n]; exact e) (put_or h6))
/-- x[k] = e -/
def wPut (j : Nat) (we wk : WE) : WS := fun E ρ => we ρ fun ρ1 d => (∃ ds0, (ρ1.at j).items = some ds0) ∧ wk ρ1 fun ρ2 k => ∃ ds, (ρ2.at j).items = some ds ∧ ∃ n, k = .int n ∧ ∃ m, ixN ds.length n = some m ∧ E.nx (ρ2.set j ((ρ2.at j).put (ds.set m d)))
theorem ds_put (j : Nat) {o k : Expr} {wk : WE} {tp : Pos} (h : DE (one Y) K e we) (hk : DE (one Y) K k wk) (hv : PE Y o (tVar j) := by exact pv _)
    (hp : ∀ t u, PE Y e t → PE Y o (tVar j) → PE Y k u → PS Y (.Assign [.Subscript o k tp] e pos) (tAsg t (gSub (tVar j) u rSetL)) := by intro t u h1 h2 h3; exact ps_asg h1 (pg_sub h2 h3 set_list)) : DS Y K (.Assign [.Subscript o k tp] e pos) (wPut j we wk) := by
  obtain ⟨t, a1, a2⟩ := h
  obtain ⟨u, b1, b2⟩ := hk
  refine ⟨_, hp t u (a1 ()) hv (b1 ()), fun M0 M B σ H ρ E D Ev h F => ?_⟩
  refine a2 M0 M B σ H ρ _ _ Ev h fun ρ1 d v H1 w1 x1 E1 r1 => ?_
  obtain ⟨⟨ds0, h0⟩, w1⟩ := w1
  obtain ⟨l0, xs0, _, _, hl0, _⟩ := E1.lst h0
  refine ⟨_, hl0, ?_⟩
  refine b2 M0 M B σ H1 ρ1 _ _ E1 w1 fun ρ2 d2 v2 H2 w2 x2 E2 r2 => ?_
  obtain ⟨ds, h1, n, rfl, m, hm, w2⟩ := w2
  obtain ⟨l, xs, hs, hL, hl, hlB, h4, h5, h6⟩ := E2.lst h1
  rw [hl0] at hl
  injection hl with hl; injection hl with hl; injection hl with hl
  subst hl
  rw [Dt.isInt r2]
  refine ⟨l0, xs, n, m, rfl, rfl, h4, by rw [DtAll.len h5]; exact hm, ?_⟩
  refine F.nx _ M B σ _ w2 ((x1.trans x2).trans (ext_at hlB)) (E2.put hs hL hl0 upd_same (by rw [rm_upd (E2.sub _ hlB)]; exact DtAll.setAt (E1.up x2 r1) m h5) (fun a o n e => by rw [upd_ne n]; exact e) (put_or h6))
/-! ### targets -/
abbrev WG := PyData → Env → (Env → Prop) → Prop
def DG (Y : Cx) (K : Fr) (tg : Expr) (w : WG) : Prop := ∃ g : TG, PG Y tg g ∧ ∀ (M0 M B : List Addr) (σ : L2.St) (H : Hp) (ρ : Env) (d : PyData) (v : V) (P : Env → Prop) (Q : L2.St → Hp → Prop), EnvOk K M0 M B H σ ρ → Dt K (rm M H) v d → w d ρ P → (∀ ρ' σ', P ρ' → EnvOk K M0 M B H σ' ρ' → Q σ' H) → g v σ H Q
def gN (i : Nat) : WG := fun d ρ P => P (ρ.set i (.dat d))
theorem dg_name (i : Nat) {x : Str} {px : Pos} (nd : Y.N.Nodup) (hp : Y.N.Nodup → PG Y (.Name x px) (gName i) := by intro nd; exact pg_name nd rfl (by first | exact Or.inl rfl | exact Or.inr rfl)) : DG Y K (.Name x px) (gN i) :=
  ⟨gName i, hp nd, fun M0 M B σ H ρ d v P Q E r p k => k _ _ p (E.set i r)⟩
def DGs (Y : Cx) (K : Fr) (tg : List Expr) (w : List PyData → Env → (Env → Prop) → Prop) : Prop := ∃ g : TGs, PGs Y tg g ∧ ∀ (M0 M B : List Addr) (σ : L2.St) (H : Hp) (ρ : Env) (ds : List PyData) (vs : List V) (P : Env → Prop) (Q : L2.St → Hp → Prop), EnvOk K M0 M B H σ ρ → DtAll K (rm M H) vs ds → w ds ρ P → (∀ ρ' σ', P ρ' → EnvOk K M0 M B H σ' ρ' → Q σ' H) → g vs σ H Q
def gNil' : List PyData → Env → (Env → Prop) → Prop := fun ds ρ P => ds = [] ∧ P ρ
def gCons' (w : WG) (u : List PyData → Env → (Env → Prop) → Prop) : List PyData → Env → (Env → Prop) → Prop := fun ds ρ P => ∃ d r, ds = d :: r ∧ w d ρ fun ρ1 => u r ρ1 P
theorem dgs_nil : DGs Y K [] gNil' := ⟨gNil, pgs_nil, fun M0 M B σ H ρ ds vs P Q E r p k => by
  obtain ⟨rfl, p⟩ := p
  cases r
  exact ⟨rfl, k _ _ p E⟩⟩
theorem dgs_cons {w : WG} {u : List PyData → Env → (Env → Prop) → Prop} (h1 : DG Y K e w) (h2 : DGs Y K es u) (hs : (assignEach (e :: es) Y.env).map (·.2) = assign e Y.env :: (assignEach es Y.env).map (·.2) := by rfl) : DGs Y K (e :: es) (gCons' w u) := by
  obtain ⟨g, a1, a2⟩ := h1
  obtain ⟨gs, b1, b2⟩ := h2
  refine ⟨gCons g gs, pgs_cons a1 b1 hs, fun M0 M B σ H ρ ds vs P Q E r p k => ?_⟩
  obtain ⟨d, rr, rfl, p⟩ := p
  cases r with
  | cons r1 r2 => exact ⟨_, _, rfl, a2 M0 M B σ H ρ _ _ _ _ E r1 p fun ρ1 σ1 p1 E1 => b2 M0 M B σ1 H ρ1 _ _ _ _ E1 r2 p1 k⟩
def gT (n : Nat) (u : List PyData → Env → (Env → Prop) → Prop) : WG := fun d ρ P => ∃ ds, d = .tuple ds ∧ ds.length = n ∧ u ds ρ P
theorem dg_tup {n c : Nat} {u : List PyData → Env → (Env → Prop) → Prop} (h : DGs Y K es u) (hK : Y.K = K := by rfl) (hc : Y.calm = true := by rfl) (hn : (assignEach es Y.env).length = n := by rfl) (hst : (assignEach es Y.env).findIdx? (·.1) = none := by rfl) : DG Y K (.Tuple es c pos) (gT n u) := by
  obtain ⟨g, a1, a2⟩ := h
  refine ⟨gTup K n g, by rw [← hK]; exact pg_tup hc a1 hn hst, fun M0 M B σ H ρ d v P Q E r p k => ?_⟩
  obtain ⟨ds, rfl, hl, p⟩ := p
  obtain ⟨a, xs, rfl, h1, h2⟩ := Dt.isTup r
  exact ⟨a, xs, rfl, same_t rm_le h1, by rw [DtAll.len h2]; exact hl, a2 M0 M B σ H ρ _ _ _ _ E h2 p k⟩
/-- target = e -/
def wAsg (we : WE) (wg : WG) : WS := fun E ρ => we ρ fun ρ1 d => wg d ρ1 E.nx
theorem ds_asg {wg : WG} (h : DE (one Y) K e we) (hg : DG Y K tg wg) (hp : ∀ t g, PE Y e t → PG Y tg g → PS Y (.Assign [tg] e pos) (tAsg t g) := by intro t g h1 h2; exact ps_asg h1 h2) : DS Y K (.Assign [tg] e pos) (wAsg we wg) := by
  obtain ⟨t, a1, a2⟩ := h
  obtain ⟨g, b1, b2⟩ := hg
  refine ⟨tAsg t g, hp t g (a1 ()) b1, fun M0 M B σ H ρ E D Ev h F => ?_⟩
  refine a2 M0 M B σ H ρ _ _ Ev h fun ρ1 d v H1 w1 x1 E1 r1 => ?_
  exact b2 M0 M B σ H1 ρ1 d v _ _ E1 r1 w1 fun ρ2 σ2 p2 E2 => F.nx ρ2 M B σ2 H1 p2 x1 E2
/-- a, b = e1, e2 -/
def wPar (i j : Nat) (wa : WA) : WS := fun E ρ => wa ρ fun ρ1 ds => ∃ x y, ds = [x, y] ∧ E.nx ((ρ1.set i (.dat x)).set j (.dat y))
theorem ds_par (i j : Nat) {x y : Str} {px py pt pt2 : Pos} {kt k2 : Nat} {w : WA} (nd : Y.N.Nodup) (h : DA (one Y) K [a, b] w)
    (hp : Y.N.Nodup → ∀ t, PA Y [a, b] t → PS Y (.Assign [.Tuple [.Name x px, .Name y py] kt pt] (.Tuple [a, b] k2 pt2) pos) (tPar i j t) := by intro nd t h; exact ps_par (by rfl) nd rfl rfl (by decide) rfl rfl h (by rfl)) :
    DS Y K (.Assign [.Tuple [.Name x px, .Name y py] kt pt] (.Tuple [a, b] k2 pt2) pos) (wPar i j w) := by
  obtain ⟨t, a1, a2⟩ := h
  refine ⟨tPar i j t, hp nd t (a1 ()), fun M0 M B σ H ρ E D Ev h F => ?_⟩
  refine a2 M0 M B σ H ρ _ _ Ev h fun ρ1 ds vs H1 w1 x1 E1 r1 => ?_
  obtain ⟨x, y, rfl, w1⟩ := w1
  cases r1 with
  | cons q1 q2 =>
    cases q2 with
    | cons q2 q3 =>
      cases q3
      exact ⟨_, _, rfl, F.nx _ M B _ H1 w1 x1 ((E1.set i q1).set j q2)⟩
/-- x += e -/
def wAug (i : Nat) (f : F2) (we : WE) : WS := fun E ρ => ∃ x, ρ.at i = .dat x ∧ we ρ fun ρ1 y => f x y fun z => E.nx (ρ1.set i (.dat z))
theorem ds_augI (i : Nat) {x : Str} {px : Pos} (nd : Y.N.Nodup) (h : DE (one Y) K e we) (hp : Y.N.Nodup → ∀ t, PE Y e t → PS Y (.AugAssign (.Name x px) .Add e pos) (tAug i t (ipI fun i j => i + j)) := by intro nd t h; exact ps_aug nd rfl (by first | exact Or.inl rfl | exact Or.inr rfl) h ip_add) : DS Y K (.AugAssign (.Name x px) .Add e pos) (wAug i (fI0 fun i j => .int (i + j)) we) := by
  obtain ⟨t, a1, a2⟩ := h
  refine ⟨_, hp nd t (a1 ()), fun M0 M B σ H ρ E D Ev h F => ?_⟩
  obtain ⟨x, hx, h⟩ := h
  obtain ⟨v, h2, r⟩ := Ev.slot i _ (Env.at_get hx (by intro z; cases z))
  refine ⟨v, h2, a2 M0 M B σ H ρ _ _ Ev h fun ρ1 d u H1 w1 x1 E1 r1 => ?_⟩
  cases x with
  | int n =>
    cases d with
    | int m =>
      rw [Dt.isInt r, Dt.isInt r1]
      exact ⟨n, m, rfl, rfl, F.nx _ M B _ H1 w1 x1 (E1.set i (.int _))⟩
    | _ => exact w1.elim
  | _ => exact w1.elim
/-! ### loops -/
def forD (wg : WG) (w : WS) (E : DEnds) : List PyData → Env → Prop
  | [], ρ => E.nx ρ
  | d :: ds, ρ => wg d ρ fun ρ1 => w { nx := forD wg w E ds, ct := forD wg w E ds, bk := E.nx, rt := E.rt } ρ1
def wFor (wi : WI) (wg : WG) (w : WS) : WS := fun E ρ => wi ρ fun ρ1 items => forD wg w E items ρ1
theorem ds_for {iter : Expr} {body : List Stmt} {wi : WI} {wg : WG} (hi : DI (one Y) K tg iter wi) (hg : DG Y K tg wg) (hb : DSs Y K body w)
    (hp : ∀ ti g tb, PI Y tg iter ti → PG Y tg g → PSs Y body tb → PS Y (.For tg iter body [] pos) (tFor ti g tb) := by intro ti g tb h1 h2 h3; exact ps_for PassesOwn.never rfl h1 h2 h3) : DS Y K (.For tg iter body [] pos) (wFor wi wg w) := by
  obtain ⟨ti, i1, i2⟩ := hi
  obtain ⟨g, g1, g2⟩ := hg
  obtain ⟨tb, b1, b2⟩ := hb
  refine ⟨tFor ti g tb, hp ti g tb (i1 ()) g1 b1, fun M0 M B σ H ρ E D Ev h F => ?_⟩
  refine i2 M0 M B σ H ρ _ _ Ev h fun ρ1 items J H1 w1 x1 E1 it => ?_
  have F1 := F.go x1
  refine ⟨fun n m σ2 H2 => m = items.length - n ∧ ∃ (ρ2 : Env) (M2 B2 : List Addr), n ≤ items.length ∧ forD wg w E (items.drop n) ρ2 ∧ Ext M B H1 M2 B2 H2 ∧ EnvOk K M0 M2 B2 H2 σ2 ρ2, ⟨_, rfl, ρ1, M, B, Nat.zero_le _, w1, Ext.refl .., E1⟩, ?_⟩
  rintro n m σ2 H2 ⟨rfl, ρ2, M2, B2, hn, w2, x2, E2⟩
  obtain ⟨hgo, hst⟩ := it M2 H2 (x2.rm E1.sub) E2.dom
  by_cases hlt : n < items.length
  · right
    have hnd : items[n]? = some items[n] := List.getElem?_eq_getElem hlt
    obtain ⟨q1, q2⟩ := hgo n _ hnd
    rw [List.drop_eq_getElem_cons hlt] at w2
    refine ⟨q1, fun σ' H' => ∃ (ρ3 : Env) (M3 B3 : List Addr), forD wg w E (items.drop (n + 1)) ρ3 ∧ Ext M B H1 M3 B3 H' ∧ EnvOk K M0 M3 B3 H' σ' ρ3, fun σ' H' ⟨ρ3, M3, B3, p1, p2, p3⟩ => ⟨items.length - (n + 1), by omega, rfl, ρ3, M3, B3, hlt, p1, p2, p3⟩, fun x H3 hy => ?_⟩
    obtain ⟨s3, rx⟩ := q2 x H3 hy
    refine g2 M0 M2 B2 σ2 H3 ρ2 _ _ _ _ (E2.same s3) rx w2 fun ρ3 σ3 w3 E3 => ?_
    have x3 : Ext M B H1 M2 B2 H3 := x2.trans (Ext.same s3)
    exact b2 M0 M2 B2 σ3 H3 ρ3 _ _ E3 w3 ⟨fun ρ' M' B' σ' H' p x E' => ⟨ρ', M', B', p, x3.trans x, E'⟩, fun ρ' M' B' σ' H' p x E' => F1.nx ρ' M' B' σ' H' p (x3.trans x) E',
      fun ρ' M' B' σ' H' p x E' => ⟨ρ', M', B', p, x3.trans x, E'⟩, fun ρ' d v M' B' σ' H' p x E' r => F1.rt ρ' d v M' B' σ' H' p (x3.trans x) E' r⟩
  · left
    have en : n = items.length := by omega
    rw [en] at w2 ⊢
    rw [List.drop_length] at w2
    exact ⟨hst, F1.nx ρ2 M2 B2 σ2 H2 w2 x2 E2⟩
def wWhile (t : WT) (w : WS) : WS := fun E ρ => ∃ I : Nat → Env → Prop, (∃ m, I m ρ) ∧ ∀ m ρ, I m ρ → t ρ fun ρ1 c => (c = true → w { nx := fun ρ' => ∃ m', m' < m ∧ I m' ρ', ct := fun ρ' => ∃ m', m' < m ∧ I m' ρ', bk := E.nx, rt := E.rt } ρ1) ∧ (c = false → E.nx ρ1)
theorem ds_while {c : Expr} {body : List Stmt} {t : WT} (hc : DT (one Y) K c t) (hb : DSs Y K body w) (hp : ∀ tc tb, PT Y c tc → PSs Y body tb → PS Y (.While c body [] pos) (tWhile tc tb) := by intro tc tb h1 h2; exact ps_while PassesOwn.never h1 h2) : DS Y K (.While c body [] pos) (wWhile t w) := by
  obtain ⟨tc, c1, c2⟩ := hc
  obtain ⟨tb, b1, b2⟩ := hb
  refine ⟨tWhile tc tb, hp tc tb (c1 ()) b1, fun M0 M B σ H ρ E D Ev h F => ?_⟩
  obtain ⟨I, ⟨m0, i0⟩, turn⟩ := h
  refine ⟨fun m σ' H' => ∃ (ρ' : Env) (M' B' : List Addr), I m ρ' ∧ Ext M B H M' B' H' ∧ EnvOk K M0 M' B' H' σ' ρ', ⟨m0, ρ, M, B, i0, Ext.refl .., Ev⟩, ?_⟩
  rintro m σ1 H1 ⟨ρ1, M1, B1, i1, x1, E1⟩
  refine c2 M0 M1 B1 σ1 H1 ρ1 _ _ E1 (turn m ρ1 i1) fun ρ2 c H2 w2 x2 E2 => ite_of (fun e => ?_) (fun e => ?_)
  · refine ⟨fun σ' H' => ∃ m', m' < m ∧ ∃ (ρ' : Env) (M' B' : List Addr), I m' ρ' ∧ Ext M B H M' B' H' ∧ EnvOk K M0 M' B' H' σ' ρ', fun _ _ h => h, ?_⟩
    have x3 := x1.trans x2
    exact b2 M0 M1 B1 σ1 H2 ρ2 _ _ E2 (w2.1 e) ⟨fun ρ' M' B' σ' H' ⟨m', lt, p⟩ x E' => ⟨m', lt, ρ', M', B', p, x3.trans x, E'⟩, fun ρ' M' B' σ' H' p x E' => F.nx ρ' M' B' σ' H' p (x3.trans x) E',
      fun ρ' M' B' σ' H' ⟨m', lt, p⟩ x E' => ⟨m', lt, ρ', M', B', p, x3.trans x, E'⟩, fun ρ' d v M' B' σ' H' p x E' r => F.rt ρ' d v M' B' σ' H' p (x3.trans x) E' r⟩
  · exact F.nx ρ2 M1 B1 σ1 H2 (w2.2 e) (x1.trans x2) E2
end
/-! ### a def keeps its promise -/
section
variable {P : Program} {w : World} {mg : Str → Option Value} {base : Heap}
def startE (N : List Str) (ds : List PyData) : Env := ds.map .dat ++ List.replicate (N.length - ds.length) .un
theorem start_ok {N : List Str} {M : List Addr} {H : Hp} {vs : List V} {ds : List PyData} (dom : ∀ a, a ∈ M → H a ≠ none) (r : DtAll K (rm M H) vs ds) : EnvOk K M M [] H (L2.start N vs) (startE N ds) where
  len := by unfold L2.start startE; simp [DtAll.len r]
  sub := fun a h => by cases h
  dom := dom
  m0 := fun _ h => h
  slot := fun i s h => by
    unfold startE at h
    unfold L2.start
    by_cases c : i < ds.length
    · rw [List.getElem?_append_left (by simpa using c), List.getElem?_map] at h
      cases hd : ds[i]? with
      | none => rw [hd] at h; cases h
      | some d =>
        rw [hd] at h
        have e : s = .dat d := (Option.some.inj h).symm
        subst e
        obtain ⟨v, h1, h2⟩ := DtAll.getd r hd
        exact ⟨v, by rw [List.getElem?_append_left (by rw [List.length_map, DtAll.len r]; exact c), List.getElem?_map, h1]; rfl, h2⟩
    · rw [List.getElem?_append_right (by simpa using Nat.le_of_not_lt c), List.getElem?_replicate] at h
      split at h
      · have e : s = .un := (Option.some.inj h).symm
        subst e; trivial
      · cases h
  sep := fun i j s s' l n h1 h2 l1 l2 s1 s2 => by
    have z : ∀ (i : Nat) (s : SV), (startE N ds)[i]? = some s → s.isL = true → False := fun i s h hl => by
      unfold startE at h
      have m := List.mem_of_getElem? h
      rcases List.mem_append.mp m with m | m
      · obtain ⟨d, _, rfl⟩ := List.mem_map.mp m
        cases hl
      · have e := List.eq_of_mem_replicate m
        subst e
        cases hl
    exact z i s h1 l1
theorem fn_pure {x qual : Str} {st : Stmt} {f : Addr} {fd : FuncData} {N ps : List Str} {k : Nat} {S : SpD} {wb : WS} (F : Fun K x qual st f fd) (sc : FnScope N ps (defScope st)) (len : ∀ ds P, S ds P → ds.length = ps.length)
    (hb : ∀ (cdv : Value) (A : Around) (outer : List PySem.Env) (s : Shared) (H : Hp) (E : XK), Room k (A.deeper (envOfC qual (defScope st) s.heap.objs.size f cdv)) → DSs (cxOf CX0 P w K mg base N qual (defScope st) f cdv A outer s H E).nox K (defBody st) wb)
    (hw : ∀ ds Q, S ds Q → wb { nx := fun _ => Q .none, rt := fun _ d => Q d } (startE N ds)) : FnOk P w K mg base CX0 (k + 1) f fd ps (spP K S) := by
  refine Fun_ok F sc (fun vs H Q E h => ?_) (fun cdv A outer s H vs Q E hr h => ?_)
  · obtain ⟨M, ds, P', _, r, hs, _⟩ := h
    rw [DtAll.len r]
    exact len _ _ hs
  · obtain ⟨M, ds, P', dom, r, hs, q⟩ := h
    obtain ⟨t, a1, a2⟩ := hb cdv A outer s H E hr
    refine ⟨t, a1, a2 M M [] _ H _ _ _ (start_ok dom r) (hw ds P' hs) ⟨fun ρ' M' B' σ' H' p x E' => ?_, fun _ _ _ _ _ p => p.elim, fun _ _ _ _ _ p => p.elim, fun ρ' d v M' B' σ' H' p x E' r' => ?_⟩⟩
    · exact q _ _ H' p (fun a o e => x.keep a o (by simp) e) .non
    · exact q d v H' p (fun a o e => x.keep a o (by simp) e) r'
def startW (l : Addr) (N : List Str) (ws ds : List PyData) : Env := .bor l ws :: ds.map .dat ++ List.replicate (N.length - (ds.length + 1)) .un
theorem startW_ok {N : List Str} {M : List Addr} {H : Hp} {l : Addr} {xs us : List V} {ws ds : List PyData} (dom : ∀ a, a ∈ M → H a ≠ none) (hl : l ∈ M) (h : H l = some (.lst xs)) (r0 : DtAll K (rm M H) xs ws) (r : DtAll K (rm M H) us ds) : EnvOk K M M [l] H (L2.start N (.ref l :: us)) (startW l N ws ds) where
  len := by unfold L2.start startW; simp [DtAll.len r]
  sub := fun a h => by rw [List.mem_singleton.mp h]; exact hl
  dom := dom
  m0 := fun _ h => h
  slot := fun i s hi => by
    unfold startW at hi
    unfold L2.start
    cases i with
    | zero =>
      have e : s = .bor l ws := by simpa using hi.symm
      subst e
      exact ⟨xs, by simp, List.mem_singleton.mpr rfl, hl, h, r0⟩
    | succ i =>
      rw [List.cons_append, List.getElem?_cons_succ] at hi
      rw [List.map_cons, List.cons_append, List.getElem?_cons_succ]
      by_cases c : i < ds.length
      · rw [List.getElem?_append_left (by simpa using c), List.getElem?_map] at hi
        cases hd : ds[i]? with
        | none => rw [hd] at hi; cases hi
        | some d =>
          rw [hd] at hi
          have e : s = .dat d := (Option.some.inj hi).symm
          subst e
          obtain ⟨v, h1, h2⟩ := DtAll.getd r hd
          exact ⟨v, by rw [List.getElem?_append_left (by rw [List.length_map, DtAll.len r]; exact c), List.getElem?_map, h1]; rfl, h2⟩
      · rw [List.getElem?_append_right (by simpa using Nat.le_of_not_lt c), List.getElem?_replicate] at hi
        split at hi
        · have e : s = .un := (Option.some.inj hi).symm
          subst e; trivial
        · cases hi
  sep := fun i j s s' l' n h1 h2 l1 l2 s1 s2 => by
    have z : ∀ (i : Nat) (s : SV), (startW l N ws ds)[i]? = some s → s.isL = true → i = 0 := fun i s h hl => by
      cases i with
      | zero => rfl
      | succ i =>
        unfold startW at h
        rw [List.cons_append, List.getElem?_cons_succ] at h
        have m := List.mem_of_getElem? h
        rcases List.mem_append.mp m with m | m
        · obtain ⟨d, _, rfl⟩ := List.mem_map.mp m
          cases hl
        · have e := List.eq_of_mem_replicate m
          subst e
          cases hl
    exact n ((z i s h1 l1).trans (z j s' h2 l2).symm)
theorem fn_well {x qual : Str} {st : Stmt} {f : Addr} {fd : FuncData} {N ps : List Str} {k : Nat} {S : SpW} {wb : WS} (F : Fun K x qual st f fd) (sc : FnScope N ps (defScope st)) (len : ∀ ws ds P, S ws ds P → ds.length + 1 = ps.length)
    (hb : ∀ (cdv : Value) (A : Around) (outer : List PySem.Env) (s : Shared) (H : Hp) (E : XK), Room k (A.deeper (envOfC qual (defScope st) s.heap.objs.size f cdv)) → DSs (cxOf CX0 P w K mg base N qual (defScope st) f cdv A outer s H E).nox K (defBody st) wb)
    (hw : ∀ l ws ds Q, S ws ds Q → wb { nx := fun ρ => ∃ ws', ρ.at 0 = .bor l ws' ∧ Q ws' .none, rt := fun ρ d => ∃ ws', ρ.at 0 = .bor l ws' ∧ Q ws' d } (startW l N ws ds)) : FnOk P w K mg base CX0 (k + 1) f fd ps (spW K S) := by
  refine Fun_ok F sc (fun vs H Q E h => ?_) (fun cdv A outer s H vs Q E hr h => ?_)
  · obtain ⟨M, l, us, xs, ws, ds, P', rfl, _, _, _, _, r, hs, _⟩ := h
    rw [List.length_cons, DtAll.len r]
    exact len _ _ _ hs
  · obtain ⟨M, l, us, xs, ws, ds, P', rfl, dom, hl, h4, r0, r, hs, q⟩ := h
    obtain ⟨t, a1, a2⟩ := hb cdv A outer s H E hr
    refine ⟨t, a1, a2 M M [l] _ H _ _ _ (startW_ok dom hl h4 r0 r) (hw l ws ds P' hs) ⟨fun ρ' M' B' σ' H' p x E' => ?_, fun _ _ _ _ _ p => p.elim, fun _ _ _ _ _ p => p.elim, fun ρ' d v M' B' σ' H' p x E' r' => ?_⟩⟩
    · obtain ⟨ws', h0, p⟩ := p
      obtain ⟨xs', _, _, _, h7, h8⟩ := E'.slot 0 _ (Env.at_get h0 (by intro z; cases z))
      exact q ws' _ _ H' xs' p (fun a o n e => x.keep a o (fun c => n (List.mem_singleton.mp c)) e) h7 (DtAll.up (rm_sub E'.m0) h8) .non
    · obtain ⟨ws', h0, p⟩ := p
      obtain ⟨xs', _, _, _, h7, h8⟩ := E'.slot 0 _ (Env.at_get h0 (by intro z; cases z))
      exact q ws' d v H' xs' p (fun a o n e => x.keep a o (fun c => n (List.mem_singleton.mp c)) e) h7 (DtAll.up (rm_sub E'.m0) h8) r'
end
end Pm
namespace Pm
open PySem PySem.Spec PyProof.Rows L2
variable {ι : Type} {X : ι → Cx} {K : Fr} {a b c e tg : Expr} {es rest : List Expr} {wa wb wc we : WE} {pos : Pos}
/-! ### further expressions -/
def fNeg : F1
  | .int i, P => P (.int (-i))
  | _, _ => False
theorem de_neg (h : DE X K e we) : DE X K (.UnaryOp .USub e pos) (wU fNeg we) := by
  obtain ⟨t, a1, a2⟩ := h
  refine ⟨tUn (rU fun i => .int (-i)) t, fun i => pe_un un_neg (a1 i), fun M0 M B σ H ρ P Q E w k => ?_⟩
  refine a2 M0 M B σ H ρ _ _ E w fun ρ1 d v H1 w1 x1 E1 r1 => ?_
  cases d with
  | int i => rw [Dt.isInt r1]; exact ⟨i, rfl, k ρ1 _ _ H1 w1 x1 E1 (.int _)⟩
  | _ => exact w1.elim
def wAndV (wa wb : WE) : WE := fun ρ P => wa ρ fun ρ1 d => ∃ c, d = .bool c ∧ (c = true → wb ρ1 P) ∧ (c = false → P ρ1 (.bool false))
def wOrV (wa wb : WE) : WE := fun ρ P => wa ρ fun ρ1 d => ∃ c, d = .bool c ∧ (c = true → P ρ1 (.bool true)) ∧ (c = false → wb ρ1 P)
def wNotV (wa : WE) : WE := fun ρ P => wa ρ fun ρ1 d => ∃ c, d = .bool c ∧ P ρ1 (.bool (!c))
theorem de_one {op : BoolOp} (h : DE X K a wa) : DE X K (.BoolOp op [a] pos) wa := by
  obtain ⟨t, a1, a2⟩ := h
  exact ⟨t, fun i => pe_one (a1 i), a2⟩
theorem de_and (ha : DE X K a wa) (hb : DE X K (.BoolOp .And (b :: rest) pos) wb) : DE X K (.BoolOp .And (a :: b :: rest) pos) (wAndV wa wb) := by
  obtain ⟨t, a1, a2⟩ := ha
  obtain ⟨u, b1, b2⟩ := hb
  refine ⟨tAndV t u, fun i => pe_and (a1 i) (b1 i), fun M0 M B σ H ρ P Q E w k => ?_⟩
  refine a2 M0 M B σ H ρ _ _ E w fun ρ1 d v H1 w1 x1 E1 r1 => ?_
  obtain ⟨c, rfl, w1⟩ := w1
  refine ⟨c, Dt.isBl r1, ite_of (fun e => ?_) (fun e => ?_)⟩
  · exact b2 M0 M B σ H1 ρ1 _ _ E1 (w1.1 e) fun ρ2 d v H2 w2 x2 E2 r2 => k ρ2 d v H2 w2 (x1.trans x2) E2 r2
  · exact k ρ1 _ _ H1 (w1.2 e) x1 E1 (.bl _)
theorem de_or (ha : DE X K a wa) (hb : DE X K (.BoolOp .Or (b :: rest) pos) wb) : DE X K (.BoolOp .Or (a :: b :: rest) pos) (wOrV wa wb) := by
  obtain ⟨t, a1, a2⟩ := ha
  obtain ⟨u, b1, b2⟩ := hb
  refine ⟨tOrV t u, fun i => pe_or (a1 i) (b1 i), fun M0 M B σ H ρ P Q E w k => ?_⟩
  refine a2 M0 M B σ H ρ _ _ E w fun ρ1 d v H1 w1 x1 E1 r1 => ?_
  obtain ⟨c, rfl, w1⟩ := w1
  refine ⟨c, Dt.isBl r1, ite_of (fun e => ?_) (fun e => ?_)⟩
  · exact k ρ1 _ _ H1 (w1.1 e) x1 E1 (.bl _)
  · exact b2 M0 M B σ H1 ρ1 _ _ E1 (w1.2 e) fun ρ2 d v H2 w2 x2 E2 r2 => k ρ2 d v H2 w2 (x1.trans x2) E2 r2
theorem de_not (ha : DE X K a wa) : DE X K (.UnaryOp .Not a pos) (wNotV wa) := by
  obtain ⟨t, a1, a2⟩ := ha
  refine ⟨tNotV t, fun i => pe_not (a1 i), fun M0 M B σ H ρ P Q E w k => ?_⟩
  refine a2 M0 M B σ H ρ _ _ E w fun ρ1 d v H1 w1 x1 E1 r1 => ?_
  obtain ⟨c, rfl, w1⟩ := w1
  exact ⟨c, Dt.isBl r1, k ρ1 _ _ H1 w1 x1 E1 (.bl _)⟩
/-- a < b < c over ints -/
def wChain (f g : F2) (wa wb wc : WE) : WE := fun ρ P => wa ρ fun ρ1 x => wb ρ1 fun ρ2 y => f x y fun z => ∃ k, z = .bool k ∧ (k = true → wc ρ2 fun ρ3 u => g y u fun d => P ρ3 d) ∧ (k = false → P ρ2 (.bool false))
theorem de_chain {op op' : CmpOp} {r r' : R2} {f g : F2} (ho : ∀ i, OpR (X i) (compareOp op) r) (ho' : ∀ i, OpR (X i) (compareOp op') r') (hf : OpD K r f) (hg : OpD K r' g) (ha : DE X K a wa) (hb : DE X K b wb) (hc : DE X K c wc)
    (hm : lastMarks [op, op'] [b, c] = false := by with_unfolding_all rfl) : DE X K (.Compare a [op, op'] [b, c] pos) (wChain f g wa wb wc) := by
  obtain ⟨ta, a1, a2⟩ := ha
  obtain ⟨tb, b1, b2⟩ := hb
  obtain ⟨tc, c1, c2⟩ := hc
  refine ⟨tChain r r' ta tb tc, fun i => pe_chain (ho i) (ho' i) (a1 i) (b1 i) (c1 i) hm, fun M0 M B σ H ρ P Q E w k => ?_⟩
  refine a2 M0 M B σ H ρ _ _ E w fun ρ1 x v H1 w1 x1 E1 r1 => ?_
  refine b2 M0 M B σ H1 ρ1 _ _ E1 w1 fun ρ2 y u H2 w2 x2 E2 r2 => ?_
  refine hf M H2 x y v u _ _ E2.dom (.inl (E1.up x2 r1)) (.inl r2) w2 fun d z H3 w3 e3 r3 => ?_
  obtain ⟨kk, rfl, w3⟩ := w3
  refine ⟨kk, Dt.isBl r3, ite_of (fun e => ?_) (fun e => ?_)⟩
  · refine c2 M0 M B σ H3 ρ2 _ _ (E2.same e3) (w3.1 e) fun ρ3 u2 v2 H4 w4 x4 E4 r4 => ?_
    refine hg M H4 y u2 u v2 _ _ E4.dom (.inl (E2.up ((Ext.same e3).trans x4) r2)) (.inl r4) w4 fun d z H5 p e5 r5 => ?_
    exact k ρ3 d z H5 p ((((x1.trans x2).trans (Ext.same e3)).trans x4).trans (Ext.same e5)) (E4.same e5) r5
  · exact k ρ2 _ _ H3 (w3.2 e) ((x1.trans x2).trans (Ext.same e3)) (E2.same e3) (.bl _)
/-! ### the script -/
def wSlS (j : Nat) (wl wh : WO) : WE := fun ρ P => ∃ ns, ρ.at j = .scr ns ∧ wl ρ fun ρ2 lo => wh ρ2 fun ρ3 hi => P ρ3 (.list ((cutD ns lo hi).map .int))
theorem dt_ints {H : Hp} : ∀ {ns : List Int}, DtAll K H (ns.map V.int) (ns.map .int)
  | [] => .nil
  | n :: ns => .cons (.int n) dt_ints
theorem cutV_ints (ns : List Int) (lo hi : Option Int) : cutV (ns.map V.int) lo hi = (cutD ns lo hi).map V.int := by
  unfold cutV cutD
  rw [List.length_map, List.map_take, List.map_drop]
theorem de_sls (j : Nat) {wl wh : WO} {lo hi : Option Expr} {p2 : Pos} (hl : DO X K lo wl) (hh : DO X K hi wh) (h : ∀ i, PE (X i) a (tVar j) := by intro i; exact pv _) (hK : ∀ i, (X i).K = K := by intro i; rfl) : DE X K (.Subscript a (.Slice lo hi none p2) pos) (wSlS j wl wh) := by
  obtain ⟨tl, l1, l2⟩ := hl
  obtain ⟨th, h1, h2⟩ := hh
  refine ⟨tSl (rSlAny K) (tVar j) tl th, fun i => by rw [← hK i]; exact pe_slice sl_any (h i) (l1 i) (h1 i), fun M0 M B σ H ρ P Q E w k => ?_⟩
  obtain ⟨ns, h0, w⟩ := w
  obtain ⟨p, hp, hs⟩ := E.slot j _ (Env.at_get h0 (by intro z; cases z))
  refine ⟨_, hp, ?_⟩
  refine l2 M0 M B σ H ρ _ _ E w fun ρ2 lo H2 w2 x2 E2 => ?_
  refine h2 M0 M B σ H2 ρ2 _ _ E2 w2 fun ρ3 hi H3 w3 x3 E3 => ?_
  refine .inr (.inl ⟨p, _, rfl, same_l rm_le (same_l ((x2.trans x3).rm E.sub) hs), fun q nq => ?_⟩)
  rw [cutV_ints]
  exact k ρ3 _ _ _ w3 ((x2.trans x3).trans (Ext.same (same_new nq))) (E3.same (same_new nq)) (E3.newl nq dt_ints)
/-- the def that the law is -/
def spLaw (K : Fr) : Sp := fun vs H Q _ => ∃ (a : Addr) (ns : List Int), vs = [.ref a] ∧ ns.length ≤ 63 ∧ SqL K H a (ns.map V.int) ∧ ∀ H', Q (.bl true) H'
def startS (N : List Str) (ns : List Int) : Env := .scr ns :: List.replicate (N.length - 1) .un
theorem startS_ok {N : List Str} {H : Hp} {a : Addr} {ns : List Int} (h : SqL K H a (ns.map V.int)) : EnvOk K [] [] [] H (L2.start N [.ref a]) (startS N ns) where
  len := by unfold L2.start startS; simp
  sub := fun a h => by cases h
  dom := fun a h => by cases h
  m0 := fun _ h => h
  slot := fun i s hi => by
    unfold startS at hi
    unfold L2.start
    cases i with
    | zero =>
      have e : s = .scr ns := by simpa using hi.symm
      subst e
      exact ⟨a, by simp, by rw [rm_nil]; exact h⟩
    | succ i =>
      rw [List.getElem?_cons_succ, List.getElem?_replicate] at hi
      split at hi
      · have e : s = .un := (Option.some.inj hi).symm
        subst e; trivial
      · cases hi
  sep := fun i j s s' l' n h1 h2 l1 l2 s1 s2 => by
    have z : ∀ (i : Nat) (s : SV), (startS N ns)[i]? = some s → s.isL = true → False := fun i s h hl => by
      unfold startS at h
      have m := List.mem_of_getElem? h
      rcases List.mem_cons.mp m with m | m
      · subst m; cases hl
      · have e := List.eq_of_mem_replicate m
        subst e
        cases hl
    exact z i s h1 l1
section
variable {P : Program} {w : World} {mg : Str → Option Value} {base : Heap}
theorem fn_law {x qual : Str} {st : Stmt} {f : Addr} {fd : FuncData} {N : List Str} {p : Str} {k : Nat} {wb : WS} (F : Fun K x qual st f fd) (sc : FnScope N [p] (defScope st))
    (hb : ∀ (cdv : Value) (A : Around) (outer : List PySem.Env) (s : Shared) (H : Hp) (E : XK), Room k (A.deeper (envOfC qual (defScope st) s.heap.objs.size f cdv)) → DSs (cxOf CX0 P w K mg base N qual (defScope st) f cdv A outer s H E).nox K (defBody st) wb)
    (hw : ∀ ns : List Int, ns.length ≤ 63 → wb { nx := fun _ => False, rt := fun _ d => d = .bool true } (startS N ns)) : FnOk P w K mg base CX0 (k + 1) f fd [p] (spLaw K) := by
  refine Fun_ok F sc (fun vs H Q E h => ?_) (fun cdv A outer s H vs Q E hr h => ?_)
  · obtain ⟨a, ns, rfl, _⟩ := h
    rfl
  · obtain ⟨a, ns, rfl, hl, hs, q⟩ := h
    obtain ⟨t, a1, a2⟩ := hb cdv A outer s H E hr
    refine ⟨t, a1, a2 [] [] [] _ H _ _ _ (startS_ok hs) (hw ns hl) ⟨fun _ _ _ _ _ p => p.elim, fun _ _ _ _ _ p => p.elim, fun _ _ _ _ _ p => p.elim, fun ρ' d v M' B' σ' H' p x E' r' => ?_⟩⟩
    subst p
    rw [Dt.isBl r']
    exact q H'
/-- a def of the module with its promise, by its name -/
def Has (P : Program) (w : World) (K : Fr) (mg : Str → Option Value) (base : Heap) (k : Nat) (x : Str) (sp : Sp) : Prop := ∃ (f : Addr) (fd : FuncData) (ps : List Str), FnOk P w K mg base CX0 k f fd ps sp ∧ mg x = some (.ref f) ∧ PySem.W.keepIn K (.ref f) = true ∧ Binds K fd ps []
theorem callOk {Y : Cx} {k j : Nat} {x : Str} {sp : Sp} (h : Has Y.prog Y.w Y.K Y.mg Y.base k x sp) (hr : Room j Y.A) (le : k ≤ j) : CallOk Y x sp := by
  obtain ⟨f, fd, ps, h1, h2, h3, h4⟩ := h
  exact ⟨k, f, fd, ps, h1, hr.mono le, h2, h3, h4⟩
/-- a def as the top left it -/
structure Def (K : Fr) (mg : Str → Option Value) (x : Str) (st : Stmt) (ps : List Str) : Prop where
  ex : ∃ (f : Addr) (fd : FuncData), mg x = some (.ref f) ∧ PySem.W.keepIn K (.ref f) = true ∧ Fun K x x st f fd ∧ Binds K fd ps []
theorem Def.has {x : Str} {st : Stmt} {ps : List Str} {k : Nat} {sp : Sp} (D : Def K mg x st ps) (h : ∀ (f : Addr) (fd : FuncData), Fun K x x st f fd → FnOk P w K mg base CX0 k f fd ps sp) : Has P w K mg base k x sp := by
  obtain ⟨f, fd, h1, h2, h3, h4⟩ := D.ex
  exact ⟨f, fd, ps, h f fd h3, h1, h2, h4⟩
end
end Pm
namespace Pm
open PySem PySem.Spec PyProof.Rows L2
variable {ι : Type} {X : ι → Cx} {K : Fr} {a b c e tg : Expr} {es rest : List Expr} {wa wb wc we : WE} {pos : Pos}
/-! ### a def that hands back a new list -/
abbrev SpF := List PyData → (List PyData → Prop) → Prop
def spF (K : Fr) (S : SpF) : Sp := fun vs H Q _ => ∃ (M : List Addr) (ds : List PyData) (P : List PyData → Prop), (∀ a, a ∈ M → H a ≠ none) ∧ DtAll K (rm M H) vs ds ∧ S ds P ∧
  ∀ es p xs H', P es → H p = none → Same H H' → H' p = some (.lst xs) → DtAll K (rm (p :: M) H') xs es → Q (.ref p) H'
section
variable {P : Program} {w : World} {mg : Str → Option Value} {base : Heap}
/-- def f(..): return [..] -/
theorem fn_fresh {x qual : Str} {st : Stmt} {f : Addr} {fd : FuncData} {N ps : List Str} {k : Nat} {S : SpF} {wb : WA} {p1 p2 : Pos} {es : List Expr} (F : Fun K x qual st f fd) (sc : FnScope N ps (defScope st)) (len : ∀ ds P, S ds P → ds.length = ps.length) (hd : defBody st = [.Return (some (.List es p1)) p2])
    (hb : ∀ (cdv : Value) (A : Around) (outer : List PySem.Env) (s : Shared) (H : Hp) (E : XK), Room k (A.deeper (envOfC qual (defScope st) s.heap.objs.size f cdv)) → DA (one (cxOf CX0 P w K mg base N qual (defScope st) f cdv A outer s H E).nox) K es wb)
    (hw : ∀ ds Q, S ds Q → wb (startE N ds) fun ρ es => es.length ≤ sizeLine ∧ Q es) : FnOk P w K mg base CX0 (k + 1) f fd ps (spF K S) := by
  refine Fun_ok F sc (fun vs H Q E h => ?_) (fun cdv A outer s H vs Q E hr h => ?_)
  · obtain ⟨M, ds, P', _, r, hs, _⟩ := h
    rw [DtAll.len r]
    exact len _ _ hs
  · obtain ⟨M, ds, P', dom, r, hs, q⟩ := h
    obtain ⟨t, a1, a2⟩ := hb cdv A outer s H E hr
    rw [hd]
    refine ⟨_, pss_one (ps_ret (pe_lst (a1 ()))), ?_⟩
    refine a2 M M [] _ H _ _ _ (start_ok dom r) (hw ds P' hs) fun ρ' es vs' H' p x E' r' => ?_
    refine ⟨by rw [DtAll.len r']; exact p.1, fun z nz => ?_⟩
    have sm : Same H H' := fun a o e => x.keep a o (by simp) e
    refine q es z vs' _ p.2 (sm.free nz) (fun a o e => same_new nz _ _ (sm _ _ e)) upd_same (DtAll.up (fun a o e => ?_) r')
    obtain ⟨z1, z2⟩ := rm_to e
    have n : a ≠ z := fun q => by rw [q, nz] at z2; cases z2
    refine rm_of (fun c => ?_) (by rw [upd_ne n]; exact z2)
    rcases List.mem_cons.mp c with q | q
    · exact n q
    · exact z1 q
end
/-- a slot gets a new list -/
theorem EnvOk.take {M0 M B : List Addr} {H H' : Hp} {σ : L2.St} {ρ : Env} {p : Addr} {xs : List V} {ds : List PyData} (E : EnvOk K M0 M B H σ ρ) (i : Nat) (np : H p = none) (sm : Same H H') (hp : H' p = some (.lst xs)) (r : DtAll K (rm (p :: M) H') xs ds) :
    EnvOk K M0 (p :: M) (p :: B) H' (σ.set i (some (.ref p))) (ρ.set i (.own ds)) ∧ Ext M B H (p :: M) (p :: B) H' := by
  have hpM : p ∉ M := fun c => E.dom p c np
  have E1 : EnvOk K M0 (p :: M) B H' σ ρ := E.more np hp fun a u n e => sm _ _ e
  refine ⟨⟨by rw [List.length_set, List.length_set]; exact E1.len, fun a h => ?_, E1.dom, E1.m0, fun j s hj => ?_, fun j k s s' l' n h1 h2 l1 l2 s1 s2 => ?_⟩,
    ⟨fun a h => List.mem_cons_of_mem _ h, fun a h => ?_, fun a h => List.mem_cons_of_mem _ h, fun a h => ?_, fun a o _ e => sm a o e, fun a e => sm.free e⟩⟩
  · rcases List.mem_cons.mp h with q | q
    · rw [q]; exact List.mem_cons_self ..
    · exact E1.sub a q
  · rcases get_set_some hj with ⟨rfl, rfl, hl⟩ | ⟨n, hj'⟩
    · exact ⟨p, xs, get_set_eq (by rw [E1.len]; exact hl), List.mem_cons_self .., fun c => hpM (E.m0 _ c), hp, r⟩
    · rw [get_set_ne n]
      have z := E1.slot j s hj'
      cases s with
      | un => trivial
      | dat d => exact z
      | scr d => exact z
      | own ds => obtain ⟨l, xs, h1, h2, h3⟩ := z; exact ⟨l, xs, h1, List.mem_cons_of_mem _ h2, h3⟩
      | bor l ds => obtain ⟨xs, h1, h2, h3⟩ := z; exact ⟨xs, h1, List.mem_cons_of_mem _ h2, h3⟩
  · have old : ∀ (j : Nat) (s : SV), ρ[j]? = some s → s.isL = true → σ[j]? = some (some (.ref p)) → False := fun j s hj hs e => by
      have z := E.slot j s hj
      cases s with
      | un => cases hs
      | dat d => cases hs
      | scr d => cases hs
      | own ds =>
        obtain ⟨l2, xs, h1, h2, _⟩ := z
        rw [h1] at e
        injection e with e; injection e with e; injection e with e
        exact hpM (e ▸ E.sub _ h2)
      | bor l2 ds =>
        obtain ⟨xs, h1, h2, _⟩ := z
        rw [h1] at e
        injection e with e; injection e with e; injection e with e
        exact hpM (e ▸ E.sub _ h2)
    rcases get_set_some h1 with ⟨rfl, rfl, hl1⟩ | ⟨n1, h1'⟩
    · rw [get_set_eq (by rw [E.len]; exact hl1)] at s1
      injection s1 with s1; injection s1 with s1; injection s1 with s1
      rcases get_set_some h2 with ⟨rfl, rfl, _⟩ | ⟨n2, h2'⟩
      · exact n rfl
      · rw [get_set_ne n2] at s2
        rw [← s1] at s2
        exact old k s' h2' l2 s2
    · rw [get_set_ne n1] at s1
      rcases get_set_some h2 with ⟨rfl, rfl, hl2⟩ | ⟨n2, h2'⟩
      · rw [get_set_eq (by rw [E.len]; exact hl2)] at s2
        injection s2 with s2; injection s2 with s2; injection s2 with s2
        rw [← s2] at s1
        exact old j s h1' l1 s1
      · rw [get_set_ne n2] at s2
        exact E.sep j k s s' l' n h1' h2' l1 l2 s1 s2
  · rcases List.mem_cons.mp h with q | q
    · rw [q]; exact .inr np
    · exact .inl q
  · rcases List.mem_cons.mp h with q | q
    · rw [q]; exact .inr np
    · exact .inl q
section
variable {Y : Cx} {st : Stmt} {w u : WS}
/-- x = f(..), f hands back a new list, which x owns -/
def wSetF (i : Nat) (S : SpF) (wa : WA) : WS := fun E ρ => wa ρ fun ρ1 ds => S ds fun es => E.nx (ρ1.set i (.own es))
theorem ds_setF (i : Nat) {x y : Str} {px p pc : Pos} {S : SpF} {w : WA} (nd : Y.N.Nodup) (c : CallOk Y x (spF K S)) (h : DA (one Y) K (e :: es) w) (hg : Gl Y x := by rfl) (hdb : (x == ("__debug__" : Str)) = false := by decide)
    (he : starEach (e :: es) Y.env = (false, eval e Y.env) :: starEach es Y.env := by rfl) (hpl : (backTo pc (starEach es Y.env)).any (·.1) = false := by rfl)
    (hp : Y.N.Nodup → ∀ t, PE Y (.Call (.Name x p) (e :: es) [] pc) t → PS Y (.Assign [.Name y px] (.Call (.Name x p) (e :: es) [] pc) pos) (tAsg t (gName i)) := by intro nd t h; exact ps_set nd rfl (by first | exact Or.inl rfl | exact Or.inr rfl) h) : DS Y K (.Assign [.Name y px] (.Call (.Name x p) (e :: es) [] pc) pos) (wSetF i S w) := by
  obtain ⟨t, a1, a2⟩ := h
  obtain ⟨k, f, fd, ps, F, hr, hm, hk, hb⟩ := c
  refine ⟨tAsg (tCall (spF K S) [] E0 t) (gName i), hp nd _ (pe_call F hr hg hm hk hb .nil pass0 (a1 ()) hdb he hpl), fun M0 M B σ H ρ E D Ev h Ft => ?_⟩
  refine a2 M0 M B σ H ρ _ _ Ev h fun ρ1 ds vs H1 w1 x1 E1 r1 => ?_
  refine ⟨M, ds, _, E1.dom, by rw [List.append_nil]; exact r1, w1, fun es z xs H2 p np sm hz r2 => ?_⟩
  obtain ⟨E2, x2⟩ := E1.take i np sm hz r2
  exact Ft.nx _ _ _ _ _ p (x1.trans x2) E2
/-- x = [elt for y in iter], on one line -/
theorem ds_setLc (j i : Nat) {elt iter : Expr} {x y : Str} {px py pos spos : Pos} {scope : Scope} {wi : WI} (nd : Y.N.Nodup) (hi : DI (one Y) K (.Name x px) iter wi) (he : DE (blkX (one Y) scope) K elt we)
    (hy : Y.N[j]? = some y := by rfl) (hyl : Y.env.scope.names.lookup y = some .local := by rfl) (hsw : swapsWith (.ListComp elt [⟨.Name x px, iter, [], 0⟩] scope pos) (some (.Name y py)) spos.line Y.env = pure true := by exact sw_true rfl rfl rfl (by decide +kernel))
    (ok : blkC Y.N Y.env.scope scope [(x, i)] = true := by decide +kernel) (hg : ∀ p, PG (blkX (one Y) scope p) (.Name x px) (gName i) := by intro p; exact pg_name (by assumption) rfl (Or.inl rfl))
    (hc : Y.calm = true := by rfl) (hs : ∀ x, foldedSetIterable iter Y.env x = pure x := by intro _; rfl) : DS Y K (.Assign [.Name y py] (.ListComp elt [⟨.Name x px, iter, [], 0⟩] scope pos) spos) (wSet j (wLc i wi wYes we)) := by
  obtain ⟨ti, i1, i2⟩ := hi
  obtain ⟨te, e1, e2⟩ := he
  refine ⟨tAsg (tLc ti (gName i) tYes te [i]) (gName j), ps_setLc (own := [(x, i)]) hc nd hy hyl hsw (i1 ()) (blkOk_by ok) (fun s H C cl fp => hg ((), s, H, C, cl, fp)) (fun s H C cl fp => pts_nil) (fun s H C cl fp => e1 ((), s, H, C, cl, fp)) hs, fun M0 M B σ H ρ E D Ev h Ft => ?_⟩
  exact lc_read i2 (fun M0 M B σ H ρ P Q E w k => k ρ true H w (Ext.refl ..) E) e2 M0 M B σ H ρ _ _ Ev h fun ρ1 d v H1 w1 x1 E1 r1 => Ft.nx _ M B _ H1 w1 x1 (E1.set j r1)
end
theorem def_mk {h : Heap} {mg : Str → Option Value} {x : Str} {st : Stmt} {ps : List Str} {f : Addr} {oc : Value} {od an : Option Addr} {osl : Array (Option Value)} {kV doc pm cdv ct : Value} (X : K.In h) (G : h.Ns mainGlobals mg) (a : PySem.W.nsIn K mainGlobals x = some (some (.ref f)))
    (l : K.lookup f = some ⟨oc, od, .func (PySem.W.fnOf x x (defArgs st) (defBody st) (defScope st) .none kV doc pm an cdv ct), osl⟩) (c : PySem.W.codeIn K cdv x = true) (k : PySem.W.keepIn K (.ref f) = true)
    (hb : ∀ (kV doc pm : Value) (an : Option Addr) (cdv ct : Value) (us : List Value), us.length = ps.length → bindArgs (PySem.W.fnOf x x (defArgs st) (defBody st) (defScope st) .none kV doc pm an cdv ct) ⟨us, []⟩ = pure (ps.zip us)) : Def K mg x st ps :=
  ⟨f, _, PySem.W.mg_of X G a, k, fun_mk l c k, (fun_mk l c k).binds hb⟩
end Pm
namespace Pm
open PySem PySem.Spec PyProof.Rows L2
variable {ι : Type} {X : ι → Cx} {K : Fr} {a b c e tg : Expr} {es rest : List Expr} {wa wb wc we : WE} {pos : Pos}
theorem de_globI {x : Str} {n : Int} (h : ∃ t : Tok, ∀ i, (X i).mg x = some (.int n t)) (hg : ∀ i, Gl (X i) x := by intro i; rfl) (hd1 : (x == ("__debug__" : Str)) = false := by decide) : DE X K (.Name x pos) (wC (.int n)) := by
  obtain ⟨t, h⟩ := h
  exact de_c (v := .int n) (fun i => pe_glob (hg i) (h i) ⟨t, rfl⟩ hd1) fun _ => .int n
theorem de_globS {x : Str} {n : Str} (h : ∃ t : Tok, ∀ i, (X i).mg x = some (.str n t)) (hg : ∀ i, Gl (X i) x := by intro i; rfl) (hd1 : (x == ("__debug__" : Str)) = false := by decide) : DE X K (.Name x pos) (wC (.str n)) := by
  obtain ⟨t, h⟩ := h
  exact de_c (v := .str n) (fun i => pe_glob (hg i) (h i) ⟨t, rfl⟩ hd1) fun _ => .str n
/-! ### comparisons as tests -/
theorem dt_op {r : R2} {f : F2} (hp : ∀ i ta tb, PE (X i) a ta → PE (X i) b tb → PT (X i) e (tTest (tOp r ta tb))) (hr : OpD K r f) (ha : DE X K a wa) (hb : DV X K b wb) : DT X K e (wTst (wOp f wa wb)) := by
  obtain ⟨ta, a1, a2⟩ := ha
  obtain ⟨tb, b1, b2⟩ := hb
  refine ⟨tTest (tOp r ta tb), fun i => hp i ta tb (a1 i) (b1 i), fun M0 M B σ H ρ P Q E w k => ?_⟩
  refine a2 M0 M B σ H ρ _ _ E w fun ρ1 x v H1 w1 x1 E1 r1 => ?_
  refine b2 M0 M B σ H1 ρ1 _ _ E1 w1 fun ρ2 y u H2 w2 x2 E2 r2 => ?_
  refine hr M H2 x y v u _ _ E2.dom (.inl (E1.up x2 r1)) r2 w2 fun d z H3 p e3 r3 => ?_
  obtain ⟨bb, rfl, p⟩ := p
  exact ⟨bb, Dt.isBl r3, k ρ2 bb H3 p ((x1.trans x2).trans (Ext.same e3)) (E2.same e3)⟩
theorem dt_opo (j : Nat) {r : R2} {f : F2} (hp : ∀ i ta tb, PE (X i) a ta → PE (X i) b tb → PT (X i) e (tTest (tOp r ta tb))) (hr : OpD K r f) (hb : DV X K b wb) (h : ∀ i, PE (X i) a (tVar j) := by intro i; exact pv _) : DT X K e (wTst (wOpO f j wb)) := by
  obtain ⟨tb, b1, b2⟩ := hb
  refine ⟨tTest (tOp r (tVar j) tb), fun i => hp i _ tb (h i) (b1 i), fun M0 M B σ H ρ P Q E w k => ?_⟩
  obtain ⟨⟨ds0, h0⟩, w⟩ := w
  obtain ⟨l0, xs0, _, _, hl0, _⟩ := E.lst h0
  refine ⟨_, hl0, ?_⟩
  refine b2 M0 M B σ H ρ _ _ E w fun ρ2 y u H2 w2 x2 E2 r2 => ?_
  obtain ⟨ds, h1, w3⟩ := w2
  obtain ⟨l, xs, _, _, hl, _, h4, h5, _⟩ := E2.lst h1
  rw [hl0] at hl
  injection hl with hl; injection hl with hl; injection hl with hl
  subst hl
  refine hr M H2 _ y _ u _ _ E2.dom (.inr ⟨l0, xs, ds, rfl, rfl, h4, h5⟩) r2 w3 fun d z H3 p e3 r3 => ?_
  obtain ⟨bb, rfl, p⟩ := p
  exact ⟨bb, Dt.isBl r3, k ρ2 bb H3 p (x2.trans (Ext.same e3)) (E2.same e3)⟩
theorem dt_lt (ha : DE X K a wa) (hb : DE X K b wb) : DT X K (.Compare a [.Lt] [b] pos) (wTst (wOp fLt wa wb)) := dt_op (fun i ta tb h1 h2 => pt_cmpR op_lt h1 h2 (nomark _)) (od_I0 fun _ _ _ => .bl _) ha hb.v
theorem dt_le (ha : DE X K a wa) (hb : DE X K b wb) : DT X K (.Compare a [.LtE] [b] pos) (wTst (wOp fLe wa wb)) := dt_op (fun i ta tb h1 h2 => pt_cmpR op_le h1 h2 (nomark _)) (od_I0 fun _ _ _ => .bl _) ha hb.v
theorem dt_gt (ha : DE X K a wa) (hb : DE X K b wb) : DT X K (.Compare a [.Gt] [b] pos) (wTst (wOp fGt wa wb)) := dt_op (fun i ta tb h1 h2 => pt_cmpR op_gt h1 h2 (nomark _)) (od_I0 fun _ _ _ => .bl _) ha hb.v
theorem dt_ge (ha : DE X K a wa) (hb : DE X K b wb) : DT X K (.Compare a [.GtE] [b] pos) (wTst (wOp fGe wa wb)) := dt_op (fun i ta tb h1 h2 => pt_cmpR op_ge h1 h2 (nomark _)) (od_I0 fun _ _ _ => .bl _) ha hb.v
theorem dt_eq (hu : ∀ i, (X i).A.units + 64 < cLine) (ha : DE X K a wa) (hb : DV X K b wb) (hK : ∀ i, (X i).K = K := by intro i; rfl) : DT X K (.Compare a [.Eq] [b] pos) (wTst (wOp (fEq false) wa wb)) :=
  dt_op (fun i ta tb h1 h2 => pt_cmpR (by rw [← hK i]; exact op_eqAny (hu i)) h1 h2 (nomark _)) od_eq ha hb
theorem dt_ne (hu : ∀ i, (X i).A.units + 64 < cLine) (ha : DE X K a wa) (hb : DV X K b wb) (hK : ∀ i, (X i).K = K := by intro i; rfl) : DT X K (.Compare a [.NotEq] [b] pos) (wTst (wOp (fEq true) wa wb)) :=
  dt_op (fun i ta tb h1 h2 => pt_cmpR (by rw [← hK i]; exact op_neAny (hu i)) h1 h2 (nomark _)) od_eq ha hb
theorem dt_eqo (j : Nat) (hu : ∀ i, (X i).A.units + 64 < cLine) (hb : DV X K b wb) (h : ∀ i, PE (X i) a (tVar j) := by intro i; exact pv _) (hK : ∀ i, (X i).K = K := by intro i; rfl) : DT X K (.Compare a [.Eq] [b] pos) (wTst (wOpO (fEq false) j wb)) :=
  dt_opo j (fun i ta tb h1 h2 => pt_cmpR (by rw [← hK i]; exact op_eqAny (hu i)) h1 h2 (nomark _)) od_eq hb h
theorem dt_neo (j : Nat) (hu : ∀ i, (X i).A.units + 64 < cLine) (hb : DV X K b wb) (h : ∀ i, PE (X i) a (tVar j) := by intro i; exact pv _) (hK : ∀ i, (X i).K = K := by intro i; rfl) : DT X K (.Compare a [.NotEq] [b] pos) (wTst (wOpO (fEq true) j wb)) :=
  dt_opo j (fun i ta tb h1 h2 => pt_cmpR (by rw [← hK i]; exact op_neAny (hu i)) h1 h2 (nomark _)) od_eq hb h
theorem dt_is (ha : DE X K a wa) (hb : DE X K b wb) : DT X K (.Compare a [.Is] [b] pos) (wTst (wOp (fIs false) wa wb)) := dt_op (fun i ta tb h1 h2 => pt_cmpR op_isN h1 h2 (nomark _)) od_is ha hb.v
theorem dt_isnot (ha : DE X K a wa) (hb : DE X K b wb) : DT X K (.Compare a [.IsNot] [b] pos) (wTst (wOp (fIs true) wa wb)) := dt_op (fun i ta tb h1 h2 => pt_cmpR op_notN h1 h2 (nomark _)) od_isnot ha hb.v
theorem dt_in (ha : DE X K a wa) (hb : DV X K b wb) (hm : behindInMarks .In b = false := by rfl) (hK : ∀ i, (X i).K = K := by intro i; rfl) : DT X K (.Compare a [.In] [b] pos) (wTst (wOp (fIn false) wa wb)) :=
  dt_op (fun i ta tb h1 h2 => pt_cmpR (by rw [← hK i]; exact op_orR op_inS' op_in_seq) h1 h2 hm) od_in ha hb
theorem dt_notin (ha : DE X K a wa) (hb : DV X K b wb) (hm : behindInMarks .NotIn b = false := by rfl) (hK : ∀ i, (X i).K = K := by intro i; rfl) : DT X K (.Compare a [.NotIn] [b] pos) (wTst (wOp (fIn true) wa wb)) :=
  dt_op (fun i ta tb h1 h2 => pt_cmpR (by rw [← hK i]; exact op_orR op_notinS' op_notIn_seq) h1 h2 hm) od_in ha hb
theorem dt_chain {op op' : CmpOp} {r r' : R2} {f g : F2} (ho : ∀ i, OpR (X i) (compareOp op) r) (ho' : ∀ i, OpR (X i) (compareOp op') r') (hf : OpD K r f) (hg : OpD K r' g) (ha : DE X K a wa) (hb : DE X K b wb) (hc : DE X K c wc)
    (hm : lastMarks [op, op'] [b, c] = false := by with_unfolding_all rfl) : DT X K (.Compare a [op, op'] [b, c] pos) (wTst (wChain f g wa wb wc)) := by
  obtain ⟨ta, a1, a2⟩ := ha
  obtain ⟨tb, b1, b2⟩ := hb
  obtain ⟨tc, c1, c2⟩ := hc
  refine ⟨tTest (tChain r r' ta tb tc), fun i => pt_chain (ho i) (ho' i) (a1 i) (b1 i) (c1 i) hm, fun M0 M B σ H ρ P Q E w k => ?_⟩
  refine a2 M0 M B σ H ρ _ _ E w fun ρ1 x v H1 w1 x1 E1 r1 => ?_
  refine b2 M0 M B σ H1 ρ1 _ _ E1 w1 fun ρ2 y u H2 w2 x2 E2 r2 => ?_
  refine hf M H2 x y v u _ _ E2.dom (.inl (E1.up x2 r1)) (.inl r2) w2 fun d z H3 w3 e3 r3 => ?_
  obtain ⟨kk, rfl, w3⟩ := w3
  refine ⟨kk, Dt.isBl r3, ite_of (fun e => ?_) (fun e => ?_)⟩
  · refine c2 M0 M B σ H3 ρ2 _ _ (E2.same e3) (w3.1 e) fun ρ3 u2 v2 H4 w4 x4 E4 r4 => ?_
    refine hg M H4 y u2 u v2 _ _ E4.dom (.inl (E2.up ((Ext.same e3).trans x4) r2)) (.inl r4) w4 fun d z H5 p e5 r5 => ?_
    obtain ⟨bb, rfl, p⟩ := p
    exact ⟨bb, Dt.isBl r5, k ρ3 bb H5 p ((((x1.trans x2).trans (Ext.same e3)).trans x4).trans (Ext.same e5)) (E4.same e5)⟩
  · obtain ⟨bb, hb', p⟩ := w3.2 e
    injection hb' with hb'
    subst hb'
    exact ⟨false, rfl, k ρ2 false H3 p ((x1.trans x2).trans (Ext.same e3)) (E2.same e3)⟩
end Pm
namespace Pm
open PySem PySem.Spec PyProof.Rows L2 RZ
variable {ι : Type} {X : ι → Cx} {K : Fr} {a b c e tg : Expr} {es rest : List Expr} {wa wb wc we : WE} {pos : Pos}
/-! ### what is never reached; a value that is dropped -/
def wNever : WS := fun _ _ => False
theorem ds_never {Y : Cx} {st : Stmt} : DS Y K st wNever := ⟨tNever, ps_never, fun _ _ _ _ _ _ _ _ _ h _ => h.elim⟩
def wDrop (we : WE) : WS := fun E ρ => we ρ fun ρ1 _ => E.nx ρ1
theorem ds_expr {Y : Cx} (h : DE (one Y) K e we) (hp : ∀ t, PE Y e t → PS Y (.Expr e pos) (tDrop t) := by intro t h; exact ps_expr h) : DS Y K (.Expr e pos) (wDrop we) := by
  obtain ⟨t, a1, a2⟩ := h
  refine ⟨tDrop t, hp t (a1 ()), fun M0 M B σ H ρ E D Ev h F => ?_⟩
  exact a2 M0 M B σ H ρ _ _ Ev h fun ρ1 d v H1 w1 x1 E1 r1 => F.nx _ M B _ H1 w1 x1 E1
/-! ### isinstance -/
def tyD : PyData → String
  | .none => "NoneType"
  | .bool _ => "bool"
  | .int _ => "int"
  | .str _ => "str"
  | .list _ => "list"
  | .tuple _ => "tuple"
  | .dict _ => "dict"
theorem ty_of {M : List Addr} {H : Hp} {v : V} {d : PyData} (r : RV K M H v d) : TyX K H v (.type (tyD d)) := by
  rcases r with r | ⟨l, xs, ds, rfl, rfl, h, _⟩
  · cases r with
    | non => exact .base .non
    | bl b => exact .base (.bl b)
    | int i => exact .base (.int i)
    | str x => exact .base (.str x)
    | lst h r => exact .base (.lst (rm_le _ _ h))
    | dic h r => exact .base (.dK (rm_le _ _ h))
    | tup h r =>
      rcases h with (h | ⟨o, h⟩) | ⟨o, its, n, h1, h2, _⟩
      · exact .base (.tup (rm_le _ _ h))
      · exact .fTuple (rm_le _ _ h)
      · exact .kTuple h1 h2
  · exact .base (.lst h)
inductive Ty where
  | bool | int | str | list | tuple | dict
def Ty.s : Ty → String
  | .bool => "bool"
  | .int => "int"
  | .str => "str"
  | .list => "list"
  | .tuple => "tuple"
  | .dict => "dict"
def isiD : Ty → PyData → Bool
  | .bool, .bool _ => true
  | .int, .int _ => true
  | .int, .bool _ => true
  | .str, .str _ => true
  | .list, .list _ => true
  | .tuple, .tuple _ => true
  | .dict, .dict _ => true
  | _, _ => false
def isiN (a b : String) : Bool := a == b || (a == "bool" && b == "int")
theorem kit_all : ∀ a, a ∈ ["NoneType", "bool", "int", "str", "list", "tuple", "dict"] → ∀ b, b ∈ ["bool", "int", "str", "list", "tuple", "dict"] → kitB a b = some (isiN a b) := by decide +kernel
theorem kit_data {T : Ty} {d : PyData} : kitB (tyD d) T.s = some (isiD T d) := by
  have h1 : tyD d ∈ ["NoneType", "bool", "int", "str", "list", "tuple", "dict"] := by cases d <;> simp [tyD]
  have h2 : T.s ∈ ["bool", "int", "str", "list", "tuple", "dict"] := by cases T <;> simp [Ty.s]
  rw [kit_all _ h1 _ h2]
  cases T <;> cases d <;> rfl
def wIsi (T : Ty) (we : WE) : WE := fun ρ P => we ρ fun ρ1 d => P ρ1 (.bool (isiD T d))
theorem de_isi (T : Ty) {x : Str} {p p2 : Pos} (hm : ∀ i, (X i).mg "isinstance" = none) (hx : ∀ i, (X i).mg x = none) (h : DE X K e we) (hv : bootBuiltins x = some (.type T.s) := by decide +kernel) (hK : ∀ i, (X i).K = K := by intro i; rfl) (hg : ∀ i, Gl (X i) "isinstance" := by intro i; rfl) (hg2 : ∀ i, Gl (X i) x := by intro i; rfl)
    (hn : x ≠ "__name__" := by decide) (hd : (x == ("__debug__" : Str)) = false := by decide) (he : ∀ i, starEach [e, .Name x p2] (X i).env = (false, eval e (X i).env) :: starEach [.Name x p2] (X i).env := by intro i; rfl) (he2 : ∀ i, starEach [.Name x p2] (X i).env = (false, eval (.Name x p2) (X i).env) :: starEach [] (X i).env := by intro i; rfl)
    (hpl : ∀ i, (backTo pos (starEach [.Name x p2] (X i).env)).any (·.1) = false := by intro i; rfl) : DE X K (.Call (.Name "isinstance" p) [e, .Name x p2] [] pos) (wIsi T we) := by
  obtain ⟨t, a1, a2⟩ := h
  refine ⟨tCB (rIsi K) (tCons t (tCons (tC (.ty T.s)) tNil)), fun i => by rw [← hK i]; exact pe_callB call_isi (hg i) (hm i) PyProof.Rows.boot_isinstance (pa_cons (a1 i) (pa_cons (pe_bltn (hg2 i) (hx i) hv rfl hn hd) pa_nil (he2 i)) (he i)) (by decide) (by decide) (he i) (hpl i), fun M0 M B σ H ρ P Q E w k => ?_⟩
  refine a2 M0 M B σ H ρ _ _ E w fun ρ1 d v H1 w1 x1 E1 r1 => ?_
  exact ⟨v, .ty T.s, _, _, _, rfl, .ty T.s, ty_of (M := M) (.inl r1), kit_ty kit_data, k ρ1 _ _ H1 w1 x1 E1 (.bl _)⟩
def wIsi2 (T U : Ty) (we : WE) : WE := fun ρ P => we ρ fun ρ1 d => P ρ1 (.bool (isiD T d || isiD U d))
theorem de_isi2 (T U : Ty) {x y : Str} {p p2 p3 p4 : Pos} {cc : Nat} (hm : ∀ i, (X i).mg "isinstance" = none) (hx : ∀ i, (X i).mg x = none) (hy : ∀ i, (X i).mg y = none) (h : DE X K e we) (hv : bootBuiltins x = some (.type T.s) := by decide +kernel) (hv2 : bootBuiltins y = some (.type U.s) := by decide +kernel)
    (hK : ∀ i, (X i).K = K := by intro i; rfl) (hg : ∀ i, Gl (X i) "isinstance" := by intro i; rfl) (hgx : ∀ i, Gl (X i) x := by intro i; rfl) (hgy : ∀ i, Gl (X i) y := by intro i; rfl) (hn : x ≠ "__name__" := by decide) (hd : (x == ("__debug__" : Str)) = false := by decide) (hn2 : y ≠ "__name__" := by decide) (hd2 : (y == ("__debug__" : Str)) = false := by decide)
    (he : ∀ i, starEach [e, .Tuple [.Name x p2, .Name y p3] cc p4] (X i).env = (false, eval e (X i).env) :: starEach [.Tuple [.Name x p2, .Name y p3] cc p4] (X i).env := by intro i; rfl) (he2 : ∀ i, starEach [.Tuple [.Name x p2, .Name y p3] cc p4] (X i).env = (false, eval (.Tuple [.Name x p2, .Name y p3] cc p4) (X i).env) :: starEach [] (X i).env := by intro i; rfl)
    (he3 : ∀ i, starEach [.Name x p2, .Name y p3] (X i).env = (false, eval (.Name x p2) (X i).env) :: starEach [.Name y p3] (X i).env := by intro i; rfl) (he4 : ∀ i, starEach [.Name y p3] (X i).env = (false, eval (.Name y p3) (X i).env) :: starEach [] (X i).env := by intro i; rfl)
    (hpt : ∀ i t, PA (X i) [.Name x p2, .Name y p3] t → PE (X i) (.Tuple [.Name x p2, .Name y p3] cc p4) (tTup t) := by intro i t h; exact pe_tup h)
    (hpl : ∀ i, (backTo pos (starEach [.Tuple [.Name x p2, .Name y p3] cc p4] (X i).env)).any (·.1) = false := by intro i; rfl) : DE X K (.Call (.Name "isinstance" p) [e, .Tuple [.Name x p2, .Name y p3] cc p4] [] pos) (wIsi2 T U we) := by
  obtain ⟨t, a1, a2⟩ := h
  refine ⟨tCB (rIsiT K) (tCons t (tCons (tTup (tCons (tC (.ty T.s)) (tCons (tC (.ty U.s)) tNil))) tNil)), fun i => by
    rw [← hK i]
    exact pe_callB call_isiT (hg i) (hm i) PyProof.Rows.boot_isinstance (pa_cons (a1 i) (pa_cons (hpt i _ (pa_cons (pe_bltn (hgx i) (hx i) hv rfl hn hd) (pa_cons (pe_bltn (hgy i) (hy i) hv2 rfl hn2 hd2) pa_nil (he4 i)) (he3 i))) pa_nil (he2 i)) (he i)) (by decide) (by decide) (he i) (hpl i), fun M0 M B σ H ρ P Q E w k => ?_⟩
  refine a2 M0 M B σ H ρ _ _ E w fun ρ1 d v H1 w1 x1 E1 r1 => ?_
  refine ⟨by show 2 ≤ sizeLine; decide, fun q nq => ⟨v, q, [.ty T.s, .ty U.s], _, [.type T.s, .type U.s], isiD T d || isiD U d, rfl, upd_same, .cons (.ty T.s) (.cons (.ty U.s) .nil), ty_of (M := M) (RV.up E1 (same_new nq) (.inl r1)), ?_, ?_⟩⟩
  · refine kitAny_cons (kit_ty kit_data) (fun hf => ?_) (fun ht => by rw [ht]; rfl)
    rw [hf, Bool.false_or]
    exact kitAny_cons (r := isiD U d) (kit_ty kit_data) (fun hf2 => by rw [hf2]; exact kitAny_nil) (fun ht => ht)
  · exact k ρ1 _ _ _ w1 (x1.trans (Ext.same (same_new nq))) (E1.same (same_new nq)) (.bl _)
/-! ### zip -/
def zipD (xs ys : List PyData) : List PyData := (xs.zip ys).map fun p => .tuple [p.1, p.2]
theorem zipD_get {xs ys : List PyData} {i : Nat} {d : PyData} (h : (zipD xs ys)[i]? = some d) : ∃ x y, xs[i]? = some x ∧ ys[i]? = some y ∧ d = .tuple [x, y] := by
  unfold zipD at h
  rw [List.getElem?_map] at h
  cases e : (xs.zip ys)[i]? with
  | none => rw [e] at h; cases h
  | some p =>
    rw [e] at h
    obtain ⟨x, y⟩ := p
    have q := List.getElem?_zip_eq_some.mp e
    exact ⟨x, y, q.1, q.2, (Option.some.inj h).symm⟩
theorem zipD_len {xs ys : List PyData} : (zipD xs ys).length = min xs.length ys.length := by simp [zipD]
theorem it_zipT {M : List Addr} {H : Hp} {a b : Addr} {xs ys : List V} {ds es : List PyData} (h : SqT K (rm M H) a xs) (r : DtAll K (rm M H) xs ds) (h2 : SqT K (rm M H) b ys) (r2 : DtAll K (rm M H) ys es) : IterOk K M H (ItzT K a b) (zipD ds es) := fun M' H' s dom => by
  have h' : SqT K H' a xs := same_t rm_le (same_t s h)
  have h2' : SqT K H' b ys := same_t rm_le (same_t s h2)
  refine ⟨fun i d hd => ?_, ⟨xs, ys, h', h2', by rw [zipD_len, DtAll.len r, DtAll.len r2]; omega⟩⟩
  obtain ⟨x, y, hx, hy, rfl⟩ := zipD_get hd
  obtain ⟨v, hv, rv⟩ := DtAll.getd r hx
  obtain ⟨u, hu, ru⟩ := DtAll.getd r2 hy
  refine ⟨⟨xs, ys, v, u, h', h2', hv, hu⟩, fun z H'' q => ?_⟩
  obtain ⟨T, x', y', rfl, nT, rfl, q1, q2⟩ := q
  have e1 := q1 xs h'
  have e2 := q2 ys h2'
  rw [hv] at e1
  rw [hu] at e2
  cases e1
  cases e2
  exact ⟨same_new nT, .tup (.inl (.inl (rm_of (fun q => dom T q nT) upd_same))) (.cons (Dt.up (up_new nT) (Dt.up s rv)) (.cons (Dt.up (up_new nT) (Dt.up s ru)) .nil))⟩
theorem it_zipL {M : List Addr} {H : Hp} {a b : Addr} {xs ys : List V} {ds es : List PyData} (h : rm M H a = some (.lst xs)) (r : DtAll K (rm M H) xs ds) (h2 : rm M H b = some (.lst ys)) (r2 : DtAll K (rm M H) ys es) : IterOk K M H (Itz K a b) (zipD ds es) := fun M' H' s dom => by
  have h' : SqL K H' a xs := SqL.of (rm_to (s _ _ h)).2
  have h2' : SqL K H' b ys := SqL.of (rm_to (s _ _ h2)).2
  refine ⟨fun i d hd => ?_, ⟨xs, ys, h', h2', by rw [zipD_len, DtAll.len r, DtAll.len r2]; omega⟩⟩
  obtain ⟨x, y, hx, hy, rfl⟩ := zipD_get hd
  obtain ⟨v, hv, rv⟩ := DtAll.getd r hx
  obtain ⟨u, hu, ru⟩ := DtAll.getd r2 hy
  refine ⟨⟨xs, ys, v, u, h', h2', hv, hu⟩, fun z H'' q => ?_⟩
  obtain ⟨T, x', y', rfl, nT, rfl, q1, q2⟩ := q
  have e1 := q1 xs h'
  have e2 := q2 ys h2'
  rw [hv] at e1
  rw [hu] at e2
  cases e1
  cases e2
  exact ⟨same_new nT, .tup (.inl (.inl (rm_of (fun q => dom T q nT) upd_same))) (.cons (Dt.up (up_new nT) (Dt.up s rv)) (.cons (Dt.up (up_new nT) (Dt.up s ru)) .nil))⟩
def wZip (wa wb : WE) : WI := fun ρ P => wa ρ fun ρ1 x => wb ρ1 fun ρ2 y => match x, y with
  | .list xs, .list ys => P ρ2 (zipD xs ys)
  | .tuple xs, .tuple ys => P ρ2 (zipD xs ys)
  | _, _ => False
theorem di_zip {p tpos : Pos} {elts : List Expr} {kk : Nat} (hm : ∀ i, (X i).mg "zip" = none) (ha : DE X K a wa) (hb : DE X K b wb) (hK : ∀ i, (X i).K = K := by intro i; rfl) (hg : ∀ i, Gl (X i) "zip" := by intro i; rfl) (hs : ∀ i, starEach [a, b] (X i).env = (false, eval a (X i).env) :: starEach [b] (X i).env := by intro i; rfl)
    (hs2 : ∀ i, starEach [b] (X i).env = (false, eval b (X i).env) :: starEach [] (X i).env := by intro i; rfl) (hpl : ∀ i, (backTo pos (starEach [b] (X i).env)).any (·.1) = false := by intro i; rfl) : DI X K (.Tuple elts kk tpos) (.Call (.Name "zip" p) [a, b] [] pos) (wZip wa wb) := by
  obtain ⟨t, a1, a2⟩ := ha
  obtain ⟨u, b1, b2⟩ := hb
  refine ⟨iZipA K (tCons t (tCons u tNil)), fun i => by rw [← hK i]; exact pi_zipA (hg i) (hm i) (pa_cons (a1 i) (pa_cons (b1 i) pa_nil (hs2 i)) (hs i)) (hs i) (hpl i), fun M0 M B σ H ρ P R E w k => ?_⟩
  refine a2 M0 M B σ H ρ _ _ E w fun ρ1 x v H1 w1 x1 E1 r1 => ?_
  refine b2 M0 M B σ H1 ρ1 _ _ E1 w1 fun ρ2 y v2 H2 w2 x2 E2 r2 => ?_
  have r1' := E1.up x2 r1
  cases x with
  | list xs =>
    cases y with
    | list ys =>
      obtain ⟨p, vs, rfl, h1, h2⟩ := Dt.isLst r1'
      obtain ⟨q, us, rfl, h3, h4⟩ := Dt.isLst r2
      exact ⟨p, q, vs, us, rfl, .inl ⟨SqL.of (rm_le _ _ h1), SqL.of (rm_le _ _ h3), k ρ2 _ _ H2 w2 (x1.trans x2) E2 (it_zipL h1 h2 h3 h4)⟩⟩
    | _ => exact w2.elim
  | tuple xs =>
    cases y with
    | tuple ys =>
      obtain ⟨p, vs, rfl, h1, h2⟩ := Dt.isTup r1'
      obtain ⟨q, us, rfl, h3, h4⟩ := Dt.isTup r2
      exact ⟨p, q, vs, us, rfl, .inr ⟨same_t rm_le h1, same_t rm_le h3, k ρ2 _ _ H2 w2 (x1.trans x2) E2 (it_zipT h1 h2 h3 h4)⟩⟩
    | _ => exact w2.elim
  | _ => exact w2.elim
/-! ### tuples of the module -/
def GlobOk (K : Fr) (mg : Str → Option Value) (x : Str) (d : PyData) : Prop := ∃ a, mg x = some (.ref a) ∧ ∀ H, Dt K H (.ref a) d
theorem de_globT {x : Str} {d : PyData} (h : ∃ a, (∀ i, (X i).mg x = some (.ref a)) ∧ ∀ H, Dt K H (.ref a) d) (hg : ∀ i, Gl (X i) x := by intro i; rfl) (hd1 : (x == ("__debug__" : Str)) = false := by decide) : DE X K (.Name x pos) (wC d) := by
  obtain ⟨a, h1, h2⟩ := h
  exact de_c (v := .ref a) (fun i => pe_glob (hg i) (h1 i) rfl hd1) h2
theorem GlobOk.use {mg : Str → Option Value} {x : Str} {d : PyData} (g : GlobOk K mg x d) (h : ∀ i, (X i).mg = mg) : ∃ a, (∀ i, (X i).mg x = some (.ref a)) ∧ ∀ H, Dt K H (.ref a) d := by
  obtain ⟨a, h1, h2⟩ := g
  exact ⟨a, fun i => by rw [h i]; exact h1, h2⟩
theorem glob_tup {h : Heap} {mg : Str → Option Value} {x : Str} {a : Addr} {od : Option Addr} {its : Array Value} {n : Nat} {sl : Array (Option Value)} {xs : List V} {ds : List PyData} (X : K.In h) (G : h.Ns mainGlobals mg) (g : PySem.W.nsIn K mainGlobals x = some (some (.ref a))) (l : K.lookup a = some ⟨.type "tuple", od, .seq its n, sl⟩)
    (hz : its.size ≤ sizeLine) (hv : Vals xs its.toList) (hd : ∀ H, DtAll K H xs ds) : GlobOk K mg x (.tuple ds) :=
  ⟨a, PySem.W.mg_of X G g, fun H => .tup (.inr ⟨_, its, n, l, rfl, rfl, hz, hv⟩) (hd H)⟩
/-- a dict's display without pairs -/
theorem de_dnew : DE X K (.Dict [] [] pos) (wC (.dict [])) := by
  refine ⟨tDNewK, fun i => pe_dnewK, fun M0 M B σ H ρ P Q E w k => ?_⟩
  intro p np
  exact k ρ _ _ _ w (Ext.same (same_new np)) (E.same (same_new np)) (.dic (rm_of (E.fresh np) upd_same) .nil)
/-- a promise that nobody may ask -/
theorem has_none {P : Program} {w : World} {mg : Str → Option Value} {base : Heap} {x : Str} {st : Stmt} {N ps : List Str} {k : Nat} (D : Def K mg x st ps) (sc : FnScope N ps (defScope st)) : Has P w K mg base (k + 1) x (spP K fun _ _ => False) :=
  D.has fun f fd F => Fun_ok F sc (fun vs H Q E h => by obtain ⟨_, _, _, _, _, h, _⟩ := h; exact h.elim) (fun cdv A outer s H vs Q E hr h => by obtain ⟨_, _, _, _, _, h, _⟩ := h; exact h.elim)
theorem has_noneW {P : Program} {w : World} {mg : Str → Option Value} {base : Heap} {x : Str} {st : Stmt} {N ps : List Str} {k : Nat} (D : Def K mg x st ps) (sc : FnScope N ps (defScope st)) : Has P w K mg base (k + 1) x (spW K fun _ _ _ => False) :=
  D.has fun f fd F => Fun_ok F sc (fun vs H Q E h => by obtain ⟨_, _, _, _, _, _, _, _, _, _, _, _, _, h, _⟩ := h; exact h.elim) (fun cdv A outer s H vs Q E hr h => by obtain ⟨_, _, _, _, _, _, _, _, _, _, _, _, _, h, _⟩ := h; exact h.elim)
end Pm
namespace Pm
open PySem PySem.Spec PyProof.Rows L2
variable {ι : Type} {X : ι → Cx} {K : Fr} {a e e2 e3 : Expr} {we wo : WE} {wa : WA} {apos cpos : Pos}
/-! ### methods of texts -/
def fStrip : FM
  | a, [.str b], P => a.length ≤ sizeLine ∧ P (.str (Txt.stripChars a b))
  | _, _, _ => False
theorem md_strip : MtD K (fun x xs H Q => ∃ (a b : Str), x = .str a ∧ xs = [.str b] ∧ a.length ≤ sizeLine ∧ Q (.str (Txt.stripChars a b)) H) fStrip := by
  intro M H x ds vs P Q dom r f k
  match ds, f with
  | [.str b], f =>
    cases r with
    | cons r1 r =>
      cases r
      rw [Dt.isStr r1]
      exact ⟨x, b, rfl, rfl, f.1, k _ _ H f.2 (Same.refl _) (.str _)⟩
theorem de_strip (h : DE X K a wo) (ha : DA X K [e] wa) (hK : ∀ i, (X i).K = K := by intro i; rfl)
    (hp : ∀ i t u, PE (X i) a t → PA (X i) [e] u → PE (X i) (.Call (.Attribute a "strip" apos) [e] [] cpos) (tBM (X i).K "str" (fun x xs H Q => ∃ (a b : Str), x = .str a ∧ xs = [.str b] ∧ a.length ≤ sizeLine ∧ Q (.str (Txt.stripChars a b)) H) t u) := by intro i t u h1 h2; exact pe_bm PySem.F.plainAttrs_str PySem.F.slot_str_strip PySem.F.type_str_strip mt_stripChars h1 h2) :
    DE X K (.Call (.Attribute a "strip" apos) [e] [] cpos) (wM fStrip wo wa) :=
  de_m (fun i t u h1 h2 => by rw [← hK i]; exact hp i t u h1 h2) md_strip h ha
def fLstrip : FM
  | a, [.str b], P => a.length ≤ sizeLine ∧ P (.str (Txt.lstripChars a b))
  | _, _, _ => False
theorem md_lstrip : MtD K (fun x xs H Q => ∃ (a b : Str), x = .str a ∧ xs = [.str b] ∧ a.length ≤ sizeLine ∧ Q (.str (Txt.lstripChars a b)) H) fLstrip := by
  intro M H x ds vs P Q dom r f k
  match ds, f with
  | [.str b], f =>
    cases r with
    | cons r1 r =>
      cases r
      rw [Dt.isStr r1]
      exact ⟨x, b, rfl, rfl, f.1, k _ _ H f.2 (Same.refl _) (.str _)⟩
theorem de_lstrip (h : DE X K a wo) (ha : DA X K [e] wa) (hK : ∀ i, (X i).K = K := by intro i; rfl)
    (hp : ∀ i t u, PE (X i) a t → PA (X i) [e] u → PE (X i) (.Call (.Attribute a "lstrip" apos) [e] [] cpos) (tBM (X i).K "str" (fun x xs H Q => ∃ (a b : Str), x = .str a ∧ xs = [.str b] ∧ a.length ≤ sizeLine ∧ Q (.str (Txt.lstripChars a b)) H) t u) := by intro i t u h1 h2; exact pe_bm PySem.F.plainAttrs_str PySem.F.slot_str_lstrip PySem.F.type_str_lstrip mt_lstripChars h1 h2) :
    DE X K (.Call (.Attribute a "lstrip" apos) [e] [] cpos) (wM fLstrip wo wa) :=
  de_m (fun i t u h1 h2 => by rw [← hK i]; exact hp i t u h1 h2) md_lstrip h ha
def fRstrip : FM
  | a, [.str b], P => a.length ≤ sizeLine ∧ P (.str (Txt.rstripChars a b))
  | _, _, _ => False
theorem md_rstrip : MtD K (fun x xs H Q => ∃ (a b : Str), x = .str a ∧ xs = [.str b] ∧ a.length ≤ sizeLine ∧ Q (.str (Txt.rstripChars a b)) H) fRstrip := by
  intro M H x ds vs P Q dom r f k
  match ds, f with
  | [.str b], f =>
    cases r with
    | cons r1 r =>
      cases r
      rw [Dt.isStr r1]
      exact ⟨x, b, rfl, rfl, f.1, k _ _ H f.2 (Same.refl _) (.str _)⟩
theorem de_rstrip (h : DE X K a wo) (ha : DA X K [e] wa) (hK : ∀ i, (X i).K = K := by intro i; rfl)
    (hp : ∀ i t u, PE (X i) a t → PA (X i) [e] u → PE (X i) (.Call (.Attribute a "rstrip" apos) [e] [] cpos) (tBM (X i).K "str" (fun x xs H Q => ∃ (a b : Str), x = .str a ∧ xs = [.str b] ∧ a.length ≤ sizeLine ∧ Q (.str (Txt.rstripChars a b)) H) t u) := by intro i t u h1 h2; exact pe_bm PySem.F.plainAttrs_str PySem.F.slot_str_rstrip PySem.F.type_str_rstrip mt_rstripChars h1 h2) :
    DE X K (.Call (.Attribute a "rstrip" apos) [e] [] cpos) (wM fRstrip wo wa) :=
  de_m (fun i t u h1 h2 => by rw [← hK i]; exact hp i t u h1 h2) md_rstrip h ha
def fStarts : FM
  | a, [.str b], P => P (.bool (Txt.startswith a b))
  | _, _, _ => False
theorem md_startswith : MtD K (fun x xs H Q => ∃ (a b : Str), x = .str a ∧ xs = [.str b] ∧ Q (.bl (Txt.startswith a b)) H) fStarts := by
  intro M H x ds vs P Q dom r f k
  match ds, f with
  | [.str b], f =>
    cases r with
    | cons r1 r =>
      cases r
      rw [Dt.isStr r1]
      exact ⟨x, b, rfl, rfl, k _ _ H f (Same.refl _) (.bl _)⟩
theorem de_startswith (h : DE X K a wo) (ha : DA X K [e] wa) (hK : ∀ i, (X i).K = K := by intro i; rfl)
    (hp : ∀ i t u, PE (X i) a t → PA (X i) [e] u → PE (X i) (.Call (.Attribute a "startswith" apos) [e] [] cpos) (tBM (X i).K "str" (fun x xs H Q => ∃ (a b : Str), x = .str a ∧ xs = [.str b] ∧ Q (.bl (Txt.startswith a b)) H) t u) := by intro i t u h1 h2; exact pe_bm PySem.F.plainAttrs_str PySem.F.slot_str_startswith PySem.F.type_str_startswith mt_startswith h1 h2) :
    DE X K (.Call (.Attribute a "startswith" apos) [e] [] cpos) (wM fStarts wo wa) :=
  de_m (fun i t u h1 h2 => by rw [← hK i]; exact hp i t u h1 h2) md_startswith h ha
def fStarts3 : FM
  | a, [.str b, .int i], P => P (.bool (Txt.startswith3 a b i))
  | _, _, _ => False
theorem md_startswith3 : MtD K (fun x xs H Q => ∃ (a b : Str) (i : Int), x = .str a ∧ xs = [.str b, .int i] ∧ Q (.bl (Txt.startswith3 a b i)) H) fStarts3 := by
  intro M H x ds vs P Q dom r f k
  match ds, f with
  | [.str b, .int i], f =>
    cases r with
    | cons r1 r =>
      cases r with
      | cons r2 r =>
        cases r
        rw [Dt.isStr r1, Dt.isInt r2]
        exact ⟨x, b, i, rfl, rfl, k _ _ H f (Same.refl _) (.bl _)⟩
theorem de_startswith3 (h : DE X K a wo) (ha : DA X K [e, e2] wa) (hK : ∀ i, (X i).K = K := by intro i; rfl)
    (hp : ∀ i t u, PE (X i) a t → PA (X i) [e, e2] u → PE (X i) (.Call (.Attribute a "startswith" apos) [e, e2] [] cpos) (tBM (X i).K "str" (fun x xs H Q => ∃ (a b : Str) (i : Int), x = .str a ∧ xs = [.str b, .int i] ∧ Q (.bl (Txt.startswith3 a b i)) H) t u) := by intro i t u h1 h2; exact pe_bm PySem.F.plainAttrs_str PySem.F.slot_str_startswith PySem.F.type_str_startswith mt_startswith3 h1 h2) :
    DE X K (.Call (.Attribute a "startswith" apos) [e, e2] [] cpos) (wM fStarts3 wo wa) :=
  de_m (fun i t u h1 h2 => by rw [← hK i]; exact hp i t u h1 h2) md_startswith3 h ha
def fEnds : FM
  | a, [.str b], P => P (.bool (Txt.endswith a b))
  | _, _, _ => False
theorem md_endswith : MtD K (fun x xs H Q => ∃ (a b : Str), x = .str a ∧ xs = [.str b] ∧ Q (.bl (Txt.endswith a b)) H) fEnds := by
  intro M H x ds vs P Q dom r f k
  match ds, f with
  | [.str b], f =>
    cases r with
    | cons r1 r =>
      cases r
      rw [Dt.isStr r1]
      exact ⟨x, b, rfl, rfl, k _ _ H f (Same.refl _) (.bl _)⟩
theorem de_endswith (h : DE X K a wo) (ha : DA X K [e] wa) (hK : ∀ i, (X i).K = K := by intro i; rfl)
    (hp : ∀ i t u, PE (X i) a t → PA (X i) [e] u → PE (X i) (.Call (.Attribute a "endswith" apos) [e] [] cpos) (tBM (X i).K "str" (fun x xs H Q => ∃ (a b : Str), x = .str a ∧ xs = [.str b] ∧ Q (.bl (Txt.endswith a b)) H) t u) := by intro i t u h1 h2; exact pe_bm PySem.F.plainAttrs_str PySem.F.slot_str_endswith PySem.F.type_str_endswith mt_endswith h1 h2) :
    DE X K (.Call (.Attribute a "endswith" apos) [e] [] cpos) (wM fEnds wo wa) :=
  de_m (fun i t u h1 h2 => by rw [← hK i]; exact hp i t u h1 h2) md_endswith h ha
def fFind : FM
  | a, [.str b], P => P (.int (Txt.find a b))
  | _, _, _ => False
theorem md_find : MtD K (fun x xs H Q => ∃ (a b : Str), x = .str a ∧ xs = [.str b] ∧ Q (.int (Txt.find a b)) H) fFind := by
  intro M H x ds vs P Q dom r f k
  match ds, f with
  | [.str b], f =>
    cases r with
    | cons r1 r =>
      cases r
      rw [Dt.isStr r1]
      exact ⟨x, b, rfl, rfl, k _ _ H f (Same.refl _) (.int _)⟩
theorem de_find (h : DE X K a wo) (ha : DA X K [e] wa) (hK : ∀ i, (X i).K = K := by intro i; rfl)
    (hp : ∀ i t u, PE (X i) a t → PA (X i) [e] u → PE (X i) (.Call (.Attribute a "find" apos) [e] [] cpos) (tBM (X i).K "str" (fun x xs H Q => ∃ (a b : Str), x = .str a ∧ xs = [.str b] ∧ Q (.int (Txt.find a b)) H) t u) := by intro i t u h1 h2; exact pe_bm PySem.F.plainAttrs_str PySem.F.slot_str_find PySem.F.type_str_find mt_find h1 h2) :
    DE X K (.Call (.Attribute a "find" apos) [e] [] cpos) (wM fFind wo wa) :=
  de_m (fun i t u h1 h2 => by rw [← hK i]; exact hp i t u h1 h2) md_find h ha
def fFind3 : FM
  | a, [.str b, .int i], P => P (.int (Txt.find3 a b i))
  | _, _, _ => False
theorem md_find3 : MtD K (fun x xs H Q => ∃ (a b : Str) (i : Int), x = .str a ∧ xs = [.str b, .int i] ∧ Q (.int (Txt.find3 a b i)) H) fFind3 := by
  intro M H x ds vs P Q dom r f k
  match ds, f with
  | [.str b, .int i], f =>
    cases r with
    | cons r1 r =>
      cases r with
      | cons r2 r =>
        cases r
        rw [Dt.isStr r1, Dt.isInt r2]
        exact ⟨x, b, i, rfl, rfl, k _ _ H f (Same.refl _) (.int _)⟩
theorem de_find3 (h : DE X K a wo) (ha : DA X K [e, e2] wa) (hK : ∀ i, (X i).K = K := by intro i; rfl)
    (hp : ∀ i t u, PE (X i) a t → PA (X i) [e, e2] u → PE (X i) (.Call (.Attribute a "find" apos) [e, e2] [] cpos) (tBM (X i).K "str" (fun x xs H Q => ∃ (a b : Str) (i : Int), x = .str a ∧ xs = [.str b, .int i] ∧ Q (.int (Txt.find3 a b i)) H) t u) := by intro i t u h1 h2; exact pe_bm PySem.F.plainAttrs_str PySem.F.slot_str_find PySem.F.type_str_find mt_find3 h1 h2) :
    DE X K (.Call (.Attribute a "find" apos) [e, e2] [] cpos) (wM fFind3 wo wa) :=
  de_m (fun i t u h1 h2 => by rw [← hK i]; exact hp i t u h1 h2) md_find3 h ha
def fFind4 : FM
  | a, [.str b, .int i, .int j], P => P (.int (Txt.findIn a b i j))
  | _, _, _ => False
theorem md_find4 : MtD K (fun x xs H Q => ∃ (a b : Str) (i j : Int), x = .str a ∧ xs = [.str b, .int i, .int j] ∧ Q (.int (Txt.findIn a b i j)) H) fFind4 := by
  intro M H x ds vs P Q dom r f k
  match ds, f with
  | [.str b, .int i, .int j], f =>
    cases r with
    | cons r1 r =>
      cases r with
      | cons r2 r =>
        cases r with
        | cons r3 r =>
          cases r
          rw [Dt.isStr r1, Dt.isInt r2, Dt.isInt r3]
          exact ⟨x, b, i, j, rfl, rfl, k _ _ H f (Same.refl _) (.int _)⟩
theorem de_find4 (h : DE X K a wo) (ha : DA X K [e, e2, e3] wa) (hK : ∀ i, (X i).K = K := by intro i; rfl)
    (hp : ∀ i t u, PE (X i) a t → PA (X i) [e, e2, e3] u → PE (X i) (.Call (.Attribute a "find" apos) [e, e2, e3] [] cpos) (tBM (X i).K "str" (fun x xs H Q => ∃ (a b : Str) (i j : Int), x = .str a ∧ xs = [.str b, .int i, .int j] ∧ Q (.int (Txt.findIn a b i j)) H) t u) := by intro i t u h1 h2; exact pe_bm PySem.F.plainAttrs_str PySem.F.slot_str_find PySem.F.type_str_find mt_find4 h1 h2) :
    DE X K (.Call (.Attribute a "find" apos) [e, e2, e3] [] cpos) (wM fFind4 wo wa) :=
  de_m (fun i t u h1 h2 => by rw [← hK i]; exact hp i t u h1 h2) md_find4 h ha
def fCount : FM
  | a, [.str b], P => P (.int (Txt.count a b))
  | _, _, _ => False
theorem md_count : MtD K (fun x xs H Q => ∃ (a b : Str), x = .str a ∧ xs = [.str b] ∧ Q (.int (Txt.count a b)) H) fCount := by
  intro M H x ds vs P Q dom r f k
  match ds, f with
  | [.str b], f =>
    cases r with
    | cons r1 r =>
      cases r
      rw [Dt.isStr r1]
      exact ⟨x, b, rfl, rfl, k _ _ H f (Same.refl _) (.int _)⟩
theorem de_count (h : DE X K a wo) (ha : DA X K [e] wa) (hK : ∀ i, (X i).K = K := by intro i; rfl)
    (hp : ∀ i t u, PE (X i) a t → PA (X i) [e] u → PE (X i) (.Call (.Attribute a "count" apos) [e] [] cpos) (tBM (X i).K "str" (fun x xs H Q => ∃ (a b : Str), x = .str a ∧ xs = [.str b] ∧ Q (.int (Txt.count a b)) H) t u) := by intro i t u h1 h2; exact pe_bm PySem.F.plainAttrs_str PySem.F.slot_str_count PySem.F.type_str_count mt_count h1 h2) :
    DE X K (.Call (.Attribute a "count" apos) [e] [] cpos) (wM fCount wo wa) :=
  de_m (fun i t u h1 h2 => by rw [← hK i]; exact hp i t u h1 h2) md_count h ha
def fCount4 : FM
  | a, [.str b, .int i, .int j], P => P (.int (Txt.countIn a b i j))
  | _, _, _ => False
theorem md_count4 : MtD K (fun x xs H Q => ∃ (a b : Str) (i j : Int), x = .str a ∧ xs = [.str b, .int i, .int j] ∧ Q (.int (Txt.countIn a b i j)) H) fCount4 := by
  intro M H x ds vs P Q dom r f k
  match ds, f with
  | [.str b, .int i, .int j], f =>
    cases r with
    | cons r1 r =>
      cases r with
      | cons r2 r =>
        cases r with
        | cons r3 r =>
          cases r
          rw [Dt.isStr r1, Dt.isInt r2, Dt.isInt r3]
          exact ⟨x, b, i, j, rfl, rfl, k _ _ H f (Same.refl _) (.int _)⟩
theorem de_count4 (h : DE X K a wo) (ha : DA X K [e, e2, e3] wa) (hK : ∀ i, (X i).K = K := by intro i; rfl)
    (hp : ∀ i t u, PE (X i) a t → PA (X i) [e, e2, e3] u → PE (X i) (.Call (.Attribute a "count" apos) [e, e2, e3] [] cpos) (tBM (X i).K "str" (fun x xs H Q => ∃ (a b : Str) (i j : Int), x = .str a ∧ xs = [.str b, .int i, .int j] ∧ Q (.int (Txt.countIn a b i j)) H) t u) := by intro i t u h1 h2; exact pe_bm PySem.F.plainAttrs_str PySem.F.slot_str_count PySem.F.type_str_count mt_count4 h1 h2) :
    DE X K (.Call (.Attribute a "count" apos) [e, e2, e3] [] cpos) (wM fCount4 wo wa) :=
  de_m (fun i t u h1 h2 => by rw [← hK i]; exact hp i t u h1 h2) md_count4 h ha
def FZ (f : Str → (PyData → Prop) → Prop) : F1
  | .str x, P => f x P
  | _, _ => False
theorem de_m0 {c : Expr} {r : V → List V → Hp → VK → Prop} {f : Str → (PyData → Prop) → Prop} (hp : ∀ i t, PE (X i) a t → PE (X i) c (tBM0 K "str" r t)) (md : ∀ (M : List Addr) (H : Hp) (x : Str) (P : PyData → Prop) (Q : VK), (∀ a, a ∈ M → H a ≠ none) → f x P → (∀ d z H', P d → Same H H' → Dt K (rm M H') z d → Q z H') → r (.str x) [] H Q) (h : DE X K a wo) : DE X K c (wU (FZ f) wo) := by
  obtain ⟨t, a1, a2⟩ := h
  refine ⟨_, fun i => hp i t (a1 i), fun M0 M B σ H ρ P Q E w k => ?_⟩
  refine a2 M0 M B σ H ρ _ _ E w fun ρ1 d v H1 w1 x1 E1 r1 => ?_
  cases d with
  | str s =>
    rw [Dt.isStr r1]
    exact ⟨rfl, md M H1 s _ Q E1.dom w1 fun d z H3 p e3 r3 => k ρ1 d z H3 p (x1.trans (Ext.same e3)) (E1.same e3) r3⟩
  | _ => exact w1.elim
abbrev fLower : F1 := FZ fun a P => a.length ≤ 5592405 ∧ P (.str (Txt.lower a))
theorem de_lower (h : DE X K a wo) (hK : ∀ i, (X i).K = K := by intro i; rfl)
    (hp : ∀ i t, PE (X i) a t → PE (X i) (.Call (.Attribute a "lower" apos) [] [] cpos) (tBM0 (X i).K "str" (fun x xs H Q => ∃ a : Str, x = .str a ∧ xs = [] ∧ a.length ≤ 5592405 ∧ Q (.str (Txt.lower a)) H) t) := by intro i t h1; exact pe_bm0 PySem.F.plainAttrs_str PySem.F.slot_str_lower PySem.F.type_str_lower mt_lower h1) :
    DE X K (.Call (.Attribute a "lower" apos) [] [] cpos) (wU fLower wo) :=
  de_m0 (r := fun x xs H Q => ∃ a : Str, x = .str a ∧ xs = [] ∧ a.length ≤ 5592405 ∧ Q (.str (Txt.lower a)) H) (fun i t h1 => by rw [← hK i]; exact hp i t h1) (fun M H x P Q dom f k => ⟨x, rfl, rfl, f.1, k _ _ H f.2 (Same.refl _) (.str _)⟩) h
abbrev fUpper : F1 := FZ fun a P => a.length ≤ 5592405 ∧ P (.str (Txt.upper a))
theorem de_upper (h : DE X K a wo) (hK : ∀ i, (X i).K = K := by intro i; rfl)
    (hp : ∀ i t, PE (X i) a t → PE (X i) (.Call (.Attribute a "upper" apos) [] [] cpos) (tBM0 (X i).K "str" (fun x xs H Q => ∃ a : Str, x = .str a ∧ xs = [] ∧ a.length ≤ 5592405 ∧ Q (.str (Txt.upper a)) H) t) := by intro i t h1; exact pe_bm0 PySem.F.plainAttrs_str PySem.F.slot_str_upper PySem.F.type_str_upper mt_upper h1) :
    DE X K (.Call (.Attribute a "upper" apos) [] [] cpos) (wU fUpper wo) :=
  de_m0 (r := fun x xs H Q => ∃ a : Str, x = .str a ∧ xs = [] ∧ a.length ≤ 5592405 ∧ Q (.str (Txt.upper a)) H) (fun i t h1 => by rw [← hK i]; exact hp i t h1) (fun M H x P Q dom f k => ⟨x, rfl, rfl, f.1, k _ _ H f.2 (Same.refl _) (.str _)⟩) h
abbrev fIsalnum : F1 := FZ fun a P => True ∧ P (.bool (Txt.isalnum a))
theorem de_isalnum (h : DE X K a wo) (hK : ∀ i, (X i).K = K := by intro i; rfl)
    (hp : ∀ i t, PE (X i) a t → PE (X i) (.Call (.Attribute a "isalnum" apos) [] [] cpos) (tBM0 (X i).K "str" (fun x xs H Q => ∃ a : Str, x = .str a ∧ xs = [] ∧ True ∧ Q (.bl (Txt.isalnum a)) H) t) := by intro i t h1; exact pe_bm0 PySem.F.plainAttrs_str PySem.F.slot_str_isalnum PySem.F.type_str_isalnum mt_isalnum h1) :
    DE X K (.Call (.Attribute a "isalnum" apos) [] [] cpos) (wU fIsalnum wo) :=
  de_m0 (r := fun x xs H Q => ∃ a : Str, x = .str a ∧ xs = [] ∧ True ∧ Q (.bl (Txt.isalnum a)) H) (fun i t h1 => by rw [← hK i]; exact hp i t h1) (fun M H x P Q dom f k => ⟨x, rfl, rfl, f.1, k _ _ H f.2 (Same.refl _) (.bl _)⟩) h
abbrev fSplit0 : F1 := FZ fun a P => a.length + 2 ≤ sizeLine ∧ P (.list ((Txt.words a).map .str))
theorem de_split0 (h : DE X K a wo) (hK : ∀ i, (X i).K = K := by intro i; rfl)
    (hp : ∀ i t, PE (X i) a t → PE (X i) (.Call (.Attribute a "split" apos) [] [] cpos) (tBM0 (X i).K "str" (fun x xs H Q => ∃ a : Str, x = .str a ∧ xs = [] ∧ a.length + 2 ≤ sizeLine ∧ rNewStrs (Txt.words a) H Q) t) := by intro i t h1; exact pe_bm0 PySem.F.plainAttrs_str PySem.F.slot_str_split PySem.F.type_str_split mt_words h1) :
    DE X K (.Call (.Attribute a "split" apos) [] [] cpos) (wU fSplit0 wo) :=
  de_m0 (r := fun x xs H Q => ∃ a : Str, x = .str a ∧ xs = [] ∧ a.length + 2 ≤ sizeLine ∧ rNewStrs (Txt.words a) H Q) (fun i t h1 => by rw [← hK i]; exact hp i t h1) (fun M H x P Q dom f k => ⟨x, rfl, rfl, f.1, fun p np => k _ _ _ f.2 (same_new np) (.lst (rm_of (fun c => dom p c np) upd_same) dt_ofstrs)⟩) h
end Pm
namespace Pm
open PySem PySem.Spec PyProof.Rows L2
variable {ι : Type} {X : ι → Cx} {K : Fr} {a b e tg : Expr} {es : List Expr} {wa wb we : WE} {pos : Pos}
/-! ### list comprehensions, two names -/
def lcD2 (i j : Nat) (we : WE) : List PyData → Env → List PyData → (Env → List PyData → Prop) → Prop
  | [], ρ, acc, P => P ρ acc
  | d :: ds, ρ, acc, P => ∃ x y, d = .tuple [x, y] ∧ we ((ρ.set i (.dat x)).set j (.dat y)) fun ρ2 z => acc.length < sizeLine ∧ lcD2 i j we ds ((ρ2.set i .un).set j .un) (acc ++ [z]) P
def wLc2 (i j : Nat) (wi : WI) (we : WE) : WE := fun ρ P => wi ρ fun ρ1 items => lcD2 i j we items ((ρ1.set i .un).set j .un) [] fun ρ2 ds => P ρ2 (.list ds)
/-- the reading of a comprehension -/
theorem lc_read2 {i j : Nat} (hij : i ≠ j) {ti : TI} {te : TE} {wi : WI}
    (hi : ∀ (M0 M B : List Addr) (σ : L2.St) (H : Hp) (ρ : Env) (P : Env → List PyData → Prop) (R : It → Hp → Prop), EnvOk K M0 M B H σ ρ → wi ρ P → (∀ ρ' items J H', P ρ' items → Ext M B H M B H' → EnvOk K M0 M B H' σ ρ' → IterOk K M H' J items → R J H') → ti σ H R)
    (he : ∀ (M0 M B : List Addr) (σ : L2.St) (H : Hp) (ρ : Env) (P : Env → PyData → Prop) (Q : VK), EnvOk K M0 M B H σ ρ → we ρ P → (∀ ρ' d v H', P ρ' d → Ext M B H M B H' → EnvOk K M0 M B H' σ ρ' → Dt K (rm M H') v d → Q v H') → te σ H Q) :
    ∀ (M0 M B : List Addr) (σ : L2.St) (H : Hp) (ρ : Env) (P : Env → PyData → Prop) (Q : VK), EnvOk K M0 M B H σ ρ → wLc2 i j wi we ρ P → (∀ ρ' d v H', P ρ' d → Ext M B H M B H' → EnvOk K M0 M B H' σ ρ' → Dt K (rm M H') v d → Q v H') → tLc ti (gTup K 2 (gCons (gName i) (gCons (gName j) gNil))) tYes te [i, j] σ H Q := by
  intro M0 M B σ H ρ P Q E w k
  refine hi M0 M B σ H ρ _ _ E w fun ρ1 items J H1 w1 x1 E1 it => ?_
  intro D nD
  have hDM : D ∉ M := fun c => E1.dom D c nD
  have hDB : D ∉ B := fun c => hDM (E1.sub D c)
  -- W: the list so far
  refine ⟨fun n m H2 => m = items.length - n ∧ ∃ (ρ2 : Env) (acc : List V) (ds : List PyData), n ≤ items.length ∧ lcD2 i j we (items.drop n) ρ2 ds (fun ρ2 ds => P ρ2 (.list ds)) ∧ H2 D = some (.lst acc) ∧ DtAll K (rm (D :: M) H2) acc ds ∧ EnvOk K M0 (D :: M) B H2 σ ρ2 ∧
      (∀ a o, a ∉ B → a ≠ D → H1 a = some o → H2 a = some o) ∧ (∀ a, H2 a = none → H1 a = none), ⟨_, rfl, (ρ1.set i .un).set j .un, [], [], Nat.zero_le _, w1, upd_same, .nil, ?_, fun a o _ n e => by rw [upd_ne n]; exact e, fun a e => (same_new nD).free e⟩, ?_⟩
  · have E2 : EnvOk K M0 (D :: M) B (upd H1 D (.lst [])) σ ρ1 := E1.more nD upd_same fun a u n e => by rw [upd_ne n]; exact e
    exact (E2.swap (i := i) rfl fun _ _ => rfl).swap (i := j) rfl fun _ _ => rfl
  · rintro n m H2 ⟨rfl, ρ2, acc, ds, hn, w2, hD, hA, E2, fr, lv⟩
    have hEx : Ext M B H1 M B H2 := ⟨fun _ h => h, fun _ h => .inl h, fun _ h => h, fun _ h => .inl h, fun a o nb e => fr a o nb (fun q => by rw [q, nD] at e; cases e) e, lv⟩
    have hsm : Same (rm M H1) (rm (D :: M) H2) := fun a o e => by
      obtain ⟨z1, z2⟩ := rm_to e
      have nn : a ≠ D := fun q => by rw [q, nD] at z2; cases z2
      refine rm_of (fun c => ?_) (fr a o (fun c => z1 (E1.sub a c)) nn z2)
      rcases List.mem_cons.mp c with q | q
      · exact nn q
      · exact z1 q
    obtain ⟨hgo, hst⟩ := it (D :: M) H2 hsm E2.dom
    by_cases hlt : n < items.length
    · right
      have hnd : items[n]? = some items[n] := List.getElem?_eq_getElem hlt
      obtain ⟨g1, g2⟩ := hgo n _ hnd
      rw [List.drop_eq_getElem_cons hlt] at w2
      refine ⟨g1, fun H' => ∃ m', m' < items.length - n ∧ (m' = items.length - (n + 1) ∧ ∃ (ρ2 : Env) (acc : List V) (ds : List PyData), n + 1 ≤ items.length ∧ lcD2 i j we (items.drop (n + 1)) ρ2 ds (fun ρ2 ds => P ρ2 (.list ds)) ∧ H' D = some (.lst acc) ∧ DtAll K (rm (D :: M) H') acc ds ∧ EnvOk K M0 (D :: M) B H' σ ρ2 ∧
        (∀ a o, a ∉ B → a ≠ D → H1 a = some o → H' a = some o) ∧ (∀ a, H' a = none → H1 a = none)), fun H' h => h, fun x H3 hy => ?_⟩
      obtain ⟨s3, rx⟩ := g2 x H3 hy
      have E3 : EnvOk K M0 (D :: M) B H3 σ ρ2 := E2.same s3
      obtain ⟨d1, d2, hd12, w2⟩ := w2
      rw [hd12] at rx
      obtain ⟨p, xs, rfl, hxs, rr⟩ := Dt.isTup rx
      cases rr with
      | cons r1 rr =>
      cases rr with
      | cons r2 rr =>
      cases rr
      rename_i v1 v2
      have hw : wipe σ [i, j] = (σ.set j none).set i none := rfl
      have E4 : EnvOk K M0 (D :: M) B H3 (((wipe σ [i, j]).set i (some v1)).set j (some v2)) ((ρ2.set i (.dat d1)).set j (.dat d2)) := by
        have q : EnvOk K M0 (D :: M) B H3 (wipe σ [i, j]) ((ρ2.set j .un).set i .un) := (E3.forget j none).forget i none
        have q2 := (q.set i r1).set j r2
        rw [List.set_set, List.set_comm _ _ (Ne.symm hij), List.set_set, List.set_comm _ _ hij] at q2
        rw [List.set_comm _ _ hij]
        exact q2
      have hsl : ∀ k, k ≠ i → k ≠ j → σ[k]? = (((wipe σ [i, j]).set i (some v1)).set j (some v2))[k]? := fun k n1 n2 => by
        rw [get_set_ne (Ne.symm n2), get_set_ne (Ne.symm n1), hw, get_set_ne (Ne.symm n1), get_set_ne (Ne.symm n2)]
      have hln : σ.length = (((wipe σ [i, j]).set i (some v1)).set j (some v2)).length := by
        rw [List.length_set, List.length_set, hw, List.length_set, List.length_set]
      refine ⟨p, _, rfl, same_t rm_le hxs, rfl, _, _, rfl, _, _, rfl, rfl, ?_, ?_⟩
      · show ((((wipe σ [i, j]).set i (some v1)).set j (some v2)).set j none).set i none = wipe σ [i, j]
        rw [hw, List.set_set, List.set_comm _ _ (Ne.symm hij), List.set_set, List.set_set, List.set_comm _ _ hij, List.set_set]
      · show tYes _ _ _
        unfold tYes
        dsimp only
        rw [if_pos rfl]
        refine he M0 (D :: M) B _ H3 _ _ _ E4 w2 fun ρ5 y v H5 w5 x5 E6 r5 => ?_
        obtain ⟨hz, w5⟩ := w5
        have hD3 : H3 D = some (.lst acc) := s3 _ _ hD
        have hD5 : H5 D = some (.lst acc) := x5.keep D _ hDB hD3
        have up3 : Same (rm (D :: M) H2) (rm (D :: M) H3) := (Ext.same (M := D :: M) (B := B) s3).rm E2.sub
        refine ⟨acc, hD5, by rw [DtAll.len hA]; exact hz, items.length - (n + 1), by omega, rfl, (ρ5.set i .un).set j .un, acc ++ [v], ds ++ [y], hlt, w5, upd_same, ?_, ?_, fun a o nb nn e => by rw [upd_ne nn]; exact x5.keep a o nb (s3 _ _ (fr a o nb nn e)), fun a e => ?_⟩
        · rw [rm_upd (List.mem_cons_self ..)]
          exact DtAll.app (DtAll.up (x5.rm E4.sub) (DtAll.up up3 hA)) (.cons r5 .nil)
        · have q0 : EnvOk K M0 (D :: M) B H5 (((wipe σ [i, j]).set i (some v1)).set j (σ[j]?.getD none)) (ρ5.set j .un) := by
            refine E6.swap (i := j) (by simp only [List.length_set]) fun k n => ?_
            rw [get_set_ne (Ne.symm n), get_set_ne (Ne.symm n)]
          have q := q0.swap (σ := σ) (i := i) (by rw [List.length_set, List.length_set, hw, List.length_set, List.length_set]) fun k n => by
            by_cases c : k = j
            · subst c
              by_cases hk : k < σ.length
              · rw [get_set_eq (by rw [List.length_set, hw, List.length_set, List.length_set]; exact hk), List.getElem?_eq_getElem hk]; rfl
              · rw [List.getElem?_eq_none (by omega), List.getElem?_eq_none (by rw [List.length_set, List.length_set, hw, List.length_set, List.length_set]; omega)]
            · rw [get_set_ne (Ne.symm c), get_set_ne (Ne.symm n), hw, get_set_ne (Ne.symm n), get_set_ne (Ne.symm c)]
          rw [List.set_comm _ _ (Ne.symm hij)] at q
          refine ⟨q.len, q.sub, fun a h z => ?_, q.m0, fun j s hj => ?_, q.sep⟩
          · by_cases c : a = D
            · rw [c, upd_same] at z; cases z
            · rw [upd_ne c] at z; exact q.dom a h z
          · have z := q.slot j s hj
            have nl : ∀ l, l ∈ B → l ≠ D := fun l hl q => hDB (q ▸ hl)
            cases s with
            | un => trivial
            | dat d => obtain ⟨v, h1, h2⟩ := z; exact ⟨v, h1, by rw [rm_upd (List.mem_cons_self ..)]; exact h2⟩
            | scr d => obtain ⟨v, h1, h2⟩ := z; exact ⟨v, h1, by rw [rm_upd (List.mem_cons_self ..)]; exact h2⟩
            | own ds => obtain ⟨l, xs, h1, h2, h3, h4, h5⟩ := z; exact ⟨l, xs, h1, h2, h3, by rw [upd_ne (nl l h2)]; exact h4, by rw [rm_upd (List.mem_cons_self ..)]; exact h5⟩
            | bor l ds => obtain ⟨xs, h1, h2, h3, h4, h5⟩ := z; exact ⟨xs, h1, h2, h3, by rw [upd_ne (nl l h2)]; exact h4, by rw [rm_upd (List.mem_cons_self ..)]; exact h5⟩
        · by_cases c : a = D
          · rw [c, upd_same] at e; cases e
          · rw [upd_ne c] at e; exact lv a (s3.free (x5.live a e))
    · left
      have en : n = items.length := by omega
      rw [en] at w2 ⊢
      rw [List.drop_length] at w2
      refine ⟨hst, k ρ2 _ _ H2 w2 (x1.trans hEx) (E2.less E1.m0 E1.sub) (.lst (rm_of hDM hD) (DtAll.up (fun a o e => ?_) hA))⟩
      obtain ⟨z1, z2⟩ := rm_to e
      exact rm_of (fun c => z1 (List.mem_cons_of_mem _ c)) z2
/-- [elt for x, y in iter] -/
theorem de_lc2 (i j : Nat) {elt iter : Expr} {x y : Str} {px py pt pos : Pos} {kk : Nat} {scope : Scope} {wi : WI} (hN : ∀ l, (X l).N.Nodup) (hi : DI X K (.Tuple [.Name x px, .Name y py] kk pt) iter wi) (he : DE (blkX X scope) K elt we)
    (ok : ∀ l, blkC (X l).N (X l).env.scope scope [(x, i), (y, j)] = true := by intro l; decide +kernel) (hij : i ≠ j := by decide) (hK : ∀ l, (X l).K = K := by intro l; rfl)
    (hg : ∀ p, PG (blkX X scope p) (.Tuple [.Name x px, .Name y py] kk pt) (gTup (X p.1).K 2 (gCons (gName i) (gCons (gName j) gNil))) := by intro p; exact pg_tup rfl (pgs_cons (pg_name (by assumption) rfl (Or.inl rfl)) (pgs_cons (pg_name (by assumption) rfl (Or.inl rfl)) pgs_nil)))
    (hc : ∀ l, (X l).calm = true := by intro l; rfl) (hs : ∀ l x, foldedSetIterable iter (X l).env x = pure x := by intro _ _; rfl) : DE X K (.ListComp elt [⟨.Tuple [.Name x px, .Name y py] kk pt, iter, [], 0⟩] scope pos) (wLc2 i j wi we) := by
  obtain ⟨ti, i1, i2⟩ := hi
  obtain ⟨te, e1, e2⟩ := he
  exact ⟨tLc ti (gTup K 2 (gCons (gName i) (gCons (gName j) gNil))) tYes te [i, j], fun l => pe_lc (own := [(x, i), (y, j)]) (hc l) (hN l) (i1 l) (blkOk_by (ok l)) (fun s H C cl fp => by have q := hg (l, s, H, C, cl, fp); rw [hK] at q; exact q) (fun s H C cl fp => pts_nil) (fun s H C cl fp => e1 (l, s, H, C, cl, fp)) (hs l), lc_read2 hij i2 e2⟩
end Pm
namespace Pm
open PySem PySem.Spec PyProof.Rows L2 TL
/-! ### the law's wells and draws -/
theorem atI_0 {α : Type} {x : α} {l : List α} : atI (x :: l) 0 = some x := by
  unfold atI ixN
  rw [if_pos (by decide), if_pos (by simp only [List.length_cons]; omega)]; rfl
theorem atI_1 {α : Type} {x y : α} {l : List α} : atI (x :: y :: l) 1 = some y := by
  unfold atI ixN
  rw [if_pos (by decide), if_pos (by simp only [List.length_cons]; omega)]; rfl
theorem atI_2 {α : Type} {x y z : α} {l : List α} : atI (x :: y :: z :: l) 2 = some z := by
  unfold atI ixN
  rw [if_pos (by decide), if_pos (by simp only [List.length_cons]; omega)]; rfl
theorem ixN_0 {n : Nat} : ixN (n + 1) 0 = some 0 := by
  unfold ixN
  rw [if_pos (by decide), if_pos (by omega)]; rfl
theorem ixN_1 {n : Nat} : ixN (n + 1 + 1) 1 = some 1 := by
  unfold ixN
  rw [if_pos (by decide), if_pos (by omega)]; rfl
theorem ixN_2 {n : Nat} : ixN (n + 1 + 1 + 1) 2 = some 2 := by
  unfold ixN
  rw [if_pos (by decide), if_pos (by omega)]; rfl
local macro_rules | `(tactic| walk_at "dx") => `(tactic| simp only [wSeq, wIf, wTst, wOp, wOpO, wC, wVar, wOwn, wSet, wPut, wRet, wRetO, wRetN, wU, wSkip, wBreak, wCont, wIte, wAnd, wOr, wNot, wAndV, wOrV, wNotV, wCons, wNil, wTup, wLst, wSl, wSlO, wSo, wNo, wM, wJoin, wCall, wCallW, wSetF, wNew, wApp, wAsg, wPar, wAug, wFor, wSeqI, wRange1, wRange2, wDown, wEnum, wLc, wYes, wChain, wSlS, gN, gT, gCons', gNil', fSeq, fI0, fI, fInt, fIx, fAdd, fMul, fLen, fEq, fIs, isN, fIn, fNeg, fSl, fJoin, fSplit, fTuple, fList, fBools, Env.at, SV.items, SV.put, atI_0, atI_1, atI_2, List.length_cons, List.length_nil, ixN_0, ixN_1, ixN_2, List.set, Option.some.injEq, exists_eq_left', exists_eq_left, exists_eq', exists_eq, exists_and_left, exists_and_right, true_and, and_true, SV.dat.injEq, SV.own.injEq, SV.bor.injEq, SV.scr.injEq, PyData.int.injEq, PyData.str.injEq, PyData.list.injEq, PyData.tuple.injEq, PyData.bool.injEq, List.cons.injEq, and_assoc, Bool.true_eq_false, Bool.false_eq_true, false_implies, true_implies, implies_true, Bool.false_xor, Bool.true_xor])
/-- _law_draw(_law_well_here, _law_many): slots 0 _law_well_here 1 _law_many 2 _law_digit 3 _law_number 4 _law_more -/
def w_k_draw : WS :=
(wSeq (wIf (wTst (wOp fGe (wOpO fIx 0 (wC (.int 0))) (wOp fPow (wC (.int 10)) (wC (.int 18)))))
(wSeq (wSet 2 (wOp fMod (wU fInt (wOpO fIx 0 (wC (.int 0)))) (wVar 1)))
(wSeq (wPut 0 (wOp fDiv (wOpO fIx 0 (wC (.int 0))) (wVar 1)) (wC (.int 0)))
(wRet (wVar 2))))
wSkip)
(wSeq (wPut 0 (wOp fAdd (wOpO fIx 0 (wC (.int 1))) (wC (.int 1))) (wC (.int 1)))
(wSeq (wSet 3 (wOp fMod (wU fInt (wOp fMul (wU fInt (wOp fAdd (wOp fAdd (wOp fMod (wU fInt (wOpO fIx 0 (wC (.int 0)))) (wC (.int 2147483629))) (wOp fMul (wC (.int 60013)) (wOpO fIx 0 (wC (.int 1))))) (wC (.int 11)))) (wC (.int 48271)))) (wC (.int 2147483647))))
(wSeq (wSet 4 (wOp fMod (wU fInt (wOp fDiv (wOpO fIx 0 (wC (.int 0))) (wC (.int 2147483629)))) (wC (.int 9973))))
(wSeq (wSet 3 (wOp fMod (wU fInt (wOp fMul (wVar 3) (wOp fAdd (wOp fAdd (wOp fDiv (wVar 3) (wC (.int 1013))) (wC (.int 40692))) (wVar 4)))) (wC (.int 2147483587))))
(wRet (wOp fMod (wU fInt (wOp fDiv (wOp fMod (wU fInt (wOp fMul (wVar 3) (wOp fAdd (wOp fDiv (wVar 3) (wC (.int 2003))) (wC (.int 69621))))) (wC (.int 2147483563))) (wC (.int 5)))) (wVar 1))))))))

theorem cmul_mod {y m z : Int} (h0 : 0 < m) (h1 : m < 2 ^ 62) : CMul (y % m) z := by
  have a := Int.emod_nonneg y (Int.ne_of_gt h0)
  have b := Int.emod_lt_of_pos y h0
  exact .inl ⟨by omega, by omega⟩
theorem cdiv_of {y n : Int} (h0 : 0 < n) (h1 : n < 2 ^ 62) : CDivW y n := wide_div (b := 62) h0 (by omega) (by decide) (by decide)
def S_k_draw : SpW := fun ws ds P => ∃ (a b n : Int) (r : List PyData), ws = .int a :: .int b :: r ∧ ds = [.int n] ∧ 0 < n ∧ n < 2 ^ 62 ∧ ∀ a' b' d : Int, 0 ≤ d → d < n → P (.int a' :: .int b' :: r) (.int d)
theorem l_k_draw : ∀ ws ds P, S_k_draw ws ds P → ds.length + 1 = 2 := by
  rintro ws ds P ⟨_, _, _, _, _, rfl, _⟩; rfl
theorem m_k_draw : ∀ l ws ds Q, S_k_draw ws ds Q → w_k_draw { nx := fun ρ => ∃ ws', ρ.at 0 = .bor l ws' ∧ Q ws' .none, rt := fun ρ d => ∃ ws', ρ.at 0 = .bor l ws' ∧ Q ws' d } (startW l ["_law_well_here", "_law_many", "_law_digit", "_law_number", "_law_more"] ws ds) := by
  rintro l ws ds Q ⟨a, b, n, r, rfl, rfl, h0, h1, k⟩
  show w_k_draw _ [.bor l (.int a :: .int b :: r), .dat (.int n), .un, .un, .un]
  unfold w_k_draw
  walk_at "dx"
  refine ⟨⟨by decide, by decide, by decide⟩, fun _ => ⟨h0, cdiv_of h0 h1, k _ _ _ (Int.emod_nonneg _ (Int.ne_of_gt h0)) (Int.emod_lt_of_pos _ h0)⟩, fun _ => ⟨by decide, .inl ⟨by decide, by decide⟩, .inr ⟨by decide, by decide⟩, by decide, cdiv_of (by decide) (by decide), by decide,
    cdiv_of (by decide) (by decide), cmul_mod (by decide) (by decide), by decide, cdiv_of (by decide) (by decide), cmul_mod (by decide) (by decide), by decide, cdiv_of (by decide) (by decide), h0, k _ _ _ (Int.emod_nonneg _ (Int.ne_of_gt h0)) (Int.emod_lt_of_pos _ h0)⟩⟩
/-- _law_one(_law_well_here, _law_some): slots 0 _law_well_here 1 _law_some -/
def w_k_one : WS :=
(wRet (wOp fIx (wVar 1) (wCallW S_k_draw 0 (wCons (wU fLen (wVar 1)) wNil))))

/-- a well: two numbers, then what stays -/
def Well (r ws : List PyData) : Prop := ∃ a b : Int, ws = .int a :: .int b :: r
def S_k_one : SpW := fun ws ds P => ∃ (r xs : List PyData), Well r ws ∧ ds = [.list xs] ∧ xs ≠ [] ∧ xs.length < 1000 ∧ ∀ ws' d, Well r ws' → d ∈ xs → P ws' d
theorem l_k_one : ∀ ws ds P, S_k_one ws ds P → ds.length + 1 = 2 := by
  rintro ws ds P ⟨_, _, _, rfl, _⟩; rfl
theorem atI_nat' {α : Type} {xs : List α} {d : Int} (h0 : 0 ≤ d) (h1 : d < xs.length) : ∃ x, atI xs d = some x ∧ x ∈ xs := by
  unfold atI ixN
  rw [if_pos h0, if_pos h1]
  have hl : d.toNat < xs.length := by omega
  exact ⟨xs[d.toNat], by simp [hl], List.getElem_mem _⟩
theorem m_k_one : ∀ l ws ds Q, S_k_one ws ds Q → w_k_one { nx := fun ρ => ∃ ws', ρ.at 0 = .bor l ws' ∧ Q ws' .none, rt := fun ρ d => ∃ ws', ρ.at 0 = .bor l ws' ∧ Q ws' d } (startW l ["_law_well_here", "_law_some"] ws ds) := by
  rintro l ws ds Q ⟨r, xs, ⟨a, b, rfl⟩, rfl, h0, h1, k⟩
  show w_k_one _ [.bor l (.int a :: .int b :: r), .dat (.list xs)]
  unfold w_k_one
  walk_at "dx"
  have hl : 0 < xs.length := List.length_pos_iff.mpr h0
  refine ⟨a, b, _, r, rfl, rfl, by omega, by omega, fun a' b' d d0 d1 => ?_⟩
  obtain ⟨x, hx, hm⟩ := atI_nat' d0 d1
  exact ⟨x, hx, k _ _ ⟨_, _, rfl⟩ hm⟩
/-- each turn of a comprehension keeps C and makes a G -/
theorem lcD_inv {i : Nat} {we : WE} (C : Env → Prop) (G : PyData → Prop) {P : Env → List PyData → Prop} (turn : ∀ (d : PyData) (ρ : Env) (Q : Env → PyData → Prop), C ρ → (∀ ρ' y, C (ρ'.set i .un) → G y → Q ρ' y) → we (ρ.set i (.dat d)) Q) :
    ∀ (items : List PyData) (ρ : Env) (acc : List PyData), C ρ → acc.length + items.length ≤ sizeLine → (∀ ρ' ys, C ρ' → ys.length = items.length → (∀ y, y ∈ ys → G y) → P ρ' (acc ++ ys)) → lcD i wYes we items ρ acc P
  | [], ρ, acc, c, _, k => by
    have q := k ρ [] c rfl (fun y h => by cases h)
    rw [List.append_nil] at q
    exact q
  | d :: ds, ρ, acc, c, hz, k => by
    show wYes (ρ.set i (.dat d)) _
    refine ⟨fun _ => turn d ρ _ c fun ρ' y c' g => ⟨by rw [List.length_cons] at hz; omega, ?_⟩, fun e => by cases e⟩
    refine lcD_inv C G turn ds _ _ c' (by rw [List.length_append, List.length_singleton]; rw [List.length_cons] at hz; omega) fun ρ2 ys c2 hl hg => ?_
    rw [List.append_assoc]
    refine k ρ2 (y :: ys) c2 (by rw [List.length_cons, List.length_cons, hl]) fun z hz => ?_
    rcases List.mem_cons.mp hz with e | e
    · rw [e]; exact g
    · exact hg z e
theorem joinL_nil : ∀ ls : List (List Nat), joinL [] ls = ls.flatten
  | [] => rfl
  | [p] => by simp [joinL]
  | p :: q :: r => by
    show p ++ ([] ++ joinL [] (q :: r)) = _
    rw [joinL_nil (q :: r)]; simp
theorem join_none (ys : List Str) : Txt.join ⟨#[]⟩ ys = ⟨(ys.map tl).flatten.toArray⟩ := by
  have e : tl (Txt.join ⟨#[]⟩ ys) = (ys.map tl).flatten := by
    rw [join_eq, tl_join]
    exact joinL_nil _
  generalize Txt.join ⟨#[]⟩ ys = z at e
  obtain ⟨⟨z⟩⟩ := z
  have e' : z = (ys.map tl).flatten := e
  rw [e']
theorem sum_le {n : Nat} : ∀ {ys : List Str}, (∀ y, y ∈ ys → y.length ≤ n) → (ys.map (·.length)).sum ≤ ys.length * n
  | [], _ => by simp
  | y :: ys, h => by
    have a := h y (List.mem_cons_self ..)
    have b := sum_le fun z hz => h z (List.mem_cons_of_mem _ hz)
    rw [List.map_cons, List.sum_cons, List.length_cons, Nat.succ_mul]
    omega
theorem flat_len : ∀ ys : List Str, (ys.map tl).flatten.length = (ys.map (·.length)).sum
  | [] => rfl
  | y :: ys => by
    rw [List.map_cons, List.flatten_cons, List.length_append, flat_len ys, List.map_cons, List.sum_cons]
    simp [tl, Str.length]
/-- all are texts -/
theorem strs_of {ys : List PyData} {zs : List Str} (h : ∀ y, y ∈ ys → y ∈ zs.map PyData.str) : ∃ us : List Str, ys = us.map .str ∧ ∀ u, u ∈ us → u ∈ zs := by
  induction ys with
  | nil => exact ⟨[], rfl, fun u h => by cases h⟩
  | cons y ys ih =>
    obtain ⟨us, rfl, h2⟩ := ih fun z hz => h z (List.mem_cons_of_mem _ hz)
    obtain ⟨u, hu, rfl⟩ := List.mem_map.mp (h y (List.mem_cons_self ..))
    refine ⟨u :: us, rfl, fun v hv => ?_⟩
    rcases List.mem_cons.mp hv with e | e
    · rw [e]; exact hu
    · exact h2 v e
end Pm
namespace Pm
open PySem PySem.Spec PyProof.Rows L2 TL
local macro_rules | `(tactic| walk_at "dx") => `(tactic| simp only [wSeq, wIf, wTst, wOp, wOpO, wC, wVar, wOwn, wSet, wPut, wRet, wRetO, wRetN, wU, wSkip, wBreak, wCont, wIte, wAnd, wOr, wNot, wAndV, wOrV, wNotV, wCons, wNil, wTup, wLst, wSl, wSlO, wSo, wNo, wM, wJoin, wCall, wCallW, wSetF, wNew, wApp, wAsg, wPar, wAug, wFor, wSeqI, wRange1, wRange2, wDown, wEnum, wLc, wYes, wChain, wSlS, gN, gT, gCons', gNil', fSeq, fI0, fI, fInt, fIx, fAdd, fMul, fLen, fEq, fIs, isN, fIn, fNeg, fSl, fJoin, fSplit, fTuple, fList, fBools, Env.at, SV.items, SV.put, atI_0, atI_1, atI_2, List.length_cons, List.length_nil, ixN_0, ixN_1, ixN_2, List.set, Option.some.injEq, exists_eq_left', exists_eq_left, exists_eq', exists_eq, exists_and_left, exists_and_right, true_and, and_true, SV.dat.injEq, SV.own.injEq, SV.bor.injEq, SV.scr.injEq, PyData.int.injEq, PyData.str.injEq, PyData.list.injEq, PyData.tuple.injEq, PyData.bool.injEq, List.cons.injEq, and_assoc, Bool.true_eq_false, Bool.false_eq_true, false_implies, true_implies, implies_true, Bool.false_xor, Bool.true_xor])
/-! ### columns -/
abbrev c_STOP : PyData := .int 4
abbrev c_WHITE : PyData := .str (PySem.Str.ofString " \t")
def widthN (s : Nat) (c : Int) : Int := if s = 9 then 4 - c % 4 else 1
def S_width : SpD := fun ds P => ∃ (s : Nat) (c : Int), ds = [.str ⟨#[s]⟩, .int c] ∧ P (.int (widthN s c))
/-- lines_of(text): slots 0 text 1 found -/
def w_lines_of : WS :=
(wSeq (wSet 1 (wM fSplit (wVar 0) (wCons (wC (.str (PySem.Str.ofString "\n"))) wNil)))
(wRet (wIte (wTst (wOp (fEq false) (wOp fIx (wVar 1) (wU fNeg (wC (.int 1)))) (wC (.str (PySem.Str.ofString ""))))) (wSl (wVar 1) wNo (wSo (wU fNeg (wC (.int 1))))) (wVar 1))))

/-- whole(line): slots 0 line -/
def w_whole : WS :=
(wRet (wTup (wCons (wVar 0) (wCons (wC (.int 0)) (wCons (wC (.int 0)) wNil)))))

/-- width(sign, column): slots 0 sign 1 column -/
def w_width : WS :=
(wRet (wIte (wTst (wOp (fEq false) (wVar 0) (wC (.str (PySem.Str.ofString "\t"))))) (wOp fSub (wC c_STOP) (wOp fMod (wVar 1) (wC c_STOP))) (wC (.int 1))))

def w_indent_b1 : WS :=
(wSeq (wIf (wTst (wOp (fIn true) (wVar 5) (wC c_WHITE)))
wBreak
wSkip)
(wSet 4 (wOp fAdd (wVar 4) (wCall S_width (wCons (wVar 5) (wCons (wVar 4) wNil))))))
/-- indent(rest): slots 0 rest 1 text 2 column 3 held 4 at 5 sign -/
def w_indent : WS :=
(wSeq (wAsg (wVar 0) (gT 3 (gCons' (gN 1) (gCons' (gN 2) (gCons' (gN 3) gNil')))))
(wSeq (wSet 4 (wOp fAdd (wVar 2) (wVar 3)))
(wSeq (wFor (wSeqI (wVar 1)) (gN 5) w_indent_b1)
(wRet (wOp fSub (wVar 4) (wVar 2))))))

def w_taken_b1 : WS :=
(wSeq (wIf (wTst (wOp (fEq false) (wVar 4) (wC (.int 0))))
(wSeq (wSet 4 (wCall S_width (wCons (wOp fIx (wVar 2) (wC (.int 0))) (wCons (wVar 3) wNil))))
(wSet 2 (wSl (wVar 2) (wSo (wC (.int 1))) wNo)))
wSkip)
(wSeq (wSet 3 (wOp fAdd (wVar 3) (wC (.int 1))))
(wSet 4 (wOp fSub (wVar 4) (wC (.int 1))))))
/-- taken(rest, many): slots 0 rest 1 many 2 text 3 column 4 held 5 turn -/
def w_taken : WS :=
(wSeq (wAsg (wVar 0) (gT 3 (gCons' (gN 2) (gCons' (gN 3) (gCons' (gN 4) gNil')))))
(wSeq (wFor (wRange1 (wCons (wVar 1) wNil)) (gN 5) w_taken_b1)
(wRet (wTup (wCons (wVar 2) (wCons (wVar 3) (wCons (wVar 4) wNil)))))))

/-- told(rest): slots 0 rest -/
def w_told : WS :=
(wRet (wOp fAdd (wOp fMul (wC (.str (PySem.Str.ofString " "))) (wOp fIx (wVar 0) (wC (.int 2)))) (wOp fIx (wVar 0) (wC (.int 0)))))

theorem l_width : ∀ ds P, S_width ds P → ds.length = 2 := by rintro ds P ⟨_, _, rfl, _⟩; rfl
theorem tab_eq : PySem.Str.ofString "\t" = ⟨#[9]⟩ := by decide +kernel
theorem white_eq : PySem.Str.ofString " \t" = ⟨#[32, 9]⟩ := by decide +kernel
theorem blank_eq : PySem.Str.ofString " " = ⟨#[32]⟩ := by decide +kernel
theorem feed_eq : PySem.Str.ofString "\n" = ⟨#[10]⟩ := by decide +kernel
theorem none_eq : PySem.Str.ofString "" = ⟨#[]⟩ := by decide +kernel
theorem m_width : ∀ ds Q, S_width ds Q → w_width { nx := fun _ => Q .none, rt := fun _ d => Q d } (startE ["sign", "column"] ds) := by
  rintro ds Q ⟨s, c, rfl, k⟩
  show w_width _ [.dat (.str ⟨#[s]⟩), .dat (.int c)]
  unfold w_width
  walk_at "dx"
  rw [tab_eq]
  unfold widthN at k
  by_cases h : s = 9
  · subst h
    rw [if_pos rfl] at k
    exact ⟨fun _ => ⟨by decide, k⟩, fun e => absurd e (by simp)⟩
  · rw [if_neg h] at k
    exact ⟨fun e => absurd (by simpa using e) h, fun _ => k⟩
/-- a text by its signs -/
abbrev tx (t : List Nat) : Str := ⟨t.toArray⟩
theorem signs_tx (t : List Nat) : signsD (tx t) = t.map fun c => .str ⟨#[c]⟩ := by simp [signsD, tx]
theorem tx_len (t : List Nat) : (tx t).length = t.length := by simp [Str.length]
theorem tx_app (a b : List Nat) : tx a ++ tx b = tx (a ++ b) := by
  show (⟨a.toArray ++ b.toArray⟩ : Str) = ⟨(a ++ b).toArray⟩
  simp
theorem inS_one (c : Nat) (z : Str) : inS ⟨#[c]⟩ z = decide (c ∈ z.cps.toList) := rfl
theorem cutS_one (s : Nat) (r : List Nat) : cutS (tx (s :: r)) (some 1) none = tx r := by
  have h : HT.sIx (r.length + 1) 0 (some 1) = 1 := by
    show HT.sIx (r.length + 1) 0 (some ((1 : Nat) : Int)) = 1
    rw [HT.sIx_nat]
    omega
  have hl : (tx (s :: r)).length = r.length + 1 := by rw [tx_len]; rfl
  unfold cutS
  rw [hl, h]
  show (⟨(List.take (r.length + 1 - 1) (List.drop 1 (s :: r))).toArray⟩ : Str) = _
  simp
def isW (s : Nat) : Prop := s = 32 ∨ s = 9
instance (s : Nat) : Decidable (isW s) := by unfold isW; infer_instance
def goCol : List Nat → Int → Int
  | [], c => c
  | s :: r, c => if isW s then goCol r (c + widthN s c) else c
def S_indent : SpD := fun ds P => ∃ (t : List Nat) (c h : Int), ds = [.tuple [.str (tx t), .int c, .int h]] ∧ P (.int (goCol t (c + h) - c))
theorem l_indent : ∀ ds P, S_indent ds P → ds.length = 1 := by rintro ds P ⟨_, _, _, rfl, _⟩; rfl
theorem f_indent {E : DEnds} {a0 a1 a2 a3 : SV} : ∀ (t : List Nat) (c : Int) (v : SV), (∀ v', E.nx [a0, a1, a2, a3, .dat (.int (goCol t c)), v']) → forD (gN 5) w_indent_b1 E (t.map fun c => .str ⟨#[c]⟩) [a0, a1, a2, a3, .dat (.int c), v]
  | [], c, v, k => k v
  | s :: r, c, v, k => by
    rw [List.map_cons]
    unfold forD w_indent_b1
    walk_at "dx"
    rw [white_eq, inS_one]
    unfold goCol at k
    by_cases h : isW s
    · rw [if_pos h] at k
      have e : decide (s ∈ (⟨#[32, 9]⟩ : Str).cps.toList) = true := by unfold isW at h; simpa using h
      rw [e]
      exact ⟨fun z => by simp at z, fun _ => ⟨s, c, rfl, f_indent r _ _ k⟩⟩
    · rw [if_neg h] at k
      have e : decide (s ∈ (⟨#[32, 9]⟩ : Str).cps.toList) = false := by unfold isW at h; simpa using h
      rw [e]
      exact ⟨fun _ => k _, fun z => by simp at z⟩
theorem m_indent : ∀ ds Q, S_indent ds Q → w_indent { nx := fun _ => Q .none, rt := fun _ d => Q d } (startE ["rest", "text", "column", "held", "at", "sign"] ds) := by
  rintro ds Q ⟨t, c, h, rfl, k⟩
  show w_indent _ [.dat (.tuple [.str (tx t), .int c, .int h]), .un, .un, .un, .un, .un]
  unfold w_indent
  walk_at "dx"
  rw [signs_tx]
  refine f_indent t _ _ fun v' => ?_
  walk_at "dx"
  exact k
/-- one blank column taken -/
def step : List Nat × Int × Int → Option (List Nat × Int × Int)
  | (t, c, h) => if h = 0 then (match t with
    | [] => none
    | s :: r => some (r, c + 1, widthN s c - 1)) else some (t, c + 1, h - 1)
def takeN : Nat → List Nat × Int × Int → Option (List Nat × Int × Int)
  | 0, x => some x
  | n + 1, x => (step x).bind (takeN n)
def S_taken : SpD := fun ds P => ∃ (t : List Nat) (c h : Int) (n : Nat) (t' : List Nat) (c' h' : Int), ds = [.tuple [.str (tx t), .int c, .int h], .int n] ∧ t.length ≤ 100000 ∧ n < 100000 ∧ takeN n (t, c, h) = some (t', c', h') ∧ P (.tuple [.str (tx t'), .int c', .int h'])
theorem l_taken : ∀ ds P, S_taken ds P → ds.length = 2 := by rintro ds P ⟨_, _, _, _, _, _, _, rfl, _⟩; rfl
theorem line_of {n : Nat} (h : n ≤ 1000000) : n ≤ sizeLine := Nat.le_trans h (by decide)
theorem f_taken {E : DEnds} {a0 a1 : SV} {t' : List Nat} {c' h' : Int} (k : ∀ v', E.nx [a0, a1, .dat (.str (tx t')), .dat (.int c'), .dat (.int h'), v']) : ∀ (ds : List PyData) (t : List Nat) (c h : Int) (v : SV), t.length ≤ 100000 → takeN ds.length (t, c, h) = some (t', c', h') →
    forD (gN 5) w_taken_b1 E ds [a0, a1, .dat (.str (tx t)), .dat (.int c), .dat (.int h), v]
  | [], t, c, h, v, _, e => by
    have e := Option.some.inj e
    injection e with e1 e2
    injection e2 with e2 e3
    subst e1 e2 e3
    exact k v
  | d :: ds, t, c, h, v, hz, e => by
    unfold forD w_taken_b1
    walk_at "dx"
    rw [List.length_cons] at e
    unfold takeN step at e
    dsimp only at e
    by_cases hh : h = 0
    · rw [if_pos hh] at e
      refine ⟨fun _ => ?_, fun z => absurd hh (by simpa using z)⟩
      cases t with
      | nil => cases e
      | cons s r =>
        refine ⟨line_of (by rw [tx_len]; omega), s, atI_0, s, c, rfl, line_of (by rw [tx_len]; omega), ?_⟩
        rw [cutS_one]
        exact f_taken k ds r (c + 1) _ _ (by simp at hz; omega) e
    · rw [if_neg hh] at e
      refine ⟨fun z => absurd (by simpa using z) hh, fun _ => ?_⟩
      exact f_taken k ds t (c + 1) (h - 1) _ hz e
theorem m_taken : ∀ ds Q, S_taken ds Q → w_taken { nx := fun _ => Q .none, rt := fun _ d => Q d } (startE ["rest", "many", "text", "column", "held", "turn"] ds) := by
  rintro ds Q ⟨t, c, h, n, t', c', h', rfl, hz, hn, e, k⟩
  show w_taken _ [.dat (.tuple [.str (tx t), .int c, .int h]), .dat (.int n), .un, .un, .un, .un]
  unfold w_taken
  walk_at "dx"
  refine ⟨by omega, by omega, ?_⟩
  refine f_taken (t' := t') (c' := c') (h' := h') (fun v' => ?_) _ t c h _ hz (by rw [rangeD_len]; simpa using e)
  walk_at "dx"
  exact ⟨by decide, k⟩
def S_told : SpD := fun ds P => ∃ (t : List Nat) (c : Int) (h : Nat), ds = [.tuple [.str (tx t), .int c, .int h]] ∧ t.length ≤ 100000 ∧ h ≤ 1000 ∧ P (.str (repS (tx [32]) h ++ tx t))
theorem l_told : ∀ ds P, S_told ds P → ds.length = 1 := by rintro ds P ⟨_, _, _, rfl, _⟩; rfl
theorem repS_len (x : Str) (n : Nat) : (repS x n).length = n * x.length := by
  unfold repS
  simp [Str.length]
theorem m_told : ∀ ds Q, S_told ds Q → w_told { nx := fun _ => Q .none, rt := fun _ d => Q d } (startE ["rest"] ds) := by
  rintro ds Q ⟨t, c, h, rfl, hz, hh, k⟩
  show w_told _ [.dat (.tuple [.str (tx t), .int c, .int h])]
  unfold w_told
  walk_at "dx"
  rw [blank_eq]
  refine ⟨by omega, by omega, ?_, ?_, ?_⟩
  · show 1 * (h : Int).toNat ≤ _
    rw [Int.toNat_natCast]
    exact line_of (by omega)
  · have q := tx_len t
    rw [repS_len]
    show (h : Int).toNat * 1 + _ ≤ _
    rw [Int.toNat_natCast]
    exact line_of (by omega)
  · rw [Int.toNat_natCast]
    exact k
def S_whole : SpD := fun ds P => ∃ d, ds = [d] ∧ P (.tuple [d, .int 0, .int 0])
theorem l_whole : ∀ ds P, S_whole ds P → ds.length = 1 := by rintro ds P ⟨_, rfl, _⟩; rfl
theorem m_whole : ∀ ds Q, S_whole ds Q → w_whole { nx := fun _ => Q .none, rt := fun _ d => Q d } (startE ["line"] ds) := by
  rintro ds Q ⟨d, rfl, k⟩
  show w_whole _ [.dat d]
  unfold w_whole
  walk_at "dx"
  exact ⟨by decide, k⟩
theorem atI_end {α : Type} (ys : List α) (z : α) : atI (ys ++ [z]) (-1) = some z := by
  unfold atI ixN
  rw [if_neg (by decide), if_pos (by rw [List.length_append, List.length_singleton]; omega)]
  have e : ((-1 : Int) + ((ys ++ [z]).length : Nat)).toNat = ys.length := by rw [List.length_append, List.length_singleton]; omega
  show (ys ++ [z])[((-1 : Int) + ((ys ++ [z]).length : Nat)).toNat]? = some z
  rw [e]
  simp
theorem cut_end {α : Type} (ys : List α) (z : α) : cutD (ys ++ [z]) none (some (-1)) = ys := by
  have h : HT.sIx (ys ++ [z]).length (ys ++ [z]).length (some (-1)) = ys.length := by
    unfold HT.sIx
    dsimp only
    rw [if_pos (by decide), List.length_append, List.length_singleton]; omega
  unfold cutD
  rw [h]
  show List.take (ys.length - 0) (List.drop 0 (ys ++ [z])) = ys
  simp
def S_lines_of : SpD := fun ds P => ∃ (x : Str) (ys : List Str) (z : Str), ds = [.str x] ∧ x.length + 2 ≤ sizeLine ∧ Txt.split x ⟨#[10]⟩ = ys ++ [z] ∧ P (.list ((if z = ⟨#[]⟩ then ys else ys ++ [z]).map .str))
theorem l_lines_of : ∀ ds P, S_lines_of ds P → ds.length = 1 := by rintro ds P ⟨_, _, _, rfl, _⟩; rfl
theorem m_lines_of : ∀ ds Q, S_lines_of ds Q → w_lines_of { nx := fun _ => Q .none, rt := fun _ d => Q d } (startE ["text", "found"] ds) := by
  rintro ds Q ⟨x, ys, z, rfl, hz, e, k⟩
  show w_lines_of _ [.dat (.str x), .un]
  unfold w_lines_of
  walk_at "dx"
  rw [feed_eq, e, none_eq, List.map_append, List.map_singleton, atI_end, cut_end]
  walk_at "dx"
  by_cases c : z = ⟨#[]⟩
  · rw [if_pos c] at k
    exact ⟨rfl, hz, fun _ => k, fun q => by simp [c] at q⟩
  · rw [if_neg c, List.map_append, List.map_singleton] at k
    exact ⟨rfl, hz, fun q => absurd (by simpa using q) c, fun _ => k⟩
theorem atI_get {α : Type} {l : List α} {i : Int} {k : Nat} {x : α} (hi : i = (k : Int)) (h : l[k]? = some x) : atI l i = some x := by
  have hl := (List.getElem?_eq_some_iff.mp h).1
  unfold atI ixN
  rw [if_pos (by omega), if_pos (by omega)]
  show l[i.toNat]? = some x
  have e : i.toNat = k := by omega
  rw [e]; exact h
end Pm
namespace Pm
open PySem PySem.Spec PyProof.Rows L2 TL
local macro_rules | `(tactic| walk_at "dx") => `(tactic| simp only [wSeq, wIf, wTst, wOp, wOpO, wC, wVar, wOwn, wSet, wPut, wRet, wRetO, wRetN, wU, wSkip, wBreak, wCont, wIte, wAnd, wOr, wNot, wAndV, wOrV, wNotV, wCons, wNil, wTup, wLst, wSl, wSlO, wSo, wNo, wM, wJoin, wCall, wCallW, wSetF, wNew, wApp, wAsg, wPar, wAug, wFor, wSeqI, wRange1, wRange2, wDown, wEnum, wLc, wYes, wChain, wSlS, wIsi, wIsi2, isiD, wDrop, wNever, FZ, fStrip, fLstrip, fRstrip, fStarts, fStarts3, fEnds, fFind, fFind3, fFind4, fCount, fCount4, wLc2, wZip, gN, gT, gCons', gNil', fSeq, fI0, fI, fInt, fIx, fAdd, fMul, fLen, fEq, fIs, isN, fIn, fNeg, fSl, fJoin, fSplit, fTuple, fList, fBools, Env.at, SV.items, SV.put, atI_0, atI_1, atI_2, List.length_cons, List.length_nil, ixN_0, ixN_1, ixN_2, List.set, Option.some.injEq, exists_eq_left', exists_eq_left, exists_eq', exists_eq, exists_and_left, exists_and_right, true_and, and_true, SV.dat.injEq, SV.own.injEq, SV.bor.injEq, SV.scr.injEq, PyData.int.injEq, PyData.str.injEq, PyData.list.injEq, PyData.tuple.injEq, PyData.bool.injEq, List.cons.injEq, and_assoc, Bool.true_eq_false, Bool.false_eq_true, false_implies, true_implies, implies_true, Bool.false_xor, Bool.true_xor])
/-! ### signs -/
def punctL : List Nat := [33, 34, 35, 36, 38, 39, 40, 41, 42, 43, 44, 45, 46, 47, 58, 59, 60, 61, 62, 63, 64, 91, 92, 93, 94, 95, 96, 123, 124, 125, 126]
def letterL : List Nat := [97, 98, 99, 100, 101, 102, 103, 104, 105, 106, 107, 108, 109, 110, 111, 112, 113, 114, 115, 116, 117, 118, 119, 120, 121, 122, 65, 66, 67, 68, 69, 70, 71, 72, 73, 74, 75, 76, 77, 78, 79, 80, 81, 82, 83, 84, 85, 86, 87, 88, 89, 90]
def digitL : List Nat := [48, 49, 50, 51, 52, 53, 54, 55, 56, 57]
theorem punct_eq : PySem.Str.ofString "!\"#$&'()*+,-./:;<=>?\x40[\\]^_`{|}~" = tx punctL := by decide +kernel
theorem letter_eq : PySem.Str.ofString "abcdefghijklmnopqrstuvwxyzABCDEFGHIJKLMNOPQRSTUVWXYZ" = tx letterL := by decide +kernel
theorem digit_eq : PySem.Str.ofString "0123456789" = tx digitL := by decide +kernel
theorem white3_eq : PySem.Str.ofString " \t\n" = tx [32, 9, 10] := by decide +kernel
/-- is_punctuation(sign): slots 0 sign -/
def w_is_punctuation : WS :=
(wRet (wAndV (wOp (fEq true) (wVar 0) (wC (.str (PySem.Str.ofString "")))) (wOp (fIn false) (wVar 0) (wC (.str (PySem.Str.ofString "!\"#$&'()*+,-./:;<=>?\x40[\\]^_`{|}~"))))))

def w_first_wrong_b1 : WS :=
(wIf (wAnd (wTst (wOp (fIn true) (wVar 2) (wC (.str (PySem.Str.ofString " \t\n"))))) (wAnd (wTst (wOp (fIn true) (wVar 2) (wC (.str (PySem.Str.ofString "abcdefghijklmnopqrstuvwxyzABCDEFGHIJKLMNOPQRSTUVWXYZ"))))) (wAnd (wTst (wOp (fIn true) (wVar 2) (wC (.str (PySem.Str.ofString "0123456789"))))) (wTst (wOp (fIn true) (wVar 2) (wC (.str (PySem.Str.ofString "!\"#$&'()*+,-./:;<=>?\x40[\\]^_`{|}~"))))))))
(wRet (wVar 1))
wSkip)
/-- first_wrong(text): slots 0 text 1 at 2 sign -/
def w_first_wrong : WS :=
(wSeq (wFor (wEnum (wVar 0)) (gT 2 (gCons' (gN 1) (gCons' (gN 2) gNil'))) w_first_wrong_b1)
(wRet (wC (.none))))

theorem tx_eta (x : Str) : x = tx x.cps.toList := by obtain ⟨⟨x⟩⟩ := x; rfl
theorem tx_inj {a b : List Nat} (h : tx a = tx b) : a = b := by
  have : (tx a).cps.toList = (tx b).cps.toList := by rw [h]
  simpa using this
theorem tx_nil : PySem.Str.ofString "" = tx [] := none_eq
/-- a sign, or nothing -/
def isP : List Nat → Bool
  | [c] => decide (c ∈ punctL)
  | _ => false
def S_is_punctuation : SpD := fun ds P => ∃ t : List Nat, ds = [.str (tx t)] ∧ t.length ≤ 1 ∧ P (.bool (isP t))
theorem l_is_punctuation : ∀ ds P, S_is_punctuation ds P → ds.length = 1 := by rintro ds P ⟨_, rfl, _⟩; rfl
theorem m_is_punctuation : ∀ ds Q, S_is_punctuation ds Q → w_is_punctuation { nx := fun _ => Q .none, rt := fun _ d => Q d } (startE ["sign"] ds) := by
  rintro ds Q ⟨t, rfl, hl, k⟩
  show w_is_punctuation _ [.dat (.str (tx t))]
  unfold w_is_punctuation
  walk_at "dx"
  rw [punct_eq, tx_nil]
  match t, hl, k with
  | [], _, k => exact ⟨fun z => by simp at z, fun _ => k⟩
  | [c], _, k => exact ⟨fun _ => by rw [inS_one]; exact k, fun z => by simp [tx] at z⟩
def okSign (c : Nat) : Bool := decide (c ∈ [32, 9, 10]) || decide (c ∈ letterL) || decide (c ∈ digitL) || decide (c ∈ punctL)
def firstW : List Nat → Nat → Option Nat
  | [], _ => none
  | c :: r, i => if okSign c = true then firstW r (i + 1) else some i
def optD : Option Nat → PyData
  | none => .none
  | some i => .int (i : Int)
def S_first_wrong : SpD := fun ds P => ∃ t : List Nat, ds = [.str (tx t)] ∧ P (optD (firstW t 0))
theorem l_first_wrong : ∀ ds P, S_first_wrong ds P → ds.length = 1 := by rintro ds P ⟨_, rfl, _⟩; rfl
theorem t_first_wrong {E : DEnds} {a0 : SV} {i c : Nat} (k1 : okSign c = true → E.nx [a0, .dat (.int (i : Int)), .dat (.str ⟨#[c]⟩)]) (k2 : okSign c = false → E.rt [a0, .dat (.int (i : Int)), .dat (.str ⟨#[c]⟩)] (.int (i : Int))) : w_first_wrong_b1 E [a0, .dat (.int (i : Int)), .dat (.str ⟨#[c]⟩)] := by
  unfold w_first_wrong_b1
  walk_at "dx"
  rw [white3_eq, letter_eq, digit_eq, punct_eq, inS_one, inS_one, inS_one, inS_one]
  show ((!decide (c ∈ [32, 9, 10])) = true → _) ∧ _
  have e : okSign c = (decide (c ∈ [32, 9, 10]) || decide (c ∈ letterL) || decide (c ∈ digitL) || decide (c ∈ punctL)) := rfl
  rw [e] at k1 k2
  show (_ → (((!decide (c ∈ letterL)) = true → _) ∧ _)) ∧ _
  generalize decide (c ∈ [32, 9, 10]) = b1 at k1 k2 ⊢
  refine ⟨fun h1 => ?_, fun h1 => k1 (by cases b1 <;> simp_all)⟩
  have h1' : b1 = false := by cases b1 <;> simp_all
  subst h1'
  show ((!decide (c ∈ letterL)) = true → _) ∧ _
  generalize decide (c ∈ letterL) = b2 at k1 k2 ⊢
  refine ⟨fun h2 => ?_, fun h2 => k1 (by cases b2 <;> simp_all)⟩
  have h2' : b2 = false := by cases b2 <;> simp_all
  subst h2'
  show ((!decide (c ∈ digitL)) = true → _) ∧ _
  generalize decide (c ∈ digitL) = b3 at k1 k2 ⊢
  refine ⟨fun h3 => ?_, fun h3 => k1 (by cases b3 <;> simp_all)⟩
  have h3' : b3 = false := by cases b3 <;> simp_all
  subst h3'
  show ((!decide (c ∈ punctL)) = true → _) ∧ _
  generalize decide (c ∈ punctL) = b4 at k1 k2 ⊢
  exact ⟨fun h4 => k2 (by cases b4 <;> simp_all), fun h4 => k1 (by cases b4 <;> simp_all)⟩
theorem f_first_wrong {E : DEnds} {a0 : SV} : ∀ (t : List Nat) (i : Nat) (v1 v2 : SV), (firstW t i = none → ∀ ρ, E.nx ρ) → (∀ j, firstW t i = some j → ∀ ρ, E.rt ρ (.int (j : Int))) →
    forD (gT 2 (gCons' (gN 1) (gCons' (gN 2) gNil'))) w_first_wrong_b1 E (((t.map fun c => PyData.str ⟨#[c]⟩).zipIdx i).map fun p => .tuple [.int (p.2 : Nat), p.1]) [a0, v1, v2]
  | [], i, v1, v2, k1, k2 => k1 rfl _
  | c :: r, i, v1, v2, k1, k2 => by
    rw [List.map_cons, List.zipIdx_cons, List.map_cons]
    refine ⟨_, rfl, rfl, _, _, rfl, _, _, rfl, rfl, ?_⟩
    unfold firstW at k1 k2
    refine t_first_wrong (fun h => ?_) (fun h => ?_)
    · rw [if_pos h] at k1 k2
      exact f_first_wrong r (i + 1) _ _ k1 k2
    · rw [if_neg (by rw [h]; exact Bool.false_ne_true)] at k2
      exact k2 i rfl _
theorem m_first_wrong : ∀ ds Q, S_first_wrong ds Q → w_first_wrong { nx := fun _ => Q .none, rt := fun _ d => Q d } (startE ["text", "at", "sign"] ds) := by
  rintro ds Q ⟨t, rfl, k⟩
  show w_first_wrong _ [.dat (.str (tx t)), .un, .un]
  unfold w_first_wrong
  walk_at "dx"
  unfold enumD
  rw [signs_tx]
  refine f_first_wrong t 0 _ _ (fun h ρ => ?_) (fun j h ρ => ?_)
  · walk_at "dx"
    rw [h] at k; exact k
  · rw [h] at k; exact k
/-- is_text(thing): slots 0 thing -/
def w_is_text : WS :=
(wRet (wAndV (wIsi .str (wVar 0)) (wOp (fIs false) (wCall S_first_wrong (wCons (wVar 0) wNil)) (wC (.none)))))

def isTextF : PyData → Bool
  | .str x => (firstW x.cps.toList 0).isNone
  | _ => false
def S_is_text : SpD := fun ds P => ∃ d, ds = [d] ∧ P (.bool (isTextF d))
theorem l_is_text : ∀ ds P, S_is_text ds P → ds.length = 1 := by rintro ds P ⟨_, rfl, _⟩; rfl
theorem m_is_text : ∀ ds Q, S_is_text ds Q → w_is_text { nx := fun _ => Q .none, rt := fun _ d => Q d } (startE ["thing"] ds) := by
  rintro ds Q ⟨d, rfl, k⟩
  show w_is_text _ [.dat d]
  unfold w_is_text
  cases d with
  | str x =>
    walk_at "dx"
    refine ⟨x.cps.toList, by rw [← tx_eta], ?_⟩
    unfold isTextF at k
    dsimp only at k
    cases h : firstW x.cps.toList 0 with
    | none => rw [h] at k; exact k
    | some i => rw [h] at k; exact k
  | _ => walk_at "dx"; exact k
end Pm
namespace Pm
open PySem PySem.Spec PyProof.Rows L2 TL
local macro_rules | `(tactic| walk_at "dx") => `(tactic| simp only [wSeq, wIf, wTst, wOp, wOpO, wC, wVar, wOwn, wSet, wPut, wRet, wRetO, wRetN, wU, wSkip, wBreak, wCont, wIte, wAnd, wOr, wNot, wAndV, wOrV, wNotV, wCons, wNil, wTup, wLst, wSl, wSlO, wSo, wNo, wM, wJoin, wCall, wCallW, wSetF, wNew, wApp, wAsg, wPar, wAug, wFor, wSeqI, wRange1, wRange2, wDown, wEnum, wLc, wYes, wChain, wSlS, wIsi, wIsi2, isiD, wDrop, wNever, FZ, fStrip, fLstrip, fRstrip, fStarts, fStarts3, fEnds, fFind, fFind3, fFind4, fCount, fCount4, wLc2, wZip, gN, gT, gCons', gNil', fSeq, fI0, fI, fInt, fIx, fAdd, fMul, fLen, fEq, fIs, isN, fIn, fNeg, fSl, fJoin, fSplit, fTuple, fList, fBools, Env.at, SV.items, SV.put, atI_0, atI_1, atI_2, List.length_cons, List.length_nil, ixN_0, ixN_1, ixN_2, List.set, Option.some.injEq, exists_eq_left', exists_eq_left, exists_eq', exists_eq, exists_and_left, exists_and_right, true_and, and_true, SV.dat.injEq, SV.own.injEq, SV.bor.injEq, SV.scr.injEq, PyData.int.injEq, PyData.str.injEq, PyData.list.injEq, PyData.tuple.injEq, PyData.bool.injEq, List.cons.injEq, and_assoc, Bool.true_eq_false, Bool.false_eq_true, false_implies, true_implies, implies_true, Bool.false_xor, Bool.true_xor, Bool.not_true, Bool.not_false])
/-- is_escape(text, at): slots 0 text 1 at -/
def w_is_escape : WS :=
(wRet (wAndV (wOp (fEq false) (wOp fIx (wVar 0) (wVar 1)) (wC (.str (PySem.Str.ofString "\\")))) (wCall S_is_punctuation (wCons (wSl (wVar 0) (wSo (wOp fAdd (wVar 1) (wC (.int 1)))) (wSo (wOp fAdd (wVar 1) (wC (.int 2))))) wNil))))

/-! ### labels -/
/-- a backslash ahead of punctuation -/
def escAt : List Nat → Bool
  | c :: d :: _ => decide (c = 92) && decide (d ∈ punctL)
  | _ => false
def S_is_escape : SpD := fun ds P => ∃ (t : List Nat) (i : Nat), ds = [.str (tx t), .int (i : Int)] ∧ i < t.length ∧ t.length ≤ 100000 ∧ P (.bool (escAt (t.drop i)))
theorem l_is_escape : ∀ ds P, S_is_escape ds P → ds.length = 2 := by rintro ds P ⟨_, _, rfl, _⟩; rfl
theorem bsl_eq : PySem.Str.ofString "\\" = ⟨#[92]⟩ := by decide +kernel
theorem cut_mid (t : List Nat) (i j : Nat) : cutS (tx t) (some (i : Int)) (some (j : Int)) = tx ((t.drop i).take (j - i)) := by
  have h1 : HT.sIx (tx t).length 0 (some (i : Int)) = min i t.length := by rw [HT.sIx_nat, tx_len]
  have h2 : HT.sIx (tx t).length (tx t).length (some (j : Int)) = min j t.length := by rw [HT.sIx_nat, tx_len]
  unfold cutS
  rw [h1, h2]
  show (⟨(List.take (min j t.length - min i t.length) (List.drop (min i t.length) t)).toArray⟩ : Str) = ⟨_⟩
  by_cases hi : i ≤ t.length
  · rw [Nat.min_eq_left hi]
    by_cases hj : j ≤ t.length
    · rw [Nat.min_eq_left hj]
    · rw [Nat.min_eq_right (by omega), List.take_of_length_le (by rw [List.length_drop]; omega), List.take_of_length_le (by rw [List.length_drop]; omega)]
  · rw [Nat.min_eq_right (by omega : t.length ≤ i), List.drop_eq_nil_of_le (Nat.le_refl _), List.drop_eq_nil_of_le (by omega : t.length ≤ i)]
    simp
theorem atI_tx {t : List Nat} {i : Nat} {c : Nat} {r : List Nat} (h : t.drop i = c :: r) : atI (tx t).cps.toList (i : Int) = some c := by
  refine atI_get (k := i) rfl ?_
  have := List.getElem?_drop (xs := t) (i := i) (j := 0)
  rw [h] at this
  simpa using this.symm
theorem m_is_escape : ∀ ds Q, S_is_escape ds Q → w_is_escape { nx := fun _ => Q .none, rt := fun _ d => Q d } (startE ["text", "at"] ds) := by
  rintro ds Q ⟨t, i, rfl, hi, hl, k⟩
  show w_is_escape _ [.dat (.str (tx t)), .dat (.int (i : Int))]
  unfold w_is_escape
  walk_at "dx"
  obtain ⟨c, r, hr⟩ : ∃ c r, t.drop i = c :: r := by
    cases h : t.drop i with
    | nil => have := congrArg List.length h; simp at this; omega
    | cons c r => exact ⟨c, r, rfl⟩
  have hlen : (tx t).length ≤ sizeLine := line_of (by rw [tx_len]; omega)
  refine ⟨hlen, c, atI_tx hr, ?_⟩
  rw [bsl_eq]
  rw [hr] at k
  by_cases hc : c = 92
  · refine ⟨fun _ => ⟨hlen, ?_⟩, fun z => by simp [hc] at z⟩
    have e1 : (i : Int) + 1 = ((i + 1 : Nat) : Int) := by omega
    have e2 : (i : Int) + 2 = ((i + 2 : Nat) : Int) := by omega
    rw [e1, e2, cut_mid]
    have e3 : (t.drop (i + 1)).take (i + 2 - (i + 1)) = r.take 1 := by
      have : i + 2 - (i + 1) = 1 := by omega
      rw [this, ← List.drop_drop, hr]; rfl
    rw [e3]
    refine ⟨r.take 1, rfl, by rw [List.length_take]; omega, ?_⟩
    cases r with
    | nil => exact k
    | cons d r =>
      have e4 : escAt (c :: d :: r) = isP [d] := by show (decide (c = 92) && _) = _; rw [hc]; rfl
      rw [e4] at k
      exact k
  · refine ⟨fun z => absurd (by simpa using z) hc, fun _ => ?_⟩
    have e4 : escAt (c :: r) = false := by
      cases r with
      | nil => rfl
      | cons d r => show (decide (c = 92) && _) = false; rw [decide_eq_false hc]; rfl
    rw [e4] at k
    exact k
def w_label_end_t1 : WT :=
(wAnd (wTst (wOp fLt (wVar 1) (wU fLen (wVar 0)))) (wTst (wOp fLe (wOp fSub (wVar 1) (wVar 2)) (wC (.int 999)))))
def w_label_end_b2 : WS :=
(wSeq (wIf (wTst (wOp (fIn false) (wOp fIx (wVar 0) (wVar 1)) (wC (.str (PySem.Str.ofString "[]")))))
(wRet (wIte (wTst (wOp (fEq false) (wOp fIx (wVar 0) (wVar 1)) (wC (.str (PySem.Str.ofString "]"))))) (wVar 1) (wC (.none))))
wSkip)
(wAug 1 (fI0 fun i j => .int (i + j)) (wIte (wTst (wCall S_is_escape (wCons (wVar 0) (wCons (wVar 1) wNil)))) (wC (.int 2)) (wC (.int 1)))))
/-- label_end(text, at): slots 0 text 1 at 2 start -/
def w_label_end : WS :=
(wSeq (wSet 2 (wVar 1))
(wSeq (wWhile w_label_end_t1 w_label_end_b2)
(wRet (wC (.none)))))

/-- the place of the bracket that ends a label's text, k signs behind its begin -/
def lblE : List Nat → Nat → Option Nat
  | [], _ => none
  | [c], k => if 999 < k then none else if c = 93 then some k else none
  | c :: d :: r, k => if 999 < k then none else if c = 93 then some k else if c = 91 then none else if c = 92 ∧ d ∈ punctL then lblE r (k + 2) else lblE (d :: r) (k + 1)
def S_label_end : SpD := fun ds P => ∃ (t : List Nat) (s : Nat), ds = [.str (tx t), .int (s : Int)] ∧ s ≤ t.length ∧ t.length ≤ 100000 ∧ P (optD ((lblE (t.drop s) 0).map (s + ·)))
theorem l_label_end : ∀ ds P, S_label_end ds P → ds.length = 2 := by rintro ds P ⟨_, _, rfl, _⟩; rfl
theorem br_eq : PySem.Str.ofString "[]" = ⟨#[91, 93]⟩ := by decide +kernel
theorem rb_eq : PySem.Str.ofString "]" = ⟨#[93]⟩ := by decide +kernel
theorem m_label_end : ∀ ds Q, S_label_end ds Q → w_label_end { nx := fun _ => Q .none, rt := fun _ d => Q d } (startE ["text", "at", "start"] ds) := by
  rintro ds Q ⟨t, s, rfl, hs, hl, k⟩
  show w_label_end _ [.dat (.str (tx t)), .dat (.int (s : Int)), .un]
  unfold w_label_end
  walk_at "dx"
  refine ⟨fun m ρ => ∃ i : Nat, ρ = [.dat (.str (tx t)), .dat (.int (i : Int)), .dat (.int (s : Int))] ∧ s ≤ i ∧ i ≤ t.length + 1 ∧ m = t.length + 2 - i ∧ Q (optD ((lblE (t.drop i) (i - s)).map (s + ·))), ⟨_, s, rfl, Nat.le_refl _, by omega, rfl, by rw [Nat.sub_self]; exact k⟩, ?_⟩
  rintro m ρ ⟨i, rfl, h1, h2, rfl, k⟩
  unfold w_label_end_t1 w_label_end_b2
  walk_at "dx"
  have hlen : (tx t).length ≤ sizeLine := line_of (by rw [tx_len]; omega)
  rw [tx_len]
  refine ⟨by rw [← tx_len]; exact hlen, fun hi => ?_, fun hi => ?_⟩
  · have hi' : i < t.length := by have := of_decide_eq_true hi; omega
    obtain ⟨c, r, hr⟩ : ∃ c r, t.drop i = c :: r := by
      cases h : t.drop i with
      | nil => have := congrArg List.length h; simp at this; omega
      | cons c r => exact ⟨c, r, rfl⟩
    have hr1 : t.drop (i + 1) = r := by rw [← List.drop_drop, hr]; rfl
    refine ⟨fun hk => ?_, fun hk => ?_⟩
    · have hk' : ¬ 999 < i - s := by have := of_decide_eq_true hk; omega
      refine ⟨by rw [← tx_len]; exact hlen, c, atI_tx hr, ?_⟩
      rw [br_eq, rb_eq, inS_one]
      rw [hr] at k
      refine ⟨fun hb => ?_, fun hb => ?_⟩
      · refine ⟨by rw [← tx_len]; exact hlen, c, atI_tx hr, fun h93 => ?_, fun h93 => ?_⟩
        · have hc : c = 93 := by simpa using h93
          have e : lblE (c :: r) (i - s) = some (i - s) := by
            cases r with
            | nil => unfold lblE; rw [if_neg hk', if_pos hc]
            | cons d r => unfold lblE; rw [if_neg hk', if_pos hc]
          rw [e] at k
          have e2 : optD (Option.map (s + ·) (some (i - s))) = .int (i : Int) := by
            show PyData.int (((s + (i - s) : Nat)) : Int) = _
            have : s + (i - s) = i := by omega
            rw [this]
          rw [e2] at k; exact k
        · have hn : c ≠ 93 := fun e => by simp [e] at h93
          have hc : c = 91 := by
            have : c ∈ [91, 93] := of_decide_eq_true hb
            simp at this; omega
          have e : lblE (c :: r) (i - s) = none := by
            cases r with
            | nil => unfold lblE; rw [if_neg hk', if_neg hn]
            | cons d r => unfold lblE; rw [if_neg hk', if_neg hn, if_pos hc]
          rw [e] at k; exact k
      · have hno : c ≠ 91 ∧ c ≠ 93 := by
          have : c ∉ [91, 93] := of_decide_eq_false hb
          simp at this; exact this
        refine ⟨t, i, rfl, hi', hl, ?_⟩
        rw [hr]
        refine ⟨escAt (c :: r), rfl, fun he => ?_, fun he => ?_⟩
        · cases r with
          | nil => cases he
          | cons d r =>
            have he' : (decide (c = 92) && decide (d ∈ punctL)) = true := he
            have he2 := Bool.and_eq_true_iff.mp he'
            have e : lblE (c :: d :: r) (i - s) = lblE r (i + 2 - s) := by
              conv => lhs; unfold lblE
              rw [if_neg hk', if_neg hno.2, if_neg hno.1, if_pos ⟨of_decide_eq_true he2.1, of_decide_eq_true he2.2⟩]
              have : i - s + 2 = i + 2 - s := by omega
              rw [this]
            rw [e] at k
            have hr2 : t.drop (i + 2) = r := by
              have := congrArg (List.drop 2) hr
              rw [List.drop_drop] at this
              simpa using this
            have hl2 : i + 2 ≤ t.length := by have := congrArg List.length hr; simp at this; omega
            refine ⟨_, ?_, i + 2, ?_, by omega, by omega, rfl, by rw [hr2]; exact k⟩
            · omega
            · have : (i : Int) + 2 = ((i + 2 : Nat) : Int) := by omega
              rw [this]
        · have e : lblE (c :: r) (i - s) = lblE r (i + 1 - s) := by
            have e1 : i + 1 - s = i - s + 1 := by omega
            cases r with
            | nil => unfold lblE; rw [if_neg hk', if_neg hno.2]
            | cons d r =>
              conv => lhs; unfold lblE
              have hne : ¬ (c = 92 ∧ d ∈ punctL) := fun hh => by
                have : escAt (c :: d :: r) = true := by show (decide (c = 92) && decide (d ∈ punctL)) = true; rw [decide_eq_true hh.1, decide_eq_true hh.2]; rfl
                rw [this] at he; cases he
              rw [if_neg hk', if_neg hno.2, if_neg hno.1, if_neg hne, e1]
          rw [e] at k
          refine ⟨_, ?_, i + 1, ?_, by omega, by omega, rfl, by rw [hr1]; exact k⟩
          · omega
          · have : (i : Int) + 1 = ((i + 1 : Nat) : Int) := by omega
            rw [this]
    · -- too long
      have hk' : 999 < i - s := by have := of_decide_eq_false hk; omega
      rw [hr] at k
      have e : lblE (c :: r) (i - s) = none := by
        cases r with
        | nil => unfold lblE; rw [if_pos hk']
        | cons d r => unfold lblE; rw [if_pos hk']
      rw [e] at k
      exact k
  · have hi' : t.length ≤ i := by have := of_decide_eq_false hi; omega
    rw [List.drop_eq_nil_of_le hi'] at k
    exact k
/-- is_label_text(text): slots 0 text -/
def w_is_label_text : WS :=
(wSeq (wIf (wOr (wNot (wTst (wIsi .str (wVar 0)))) (wOr (wNot (wTst (wChain fLe fLe (wC (.int 1)) (wU fLen (wVar 0)) (wC (.int 999))))) (wTst (wOp (fEq false) (wM fStrip (wVar 0) (wCons (wC (.str (PySem.Str.ofString " \t\n"))) wNil)) (wC (.str (PySem.Str.ofString "")))))))
(wRet (wC (.bool false)))
wSkip)
(wRet (wOp (fEq false) (wCall S_label_end (wCons (wOp fAdd (wVar 0) (wC (.str (PySem.Str.ofString "]")))) (wCons (wC (.int 0)) wNil))) (wU fLen (wVar 0)))))

def isLabelF : PyData → Bool
  | .str x => decide (1 ≤ (tl x).length) && decide ((tl x).length ≤ 999) && !decide (Txt.stripChars x (tx [32, 9, 10]) = tx []) && decide (lblE (tl x ++ [93]) 0 = some (tl x).length)
  | _ => false
/-- texts are short -/
def shortD : PyData → Prop
  | .str x => x.length ≤ 10000
  | _ => True
def S_is_label_text : SpD := fun ds P => ∃ d, ds = [d] ∧ shortD d ∧ P (.bool (isLabelF d))
theorem l_is_label_text : ∀ ds P, S_is_label_text ds P → ds.length = 1 := by rintro ds P ⟨_, rfl, _⟩; rfl
theorem m_is_label_text : ∀ ds Q, S_is_label_text ds Q → w_is_label_text { nx := fun _ => Q .none, rt := fun _ d => Q d } (startE ["text"] ds) := by
  rintro ds Q ⟨d, rfl, hd, k⟩
  show w_is_label_text _ [.dat d]
  unfold w_is_label_text
  cases d with
  | str x =>
    have hx : x.length ≤ 10000 := hd
    have hlen : x.length ≤ sizeLine := line_of (by omega)
    walk_at "dx"
    rw [tx_nil, white3_eq, rb_eq]
    have et : (tl x).length = x.length := by simp [tl, Str.length]
    unfold isLabelF at k
    dsimp only at k
    rw [et] at k
    refine ⟨hlen, fun h1 => ?_, fun h1 => ?_⟩
    · have e1 : decide (1 ≤ x.length) = true := decide_eq_true (by have := of_decide_eq_true h1; omega)
      rw [e1, Bool.true_and] at k
      refine ⟨fun h2 => ?_, fun h2 => ?_⟩
      · have h2' : ¬ x.length ≤ 999 := by
          have : decide ((x.length : Int) ≤ 999) = false := by simpa using h2
          have := of_decide_eq_false this; omega
        rw [decide_eq_false h2'] at k
        exact k
      · have h2' : x.length ≤ 999 := by
          have : decide ((x.length : Int) ≤ 999) = true := by simpa using h2
          have := of_decide_eq_true this; omega
        rw [decide_eq_true h2', Bool.true_and] at k
        refine ⟨hlen, fun h3 => ?_, fun h3 => ?_⟩
        · rw [h3] at k; exact k
        · rw [h3] at k
          have e3 : x ++ (⟨#[93]⟩ : Str) = tx (tl x ++ [93]) := by
            conv => lhs; rw [tx_eta x]
            exact tx_app _ _
          refine ⟨line_of (by show x.length + 1 ≤ _; omega), ?_⟩
          rw [e3]
          refine ⟨tl x ++ [93], 0, rfl, Nat.zero_le _, by rw [List.length_append, et]; show x.length + 1 ≤ _; omega, ?_⟩
          rw [List.drop_zero]
          cases h4 : lblE (tl x ++ [93]) 0 with
          | none =>
            rw [h4] at k
            exact ⟨hlen, rfl, k⟩
          | some n =>
            rw [h4] at k
            refine ⟨hlen, ?_⟩
            show Q (.bool (decide (((0 + n : Nat) : Int) = (x.length : Int))))
            have e5 : decide (((0 + n : Nat) : Int) = (x.length : Int)) = decide (some n = some x.length) := by
              by_cases hn : n = x.length
              · subst hn; simp
              · rw [decide_eq_false (by omega), decide_eq_false (by simpa using hn)]
            rw [e5]; exact k
    · have e1 : decide (1 ≤ x.length) = false := decide_eq_false (by have := of_decide_eq_false h1; omega)
      rw [e1, Bool.false_and, Bool.false_and, Bool.false_and] at k
      exact k
  | _ => walk_at "dx"; exact k
/-- normalised(text): slots 0 text -/
def w_normalised : WS :=
(wSeq (wIf (wNot (wTst (wCall S_is_label_text (wCons (wVar 0) wNil))))
wNever
wSkip)
(wRet (wJoin (wC (.str (PySem.Str.ofString " "))) (wU fSplit0 (wU fLower (wVar 0))))))

def normF (x : Str) : Str := Txt.join (tx [32]) (Txt.words (Txt.lower x))
def S_normalised : SpD := fun ds P => ∃ x : Str, ds = [.str x] ∧ isLabelF (.str x) = true ∧ x.length ≤ 10000 ∧ P (.str (normF x))
theorem l_normalised : ∀ ds P, S_normalised ds P → ds.length = 1 := by rintro ds P ⟨_, rfl, _⟩; rfl
/-- the words of a text are not longer than it -/
theorem wsum : ∀ (l : List Nat) (st : List (List Nat) × List Nat), ((l.foldl wstep st).1.map (·.length)).sum + (l.foldl wstep st).2.length ≤ (st.1.map (·.length)).sum + st.2.length + l.length
  | [], st => by simp
  | c :: l, st => by
    have ih := wsum l (wstep st c)
    have h : ((wstep st c).1.map (·.length)).sum + (wstep st c).2.length ≤ (st.1.map (·.length)).sum + st.2.length + 1 := by
      unfold wstep
      split
      · split
        · omega
        · simp only [List.map_append, List.sum_append, List.map_cons, List.map_nil, List.sum_cons, List.sum_nil, List.length_nil]; omega
      · simp only [List.length_append, List.length_singleton]; omega
    rw [List.foldl_cons, List.length_cons]
    omega
theorem words_sum (x : Str) : ((Txt.words x).map (·.length)).sum ≤ x.length := by
  have e : (Txt.words x).map (·.length) = ((Txt.words x).map tl).map (·.length) := by
    rw [List.map_map]; exact List.map_congr_left fun u _ => by simp [tl, Str.length]
  rw [e, words_tl]
  have h := wsum (tl x) ([], [])
  have et : (tl x).length = x.length := by simp [tl, Str.length]
  rw [et] at h
  generalize (tl x).foldl wstep ([], []) = st at h ⊢
  have h' : (st.1.map (·.length)).sum + st.2.length ≤ x.length := by simpa using h
  unfold wfin
  split
  · omega
  · rw [List.map_append, List.sum_append]
    simpa using h'
theorem m_normalised : ∀ ds Q, S_normalised ds Q → w_normalised { nx := fun _ => Q .none, rt := fun _ d => Q d } (startE ["text"] ds) := by
  rintro ds Q ⟨x, rfl, hx, hl, k⟩
  show w_normalised _ [.dat (.str x)]
  unfold w_normalised
  walk_at "dx"
  refine ⟨_, rfl, hl, ?_⟩
  walk_at "dx"
  rw [hx]
  refine ⟨fun z => (by cases z), fun _ => ?_⟩
  have h1 := PyProof.Rows.len_lower x
  have h2 := words_sum (Txt.lower x)
  have h3 := words_le (Txt.lower x)
  have e1 : PySem.Str.ofString " " = tx [32] := blank_eq
  rw [e1]
  have e2 : (tx [32]).length = 1 := rfl
  refine ⟨by omega, line_of (by omega), _, .inl rfl, by rw [e2]; omega, ?_⟩
  exact k
end Pm
namespace Pm
open PySem PySem.Spec PyProof.Rows L2 TL
/-! ### parts that change nothing: what they come to -/
def evD (we : WE) (ρ : Env) (d : PyData) : Prop := ∀ P : Env → PyData → Prop, P ρ d → we ρ P
def evT (wt : WT) (ρ : Env) (b : Bool) : Prop := ∀ P : Env → Bool → Prop, P ρ b → wt ρ P
def evA (wa : WA) (ρ : Env) (ds : List PyData) : Prop := ∀ P : Env → List PyData → Prop, P ρ ds → wa ρ P
def evO (wo : WO) (ρ : Env) (o : Option Int) : Prop := ∀ P : Env → Option Int → Prop, P ρ o → wo ρ P
def gives (S : SpD) (ds : List PyData) (r : PyData) : Prop := ∀ P : PyData → Prop, P r → S ds P
variable {ρ : Env} {x y d e : PyData} {b c : Bool}
theorem ev_var {i : Nat} (h : ρ.at i = .dat d) : evD (wVar i) ρ d := fun P p => ⟨d, h, p⟩
theorem ev_c : evD (wC d) ρ d := fun P p => p
theorem ev_op {f : F2} {wa wb : WE} (ha : evD wa ρ x) (hb : evD wb ρ y) (h : ∀ P : PyData → Prop, P d → f x y P) : evD (wOp f wa wb) ρ d := fun P p => ha _ (hb _ (h _ p))
theorem ev_u {f : F1} {wa : WE} (ha : evD wa ρ x) (h : ∀ P : PyData → Prop, P d → f x P) : evD (wU f wa) ρ d := fun P p => ha _ (h _ p)
theorem ev_ix {wa wb : WE} {ds : List PyData} {k : Int} (ha : evD wa ρ (.tuple ds)) (hb : evD wb ρ (.int k)) (h : atI ds k = some d) : evD (wOp fIx wa wb) ρ d := ev_op ha hb fun P p => ⟨d, h, p⟩
theorem ev_tst {we : WE} (h : evD we ρ (.bool b)) : evT (wTst we) ρ b := fun P p => h _ ⟨b, rfl, p⟩
theorem ev_not {t : WT} (h : evT t ρ b) : evT (wNot t) ρ (!b) := fun P p => h _ p
theorem ev_and {t u : WT} (h : evT t ρ b) (h2 : b = true → evT u ρ c) : evT (wAnd t u) ρ (b && c) := fun P p => h _ ⟨fun e => h2 e _ (by rw [e] at p; exact p), fun e => by rw [e] at p; exact p⟩
theorem ev_or {t u : WT} (h : evT t ρ b) (h2 : b = false → evT u ρ c) : evT (wOr t u) ρ (b || c) := fun P p => h _ ⟨fun e => by rw [e] at p; exact p, fun e => h2 e _ (by rw [e] at p; exact p)⟩
theorem ev_notV {t : WE} (h : evD t ρ (.bool b)) : evD (wNotV t) ρ (.bool (!b)) := fun P p => h _ ⟨b, rfl, p⟩
theorem ev_andV {t u : WE} (h : evD t ρ (.bool b)) (h2 : b = true → evD u ρ (.bool c)) : evD (wAndV t u) ρ (.bool (b && c)) := fun P p => h _ ⟨b, rfl, fun e => h2 e _ (by rw [e] at p; exact p), fun e => by rw [e] at p; exact p⟩
theorem ev_orV {t u : WE} (h : evD t ρ (.bool b)) (h2 : b = false → evD u ρ (.bool c)) : evD (wOrV t u) ρ (.bool (b || c)) := fun P p => h _ ⟨b, rfl, fun e => by rw [e] at p; exact p, fun e => h2 e _ (by rw [e] at p; exact p)⟩
theorem ev_nil : evA wNil ρ [] := fun P p => p
theorem ev_cons {w : WE} {r : WA} {ds : List PyData} (h : evD w ρ d) (h2 : evA r ρ ds) : evA (wCons w r) ρ (d :: ds) := fun P p => h _ (h2 _ p)
theorem ev_call {S : SpD} {wa : WA} {ds : List PyData} (h : evA wa ρ ds) (g : gives S ds d) : evD (wCall S wa) ρ d := fun P p => h _ (g _ p)
theorem ev_tup {wa : WA} {ds : List PyData} (h : evA wa ρ ds) (hl : ds.length ≤ sizeLine) : evD (wTup wa) ρ (.tuple ds) := fun P p => h _ ⟨hl, p⟩
theorem ev_isi {T : Ty} {we : WE} (h : evD we ρ d) : evD (wIsi T we) ρ (.bool (isiD T d)) := fun P p => h _ p
theorem ev_is {neg : Bool} {we : WE} (h : evD we ρ d) : evD (wOp (fIs neg) we (wC .none)) ρ (.bool (neg ^^ isN d)) := ev_op h ev_c fun P p => ⟨rfl, p⟩
theorem ev_no : evO wNo ρ none := fun P p => p
theorem ev_so {we : WE} {i : Int} (h : evD we ρ (.int i)) : evO (wSo we) ρ (some i) := fun P p => h _ ⟨i, rfl, p⟩
theorem ev_slT {we : WE} {wl wh : WO} {ds : List PyData} {lo hi : Option Int} (h : evD we ρ (.tuple ds)) (h1 : evO wl ρ lo) (h2 : evO wh ρ hi) : evD (wSl we wl wh) ρ (.tuple (cutD ds lo hi)) := fun P p => h _ (h1 _ (h2 _ p))
theorem ev_ret {E : DEnds} {we : WE} (h : evD we ρ d) (k : E.rt ρ d) : wRet we E ρ := h _ k
theorem ev_if {E : DEnds} {t : WT} {w u : WS} (h : evT t ρ b) (h1 : b = true → w E ρ) (h2 : b = false → u E ρ) : wIf t w u E ρ := h _ ⟨h1, h2⟩
theorem ev_seq {E : DEnds} {w u : WS} (h : w { E with nx := u E } ρ) : wSeq w u E ρ := h
theorem ev_skip {E : DEnds} (h : E.nx ρ) : wSkip E ρ := h
theorem ev_eqS {neg : Bool} {wa wb : WE} {s t : Str} (ha : evD wa ρ (.str s)) (hb : evD wb ρ (.str t)) : evD (wOp (fEq neg) wa wb) ρ (.bool (neg ^^ decide (s = t))) := ev_op ha hb fun P p => p
theorem ev_eqI {neg : Bool} {wa wb : WE} {s t : Int} (ha : evD wa ρ (.int s)) (hb : evD wb ρ (.int t)) : evD (wOp (fEq neg) wa wb) ρ (.bool (neg ^^ decide (s = t))) := ev_op ha hb fun P p => p
theorem ev_gt {wa wb : WE} {s t : Int} (ha : evD wa ρ (.int s)) (hb : evD wb ρ (.int t)) : evD (wOp fGt wa wb) ρ (.bool (decide (s > t))) := ev_op ha hb fun P p => p
theorem ev_sub {wa wb : WE} {s t : Int} (ha : evD wa ρ (.int s)) (hb : evD wb ρ (.int t)) : evD (wOp fSub wa wb) ρ (.int (s - t)) := ev_op ha hb fun P p => p
/-- a comprehension of pure elements -/
theorem lcD_map {i : Nat} {we : WE} {f : PyData → PyData} {P : Env → List PyData → Prop} (hρ : ρ.set i .un = ρ) : ∀ (items acc : List PyData), (∀ d, d ∈ items → evD we (ρ.set i (.dat d)) (f d)) → acc.length + items.length ≤ sizeLine → P ρ (acc ++ items.map f) → lcD i wYes we items ρ acc P
  | [], acc, _, _, k => by rw [List.map_nil, List.append_nil] at k; exact k
  | d :: ds, acc, h, hz, k => by
    show wYes (ρ.set i (.dat d)) _
    rw [List.length_cons] at hz
    refine ⟨fun _ => h d (List.mem_cons_self ..) _ ⟨by omega, ?_⟩, fun e => by cases e⟩
    rw [List.set_set, hρ]
    refine lcD_map hρ ds (acc ++ [f d]) (fun d' h' => h d' (List.mem_cons_of_mem _ h')) (by rw [List.length_append, List.length_singleton]; omega) ?_
    rw [List.append_assoc]
    exact k
theorem ev_lc {i : Nat} {we we' : WE} {f : PyData → PyData} {ds : List PyData} (hρ : ρ.set i .un = ρ) (hs : evD we ρ (.tuple ds)) (hl : ds.length ≤ sizeLine) (h : ∀ d, d ∈ ds → evD we' (ρ.set i (.dat d)) (f d)) : evD (wLc i (wSeqI we) wYes we') ρ (.list (ds.map f)) := by
  intro P p
  refine hs _ ?_
  show lcD i wYes we' ds (ρ.set i .un) [] _
  rw [hρ]
  exact lcD_map hρ ds [] h (by rw [List.length_nil]; omega) p
theorem ev_lcL {i : Nat} {we we' : WE} {f : PyData → PyData} {ds : List PyData} (hρ : ρ.set i .un = ρ) (hs : evD we ρ (.list ds)) (hl : ds.length ≤ sizeLine) (h : ∀ d, d ∈ ds → evD we' (ρ.set i (.dat d)) (f d)) : evD (wLc i (wSeqI we) wYes we') ρ (.list (ds.map f)) := by
  intro P p
  refine hs _ ?_
  show lcD i wYes we' ds (ρ.set i .un) [] _
  rw [hρ]
  exact lcD_map hρ ds [] h (by rw [List.length_nil]; omega) p
theorem ev_bools {we : WE} {g : List Bool → Bool} {f : PyData → Bool} {ds : List PyData} (h : evD we ρ (.list (ds.map fun d => .bool (f d)))) : evD (wU (fBools g) we) ρ (.bool (g (ds.map f))) :=
  ev_u h fun P p => ⟨ds.map f, by rw [List.map_map]; rfl, p⟩
theorem ev_any {i : Nat} {we we' : WE} {f : PyData → Bool} {ds : List PyData} (hρ : ρ.set i .un = ρ) (hs : evD we ρ (.tuple ds)) (hl : ds.length ≤ sizeLine) (h : ∀ d, d ∈ ds → evD we' (ρ.set i (.dat d)) (.bool (f d))) : evD (wU (fBools fun bs => bs.any id) (wLc i (wSeqI we) wYes we')) ρ (.bool (ds.any f)) := by
  have q := ev_bools (g := fun bs => bs.any id) (f := f) (ev_lc hρ hs hl h)
  rw [List.any_map] at q
  exact q
theorem ev_all {i : Nat} {we we' : WE} {f : PyData → Bool} {ds : List PyData} (hρ : ρ.set i .un = ρ) (hs : evD we ρ (.tuple ds)) (hl : ds.length ≤ sizeLine) (h : ∀ d, d ∈ ds → evD we' (ρ.set i (.dat d)) (.bool (f d))) : evD (wU (fBools fun bs => bs.all id) (wLc i (wSeqI we) wYes we')) ρ (.bool (ds.all f)) := by
  have q := ev_bools (g := fun bs => bs.all id) (f := f) (ev_lc hρ hs hl h)
  rw [List.all_map] at q
  exact q
theorem lcD2_map {i j : Nat} {we : WE} {f : PyData → PyData → PyData} {P : Env → List PyData → Prop} (hi : ρ.set i .un = ρ) (hj : ρ.set j .un = ρ) (hij : i ≠ j) : ∀ (items : List (PyData × PyData)) (acc : List PyData), (∀ p, p ∈ items → evD we ((ρ.set i (.dat p.1)).set j (.dat p.2)) (f p.1 p.2)) → acc.length + items.length ≤ sizeLine → P ρ (acc ++ items.map fun p => f p.1 p.2) → lcD2 i j we (items.map fun p => .tuple [p.1, p.2]) ρ acc P
  | [], acc, _, _, k => by rw [List.map_nil, List.append_nil] at k; exact k
  | p :: ps, acc, h, hz, k => by
    refine ⟨p.1, p.2, rfl, h p (List.mem_cons_self ..) _ ⟨by rw [List.length_cons] at hz; omega, ?_⟩⟩
    have e : ((((ρ.set i (.dat p.1)).set j (.dat p.2)).set i .un).set j .un) = ρ := by
      rw [List.set_comm _ _ (Ne.symm hij), List.set_set, List.set_set, hi, hj]
    rw [List.length_cons] at hz
    rw [e]
    refine lcD2_map hi hj hij ps (acc ++ [f p.1 p.2]) (fun d' h' => h d' (List.mem_cons_of_mem _ h')) (by rw [List.length_append, List.length_singleton]; omega) ?_
    rw [List.append_assoc]
    exact k
theorem ev_lcZip {i j : Nat} {wa wb we' : WE} {f : PyData → PyData → PyData} {xs ys : List PyData} (hi : ρ.set i .un = ρ) (hj : ρ.set j .un = ρ) (hij : i ≠ j) (ha : evD wa ρ (.tuple xs)) (hb : evD wb ρ (.tuple ys)) (hl : xs.length ≤ sizeLine) (h : ∀ p, p ∈ xs.zip ys → evD we' ((ρ.set i (.dat p.1)).set j (.dat p.2)) (f p.1 p.2)) : evD (wLc2 i j (wZip wa wb) we') ρ (.list ((xs.zip ys).map fun p => f p.1 p.2)) := by
  intro P p
  refine ha _ (hb _ ?_)
  show lcD2 i j we' (zipD xs ys) ((ρ.set i .un).set j .un) [] _
  rw [hi, hj]
  exact lcD2_map hi hj hij _ [] h (by rw [List.length_nil, List.length_zip]; omega) p
theorem ev_guard {E : DEnds} {t : WT} {w u : WS} (h : evT t ρ b) (h1 : b = true → w { E with nx := u E } ρ) (h2 : b = false → u E ρ) : wSeq (wIf t w wSkip) u E ρ := h _ ⟨h1, h2⟩
theorem ev_isi' {T : Ty} {we : WE} (h : evD we ρ d) (e : isiD T d = b) : evD (wIsi T we) ρ (.bool b) := e ▸ ev_isi h
theorem cutD_from {α : Type} (xs : List α) (k : Nat) : cutD xs (some (k : Int)) none = xs.drop k := by
  have h1 : ¬ (k : Int) < 0 := by omega
  have e1 : HT.sIx xs.length 0 (some (k : Int)) = min k xs.length := by
    unfold HT.sIx
    simp [h1]
  have e2 : HT.sIx xs.length xs.length none = xs.length := rfl
  unfold cutD
  rw [e1, e2]
  by_cases h : k ≤ xs.length
  · rw [Nat.min_eq_left h, List.take_of_length_le (by rw [List.length_drop]; omega)]
  · rw [Nat.min_eq_right (by omega), List.drop_of_length_le (Nat.le_refl _), List.drop_of_length_le (by omega)]; simp
theorem cutD_to {α : Type} (xs : List α) (k : Nat) : cutD xs none (some (k : Int)) = xs.take k := by
  have h1 : ¬ (k : Int) < 0 := by omega
  have e1 : HT.sIx xs.length xs.length (some (k : Int)) = min k xs.length := by
    unfold HT.sIx
    simp [h1]
  have e2 : HT.sIx xs.length 0 none = 0 := rfl
  unfold cutD
  rw [e1, e2, List.drop_zero, Nat.sub_zero]
  by_cases h : k ≤ xs.length
  · rw [Nat.min_eq_left h]
  · rw [Nat.min_eq_right (by omega), List.take_of_length_le (Nat.le_refl _), List.take_of_length_le (by omega)]
end Pm
namespace Pm
open PySem PySem.Spec PyProof.Rows L2 TL
local macro_rules | `(tactic| walk_at "dx") => `(tactic| simp only [wSeq, wIf, wTst, wOp, wOpO, wC, wVar, wOwn, wSet, wPut, wRet, wRetO, wRetN, wU, wSkip, wBreak, wCont, wIte, wAnd, wOr, wNot, wAndV, wOrV, wNotV, wCons, wNil, wTup, wLst, wSl, wSlO, wSo, wNo, wM, wJoin, wCall, wCallW, wSetF, wNew, wApp, wAsg, wPar, wAug, wFor, wSeqI, wRange1, wRange2, wDown, wEnum, wLc, wYes, wChain, wSlS, wIsi, wIsi2, isiD, wDrop, wNever, FZ, fStrip, fLstrip, fRstrip, fStarts, fStarts3, fEnds, fFind, fFind3, fFind4, fCount, fCount4, wLc2, wZip, gN, gT, gCons', gNil', fSeq, fI0, fI, fInt, fIx, fAdd, fMul, fLen, fEq, fIs, isN, fIn, fNeg, fSl, fJoin, fSplit, fTuple, fList, fBools, Env.at, SV.items, SV.put, atI_0, atI_1, atI_2, List.length_cons, List.length_nil, ixN_0, ixN_1, ixN_2, List.set, Option.some.injEq, exists_eq_left', exists_eq_left, exists_eq', exists_eq, exists_and_left, exists_and_right, true_and, and_true, SV.dat.injEq, SV.own.injEq, SV.bor.injEq, SV.scr.injEq, PyData.int.injEq, PyData.str.injEq, PyData.list.injEq, PyData.tuple.injEq, PyData.bool.injEq, List.cons.injEq, and_assoc, Bool.true_eq_false, Bool.false_eq_true, false_implies, true_implies, implies_true, Bool.false_xor, Bool.true_xor, Bool.not_true, Bool.not_false])
/-! ### trees: their mirror -/
abbrev sS (s : String) : Str := PySem.Str.ofString s
def nodeF (d : PyData) (w : Str) (n : Nat) : Bool := match d with
  | .tuple (.str x :: r) => decide (r.length + 1 = n) && decide (x = w)
  | _ => false
def itms : PyData → List PyData
  | .tuple ds => ds
  | _ => []
def itm (d : PyData) (k : Nat) : PyData := (itms d).getD k .none
mutual
/-- texts are short and rows too, no dicts -/
def smallD : PyData → Bool
  | .none => true
  | .bool _ => true
  | .int _ => true
  | .str x => PyData.strOk x && decide (x.length ≤ 10000)
  | .list xs => decide (xs.length ≤ 10000) && smallAll xs
  | .tuple xs => decide (xs.length ≤ 10000) && smallAll xs
  | .dict _ => false
def smallAll : List PyData → Bool
  | [] => true
  | x :: xs => smallD x && smallAll xs
end
mutual
theorem small_lay : ∀ {d : PyData}, smallD d = true → d.canLay0 = true
  | .none, _ => rfl
  | .bool _, _ => rfl
  | .int _, _ => rfl
  | .str x, h => by
    rw [smallD] at h
    rw [PyData.canLay0]; exact (Bool.and_eq_true_iff.mp h).1
  | .list xs, h => by
    rw [smallD] at h
    rw [PyData.canLay0]; exact smallAll_lay (Bool.and_eq_true_iff.mp h).2
  | .tuple xs, h => by
    rw [smallD] at h
    rw [PyData.canLay0]; exact smallAll_lay (Bool.and_eq_true_iff.mp h).2
  | .dict _, h => by rw [smallD] at h; cases h
theorem smallAll_lay : ∀ {ds : List PyData}, smallAll ds = true → PyData.canLayAll0 ds = true
  | [], _ => rfl
  | d :: ds, h => by
    rw [smallAll] at h
    have q := Bool.and_eq_true_iff.mp h
    rw [PyData.canLayAll0, small_lay q.1, smallAll_lay q.2]; rfl
end
theorem small_mem : ∀ {ds : List PyData} {d : PyData}, smallAll ds = true → d ∈ ds → smallD d = true
  | [], _, _, h => by cases h
  | x :: xs, d, h, hm => by
    rw [smallAll] at h
    have q := Bool.and_eq_true_iff.mp h
    rcases List.mem_cons.mp hm with e | e
    · rw [e]; exact q.1
    · exact small_mem q.2 e
theorem small_items {ds : List PyData} (h : smallD (.tuple ds) = true) : ds.length ≤ 10000 ∧ ∀ d, d ∈ ds → smallD d = true := by
  rw [smallD] at h
  have q := Bool.and_eq_true_iff.mp h
  exact ⟨of_decide_eq_true q.1, fun d hd => small_mem q.2 hd⟩
theorem small_itm {d : PyData} (h : smallD d = true) (k : Nat) : smallD (itm d k) = true := by
  unfold itm
  cases d with
  | tuple ds =>
    have q := small_items h
    show smallD (ds.getD k .none) = true
    rw [List.getD_eq_getElem?_getD]
    cases e : ds[k]? with
    | none => rfl
    | some x => exact q.2 x (List.mem_of_getElem? e)
  | _ => rfl
theorem small_short {d : PyData} (h : smallD d = true) : shortD d := by
  cases d with
  | str x =>
    rw [smallD] at h
    show x.length ≤ 10000
    exact of_decide_eq_true (Bool.and_eq_true_iff.mp h).2
  | _ => trivial
/-- a node's items -/
theorem node_at {d : PyData} {w : Str} {n : Nat} (h : nodeF d w n = true) : ∃ r, d = .tuple (.str w :: r) ∧ r.length + 1 = n := by
  unfold nodeF at h
  split at h
  · rename_i x r
    have q := Bool.and_eq_true_iff.mp h
    have e := of_decide_eq_true q.2
    subst e
    exact ⟨r, rfl, of_decide_eq_true q.1⟩
  · cases h
theorem ix_itm {ds : List PyData} {k : Nat} (h : k < ds.length) : atI ds (k : Int) = some (itm (.tuple ds) k) := by
  refine atI_get rfl ?_
  show ds[k]? = some (ds.getD k .none)
  rw [List.getD_eq_getElem?_getD, List.getElem?_eq_getElem h]; rfl
/-! ### the small ones -/
def betweenF (d : PyData) (lo hi : Int) : Bool := match d with
  | .int i => decide (lo ≤ i) && decide (i ≤ hi)
  | _ => false
def S_is_between : SpD := fun ds P => ∃ (d : PyData) (lo hi : Int), ds = [d, .int lo, .int hi] ∧ P (.bool (betweenF d lo hi))
theorem l_is_between : ∀ ds P, S_is_between ds P → ds.length = 3 := by rintro ds P ⟨_, _, _, rfl, _⟩; rfl
def S_is_node : SpD := fun ds P => ∃ (d : PyData) (w : Str) (n : Nat), ds = [d, .str w, .int (n : Int)] ∧ 1 ≤ n ∧ P (.bool (nodeF d w n))
theorem l_is_node : ∀ ds P, S_is_node ds P → ds.length = 3 := by rintro ds P ⟨_, _, _, rfl, _⟩; rfl
def linesF (x : Str) : Bool := decide (x = tx []) || Txt.endswith x (tx [10])
def S_has_lines : SpD := fun ds P => ∃ x : Str, ds = [.str x] ∧ P (.bool (linesF x))
theorem l_has_lines : ∀ ds P, S_has_lines ds P → ds.length = 1 := by rintro ds P ⟨_, rfl, _⟩; rfl
def targetF (d e : PyData) : Bool := isTextF d && (isN e || isTextF e)
def S_is_target : SpD := fun ds P => ∃ d e, ds = [d, e] ∧ P (.bool (targetF d e))
theorem l_is_target : ∀ ds P, S_is_target ds P → ds.length = 2 := by rintro ds P ⟨_, _, rfl, _⟩; rfl
/-- is_between(thing, low, high): slots 0 thing 1 low 2 high -/
def w_is_between : WS :=
(wRet (wAndV (wIsi .int (wVar 0)) (wAndV (wNotV (wIsi .bool (wVar 0))) (wChain fLe fLe (wVar 1) (wVar 0) (wVar 2)))))

/-- is_node(thing, word, many): slots 0 thing 1 word 2 many -/
def w_is_node : WS :=
(wRet (wAndV (wIsi .tuple (wVar 0)) (wAndV (wOp (fEq false) (wU fLen (wVar 0)) (wVar 2)) (wAndV (wIsi .str (wOp fIx (wVar 0) (wC (.int 0)))) (wOp (fEq false) (wOp fIx (wVar 0) (wC (.int 0))) (wVar 1))))))

/-- has_lines(text): slots 0 text -/
def w_has_lines : WS :=
(wRet (wOrV (wOp (fEq false) (wVar 0) (wC (.str (PySem.Str.ofString "")))) (wM fEnds (wVar 0) (wCons (wC (.str (PySem.Str.ofString "\n"))) wNil))))

/-- is_target(destination, title): slots 0 destination 1 title -/
def w_is_target : WS :=
(wRet (wAndV (wCall S_is_text (wCons (wVar 0) wNil)) (wOrV (wOp (fIs false) (wVar 1) (wC (.none))) (wCall S_is_text (wCons (wVar 1) wNil)))))

theorem m_is_between : ∀ ds Q, S_is_between ds Q → w_is_between { nx := fun _ => Q .none, rt := fun _ d => Q d } (startE ["thing", "low", "high"] ds) := by
  rintro ds Q ⟨d, lo, hi, rfl, k⟩
  show w_is_between _ [.dat d, .dat (.int lo), .dat (.int hi)]
  unfold w_is_between
  cases d with
  | int i =>
    walk_at "dx"
    unfold betweenF at k
    dsimp only at k
    refine ⟨fun h => ?_, fun h => ?_⟩
    · rw [h] at k; exact k
    · rw [h] at k; exact k
  | _ => walk_at "dx"; exact k
theorem m_is_node : ∀ ds Q, S_is_node ds Q → w_is_node { nx := fun _ => Q .none, rt := fun _ d => Q d } (startE ["thing", "word", "many"] ds) := by
  rintro ds Q ⟨d, w, n, rfl, hn, k⟩
  show w_is_node _ [.dat d, .dat (.str w), .dat (.int (n : Int))]
  unfold w_is_node
  cases d with
  | tuple xs =>
    walk_at "dx"
    refine ⟨fun h => ?_, fun h => ?_⟩
    · have hl : xs.length = n := by have := of_decide_eq_true h; omega
      cases xs with
      | nil => simp at hl; omega
      | cons x r =>
        refine ⟨x, atI_0, ?_⟩
        have hl' : r.length + 1 = n := hl
        cases x with
        | str s =>
          walk_at "dx"
          have e : nodeF (.tuple (.str s :: r)) w n = decide (s = w) := by
            show (decide (r.length + 1 = n) && decide (s = w)) = _
            rw [decide_eq_true hl']; rfl
          rw [e] at k; exact k
        | _ => walk_at "dx"; exact k
    · have hl : xs.length ≠ n := by have := of_decide_eq_false h; omega
      have e : nodeF (.tuple xs) w n = false := by
        unfold nodeF
        split
        · rename_i s r he
          cases he
          rw [decide_eq_false (by simpa using hl)]; rfl
        · rfl
      rw [e] at k; exact k
  | _ => walk_at "dx"; exact k
theorem m_has_lines : ∀ ds Q, S_has_lines ds Q → w_has_lines { nx := fun _ => Q .none, rt := fun _ d => Q d } (startE ["text"] ds) := by
  rintro ds Q ⟨x, rfl, k⟩
  show w_has_lines _ [.dat (.str x)]
  unfold w_has_lines
  walk_at "dx"
  rw [tx_nil, feed_eq]
  unfold linesF at k
  refine ⟨fun h => ?_, fun h => ?_⟩
  · rw [h] at k; exact k
  · rw [h] at k; exact k
theorem m_is_target : ∀ ds Q, S_is_target ds Q → w_is_target { nx := fun _ => Q .none, rt := fun _ d => Q d } (startE ["destination", "title"] ds) := by
  rintro ds Q ⟨d, e, rfl, k⟩
  show w_is_target _ [.dat d, .dat e]
  unfold w_is_target
  unfold targetF at k
  refine ⟨_, rfl, d, rfl, isTextF d, rfl, fun h => ?_, fun h => ?_⟩
  · rw [h, Bool.true_and] at k
    refine ⟨_, rfl, rfl, isN e, by simp, fun h2 => ?_, fun h2 => ?_⟩
    · rw [h2] at k; exact k
    · rw [h2] at k; exact ⟨_, rfl, e, rfl, k⟩
  · rw [h] at k; exact k
/-! ### blocks that hold no others -/
def isStrNe (d : PyData) : Bool := match d with
  | .str x => !decide (x = tx [])
  | _ => false
def plainF (d : PyData) : Bool :=
  if nodeF d (sS "code") 3 = true then (isTextF (itm d 1) && (match itm d 1 with | .str x => linesF x | _ => false)) && (isTextF (itm d 2) || (isN (itm d 2) && isStrNe (itm d 1)))
  else if nodeF d (sS "html") 2 = true then isTextF (itm d 1) && (isStrNe (itm d 1) && (match itm d 1 with | .str x => linesF x | _ => false))
  else if nodeF d (sS "definition") 4 = true then isLabelF (itm d 1) && ((match itm d 1 with | .str x => decide (normF x = x) | _ => false) && targetF (itm d 2) (itm d 3))
  else false
def S_is_plain_block : SpD := fun ds P => ∃ d, ds = [d] ∧ smallD d = true ∧ P (.bool (plainF d))
theorem l_is_plain_block : ∀ ds P, S_is_plain_block ds P → ds.length = 1 := by rintro ds P ⟨_, rfl, _⟩; rfl
/-- is_plain_block(thing): slots 0 thing -/
def w_is_plain_block : WS :=
(wSeq (wIf (wTst (wCall S_is_node (wCons (wVar 0) (wCons (wC (.str (PySem.Str.ofString "code"))) (wCons (wC (.int 3)) wNil)))))
(wSeq (wIf (wOr (wNot (wTst (wCall S_is_text (wCons (wOp fIx (wVar 0) (wC (.int 1))) wNil)))) (wNot (wTst (wCall S_has_lines (wCons (wOp fIx (wVar 0) (wC (.int 1))) wNil)))))
(wRet (wC (.bool false)))
wSkip)
(wRet (wOrV (wCall S_is_text (wCons (wOp fIx (wVar 0) (wC (.int 2))) wNil)) (wAndV (wOp (fIs false) (wOp fIx (wVar 0) (wC (.int 2))) (wC (.none))) (wOp (fEq true) (wOp fIx (wVar 0) (wC (.int 1))) (wC (.str (PySem.Str.ofString ""))))))))
wSkip)
(wSeq (wIf (wTst (wCall S_is_node (wCons (wVar 0) (wCons (wC (.str (PySem.Str.ofString "html"))) (wCons (wC (.int 2)) wNil)))))
(wRet (wAndV (wCall S_is_text (wCons (wOp fIx (wVar 0) (wC (.int 1))) wNil)) (wAndV (wOp (fEq true) (wOp fIx (wVar 0) (wC (.int 1))) (wC (.str (PySem.Str.ofString "")))) (wCall S_has_lines (wCons (wOp fIx (wVar 0) (wC (.int 1))) wNil)))))
wSkip)
(wSeq (wIf (wOr (wNot (wTst (wCall S_is_node (wCons (wVar 0) (wCons (wC (.str (PySem.Str.ofString "definition"))) (wCons (wC (.int 4)) wNil)))))) (wNot (wTst (wCall S_is_label_text (wCons (wOp fIx (wVar 0) (wC (.int 1))) wNil)))))
(wRet (wC (.bool false)))
wSkip)
(wRet (wAndV (wOp (fEq false) (wCall S_normalised (wCons (wOp fIx (wVar 0) (wC (.int 1))) wNil)) (wOp fIx (wVar 0) (wC (.int 1)))) (wCall S_is_target (wCons (wOp fIx (wVar 0) (wC (.int 2))) (wCons (wOp fIx (wVar 0) (wC (.int 3))) wNil))))))))

theorem text_str {d : PyData} (h : isTextF d = true) : ∃ x, d = .str x := by
  cases d with
  | str x => exact ⟨x, rfl⟩
  | _ => cases h
theorem label_str {d : PyData} (h : isLabelF d = true) : ∃ x, d = .str x := by
  cases d with
  | str x => exact ⟨x, rfl⟩
  | _ => cases h

/-- an item of a node, as the code reads it -/
theorem ev_itm {ρ : Env} {d : PyData} {w : Str} {n k : Nat} {i : Nat} (h : nodeF d w n = true) (hk : k < n) (hi : ρ.at i = .dat d) : evD (wOp fIx (wVar i) (wC (.int (k : Int)))) ρ (itm d k) := by
  obtain ⟨r, rfl, hr⟩ := node_at h
  exact ev_ix (ev_var hi) ev_c (ix_itm (by simp; omega))
theorem g_node {d : PyData} {w : Str} {n : Nat} (h : 1 ≤ n) : gives S_is_node [d, .str w, .int (n : Int)] (.bool (nodeF d w n)) := fun P p => ⟨d, w, n, rfl, h, p⟩
theorem g_text {d : PyData} : gives S_is_text [d] (.bool (isTextF d)) := fun P p => ⟨d, rfl, p⟩
theorem g_target {d e : PyData} : gives S_is_target [d, e] (.bool (targetF d e)) := fun P p => ⟨d, e, rfl, p⟩
theorem g_between {d : PyData} {lo hi : Int} : gives S_is_between [d, .int lo, .int hi] (.bool (betweenF d lo hi)) := fun P p => ⟨d, lo, hi, rfl, p⟩
theorem ev_node {ρ : Env} {d : PyData} {i : Nat} (w : Str) (n : Nat) (h : 1 ≤ n) (hi : ρ.at i = .dat d) : evD (wCall S_is_node (wCons (wVar i) (wCons (wC (.str w)) (wCons (wC (.int (n : Int))) wNil)))) ρ (.bool (nodeF d w n)) :=
  ev_call (ev_cons (ev_var hi) (ev_cons ev_c (ev_cons ev_c ev_nil))) (g_node h)
def linesD (d : PyData) : Bool := match d with | .str x => linesF x | _ => false
def normD (d : PyData) : Bool := match d with | .str x => decide (normF x = x) | _ => false
theorem ev_linesD {ρ : Env} {we : WE} {d : PyData} (ht : isTextF d = true) (h : evD we ρ d) : evD (wCall S_has_lines (wCons we wNil)) ρ (.bool (linesD d)) := by
  obtain ⟨x, rfl⟩ := text_str ht
  exact ev_call (ev_cons h ev_nil) fun P p => ⟨x, rfl, p⟩
theorem ev_strNe {ρ : Env} {we : WE} {d : PyData} (ht : isTextF d = true) (h : evD we ρ d) : evD (wOp (fEq true) we (wC (.str (PySem.Str.ofString "")))) ρ (.bool (isStrNe d)) := by
  obtain ⟨x, rfl⟩ := text_str ht
  have q := ev_eqS (neg := true) h (ev_c (d := .str (PySem.Str.ofString "")))
  rw [tx_nil, Bool.true_xor] at q
  rw [tx_nil]
  exact q
theorem plainF_def (d : PyData) : plainF d = 
  if nodeF d (sS "code") 3 = true then (isTextF (itm d 1) && linesD (itm d 1)) && (isTextF (itm d 2) || (isN (itm d 2) && isStrNe (itm d 1)))
  else if nodeF d (sS "html") 2 = true then isTextF (itm d 1) && (isStrNe (itm d 1) && linesD (itm d 1))
  else if nodeF d (sS "definition") 4 = true then isLabelF (itm d 1) && (normD (itm d 1) && targetF (itm d 2) (itm d 3))
  else false := rfl
theorem m_is_plain_block : ∀ ds Q, S_is_plain_block ds Q → w_is_plain_block { nx := fun _ => Q .none, rt := fun _ d => Q d } (startE ["thing"] ds) := by
  rintro ds Q ⟨d, rfl, hd, k⟩
  show w_is_plain_block _ [.dat d]
  unfold w_is_plain_block
  rw [plainF_def] at k
  have s1 := small_itm hd 1
  refine ev_guard (ev_tst (ev_node (sS "code") 3 (by decide) rfl)) (fun h => ?_) fun h => ?_
  · rw [if_pos h] at k
    have a1 := fun i => ev_itm (ρ := [.dat d]) (i := i) h (k := 1) (by decide)
    have a2 := fun i => ev_itm (ρ := [.dat d]) (i := i) h (k := 2) (by decide)
    refine ev_guard (ev_or (ev_not (ev_tst (ev_call (ev_cons (a1 0 rfl) ev_nil) g_text))) fun ht => ev_not (ev_tst (ev_linesD (by simpa using ht) (a1 0 rfl)))) (fun hb => ?_) fun hb => ?_
    · have e : (isTextF (itm d 1) && linesD (itm d 1)) = false := by
        cases h1 : isTextF (itm d 1) <;> cases h2 : linesD (itm d 1) <;> simp_all
      rw [e] at k; exact k
    · have h1 : isTextF (itm d 1) = true := by
        cases h1 : isTextF (itm d 1) <;> simp_all
      have e : (isTextF (itm d 1) && linesD (itm d 1)) = true := by
        cases h2 : linesD (itm d 1) <;> simp_all
      rw [e, Bool.true_and] at k
      have q := ev_is (neg := false) (a2 0 rfl)
      rw [Bool.false_xor] at q
      exact ev_ret (ev_orV (ev_call (ev_cons (a2 0 rfl) ev_nil) g_text) fun _ => ev_andV q fun _ => ev_strNe h1 (a1 0 rfl)) k
  rw [if_neg (by rw [h]; exact Bool.false_ne_true)] at k
  refine ev_guard (ev_tst (ev_node (sS "html") 2 (by decide) rfl)) (fun h => ?_) fun h => ?_
  · rw [if_pos h] at k
    have a1 := fun i => ev_itm (ρ := [.dat d]) (i := i) h (k := 1) (by decide)
    exact ev_ret (ev_andV (ev_call (ev_cons (a1 0 rfl) ev_nil) g_text) fun ht => ev_andV (ev_strNe ht (a1 0 rfl)) fun _ => ev_linesD ht (a1 0 rfl)) k
  rw [if_neg (by rw [h]; exact Bool.false_ne_true)] at k
  refine ev_guard (ev_or (ev_not (ev_tst (ev_node (sS "definition") 4 (by decide) rfl))) fun hn => ev_not (ev_tst (ev_call (ev_cons (ev_itm (n := 4) (k := 1) (w := sS "definition") (by simpa using hn) (by decide) rfl) ev_nil) fun P p => ⟨_, rfl, small_short s1, p⟩))) (fun hb => ?_) fun hb => ?_
  · by_cases hn : nodeF d (sS "definition") 4 = true
    · rw [if_pos hn] at k
      have e : isLabelF (itm d 1) = false := by
        cases h1 : isLabelF (itm d 1) <;> simp_all
      rw [e] at k; exact k
    · rw [if_neg hn] at k; exact k
  · have hn : nodeF d (sS "definition") 4 = true := by
      cases h1 : nodeF d (sS "definition") 4 <;> simp_all
    have hl : isLabelF (itm d 1) = true := by
      cases h1 : isLabelF (itm d 1) <;> simp_all
    rw [if_pos hn, hl, Bool.true_and] at k
    have a1 := fun i => ev_itm (ρ := [.dat d]) (i := i) hn (k := 1) (by decide)
    have a2 := fun i => ev_itm (ρ := [.dat d]) (i := i) hn (k := 2) (by decide)
    have a3 := fun i => ev_itm (ρ := [.dat d]) (i := i) hn (k := 3) (by decide)
    refine ev_ret (ev_andV (b := normD (itm d 1)) ?_ fun _ => ev_call (ev_cons (a2 0 rfl) (ev_cons (a3 0 rfl) ev_nil)) g_target) ?_
    rotate_left
    · exact k
    obtain ⟨x, hx⟩ := label_str hl
    have a1' := a1 0 rfl
    rw [hx] at a1' hl s1 ⊢
    have q := ev_eqS (neg := false) (ev_call (S := S_normalised) (d := .str (normF x)) (ev_cons a1' ev_nil) fun P p => ⟨x, rfl, hl, small_short s1, p⟩) a1'
    rw [Bool.false_xor] at q
    exact q
/-! ### rows of inlines -/
def isTup : PyData → Bool
  | .tuple _ => true
  | _ => false
def isNil (d : PyData) : Bool := PyData.eqv d (.tuple [])
def txtF (d : PyData) : Bool := match itm d 0 with
  | .str x => decide (x = sS "text")
  | _ => false
def twoF (ds : List PyData) : Bool := (ds.zip (ds.drop 1)).any fun p => txtF p.1 && txtF p.2
def anyNode (d : PyData) (n : Nat) (ws : List String) : Bool := ws.any fun w => nodeF d (sS w) n
def inlF (rec : Bool → PyData → Bool) (w : Bool) (d : PyData) : Bool :=
  if anyNode d 1 ["soft", "hard"] = true then true
  else if anyNode d 2 ["text", "code", "html"] = true then isTextF (itm d 1) && isStrNe (itm d 1)
  else if anyNode d 2 ["emph", "strong"] = true then !isNil (itm d 1) && rec w (itm d 1)
  else if nodeF d (sS "link") 4 = true then !w && (targetF (itm d 1) (itm d 2) && rec true (itm d 3))
  else nodeF d (sS "image") 4 && (targetF (itm d 1) (itm d 2) && rec false (itm d 3))
def inlsF : Nat → Bool → PyData → Bool
  | 0, _, _ => false
  | r + 1, w, d => isTup d && ((itms d).all (inlF (inlsF r) w) && !twoF (itms d))
abbrev N_is_inlines : Nat := 301
abbrev N_is_inline : Nat := 301
def S_is_inlines (n : Nat) : SpD := fun ds P => ∃ (d : PyData) (w : Bool) (r : Nat), ds = [d, .bool w, .int (r : Int)] ∧ smallD d = true ∧ 2 * r + 1 ≤ n ∧ P (.bool (inlsF r w d))
def S_is_inline (n : Nat) : SpD := fun ds P => ∃ (d : PyData) (w : Bool) (r : Nat), ds = [d, .bool w, .int ((r + 1 : Nat) : Int)] ∧ smallD d = true ∧ 2 * r + 2 ≤ n ∧ P (.bool (inlF (inlsF r) w d))
theorem l_is_inlines : ∀ n ds P, S_is_inlines n ds P → ds.length = 3 := by rintro n ds P ⟨_, _, _, rfl, _⟩; rfl
theorem l_is_inline : ∀ n ds P, S_is_inline n ds P → ds.length = 3 := by rintro n ds P ⟨_, _, _, rfl, _⟩; rfl
/-! ### rows of blocks -/
def bulF : PyData → Bool
  | .str s => [sS "-", sS "+", sS "*"].any fun y => decide (y = s)
  | _ => false
def ordF : PyData → Bool
  | .str s => [sS ".", sS ")"].any fun y => decide (y = s)
  | _ => false
def isBl : PyData → Bool
  | .bool _ => true
  | _ => false
def listF (recB : PyData → Bool) (d : PyData) : Bool :=
  (((bulF (itm d 1) || ordF (itm d 1)) && isBl (itm d 3)) && !((bulF (itm d 1) && !isN (itm d 2)) || (ordF (itm d 1) && !betweenF (itm d 2) 0 999999999)))
    && (isTup (itm d 4) && (!isNil (itm d 4) && (itms (itm d 4)).all recB))
def blkF (recB recI : PyData → Bool) (d : PyData) : Bool :=
  if nodeF d (sS "quote") 2 = true then recB (itm d 1)
  else if nodeF d (sS "list") 5 = true then listF recB d
  else if nodeF d (sS "heading") 3 = true then betweenF (itm d 1) 1 6 && recI (itm d 2)
  else if nodeF d (sS "paragraph") 2 = true then !isNil (itm d 1) && recI (itm d 1)
  else nodeF d (sS "break") 1 || plainF d
def blksF : Nat → PyData → Bool
  | 0, _ => false
  | r + 1, d => isTup d && (itms d).all (blkF (blksF r) (inlsF r false))
abbrev N_is_blocks : Nat := 301
abbrev N_is_block : Nat := 301
abbrev N_is_list : Nat := 301
def S_is_blocks (n : Nat) : SpD := fun ds P => ∃ (d : PyData) (r : Nat), ds = [d, .int (r : Int)] ∧ (isTup d = true → smallD d = true) ∧ 3 * r + 1 ≤ n ∧ r ≤ 100 ∧ P (.bool (blksF r d))
def S_is_block (n : Nat) : SpD := fun ds P => ∃ (d : PyData) (r : Nat), ds = [d, .int ((r + 1 : Nat) : Int)] ∧ smallD d = true ∧ 3 * r + 3 ≤ n ∧ r ≤ 100 ∧ P (.bool (blkF (blksF r) (inlsF r false) d))
def S_is_list (n : Nat) : SpD := fun ds P => ∃ (d : PyData) (r : Nat), ds = [d, .int ((r + 1 : Nat) : Int)] ∧ smallD d = true ∧ nodeF d (sS "list") 5 = true ∧ 3 * r + 2 ≤ n ∧ r ≤ 100 ∧ P (.bool (listF (blksF r) d))
theorem l_is_blocks : ∀ n ds P, S_is_blocks n ds P → ds.length = 2 := by rintro n ds P ⟨_, _, rfl, _⟩; rfl
theorem l_is_block : ∀ n ds P, S_is_block n ds P → ds.length = 2 := by rintro n ds P ⟨_, _, rfl, _⟩; rfl
theorem l_is_list : ∀ n ds P, S_is_list n ds P → ds.length = 2 := by rintro n ds P ⟨_, _, rfl, _⟩; rfl
def S_is_tree : SpD := fun ds P => ∃ d : PyData, ds = [d] ∧ (isTup d = true → smallD d = true) ∧ P (.bool (blksF 100 d))
theorem l_is_tree : ∀ ds P, S_is_tree ds P → ds.length = 1 := by rintro ds P ⟨_, rfl, _⟩; rfl
theorem z_is_inlines : (fun _ _ => False) = S_is_inlines 0 := by
  funext ds P; exact propext ⟨False.elim, fun h => by obtain ⟨_, _, _, _, _, h, _⟩ := h; omega⟩
theorem z_is_inline : (fun _ _ => False) = S_is_inline 0 := by
  funext ds P; exact propext ⟨False.elim, fun h => by obtain ⟨_, _, _, _, _, h, _⟩ := h; omega⟩
theorem z_is_blocks : (fun _ _ => False) = S_is_blocks 0 := by
  funext ds P; exact propext ⟨False.elim, fun h => by obtain ⟨_, _, _, _, h, _⟩ := h; omega⟩
theorem z_is_block : (fun _ _ => False) = S_is_block 0 := by
  funext ds P; exact propext ⟨False.elim, fun h => by obtain ⟨_, _, _, _, h, _⟩ := h; omega⟩
theorem z_is_list : (fun _ _ => False) = S_is_list 0 := by
  funext ds P; exact propext ⟨False.elim, fun h => by obtain ⟨_, _, _, _, _, h, _⟩ := h; omega⟩
theorem line10k {n : Nat} (h : n ≤ 10000) : n ≤ sizeLine := line_of (by omega)
theorem tup_itms {d : PyData} (h : isTup d = true) : d = .tuple (itms d) := by
  cases d with
  | tuple ds => rfl
  | _ => cases h
theorem small_nil {d : PyData} (h : smallD d = true) : eqOk d (.tuple []) = true := by
  unfold eqOk
  rw [small_lay h]
  have : min d.depth (PyData.tuple []).depth ≤ 64 := Nat.le_trans (Nat.min_le_right _ _) (by decide)
  rw [decide_eq_true this]; rfl
theorem ev_notNil {ρ : Env} {we : WE} {d : PyData} (hs : smallD d = true) (h : evD we ρ d) : evD (wOp (fEq true) we (wTup wNil)) ρ (.bool (!isNil d)) := by
  refine ev_op h (ev_tup ev_nil (Nat.zero_le _)) fun P p => ?_
  have q : eqOk d (.tuple []) = true ∧ P (.bool (true ^^ PyData.eqv d (.tuple []))) := ⟨small_nil hs, by rw [Bool.true_xor]; exact p⟩
  cases d <;> exact q
theorem any_node {d : PyData} {n : Nat} {ws : List String} (h : anyNode d n ws = true) : ∃ w, nodeF d w n = true := by
  unfold anyNode at h
  obtain ⟨w, _, h2⟩ := List.any_eq_true.mp h
  exact ⟨_, h2⟩
theorem inl_node {rec : Bool → PyData → Bool} {w : Bool} {d : PyData} (h : inlF rec w d = true) : ∃ s n, 1 ≤ n ∧ nodeF d s n = true := by
  unfold inlF at h
  split at h
  · rename_i h1; obtain ⟨s, q⟩ := any_node h1; exact ⟨s, 1, by decide, q⟩
  split at h
  · rename_i h1; obtain ⟨s, q⟩ := any_node h1; exact ⟨s, 2, by decide, q⟩
  split at h
  · rename_i h1; obtain ⟨s, q⟩ := any_node h1; exact ⟨s, 2, by decide, q⟩
  split at h
  · rename_i h1; exact ⟨_, 4, by decide, h1⟩
  · exact ⟨_, 4, by decide, (Bool.and_eq_true_iff.mp h).1⟩
def w_is_inlines_e1 (S_is_inlines : SpD) (S_is_inline : SpD) (S_is_blocks : SpD) (S_is_block : SpD) (S_is_list : SpD) : WE :=
(wAndV (wOp (fEq false) (wOp fIx (wVar 3) (wC (.int 0))) (wC (.str (PySem.Str.ofString "text")))) (wOp (fEq false) (wOp fIx (wVar 4) (wC (.int 0))) (wC (.str (PySem.Str.ofString "text")))))
def w_is_inlines_e2 (S_is_inlines : SpD) (S_is_inline : SpD) (S_is_blocks : SpD) (S_is_block : SpD) (S_is_list : SpD) : WE :=
(wCall S_is_inline (wCons (wVar 3) (wCons (wVar 1) (wCons (wVar 2) wNil))))
/-- is_inlines(thing, is_within, room): slots 0 thing 1 is_within 2 room 3 one 4 other -/
def w_is_inlines (S_is_inlines : SpD) (S_is_inline : SpD) (S_is_blocks : SpD) (S_is_block : SpD) (S_is_list : SpD) : WS :=
(wSeq (wIf (wOr (wNot (wTst (wIsi .tuple (wVar 0)))) (wOr (wTst (wOp (fEq false) (wVar 2) (wC (.int 0)))) (wNot (wTst (wU (fBools fun bs => bs.all id) (wLc 3 (wSeqI (wVar 0)) wYes (w_is_inlines_e2 S_is_inlines S_is_inline S_is_blocks S_is_block S_is_list)))))))
(wRet (wC (.bool false)))
wSkip)
(wRet (wNotV (wU (fBools fun bs => bs.any id) (wLc2 3 4 (wZip (wVar 0) (wSl (wVar 0) (wSo (wC (.int 1))) wNo)) (w_is_inlines_e1 S_is_inlines S_is_inline S_is_blocks S_is_block S_is_list))))))

def w_is_inline_e1 (S_is_inlines : SpD) (S_is_inline : SpD) (S_is_blocks : SpD) (S_is_block : SpD) (S_is_list : SpD) : WE :=
(wCall S_is_node (wCons (wVar 0) (wCons (wVar 3) (wCons (wC (.int 2)) wNil))))
def w_is_inline_e2 (S_is_inlines : SpD) (S_is_inline : SpD) (S_is_blocks : SpD) (S_is_block : SpD) (S_is_list : SpD) : WE :=
(wCall S_is_node (wCons (wVar 0) (wCons (wVar 3) (wCons (wC (.int 1)) wNil))))
/-- is_inline(thing, is_within, room): slots 0 thing 1 is_within 2 room 3 word -/
def w_is_inline (S_is_inlines : SpD) (S_is_inline : SpD) (S_is_blocks : SpD) (S_is_block : SpD) (S_is_list : SpD) : WS :=
(wSeq (wIf (wTst (wU (fBools fun bs => bs.any id) (wLc 3 (wSeqI (wC (.tuple [.str (PySem.Str.ofString "soft"), .str (PySem.Str.ofString "hard")]))) wYes (w_is_inline_e2 S_is_inlines S_is_inline S_is_blocks S_is_block S_is_list))))
(wRet (wC (.bool true)))
wSkip)
(wSeq (wIf (wTst (wU (fBools fun bs => bs.any id) (wLc 3 (wSeqI (wC (.tuple [.str (PySem.Str.ofString "text"), .str (PySem.Str.ofString "code"), .str (PySem.Str.ofString "html")]))) wYes (w_is_inline_e1 S_is_inlines S_is_inline S_is_blocks S_is_block S_is_list))))
(wRet (wAndV (wCall S_is_text (wCons (wOp fIx (wVar 0) (wC (.int 1))) wNil)) (wOp (fEq true) (wOp fIx (wVar 0) (wC (.int 1))) (wC (.str (PySem.Str.ofString ""))))))
wSkip)
(wSeq (wIf (wTst (wU (fBools fun bs => bs.any id) (wLc 3 (wSeqI (wC (.tuple [.str (PySem.Str.ofString "emph"), .str (PySem.Str.ofString "strong")]))) wYes (w_is_inline_e1 S_is_inlines S_is_inline S_is_blocks S_is_block S_is_list))))
(wRet (wAndV (wOp (fEq true) (wOp fIx (wVar 0) (wC (.int 1))) (wTup wNil)) (wCall S_is_inlines (wCons (wOp fIx (wVar 0) (wC (.int 1))) (wCons (wVar 1) (wCons (wOp fSub (wVar 2) (wC (.int 1))) wNil))))))
wSkip)
(wSeq (wIf (wTst (wCall S_is_node (wCons (wVar 0) (wCons (wC (.str (PySem.Str.ofString "link"))) (wCons (wC (.int 4)) wNil)))))
(wRet (wAndV (wNotV (wVar 1)) (wAndV (wCall S_is_target (wCons (wOp fIx (wVar 0) (wC (.int 1))) (wCons (wOp fIx (wVar 0) (wC (.int 2))) wNil))) (wCall S_is_inlines (wCons (wOp fIx (wVar 0) (wC (.int 3))) (wCons (wC (.bool true)) (wCons (wOp fSub (wVar 2) (wC (.int 1))) wNil)))))))
wSkip)
(wRet (wAndV (wCall S_is_node (wCons (wVar 0) (wCons (wC (.str (PySem.Str.ofString "image"))) (wCons (wC (.int 4)) wNil)))) (wAndV (wCall S_is_target (wCons (wOp fIx (wVar 0) (wC (.int 1))) (wCons (wOp fIx (wVar 0) (wC (.int 2))) wNil))) (wCall S_is_inlines (wCons (wOp fIx (wVar 0) (wC (.int 3))) (wCons (wC (.bool false)) (wCons (wOp fSub (wVar 2) (wC (.int 1))) wNil)))))))))))


theorem at_two {ds : List PyData} {p : PyData × PyData} (h : p ∈ ds.zip (ds.drop 1)) : p.1 ∈ ds ∧ p.2 ∈ ds := by
  have q := List.of_mem_zip h
  exact ⟨q.1, List.mem_of_mem_drop q.2⟩
theorem ev_txt {ρ : Env} {d : PyData} {i : Nat} {s : Str} {n : Nat} (hn : 1 ≤ n) (h : nodeF d s n = true) (hi : ρ.at i = .dat d) : evD (wOp (fEq false) (wOp fIx (wVar i) (wC (.int 0))) (wC (.str (PySem.Str.ofString "text")))) ρ (.bool (txtF d)) := by
  have q := ev_itm (k := 0) h hn hi
  obtain ⟨r, rfl, hr⟩ := node_at h
  have q2 := ev_eqS (neg := false) (s := s) q (ev_c (d := .str (PySem.Str.ofString "text")))
  rw [Bool.false_xor] at q2
  exact q2
theorem m_is_inlines : ∀ n ds Q, S_is_inlines (n + 1) ds Q → w_is_inlines (S_is_inlines n) (S_is_inline n) (S_is_blocks n) (S_is_block n) (S_is_list n) { nx := fun _ => Q .none, rt := fun _ d => Q d } (startE ["thing", "is_within", "room", "one", "other"] ds) := by
  rintro n ds Q ⟨d, w, r, rfl, hd, hr, k⟩
  show w_is_inlines _ _ _ _ _ _ [.dat d, .dat (.bool w), .dat (.int (r : Int)), .un, .un]
  unfold w_is_inlines
  cases r with
  | zero =>
    have e : (PyData.bool (inlsF 0 w d)) = .bool false := rfl
    rw [e] at k
    refine ev_seq (ev_if (b := (!isiD .tuple d || true)) (ev_or (ev_not (ev_tst (ev_isi (ev_var rfl)))) fun _ => ev_or (b := true) (c := true) (ev_tst (ev_op (x := .int ((0 : Nat) : Int)) (y := .int 0) (ev_var rfl) ev_c fun P p => p)) fun z => by cases z) (fun _ => k) fun z => by simp at z)
  | succ r =>
    by_cases ht : isTup d = true
    · have e0 := tup_itms ht
      obtain ⟨hlen, hmem⟩ := small_items (e0 ▸ hd)
      have e1 : inlsF (r + 1) w d = ((itms d).all (inlF (inlsF r) w) && !twoF (itms d)) := by
        show (isTup d && _) = _
        rw [ht, Bool.true_and]
      rw [e1] at k
      generalize itms d = es at *
      subst e0
      refine ev_guard (ev_or (b := false) (ev_not (b := true) (ev_tst (ev_isi' (ev_var rfl) rfl))) fun _ => ev_or (b := false) (ev_tst (ev_op (ev_var rfl) ev_c fun P p => ?_)) fun _ => ev_not (ev_tst (ev_all (f := inlF (inlsF r) w) rfl (ev_var rfl) (line10k hlen) fun x hx => ev_call (ev_cons (ev_var rfl) (ev_cons (ev_var rfl) (ev_cons (ev_var rfl) ev_nil))) fun P p => ⟨x, w, r, rfl, hmem x hx, by omega, p⟩))) (fun hb => ?_) fun hb => ?_
      · have : decide (((r + 1 : Nat) : Int) = 0) = false := decide_eq_false (by omega)
        show P (.bool (false ^^ decide (((r + 1 : Nat) : Int) = 0)))
        rw [this]; exact p
      · have e : es.all (inlF (inlsF r) w) = false := by
          cases h1 : es.all (inlF (inlsF r) w) <;> simp_all
        rw [e] at k; exact k
      · have e : es.all (inlF (inlsF r) w) = true := by
          cases h1 : es.all (inlF (inlsF r) w) <;> simp_all
        rw [e, Bool.true_and] at k
        refine ev_ret (ev_notV (b := twoF es) ?_) k
        have q : evD (wLc2 3 4 (wZip (wVar 0) (wSl (wVar 0) (wSo (wC (.int 1))) wNo)) (w_is_inlines_e1 (S_is_inlines n) (S_is_inline n) (S_is_blocks n) (S_is_block n) (S_is_list n))) [.dat (.tuple es), .dat (.bool w), .dat (.int ((r + 1 : Nat) : Int)), .un, .un] (.list ((es.zip (es.drop 1)).map fun p => .bool (txtF p.1 && txtF p.2))) := by
          refine ev_lcZip (i := 3) (j := 4) (xs := es) (ys := es.drop 1) (f := fun x y => .bool (txtF x && txtF y)) rfl rfl (by decide) (ev_var rfl) ?_ (line10k hlen) fun p hp => ?_
          · have q2 := ev_slT (ρ := [.dat (.tuple es), .dat (.bool w), .dat (.int ((r + 1 : Nat) : Int)), .un, .un]) (ds := es) (ev_var (i := 0) rfl) (ev_so (ev_c (d := .int 1))) ev_no
            rw [show (some 1 : Option Int) = some ((1 : Nat) : Int) from rfl, cutD_from] at q2
            exact q2
          · obtain ⟨m1, m2⟩ := at_two hp
            obtain ⟨s1, n1, g1, f1⟩ := inl_node (List.all_eq_true.mp e _ m1)
            obtain ⟨s2, n2, g2, f2⟩ := inl_node (List.all_eq_true.mp e _ m2)
            exact ev_andV (ev_txt g1 f1 rfl) fun _ => ev_txt g2 f2 rfl
        refine ev_u q fun P p => ⟨(es.zip (es.drop 1)).map fun p => txtF p.1 && txtF p.2, by rw [List.map_map]; rfl, ?_⟩
        show P (.bool (((es.zip (es.drop 1)).map fun p => txtF p.1 && txtF p.2).any id))
        rw [List.any_map]; exact p
    · have e1 : inlsF (r + 1) w d = false := by
        show (isTup d && _) = _
        rw [Bool.not_eq_true] at ht
        rw [ht]; rfl
      have e2 : isiD .tuple d = false := by cases d <;> first | rfl | exact absurd rfl ht
      rw [e1] at k
      exact ev_seq (ev_if (ev_or (b := true) (c := true) (ev_not (b := false) (ev_tst (ev_isi' (ev_var rfl) e2))) fun z => by cases z) (fun _ => k) fun z => by cases z)

theorem ev_anyNode {ρ : Env} {d : PyData} {i : Nat} {n : Nat} {ws : List String} {we : WE} (hn : 1 ≤ n) (hρ : ρ.set i .un = ρ) (h0 : ∀ x, Env.at (ρ.set i x) 0 = .dat d) (hi : ∀ x, Env.at (ρ.set i x) i = x) (hl : ws.length ≤ 10000) (hw : evD we ρ (.tuple (ws.map fun w => .str (sS w)))) :
    evD (wU (fBools fun bs => bs.any id) (wLc i (wSeqI we) wYes (wCall S_is_node (wCons (wVar 0) (wCons (wVar i) (wCons (wC (.int (n : Int))) wNil)))))) ρ (.bool (anyNode d n ws)) := by
  have q := ev_any (f := fun e => match e with | .str x => nodeF d x n | _ => false) (we' := wCall S_is_node (wCons (wVar 0) (wCons (wVar i) (wCons (wC (.int (n : Int))) wNil)))) hρ hw (by rw [List.length_map]; exact line10k hl) fun x hx => by
    obtain ⟨w, _, rfl⟩ := List.mem_map.mp hx
    exact ev_call (ev_cons (ev_var (h0 _)) (ev_cons (ev_var (hi _)) (ev_cons ev_c ev_nil))) (g_node hn)
  rw [List.any_map] at q
  exact q
theorem ev_itm2 {ρ : Env} {d : PyData} {n k : Nat} {ws : List String} {i : Nat} (h : anyNode d n ws = true) (hk : k < n) (hi : ρ.at i = .dat d) : evD (wOp fIx (wVar i) (wC (.int (k : Int)))) ρ (itm d k) := by
  obtain ⟨w, hw⟩ := any_node h
  exact ev_itm hw hk hi
theorem m_is_inline : ∀ n ds Q, S_is_inline (n + 1) ds Q → w_is_inline (S_is_inlines n) (S_is_inline n) (S_is_blocks n) (S_is_block n) (S_is_list n) { nx := fun _ => Q .none, rt := fun _ d => Q d } (startE ["thing", "is_within", "room", "word"] ds) := by
  rintro n ds Q ⟨d, w, r, rfl, hd, hr, k⟩
  show w_is_inline _ _ _ _ _ _ [.dat d, .dat (.bool w), .dat (.int ((r + 1 : Nat) : Int)), .un]
  unfold w_is_inline w_is_inline_e1 w_is_inline_e2
  unfold inlF at k
  have room : evD (wOp fSub (wVar 2) (wC (.int 1))) [.dat d, .dat (.bool w), .dat (.int ((r + 1 : Nat) : Int)), .un] (.int (r : Int)) := by
    have q := ev_sub (ρ := [.dat d, .dat (.bool w), .dat (.int ((r + 1 : Nat) : Int)), .un]) (ev_var (i := 2) rfl) (ev_c (d := .int 1))
    rw [show (((r + 1 : Nat) : Int) - 1) = (r : Int) by omega] at q
    exact q
  have rek : ∀ {wa wb : WE} {e : PyData} {v : Bool}, smallD e = true → evD wa [.dat d, .dat (.bool w), .dat (.int ((r + 1 : Nat) : Int)), .un] e → evD wb [.dat d, .dat (.bool w), .dat (.int ((r + 1 : Nat) : Int)), .un] (.bool v) → evD (wCall (S_is_inlines n) (wCons wa (wCons wb (wCons (wOp fSub (wVar 2) (wC (.int 1))) wNil)))) [.dat d, .dat (.bool w), .dat (.int ((r + 1 : Nat) : Int)), .un] (.bool (inlsF r v e)) := fun he h1 h2 =>
    ev_call (ev_cons h1 (ev_cons h2 (ev_cons room ev_nil))) fun P p => ⟨_, _, r, rfl, he, by omega, p⟩
  refine ev_guard (ev_tst (ev_anyNode (d := d) (n := 1) (ws := ["soft", "hard"]) (by decide) rfl (fun _ => rfl) (fun _ => rfl) (by decide) ev_c)) (fun h => ?_) fun h => ?_
  · rw [if_pos h] at k; exact k
  rw [if_neg (by rw [h]; exact Bool.false_ne_true)] at k
  refine ev_guard (ev_tst (ev_anyNode (d := d) (n := 2) (ws := ["text", "code", "html"]) (by decide) rfl (fun _ => rfl) (fun _ => rfl) (by decide) ev_c)) (fun h => ?_) fun h => ?_
  · rw [if_pos h] at k
    exact ev_ret (ev_andV (ev_call (ev_cons (ev_itm2 (k := 1) h (by decide) rfl) ev_nil) g_text) fun ht => ev_strNe ht (ev_itm2 (k := 1) h (by decide) rfl)) k
  rw [if_neg (by rw [h]; exact Bool.false_ne_true)] at k
  refine ev_guard (ev_tst (ev_anyNode (d := d) (n := 2) (ws := ["emph", "strong"]) (by decide) rfl (fun _ => rfl) (fun _ => rfl) (by decide) ev_c)) (fun h => ?_) fun h => ?_
  · rw [if_pos h] at k
    exact ev_ret (ev_andV (ev_notNil (small_itm hd 1) (ev_itm2 (k := 1) h (by decide) rfl)) fun _ => rek (small_itm hd 1) (ev_itm2 (k := 1) h (by decide) rfl) (ev_var rfl)) k
  rw [if_neg (by rw [h]; exact Bool.false_ne_true)] at k
  refine ev_guard (ev_tst (ev_node (sS "link") 4 (by decide) rfl)) (fun h => ?_) fun h => ?_
  · rw [if_pos h] at k
    exact ev_ret (ev_andV (ev_notV (ev_var rfl)) fun _ => ev_andV (ev_call (ev_cons (ev_itm (k := 1) h (by decide) rfl) (ev_cons (ev_itm (k := 2) h (by decide) rfl) ev_nil)) g_target) fun _ => rek (small_itm hd 3) (ev_itm (k := 3) h (by decide) rfl) ev_c) k
  rw [if_neg (by rw [h]; exact Bool.false_ne_true)] at k
  exact ev_ret (ev_andV (ev_node (sS "image") 4 (by decide) rfl) fun h => ev_andV (ev_call (ev_cons (ev_itm (k := 1) h (by decide) rfl) (ev_cons (ev_itm (k := 2) h (by decide) rfl) ev_nil)) g_target) fun _ => rek (small_itm hd 3) (ev_itm (k := 3) h (by decide) rfl) ev_c) k
theorem isi_tup (d : PyData) : isiD .tuple d = isTup d := by cases d <;> rfl
theorem isi_bool (d : PyData) : isiD .bool d = isBl d := by cases d <;> rfl
def w_is_blocks_e1 (S_is_inlines : SpD) (S_is_inline : SpD) (S_is_blocks : SpD) (S_is_block : SpD) (S_is_list : SpD) : WE :=
(wCall S_is_block (wCons (wVar 2) (wCons (wVar 1) wNil)))
/-- is_blocks(thing, room): slots 0 thing 1 room 2 one -/
def w_is_blocks (S_is_inlines : SpD) (S_is_inline : SpD) (S_is_blocks : SpD) (S_is_block : SpD) (S_is_list : SpD) : WS :=
(wRet (wAndV (wIsi .tuple (wVar 0)) (wAndV (wOp fGt (wVar 1) (wC (.int 0))) (wU (fBools fun bs => bs.all id) (wLc 2 (wSeqI (wVar 0)) wYes (w_is_blocks_e1 S_is_inlines S_is_inline S_is_blocks S_is_block S_is_list))))))

/-- is_block(thing, room): slots 0 thing 1 room -/
def w_is_block (S_is_inlines : SpD) (S_is_inline : SpD) (S_is_blocks : SpD) (S_is_block : SpD) (S_is_list : SpD) : WS :=
(wSeq (wIf (wTst (wCall S_is_node (wCons (wVar 0) (wCons (wC (.str (PySem.Str.ofString "quote"))) (wCons (wC (.int 2)) wNil)))))
(wRet (wCall S_is_blocks (wCons (wOp fIx (wVar 0) (wC (.int 1))) (wCons (wOp fSub (wVar 1) (wC (.int 1))) wNil))))
wSkip)
(wSeq (wIf (wTst (wCall S_is_node (wCons (wVar 0) (wCons (wC (.str (PySem.Str.ofString "list"))) (wCons (wC (.int 5)) wNil)))))
(wRet (wCall S_is_list (wCons (wVar 0) (wCons (wVar 1) wNil))))
wSkip)
(wSeq (wIf (wTst (wCall S_is_node (wCons (wVar 0) (wCons (wC (.str (PySem.Str.ofString "heading"))) (wCons (wC (.int 3)) wNil)))))
(wRet (wAndV (wCall S_is_between (wCons (wOp fIx (wVar 0) (wC (.int 1))) (wCons (wC (.int 1)) (wCons (wC (.int 6)) wNil)))) (wCall S_is_inlines (wCons (wOp fIx (wVar 0) (wC (.int 2))) (wCons (wC (.bool false)) (wCons (wOp fSub (wVar 1) (wC (.int 1))) wNil))))))
wSkip)
(wSeq (wIf (wTst (wCall S_is_node (wCons (wVar 0) (wCons (wC (.str (PySem.Str.ofString "paragraph"))) (wCons (wC (.int 2)) wNil)))))
(wRet (wAndV (wOp (fEq true) (wOp fIx (wVar 0) (wC (.int 1))) (wTup wNil)) (wCall S_is_inlines (wCons (wOp fIx (wVar 0) (wC (.int 1))) (wCons (wC (.bool false)) (wCons (wOp fSub (wVar 1) (wC (.int 1))) wNil))))))
wSkip)
(wRet (wOrV (wCall S_is_node (wCons (wVar 0) (wCons (wC (.str (PySem.Str.ofString "break"))) (wCons (wC (.int 1)) wNil)))) (wCall S_is_plain_block (wCons (wVar 0) wNil))))))))

def w_is_list_e1 (S_is_inlines : SpD) (S_is_inline : SpD) (S_is_blocks : SpD) (S_is_block : SpD) (S_is_list : SpD) : WE :=
(wCall S_is_blocks (wCons (wVar 7) (wCons (wOp fSub (wVar 1) (wC (.int 1))) wNil)))
/-- is_list(thing, room): slots 0 thing 1 room 2 word 3 sign 4 start 5 is_tight 6 items 7 item -/
def w_is_list (S_is_inlines : SpD) (S_is_inline : SpD) (S_is_blocks : SpD) (S_is_block : SpD) (S_is_list : SpD) : WS :=
(wSeq (wAsg (wVar 0) (gT 5 (gCons' (gN 2) (gCons' (gN 3) (gCons' (gN 4) (gCons' (gN 5) (gCons' (gN 6) gNil')))))))
(wSeq (wIf (wOr (wNot (wTst (wIsi .str (wVar 3)))) (wOr (wTst (wOp (fIn true) (wVar 3) (wC (.tuple [.str (PySem.Str.ofString "-"), .str (PySem.Str.ofString "+"), .str (PySem.Str.ofString "*"), .str (PySem.Str.ofString "."), .str (PySem.Str.ofString ")")])))) (wNot (wTst (wIsi .bool (wVar 5))))))
(wRet (wC (.bool false)))
wSkip)
(wSeq (wIf (wOr (wAnd (wTst (wOp (fIn false) (wVar 3) (wSl (wC (.tuple [.str (PySem.Str.ofString "-"), .str (PySem.Str.ofString "+"), .str (PySem.Str.ofString "*"), .str (PySem.Str.ofString "."), .str (PySem.Str.ofString ")")])) wNo (wSo (wC (.int 3)))))) (wTst (wOp (fIs true) (wVar 4) (wC (.none))))) (wAnd (wTst (wOp (fIn false) (wVar 3) (wSl (wC (.tuple [.str (PySem.Str.ofString "-"), .str (PySem.Str.ofString "+"), .str (PySem.Str.ofString "*"), .str (PySem.Str.ofString "."), .str (PySem.Str.ofString ")")])) (wSo (wC (.int 3))) wNo))) (wNot (wTst (wCall S_is_between (wCons (wVar 4) (wCons (wC (.int 0)) (wCons (wC (.int 999999999)) wNil))))))))
(wRet (wC (.bool false)))
wSkip)
(wRet (wAndV (wIsi .tuple (wVar 6)) (wAndV (wOp (fEq true) (wVar 6) (wTup wNil)) (wU (fBools fun bs => bs.all id) (wLc 7 (wSeqI (wVar 6)) wYes (w_is_list_e1 S_is_inlines S_is_inline S_is_blocks S_is_block S_is_list)))))))))

/-- is_tree(thing): slots 0 thing -/
def w_is_tree : WS :=
(wRet (wCall (S_is_blocks N_is_blocks) (wCons (wVar 0) (wCons (wC (.int 100)) wNil))))


theorem ev_isT {ρ : Env} {i : Nat} {d : PyData} (h : ρ.at i = .dat d) : evD (wIsi .tuple (wVar i)) ρ (.bool (isTup d)) := ev_isi' (ev_var h) (isi_tup d)
theorem m_is_blocks : ∀ n ds Q, S_is_blocks (n + 1) ds Q → w_is_blocks (S_is_inlines n) (S_is_inline n) (S_is_blocks n) (S_is_block n) (S_is_list n) { nx := fun _ => Q .none, rt := fun _ d => Q d } (startE ["thing", "room", "one"] ds) := by
  rintro n ds Q ⟨d, r, rfl, hd, hr, hr2, k⟩
  show w_is_blocks _ _ _ _ _ _ [.dat d, .dat (.int (r : Int)), .un]
  unfold w_is_blocks
  cases r with
  | zero =>
    have q := ev_andV (c := false) (ev_isT (ρ := [.dat d, .dat (.int ((0 : Nat) : Int)), .un]) (i := 0) rfl) fun _ => ev_andV (u := wU (fBools fun bs => bs.all id) (wLc 2 (wSeqI (wVar 0)) wYes (w_is_blocks_e1 (S_is_inlines n) (S_is_inline n) (S_is_blocks n) (S_is_block n) (S_is_list n)))) (b := false) (c := false) (ev_op (f := fGt) (x := .int ((0 : Nat) : Int)) (y := .int 0) (ev_var (i := 1) rfl) ev_c fun P p => p) fun z => by cases z
    rw [Bool.and_false] at q
    exact ev_ret q k
  | succ r =>
    have q : evD (wAndV (wIsi .tuple (wVar 0)) (wAndV (wOp fGt (wVar 1) (wC (.int 0))) (wU (fBools fun bs => bs.all id) (wLc 2 (wSeqI (wVar 0)) wYes (w_is_blocks_e1 (S_is_inlines n) (S_is_inline n) (S_is_blocks n) (S_is_block n) (S_is_list n)))))) [.dat d, .dat (.int ((r + 1 : Nat) : Int)), .un] (.bool (blksF (r + 1) d)) := by
      refine ev_andV (ev_isT rfl) fun ht => ?_
      have e0 := tup_itms ht
      obtain ⟨hlen, hmem⟩ := small_items (e0 ▸ hd ht)
      have g : evD (wOp fGt (wVar 1) (wC (.int 0))) [.dat d, .dat (.int ((r + 1 : Nat) : Int)), .un] (.bool true) := by
        have q := ev_gt (ρ := [.dat d, .dat (.int ((r + 1 : Nat) : Int)), .un]) (ev_var (i := 1) rfl) (ev_c (d := .int 0))
        rw [decide_eq_true (by omega)] at q
        exact q
      refine ev_andV g fun _ => ev_all rfl (ev_var (by rw [← e0]; rfl)) (line10k hlen) fun x hx => ev_call (ev_cons (ev_var rfl) (ev_cons (ev_var rfl) ev_nil)) fun P p => ⟨x, r, rfl, hmem x hx, by omega, by omega, p⟩
    exact ev_ret q k
theorem m_is_block : ∀ n ds Q, S_is_block (n + 1) ds Q → w_is_block (S_is_inlines n) (S_is_inline n) (S_is_blocks n) (S_is_block n) (S_is_list n) { nx := fun _ => Q .none, rt := fun _ d => Q d } (startE ["thing", "room"] ds) := by
  rintro n ds Q ⟨d, r, rfl, hd, hr, hr2, k⟩
  show w_is_block _ _ _ _ _ _ [.dat d, .dat (.int ((r + 1 : Nat) : Int))]
  unfold w_is_block
  unfold blkF at k
  have room : evD (wOp fSub (wVar 1) (wC (.int 1))) [.dat d, .dat (.int ((r + 1 : Nat) : Int))] (.int (r : Int)) := by
    have q := ev_sub (ρ := [.dat d, .dat (.int ((r + 1 : Nat) : Int))]) (ev_var (i := 1) rfl) (ev_c (d := .int 1))
    rw [show (((r + 1 : Nat) : Int) - 1) = (r : Int) by omega] at q
    exact q
  have rek : ∀ {wa : WE} {e : PyData}, smallD e = true → evD wa [.dat d, .dat (.int ((r + 1 : Nat) : Int))] e → evD (wCall (S_is_inlines n) (wCons wa (wCons (wC (.bool false)) (wCons (wOp fSub (wVar 1) (wC (.int 1))) wNil)))) [.dat d, .dat (.int ((r + 1 : Nat) : Int))] (.bool (inlsF r false e)) := fun he h1 =>
    ev_call (ev_cons h1 (ev_cons ev_c (ev_cons room ev_nil))) fun P p => ⟨_, _, r, rfl, he, by omega, p⟩
  refine ev_guard (ev_tst (ev_node (sS "quote") 2 (by decide) rfl)) (fun h => ?_) fun h => ?_
  · rw [if_pos h] at k
    exact ev_ret (ev_call (ev_cons (ev_itm (k := 1) h (by decide) rfl) (ev_cons room ev_nil)) fun P p => ⟨_, r, rfl, fun _ => small_itm hd 1, by omega, hr2, p⟩) k
  rw [if_neg (by rw [h]; exact Bool.false_ne_true)] at k
  refine ev_guard (ev_tst (ev_node (sS "list") 5 (by decide) rfl)) (fun h => ?_) fun h => ?_
  · rw [if_pos h] at k
    exact ev_ret (ev_call (ev_cons (ev_var rfl) (ev_cons (ev_var rfl) ev_nil)) fun P p => ⟨_, r, rfl, hd, h, by omega, hr2, p⟩) k
  rw [if_neg (by rw [h]; exact Bool.false_ne_true)] at k
  refine ev_guard (ev_tst (ev_node (sS "heading") 3 (by decide) rfl)) (fun h => ?_) fun h => ?_
  · rw [if_pos h] at k
    exact ev_ret (ev_andV (ev_call (ev_cons (ev_itm (k := 1) h (by decide) rfl) (ev_cons ev_c (ev_cons ev_c ev_nil))) g_between) fun _ => rek (small_itm hd 2) (ev_itm (k := 2) h (by decide) rfl)) k
  rw [if_neg (by rw [h]; exact Bool.false_ne_true)] at k
  refine ev_guard (ev_tst (ev_node (sS "paragraph") 2 (by decide) rfl)) (fun h => ?_) fun h => ?_
  · rw [if_pos h] at k
    exact ev_ret (ev_andV (ev_notNil (small_itm hd 1) (ev_itm (k := 1) h (by decide) rfl)) fun _ => rek (small_itm hd 1) (ev_itm (k := 1) h (by decide) rfl)) k
  rw [if_neg (by rw [h]; exact Bool.false_ne_true)] at k
  exact ev_ret (ev_orV (ev_node (sS "break") 1 (by decide) rfl) fun _ => ev_call (ev_cons (ev_var rfl) ev_nil) fun P p => ⟨_, rfl, hd, p⟩) k
theorem m_is_tree : ∀ ds Q, S_is_tree ds Q → w_is_tree { nx := fun _ => Q .none, rt := fun _ d => Q d } (startE ["thing"] ds) := by
  rintro ds Q ⟨d, rfl, hd, k⟩
  exact ev_ret (ρ := [.dat d]) (ev_call (ev_cons (ev_var rfl) (ev_cons ev_c ev_nil)) fun P p => ⟨d, 100, rfl, hd, by decide, by decide, p⟩) k

theorem eqv_str (a b : Str) : PyData.eqv (.str a) (.str b) = decide (a = b) := by
  rw [PyData.eqv]
  cases h : (a == b)
  · exact (decide_eq_false (by simpa using h)).symm
  · exact (decide_eq_true (by simpa using h)).symm
theorem ev_inT {ρ : Env} {wa wb : WE} {neg : Bool} {s : Str} {ws : List Str} (h : evD wa ρ (.str s)) (h2 : evD wb ρ (.tuple (ws.map .str))) : evD (wOp (fIn neg) wa wb) ρ (.bool (neg ^^ ws.any fun y => decide (y = s))) := by
  refine ev_op h h2 fun P p => ?_
  refine ⟨rfl, by rw [List.all_map]; exact List.all_eq_true.mpr fun x _ => rfl, ?_⟩
  rw [List.any_map]
  have e : ((fun y => PyData.eqv y (.str s)) ∘ PyData.str) = fun y : Str => decide (y = s) := by funext y; exact eqv_str y s
  rw [e]; exact p
theorem m_is_list : ∀ n ds Q, S_is_list (n + 1) ds Q → w_is_list (S_is_inlines n) (S_is_inline n) (S_is_blocks n) (S_is_block n) (S_is_list n) { nx := fun _ => Q .none, rt := fun _ d => Q d } (startE ["thing", "room", "word", "sign", "start", "is_tight", "items", "item"] ds) := by
  rintro n ds Q ⟨d, r, rfl, hd, hn, hr, hr2, k⟩
  show w_is_list _ _ _ _ _ _ [.dat d, .dat (.int ((r + 1 : Nat) : Int)), .un, .un, .un, .un, .un, .un]
  unfold w_is_list
  obtain ⟨rs, rfl, hl⟩ := node_at hn
  match rs, hl with
  | [sg, st, ti, its], _ =>
  have s4 : smallD its = true := small_itm hd 4
  refine ev_seq (ev_var (i := 0) rfl _ ?_)
  refine ⟨_, rfl, rfl, _, _, rfl, _, _, rfl, _, _, rfl, _, _, rfl, _, _, rfl, rfl, ?_⟩
  show wSeq _ _ _ [.dat (.tuple [.str (sS "list"), sg, st, ti, its]), .dat (.int ((r + 1 : Nat) : Int)), .dat (.str (sS "list")), .dat sg, .dat st, .dat ti, .dat its, .un]
  have k2 : Q (.bool ((((bulF sg || ordF sg) && isBl ti) && !((bulF sg && !isN st) || (ordF sg && !betweenF st 0 999999999))) && (isTup its && (!isNil its && (itms its).all (blksF r))))) := k
  clear k
  generalize hρ : ([.dat (.tuple [.str (sS "list"), sg, st, ti, its]), .dat (.int ((r + 1 : Nat) : Int)), .dat (.str (sS "list")), .dat sg, .dat st, .dat ti, .dat its, .un] : Env) = ρ
  have v1 : Env.at ρ 1 = .dat (.int ((r + 1 : Nat) : Int)) := by rw [← hρ]; rfl
  have v3 : Env.at ρ 3 = .dat sg := by rw [← hρ]; rfl
  have v4 : Env.at ρ 4 = .dat st := by rw [← hρ]; rfl
  have v5 : Env.at ρ 5 = .dat ti := by rw [← hρ]; rfl
  have v6 : Env.at ρ 6 = .dat its := by rw [← hρ]; rfl
  have v7 : ρ.set 7 .un = ρ := by rw [← hρ]; rfl
  have w1 : ∀ x, Env.at (ρ.set 7 x) 1 = .dat (.int ((r + 1 : Nat) : Int)) := by rw [← hρ]; intro x; rfl
  have w7 : ∀ x, Env.at (ρ.set 7 x) 7 = x := by rw [← hρ]; intro x; rfl
  by_cases hs : ∃ s, sg = .str s
  · obtain ⟨s, rfl⟩ := hs
    have hin : ([sS "-", sS "+", sS "*", sS ".", sS ")"].any fun y => decide (y = s)) = (bulF (.str s) || ordF (.str s)) := by
      show _ = (([sS "-", sS "+", sS "*"].any fun y => decide (y = s)) || ([sS ".", sS ")"].any fun y => decide (y = s)))
      rw [← List.any_append]; rfl
    refine ev_guard (ev_or (b := false) (ev_not (b := true) (ev_tst (ev_isi' (ev_var v3) rfl))) fun _ => ev_or (ev_tst (ev_inT (neg := true) (ws := [sS "-", sS "+", sS "*", sS ".", sS ")"]) (ev_var v3) ev_c)) fun _ => ev_not (ev_tst (ev_isi' (ev_var v5) (isi_bool ti)))) (fun hb => ?_) fun hb => ?_
    · rw [hin] at hb
      have e : ((bulF (.str s) || ordF (.str s)) && isBl ti) = false := by
        generalize (bulF (.str s) || ordF (.str s)) = u at hb
        cases u <;> cases h2 : isBl ti <;> simp_all
      rw [e] at k2; exact k2
    rw [hin] at hb
    have e : ((bulF (.str s) || ordF (.str s)) && isBl ti) = true := by
      generalize (bulF (.str s) || ordF (.str s)) = u at hb
      cases u <;> cases h2 : isBl ti <;> simp_all
    rw [e, Bool.true_and] at k2
    have c1 : evD (wOp (fIn false) (wVar 3) (wSl (wC (.tuple [.str (PySem.Str.ofString "-"), .str (PySem.Str.ofString "+"), .str (PySem.Str.ofString "*"), .str (PySem.Str.ofString "."), .str (PySem.Str.ofString ")")])) wNo (wSo (wC (.int 3))))) ρ (.bool (bulF (.str s))) := by
      have q := ev_inT (neg := false) (ws := [sS "-", sS "+", sS "*"]) (wb := wSl (wC (.tuple [.str (PySem.Str.ofString "-"), .str (PySem.Str.ofString "+"), .str (PySem.Str.ofString "*"), .str (PySem.Str.ofString "."), .str (PySem.Str.ofString ")")])) wNo (wSo (wC (.int 3)))) (ev_var v3) (ev_slT ev_c ev_no (ev_so ev_c))
      rw [Bool.false_xor] at q
      exact q
    have c2 : evD (wOp (fIn false) (wVar 3) (wSl (wC (.tuple [.str (PySem.Str.ofString "-"), .str (PySem.Str.ofString "+"), .str (PySem.Str.ofString "*"), .str (PySem.Str.ofString "."), .str (PySem.Str.ofString ")")])) (wSo (wC (.int 3))) wNo)) ρ (.bool (ordF (.str s))) := by
      have q := ev_inT (neg := false) (ws := [sS ".", sS ")"]) (wb := wSl (wC (.tuple [.str (PySem.Str.ofString "-"), .str (PySem.Str.ofString "+"), .str (PySem.Str.ofString "*"), .str (PySem.Str.ofString "."), .str (PySem.Str.ofString ")")])) (wSo (wC (.int 3))) wNo) (ev_var v3) (ev_slT ev_c (ev_so ev_c) ev_no)
      rw [Bool.false_xor] at q
      exact q
    refine ev_guard (ev_or (ev_and (ev_tst c1) fun _ => ev_tst (ev_is (neg := true) (ev_var v4))) fun _ => ev_and (ev_tst c2) fun _ => ev_not (ev_tst (ev_call (ev_cons (ev_var v4) (ev_cons ev_c (ev_cons ev_c ev_nil))) g_between))) (fun hb => ?_) fun hb => ?_
    · rw [Bool.true_xor] at hb
      rw [hb] at k2; exact k2
    rw [Bool.true_xor] at hb
    rw [hb, Bool.not_false, Bool.true_and] at k2
    refine ev_ret (ev_andV (ev_isT v6) fun ht => ev_andV (ev_notNil s4 (ev_var v6)) fun _ => ?_) k2
    have e0 := tup_itms ht
    obtain ⟨hlen, hmem⟩ := small_items (e0 ▸ s4)
    refine ev_all v7 (ev_var (by rw [← e0]; exact v6)) (line10k hlen) fun x hx => ev_call (ev_cons (ev_var (w7 _)) (ev_cons ?_ ev_nil)) fun P p => ⟨x, r, rfl, fun _ => hmem x hx, by omega, hr2, p⟩
    have q := ev_sub (ev_var (w1 (.dat x))) (ev_c (d := .int 1))
    rw [show (((r + 1 : Nat) : Int) - 1) = (r : Int) by omega] at q
    exact q
  · have e1 : isiD .str sg = false := by
      cases sg with
      | str s => exact absurd ⟨s, rfl⟩ hs
      | _ => rfl
    have e2 : bulF sg = false := by
      cases sg with
      | str s => exact absurd ⟨s, rfl⟩ hs
      | _ => rfl
    have e3 : ordF sg = false := by
      cases sg with
      | str s => exact absurd ⟨s, rfl⟩ hs
      | _ => rfl
    rw [e2, e3] at k2
    exact ev_guard (ev_or (b := true) (c := true) (ev_not (b := false) (ev_tst (ev_isi' (ev_var v3) e1))) fun z => by cases z) (fun _ => k2) fun z => by cases z
end Pm
namespace Pm
open PySem PySem.Spec PyProof.Rows L2 TL
/-! ### parts that draw from the well in slot 0: what they may come to -/
section
variable {W : List PyData → Prop} {l : Addr} {rest : Env}
/-- with any well, the part goes on with some well and some d that G allows -/
def drD (W : List PyData → Prop) (l : Addr) (rest : Env) (we : WE) (G : PyData → Prop) : Prop := ∀ ws, W ws → ∀ P : Env → PyData → Prop, (∀ ws' d, W ws' → G d → P (.bor l ws' :: rest) d) → we (.bor l ws :: rest) P
def drA (W : List PyData → Prop) (l : Addr) (rest : Env) (wa : WA) (G : List PyData → Prop) : Prop := ∀ ws, W ws → ∀ P : Env → List PyData → Prop, (∀ ws' d, W ws' → G d → P (.bor l ws' :: rest) d) → wa (.bor l ws :: rest) P
def drT (W : List PyData → Prop) (l : Addr) (rest : Env) (wt : WT) (G : Bool → Prop) : Prop := ∀ ws, W ws → ∀ P : Env → Bool → Prop, (∀ ws' d, W ws' → G d → P (.bor l ws' :: rest) d) → wt (.bor l ws :: rest) P
def givesW (S : SpW) (W : List PyData → Prop) (ds : List PyData) (G : PyData → Prop) : Prop := ∀ ws, W ws → ∀ P : List PyData → PyData → Prop, (∀ ws' d, W ws' → G d → P ws' d) → S ws ds P
theorem dr_ev {we : WE} {G : PyData → Prop} {d : PyData} (h : ∀ ws, W ws → evD we (.bor l ws :: rest) d) (g : G d) : drD W l rest we G := fun ws hw P p => h ws hw P (p ws d hw g)
theorem dr_c {d : PyData} : drD W l rest (wC d) (· = d) := fun ws hw P p => p ws d hw rfl
theorem dr_w {we : WE} {G G' : PyData → Prop} (h : drD W l rest we G) (g : ∀ d, G d → G' d) : drD W l rest we G' := fun ws hw P p => h ws hw P fun ws' d hw' gd => p ws' d hw' (g d gd)
theorem drA_nil : drA W l rest wNil (· = []) := fun ws hw P p => p ws [] hw rfl
theorem drA_cons {w : WE} {r : WA} {G : PyData → Prop} {H : List PyData → Prop} (h : drD W l rest w G) (h2 : drA W l rest r H) : drA W l rest (wCons w r) (fun q => ∃ d ds, q = d :: ds ∧ G d ∧ H ds) :=
  fun ws hw P p => h ws hw _ fun ws1 d hw1 g1 => h2 ws1 hw1 _ fun ws2 ds hw2 g2 => p ws2 _ hw2 ⟨d, ds, rfl, g1, g2⟩
theorem dr_tup {wa : WA} {H : List PyData → Prop} {G : PyData → Prop} (h : drA W l rest wa H) (g : ∀ ds, H ds → ds.length ≤ sizeLine ∧ G (.tuple ds)) : drD W l rest (wTup wa) G := fun ws hw P p => h ws hw _ fun ws1 ds hw1 g1 => ⟨(g ds g1).1, p ws1 _ hw1 (g ds g1).2⟩
theorem dr_lst {wa : WA} {H : List PyData → Prop} {G : PyData → Prop} (h : drA W l rest wa H) (g : ∀ ds, H ds → ds.length ≤ sizeLine ∧ G (.list ds)) : drD W l rest (wLst wa) G := fun ws hw P p => h ws hw _ fun ws1 ds hw1 g1 => ⟨(g ds g1).1, p ws1 _ hw1 (g ds g1).2⟩
theorem dr_op {f : F2} {wa wb : WE} {G1 G2 G : PyData → Prop} (h1 : drD W l rest wa G1) (h2 : drD W l rest wb G2) (h : ∀ x y, G1 x → G2 y → ∃ z, G z ∧ ∀ P : PyData → Prop, P z → f x y P) : drD W l rest (wOp f wa wb) G :=
  fun ws hw P p => h1 ws hw _ fun ws1 x hw1 g1 => h2 ws1 hw1 _ fun ws2 y hw2 g2 => by
    obtain ⟨z, gz, hz⟩ := h x y g1 g2
    exact hz _ (p ws2 z hw2 gz)
theorem dr_u {f : F1} {wa : WE} {G1 G : PyData → Prop} (h1 : drD W l rest wa G1) (h : ∀ x, G1 x → ∃ z, G z ∧ ∀ P : PyData → Prop, P z → f x P) : drD W l rest (wU f wa) G :=
  fun ws hw P p => h1 ws hw _ fun ws1 x hw1 g1 => by
    obtain ⟨z, gz, hz⟩ := h x g1
    exact hz _ (p ws1 z hw1 gz)
theorem dr_call {S : SpW} {wa : WA} {H : List PyData → Prop} {G : PyData → Prop} (h : drA W l rest wa H) (g : ∀ ds, H ds → givesW S W ds G) : drD W l rest (wCallW S 0 wa) G :=
  fun ws hw P p => ⟨⟨ws, rfl⟩, h ws hw _ fun ws1 ds hw1 g1 => ⟨ws1, rfl, g ds g1 ws1 hw1 _ fun ws2 d hw2 gd => p ws2 d hw2 gd⟩⟩
theorem dr_ite {t : WT} {wa wb : WE} {G : PyData → Prop} {B : Bool → Prop} (ht : drT W l rest t B) (h1 : B true → drD W l rest wa G) (h2 : B false → drD W l rest wb G) : drD W l rest (wIte t wa wb) G :=
  fun ws hw P p => ht ws hw _ fun ws1 b hw1 gb => ⟨fun e => by subst e; exact h1 gb ws1 hw1 P p, fun e => by subst e; exact h2 gb ws1 hw1 P p⟩
theorem drT_ev {t : WT} {b : Bool} (h : ∀ ws, W ws → evT t (.bor l ws :: rest) b) : drT W l rest t (· = b) := fun ws hw P p => h ws hw P (p ws b hw rfl)
theorem dr_ret {E : DEnds} {we : WE} {G : PyData → Prop} {ws : List PyData} (h : drD W l rest we G) (hw : W ws) (k : ∀ ws' d, W ws' → G d → E.rt (.bor l ws' :: rest) d) : wRet we E (.bor l ws :: rest) := h ws hw _ k
theorem dr_set {E : DEnds} {we : WE} {G : PyData → Prop} {ws : List PyData} {i : Nat} (h : drD W l rest we G) (hw : W ws) (k : ∀ ws' d, W ws' → G d → E.nx (.bor l ws' :: rest.set i (.dat d))) : wSet (i + 1) we E (.bor l ws :: rest) := h ws hw _ k
/-- a range of a drawn length -/
theorem dr_lc {i : Nat} {we : WE} {wa : WA} {G : PyData → Prop} {B : List PyData → Prop} {n : Nat} (hn : n ≤ 1000000) (hr : rest.set i .un = rest) (ha : drA W l rest wa B) (hb : ∀ ds, B ds → ∃ m : Nat, ds = [.int (m : Int)] ∧ m ≤ n) (he : ∀ d, drD W l (rest.set i (.dat d)) we G) :
    drD W l rest (wLc (i + 1) (wRange1 wa) wYes we) (fun d => ∃ ds, d = .list ds ∧ (∀ x, x ∈ ds → G x) ∧ ∃ zs, B zs ∧ zs = [.int (ds.length : Int)]) := by
  intro ws hw P p
  refine ha ws hw _ fun ws1 ds hw1 g1 => ?_
  obtain ⟨m, rfl, hm⟩ := hb ds g1
  refine ⟨(m : Int), rfl, by omega, by omega, ?_⟩
  have e : ((m : Int)).toNat = m := by omega
  rw [e]
  have es : (SV.bor l ws1 :: rest).set (i + 1) .un = .bor l ws1 :: rest := by
    show SV.bor l ws1 :: rest.set i .un = _
    rw [hr]
  show lcD (i + 1) wYes we (rangeD 0 m) ((SV.bor l ws1 :: rest).set (i + 1) .un) [] _
  rw [es]
  refine lcD_inv (fun ρ => ∃ ws, W ws ∧ ρ = .bor l ws :: rest) G ?_ (rangeD 0 m) _ [] ⟨ws1, hw1, rfl⟩ (by rw [rangeD_len]; exact line_of (by rw [List.length_nil]; omega)) ?_
  · rintro d ρ Q ⟨ws2, hw2, rfl⟩ k
    refine he d ws2 hw2 _ fun ws3 y hw3 gy => ?_
    refine k _ y ⟨ws3, hw3, ?_⟩ gy
    show SV.bor l ws3 :: (rest.set i (.dat d)).set i .un = _
    rw [List.set_set, hr]
  · rintro ρ' ys ⟨ws2, hw2, rfl⟩ hl hy
    rw [rangeD_len] at hl
    rw [List.nil_append]
    refine p ws2 _ hw2 ⟨ys, rfl, hy, _, g1, by rw [hl]⟩
end
/-- loops -/
theorem forD_inv {wg : WG} {w : WS} {E : DEnds} (I : Nat → Env → Prop) (N : Nat) (turn : ∀ (n : Nat) (d : PyData) (ρ : Env) (E' : DEnds), n < N → I n ρ → (∀ ρ', I (n + 1) ρ' → E'.nx ρ') → E'.rt = E.rt → wg d ρ fun ρ1 => w E' ρ1) : ∀ (items : List PyData) (n : Nat) (ρ : Env), n + items.length ≤ N → I n ρ → (∀ ρ', I (n + items.length) ρ' → E.nx ρ') → forD wg w E items ρ
  | [], n, ρ, _, h, k => k ρ h
  | d :: ds, n, ρ, hn, h, k => turn n d ρ { nx := forD wg w E ds, ct := forD wg w E ds, bk := E.nx, rt := E.rt } (by rw [List.length_cons] at hn; omega) h (fun ρ' h' => forD_inv I N turn ds (n + 1) ρ' (by rw [List.length_cons] at hn; omega) h' fun ρ2 h2 => k ρ2 (by rw [List.length_cons]; rw [show n + (ds.length + 1) = n + 1 + ds.length by omega]; exact h2)) rfl
theorem ev_opO {ρ : Env} {f : F2} {j : Nat} {wb : WE} {ds : List PyData} {y d : PyData} (hj : (ρ.at j).items = some ds) (hb : evD wb ρ y) (h : ∀ P : PyData → Prop, P d → f (.list ds) y P) : evD (wOpO f j wb) ρ d := fun P p => ⟨⟨ds, hj⟩, hb _ ⟨ds, hj, h _ p⟩⟩
theorem ev_own {ρ : Env} {j : Nat} {ds : List PyData} (hj : (ρ.at j).items = some ds) : evD (wOwn j) ρ (.list ds) := fun P p => ⟨ds, hj, p⟩
theorem ev_lst {ρ : Env} {wa : WA} {ds : List PyData} (h : evA wa ρ ds) (hl : ds.length ≤ sizeLine) : evD (wLst wa) ρ (.list ds) := fun P p => h _ ⟨hl, p⟩
theorem ev_set {ρ : Env} {E : DEnds} {we : WE} {d : PyData} {i : Nat} (h : evD we ρ d) (k : E.nx (ρ.set i (.dat d))) : wSet i we E ρ := h _ k
theorem ev_ite {ρ : Env} {t : WT} {b : Bool} {wa wb : WE} {d : PyData} (h : evT t ρ b) (h1 : b = true → evD wa ρ d) (h2 : b = false → evD wb ρ d) : evD (wIte t wa wb) ρ d := fun P p => h _ ⟨fun e => h1 e _ p, fun e => h2 e _ p⟩
theorem dr_app {W : List PyData → Prop} {l : Addr} {rest : Env} {E : DEnds} {we : WE} {G : PyData → Prop} {ws acc : List PyData} {i : Nat} (h : drD W l rest we G) (hw : W ws) (hi : rest.at i = .own acc) (hl : acc.length < sizeLine) (k : ∀ ws' d, W ws' → G d → E.nx (.bor l ws' :: rest.set i (.own (acc ++ [d])))) : wApp (i + 1) we E (.bor l ws :: rest) := by
  have e : ∀ ws', Env.at (.bor l ws' :: rest) (i + 1) = .own acc := fun ws' => by rw [← hi]; rfl
  refine ⟨⟨acc, by rw [e]; rfl⟩, h ws hw _ fun ws1 d hw1 g => ⟨acc, by rw [e]; rfl, hl, ?_⟩⟩
  rw [e]
  exact k ws1 d hw1 g
theorem dr_join {W : List PyData → Prop} {l : Addr} {rest : Env} {we : WE} {s : Str} {G1 G : PyData → Prop} (h : drD W l rest we G1) (g : ∀ d, G1 d → ∃ ys : List Str, d = .list (ys.map .str) ∧ (ys.map (·.length)).sum + ys.length * s.length ≤ 16777216 ∧ G (.str (Txt.join s ys))) : drD W l rest (wJoin (wC (.str s)) we) G :=
  fun ws hw P p => ⟨s, rfl, h ws hw _ fun ws1 d hw1 g1 => by
    obtain ⟨ys, rfl, h1, h2⟩ := g d g1
    exact ⟨ys, .inl rfl, h1, p ws1 _ hw1 h2⟩⟩
/-- the usual: draws and one of some -/
theorem g_draw {r : List PyData} {n : Nat} (h0 : 0 < n) (h1 : n < 2 ^ 62) : givesW S_k_draw (Well r) [.int (n : Int)] (fun d => ∃ m : Nat, d = .int (m : Int) ∧ m < n) := by
  rintro ws ⟨a, b, rfl⟩ P p
  refine ⟨a, b, (n : Int), r, rfl, rfl, by omega, by omega, fun a' b' d d0 d1 => p _ _ ⟨a', b', rfl⟩ ⟨d.toNat, by rw [Int.toNat_of_nonneg d0], by omega⟩⟩
theorem g_one {r xs : List PyData} (h0 : xs ≠ []) (h1 : xs.length < 1000) : givesW S_k_one (Well r) [.list xs] (· ∈ xs) := by
  rintro ws hw P p
  exact ⟨r, xs, hw, rfl, h0, h1, p⟩
/-- a drawn number below n -/
theorem dr_draw {r : List PyData} {l : Addr} {rest : Env} {w : WE} {n : Nat} (h : drD (Well r) l rest w (· = .int (n : Int))) (h0 : 0 < n) (h1 : n < 2 ^ 62) : drD (Well r) l rest (wCallW S_k_draw 0 (wCons w wNil)) (fun d => ∃ m : Nat, d = .int (m : Int) ∧ m < n) :=
  dr_call (drA_cons h drA_nil) fun ds hd => by
    obtain ⟨d, es, rfl, rfl, rfl⟩ := hd
    exact g_draw h0 h1
theorem dr_drawC {r : List PyData} {l : Addr} {rest : Env} {n : Nat} (h0 : 0 < n) (h1 : n < 2 ^ 62) : drD (Well r) l rest (wCallW S_k_draw 0 (wCons (wC (.int (n : Int))) wNil)) (fun d => ∃ m : Nat, d = .int (m : Int) ∧ m < n) := dr_draw dr_c h0 h1
/-- one of a list whose items are all G -/
theorem dr_one {r : List PyData} {l : Addr} {rest : Env} {w : WE} {G : PyData → Prop} (h : drD (Well r) l rest w (fun d => ∃ xs, d = .list xs ∧ xs ≠ [] ∧ xs.length < 1000 ∧ ∀ x, x ∈ xs → G x)) : drD (Well r) l rest (wCallW S_k_one 0 (wCons w wNil)) G :=
  dr_call (drA_cons h drA_nil) fun ds hd => by
    obtain ⟨d, es, rfl, ⟨xs, rfl, h0, h1, hg⟩, rfl⟩ := hd
    intro ws hw P p
    exact g_one h0 h1 ws hw P fun ws' d hw' hd => p ws' d hw' (hg d hd)
theorem dr_1plus {r : List PyData} {l : Addr} {rest : Env} {n : Nat} (h0 : 0 < n) (h1 : n < 2 ^ 62) : drD (Well r) l rest (wOp fAdd (wC (.int 1)) (wCallW S_k_draw 0 (wCons (wC (.int (n : Int))) wNil))) (fun d => ∃ m : Nat, d = .int (m : Int) ∧ 1 ≤ m ∧ m ≤ n) :=
  dr_op dr_c (dr_drawC h0 h1) fun x y hx hy => by
    obtain ⟨m, rfl, hm⟩ := hy
    subst hx
    exact ⟨.int ((m + 1 : Nat) : Int), ⟨m + 1, rfl, by omega, by omega⟩, fun P p => by show P (.int (1 + (m : Int))); rw [show (1 : Int) + (m : Int) = ((m + 1 : Nat) : Int) by omega]; exact p⟩
/-- a text that is built of some pieces -/
theorem join_pieces {zs : List Str} {ys : List PyData} (h : ∀ y, y ∈ ys → y ∈ zs.map PyData.str) : ∃ us : List Str, ys = us.map .str ∧ (∀ u, u ∈ us → u ∈ zs) ∧ Txt.join (PySem.Str.ofString "") us = tx (us.map tl).flatten := by
  obtain ⟨us, h1, h2⟩ := strs_of h
  refine ⟨us, h1, h2, ?_⟩
  rw [tx_nil]
  exact join_none us
theorem ev_sset {ρ : Env} {E : DEnds} {we : WE} {u : WS} {d : PyData} {i : Nat} (h : evD we ρ d) (k : u E (ρ.set i (.dat d))) : wSeq (wSet i we) u E ρ := h _ k
theorem dr_sset {W : List PyData → Prop} {l : Addr} {rest : Env} {E : DEnds} {we : WE} {u : WS} {G : PyData → Prop} {ws : List PyData} {i : Nat} (h : drD W l rest we G) (hw : W ws) (k : ∀ ws' d, W ws' → G d → u E (.bor l ws' :: rest.set i (.dat d))) : wSeq (wSet (i + 1) we) u E (.bor l ws :: rest) := h ws hw _ k
theorem ev_snew {ρ : Env} {E : DEnds} {u : WS} {i : Nat} (k : u E (ρ.set i (.own []))) : wSeq (wNew i) u E ρ := k
theorem ev_sfor {ρ : Env} {E : DEnds} {wi : WI} {wg : WG} {w u : WS} (k : wi ρ fun ρ1 items => forD wg w { E with nx := u E } items ρ1) : wSeq (wFor wi wg w) u E ρ := k
/-- a loop over a range of a drawn length -/
theorem dr_sfor {W : List PyData → Prop} {l : Addr} {rest : Env} {E : DEnds} {we : WE} {wg : WG} {w u : WS} {n : Nat} {G : PyData → Prop} {ws : List PyData} (hn : n < 2 ^ 61) (h : drD W l rest we G) (hG : ∀ d, G d → ∃ m : Nat, d = .int (m : Int) ∧ m ≤ n) (hw : W ws)
    (k : ∀ ws' m, W ws' → G (.int ((m : Nat) : Int)) → m ≤ n → forD wg w { E with nx := u E } (rangeD 0 m) (.bor l ws' :: rest)) : wSeq (wFor (wRange1 (wCons we wNil)) wg w) u E (.bor l ws :: rest) := by
  refine ev_sfor (h ws hw _ fun ws1 d hw1 hd => ?_)
  obtain ⟨m, rfl, hm⟩ := hG d hd
  refine ⟨(m : Int), rfl, by omega, by omega, ?_⟩
  have e : ((m : Int)).toNat = m := by omega
  rw [e]
  exact k ws1 m hw1 hd hm
end Pm
namespace Pm
open PySem PySem.Spec PyProof.Rows L2 TL
local macro_rules | `(tactic| walk_at "dx") => `(tactic| simp only [wSeq, wIf, wTst, wOp, wOpO, wC, wVar, wOwn, wSet, wPut, wRet, wRetO, wRetN, wU, wSkip, wBreak, wCont, wIte, wAnd, wOr, wNot, wAndV, wOrV, wNotV, wCons, wNil, wTup, wLst, wSl, wSlO, wSo, wNo, wM, wJoin, wCall, wCallW, wSetF, wNew, wApp, wAsg, wPar, wAug, wFor, wSeqI, wRange1, wRange2, wDown, wEnum, wLc, wYes, wChain, wSlS, wIsi, wIsi2, isiD, wDrop, wNever, FZ, fStrip, fLstrip, fRstrip, fStarts, fStarts3, fEnds, fFind, fFind3, fFind4, fCount, fCount4, wLc2, wZip, gN, gT, gCons', gNil', fSeq, fI0, fI, fInt, fIx, fAdd, fMul, fLen, fEq, fIs, isN, fIn, fNeg, fSl, fJoin, fSplit, fTuple, fList, fBools, Env.at, SV.items, SV.put, atI_0, atI_1, atI_2, List.length_cons, List.length_nil, ixN_0, ixN_1, ixN_2, List.set, Option.some.injEq, exists_eq_left', exists_eq_left, exists_eq', exists_eq, exists_and_left, exists_and_right, true_and, and_true, SV.dat.injEq, SV.own.injEq, SV.bor.injEq, SV.scr.injEq, PyData.int.injEq, PyData.str.injEq, PyData.list.injEq, PyData.tuple.injEq, PyData.bool.injEq, List.cons.injEq, and_assoc, Bool.true_eq_false, Bool.false_eq_true, false_implies, true_implies, implies_true, Bool.false_xor, Bool.true_xor, Bool.not_true, Bool.not_false])

/-! ### the law's words -/
def wordL : List Nat := [97, 98, 32, 42, 10, 38, 60, 120, 49, 92, 93]
def wordOk (t : List Nat) : Prop := t ≠ [] ∧ t.length ≤ 20 ∧ ∀ c, c ∈ t → c ∈ wordL
def gWord (d : PyData) : Prop := ∃ t, d = .str (tx t) ∧ wordOk t
def pcs : List Str := [sS "a", sS "b", sS " ", sS "*", sS "\n", sS "&", sS "<", sS "x1", sS "\\", sS "]"]
theorem pcs_ok : ∀ z, z ∈ pcs → tl z ≠ [] ∧ z.length ≤ 2 ∧ ∀ c, c ∈ tl z → c ∈ wordL := by decide +kernel
theorem first_none : ∀ (t : List Nat) (i : Nat), (∀ c, c ∈ t → okSign c = true) → firstW t i = none
  | [], _, _ => rfl
  | c :: r, i, h => by
    rw [firstW, if_pos (h c (List.mem_cons_self ..))]
    exact first_none r (i + 1) fun d hd => h d (List.mem_cons_of_mem _ hd)
theorem word_sign : ∀ c, c ∈ wordL → okSign c = true ∧ c < 128 := by decide +kernel
theorem text_of {t : List Nat} (h : ∀ c, c ∈ t → okSign c = true) : isTextF (.str (tx t)) = true := by
  show (firstW t 0).isNone = true
  rw [first_none t 0 h]; rfl
theorem small_str {t : List Nat} (h : ∀ c, c ∈ t → c < 128) (hl : t.length ≤ 10000) : smallD (.str (tx t)) = true := by
  rw [smallD, tx_len, decide_eq_true hl, Bool.and_true]
  unfold PyData.strOk
  rw [← Array.all_toList, List.all_eq_true]
  intro c hc
  have := h c hc
  exact decide_eq_true (by omega)
theorem word_text {d : PyData} (h : gWord d) : isTextF d = true := by
  obtain ⟨t, rfl, _, _, h⟩ := h
  exact text_of fun c hc => (word_sign c (h c hc)).1
theorem word_small {d : PyData} (h : gWord d) : smallD d = true := by
  obtain ⟨t, rfl, _, hl, h⟩ := h
  exact small_str (fun c hc => (word_sign c (h c hc)).2) (by omega)
theorem word_ne {d : PyData} (h : gWord d) : isStrNe d = true := by
  obtain ⟨t, rfl, hn, _, _⟩ := h
  show (!decide (tx t = tx [])) = true
  rw [decide_eq_false fun e => hn (tx_inj e)]; rfl
def S_k_words : SpW := fun ws ds P => ∃ r, Well r ws ∧ ds = [] ∧ ∀ ws' d, Well r ws' → gWord d → P ws' d
theorem l_k_words : ∀ ws ds P, S_k_words ws ds P → ds.length + 1 = 1 := by rintro ws ds P ⟨_, _, rfl, _⟩; rfl
theorem g_words {r : List PyData} : givesW S_k_words (Well r) [] gWord := fun ws hw P p => ⟨r, hw, rfl, p⟩
theorem dr_words {r : List PyData} {l : Addr} {rest : Env} : drD (Well r) l rest (wCallW S_k_words 0 wNil) gWord := dr_call drA_nil fun ds h => by subst h; exact g_words
def w_k_words_e1 : WE :=
(wCallW S_k_one 0 (wCons (wVar 1) wNil))
/-- _law_words(_law_well_here): slots 0 _law_well_here 1 _law_some 2 _law_k -/
def w_k_words : WS :=
(wSeq (wSet 1 (wLst (wCons (wC (.str (PySem.Str.ofString "a"))) (wCons (wC (.str (PySem.Str.ofString "b"))) (wCons (wC (.str (PySem.Str.ofString " "))) (wCons (wC (.str (PySem.Str.ofString "*"))) (wCons (wC (.str (PySem.Str.ofString "\n"))) (wCons (wC (.str (PySem.Str.ofString "&"))) (wCons (wC (.str (PySem.Str.ofString "<"))) (wCons (wC (.str (PySem.Str.ofString "x1"))) (wCons (wC (.str (PySem.Str.ofString "\\"))) (wCons (wC (.str (PySem.Str.ofString "]"))) wNil))))))))))))
(wRet (wJoin (wC (.str (PySem.Str.ofString ""))) (wLc 2 (wRange1 (wCons (wOp fAdd (wC (.int 1)) (wCallW S_k_draw 0 (wCons (wC (.int 5)) wNil))) wNil)) wYes w_k_words_e1))))


theorem m_k_words : ∀ l ws ds Q, S_k_words ws ds Q → w_k_words { nx := fun ρ => ∃ ws', ρ.at 0 = .bor l ws' ∧ Q ws' .none, rt := fun ρ d => ∃ ws', ρ.at 0 = .bor l ws' ∧ Q ws' d } (startW l ["_law_well_here", "_law_some", "_law_k"] ws ds) := by
  rintro l ws ds Q ⟨r, hw, rfl, k⟩
  show w_k_words _ [.bor l ws, .un, .un]
  unfold w_k_words
  refine ev_sset (d := .list (pcs.map .str)) (ev_lst (by repeat first | exact ev_nil | refine ev_cons ev_c ?_) (line10k (by decide))) ?_
  show wRet _ _ [.bor l ws, .dat (.list (pcs.map .str)), .un]
  refine dr_ret (W := Well r) (dr_join (G := gWord) (dr_lc (G := fun d => d ∈ pcs.map .str) (n := 5) (by decide) rfl (drA_cons (dr_1plus (n := 5) (by decide) (by decide)) drA_nil) ?_ ?_) ?_) hw fun ws' d hw' g => ⟨ws', rfl, k ws' d hw' g⟩
  · rintro ds ⟨d, es, rfl, ⟨m, rfl, _, h⟩, rfl⟩
    exact ⟨m, rfl, h⟩
  · intro d
    exact dr_one (dr_ev (fun ws hw => ev_var rfl) ⟨_, rfl, by decide, by decide, fun x h => h⟩)
  · rintro d ⟨es, rfl, hx, zs, ⟨d1, es1, rfl, ⟨m, rfl, h1, h2⟩, rfl⟩, h3⟩
    obtain ⟨us, rfl, hu, hj⟩ := join_pieces hx
    have hm : m = us.length := by
      simp at h3
      omega
    have hs := sum_le (n := 2) fun y hy => (pcs_ok y (hu y hy)).2.1
    refine ⟨us, rfl, ?_, ?_⟩
    · rw [tx_nil]
      show _ + us.length * 0 ≤ _
      omega
    · rw [hj]
      refine ⟨_, rfl, ?_, ?_, ?_⟩
      · cases us with
        | nil => simp at hm; omega
        | cons u us =>
          intro e
          rw [List.map_cons, List.flatten_cons] at e
          exact (pcs_ok u (hu u (List.mem_cons_self ..))).1 (List.append_eq_nil_iff.mp e).1
      · rw [flat_len]; omega
      · intro c hc
        obtain ⟨t, ht, hc⟩ := List.mem_flatten.mp hc
        obtain ⟨u, hu', rfl⟩ := List.mem_map.mp ht
        exact (pcs_ok u (hu u hu')).2.2 c hc
/-! ### targets -/
def gTarget (d : PyData) : Prop := ∃ a b, d = .tuple [a, b] ∧ targetF a b = true ∧ smallD a = true ∧ smallD b = true
def S_k_target : SpW := fun ws ds P => ∃ r, Well r ws ∧ ds = [] ∧ ∀ ws' d, Well r ws' → gTarget d → P ws' d
theorem l_k_target : ∀ ws ds P, S_k_target ws ds P → ds.length + 1 = 1 := by rintro ws ds P ⟨_, _, rfl, _⟩; rfl
theorem dr_target {r : List PyData} {l : Addr} {rest : Env} : drD (Well r) l rest (wCallW S_k_target 0 wNil) gTarget := dr_call drA_nil fun ds h => by subst h; exact fun ws hw P p => ⟨r, hw, rfl, p⟩
/-- _law_target(_law_well_here): slots 0 _law_well_here -/
def w_k_target : WS :=
(wRet (wTup (wCons (wCallW S_k_one 0 (wCons (wLst (wCons (wC (.str (PySem.Str.ofString ""))) (wCons (wC (.str (PySem.Str.ofString "/u"))) (wCons (wCallW S_k_words 0 wNil) wNil)))) wNil)) (wCons (wCallW S_k_one 0 (wCons (wLst (wCons (wC (.none)) (wCons (wC (.str (PySem.Str.ofString ""))) (wCons (wCallW S_k_words 0 wNil) wNil)))) wNil)) wNil))))


def gTx (d : PyData) : Prop := isTextF d = true ∧ smallD d = true
theorem m_k_target : ∀ l ws ds Q, S_k_target ws ds Q → w_k_target { nx := fun ρ => ∃ ws', ρ.at 0 = .bor l ws' ∧ Q ws' .none, rt := fun ρ d => ∃ ws', ρ.at 0 = .bor l ws' ∧ Q ws' d } (startW l ["_law_well_here"] ws ds) := by
  rintro l ws ds Q ⟨r, hw, rfl, k⟩
  show w_k_target _ [.bor l ws]
  unfold w_k_target
  refine dr_ret (W := Well r) (G := gTarget) (dr_tup (drA_cons (dr_one (G := gTx) (dr_lst (drA_cons dr_c (drA_cons dr_c (drA_cons dr_words drA_nil))) ?_)) (drA_cons (dr_one (G := fun d => d = .none ∨ gTx d) (dr_lst (drA_cons dr_c (drA_cons dr_c (drA_cons dr_words drA_nil))) ?_)) drA_nil)) ?_) hw fun ws' d hw' g => ⟨ws', rfl, k ws' d hw' g⟩
  · rintro ds ⟨d1, e1, rfl, rfl, d2, e2, rfl, rfl, d3, e3, rfl, g3, rfl⟩
    refine ⟨line10k (by simp), _, rfl, by simp, by simp, fun x hx => ?_⟩
    simp only [List.mem_cons, List.not_mem_nil, or_false] at hx
    rcases hx with rfl | rfl | rfl
    · exact ⟨by decide +kernel, by decide +kernel⟩
    · exact ⟨by decide +kernel, by decide +kernel⟩
    · exact ⟨word_text g3, word_small g3⟩
  · rintro ds ⟨d1, e1, rfl, rfl, d2, e2, rfl, rfl, d3, e3, rfl, g3, rfl⟩
    refine ⟨line10k (by simp), _, rfl, by simp, by simp, fun x hx => ?_⟩
    simp only [List.mem_cons, List.not_mem_nil, or_false] at hx
    rcases hx with rfl | rfl | rfl
    · exact .inl rfl
    · exact .inr ⟨by decide +kernel, by decide +kernel⟩
    · exact .inr ⟨word_text g3, word_small g3⟩
  · rintro ds ⟨a, e1, rfl, ⟨ga, sa⟩, b, e2, rfl, gb, rfl⟩
    refine ⟨line10k (by simp), a, b, rfl, ?_, sa, ?_⟩
    · unfold targetF
      rw [ga, Bool.true_and]
      rcases gb with rfl | gb
      · rfl
      · rw [gb.1, Bool.or_true]
    · rcases gb with rfl | gb
      · rfl
      · exact gb.2
end Pm
namespace Pm
open PySem PySem.Spec PyProof.Rows L2 TL
/-! ### drawn inlines -/
theorem small_tup : ∀ {ds : List PyData}, ds.length ≤ 10000 → (∀ d, d ∈ ds → smallD d = true) → smallD (.tuple ds) = true := by
  intro ds hl h
  have q : ∀ es : List PyData, (∀ d, d ∈ es → smallD d = true) → smallAll es = true := by
    intro es
    induction es with
    | nil => intro _; rfl
    | cons e es ih =>
      intro h
      rw [smallAll, h e (List.mem_cons_self ..), ih fun d hd => h d (List.mem_cons_of_mem _ hd)]; rfl
  rw [smallD, decide_eq_true hl, q ds h]; rfl
def lastTxt (acc : List PyData) : Bool := match acc.getLast? with
  | some e => txtF e
  | none => false
theorem two_app (e : PyData) : ∀ acc : List PyData, twoF (acc ++ [e]) = (twoF acc || (lastTxt acc && txtF e))
  | [] => rfl
  | [x] => by
    show ((txtF x && txtF e) || false) = (false || (txtF x && txtF e))
    rw [Bool.or_false, Bool.false_or]
  | x :: y :: r => by
    have ih := two_app e (y :: r)
    show ((txtF x && txtF y) || twoF ((y :: r) ++ [e])) = (((txtF x && txtF y) || twoF (y :: r)) || (lastTxt (x :: y :: r) && txtF e))
    rw [ih, Bool.or_assoc]
    have : lastTxt (x :: y :: r) = lastTxt (y :: r) := by
      unfold lastTxt
      rw [List.getLast?_cons_cons]
    rw [this]
def GI (q : Nat) (w : Bool) (d : PyData) : Prop := ∃ es, d = .tuple es ∧ es ≠ [] ∧ smallD d = true ∧ ∀ r, q + 1 ≤ r → inlsF r w d = true
def GE (q : Nat) (w : Bool) (e : PyData) : Prop := smallD e = true ∧ ∀ r, q ≤ r → inlF (inlsF r) w e = true
theorem not_nil {es : List PyData} (h : es ≠ []) : isNil (.tuple es) = false := by
  unfold isNil
  cases es with
  | nil => exact absurd rfl h
  | cons x r => simp [PyData.eqv, PyData.eqvAll]
theorem inl_text (rec : Bool → PyData → Bool) (w : Bool) (x : PyData) : inlF rec w (.tuple [.str (sS "text"), x]) = (isTextF x && isStrNe x) := rfl
theorem inl_code (rec : Bool → PyData → Bool) (w : Bool) (x : PyData) : inlF rec w (.tuple [.str (sS "code"), x]) = (isTextF x && isStrNe x) := rfl
theorem inl_html (rec : Bool → PyData → Bool) (w : Bool) (x : PyData) : inlF rec w (.tuple [.str (sS "html"), x]) = (isTextF x && isStrNe x) := rfl
theorem inl_soft (rec : Bool → PyData → Bool) (w : Bool) : inlF rec w (.tuple [.str (sS "soft")]) = true := rfl
theorem inl_hard (rec : Bool → PyData → Bool) (w : Bool) : inlF rec w (.tuple [.str (sS "hard")]) = true := rfl
theorem inl_emph (rec : Bool → PyData → Bool) (w : Bool) (x : PyData) : inlF rec w (.tuple [.str (sS "emph"), x]) = (!isNil x && rec w x) := rfl
theorem inl_strong (rec : Bool → PyData → Bool) (w : Bool) (x : PyData) : inlF rec w (.tuple [.str (sS "strong"), x]) = (!isNil x && rec w x) := rfl
theorem inl_link (rec : Bool → PyData → Bool) (w : Bool) (x y z : PyData) : inlF rec w (.tuple [.str (sS "link"), x, y, z]) = (!w && (targetF x y && rec true z)) := rfl
theorem inl_image (rec : Bool → PyData → Bool) (w : Bool) (x y z : PyData) : inlF rec w (.tuple [.str (sS "image"), x, y, z]) = (targetF x y && rec false z) := rfl
theorem sm_str (s : String) (h : smallD (.str (sS s)) = true) : smallD (.str (sS s)) = true := h
theorem small2 {s : Str} {x : PyData} (h : smallD (.str s) = true) (hx : smallD x = true) : smallD (.tuple [.str s, x]) = true := small_tup (by simp) fun d hd => by
  simp only [List.mem_cons, List.not_mem_nil, or_false] at hd
  rcases hd with rfl | rfl
  · exact h
  · exact hx
theorem small4 {s : Str} {x y z : PyData} (h : smallD (.str s) = true) (hx : smallD x = true) (hy : smallD y = true) (hz : smallD z = true) : smallD (.tuple [.str s, x, y, z]) = true := small_tup (by simp) fun d hd => by
  simp only [List.mem_cons, List.not_mem_nil, or_false] at hd
  rcases hd with rfl | rfl | rfl | rfl
  · exact h
  · exact hx
  · exact hy
  · exact hz
theorem ge_leaf {q : Nat} {w : Bool} {s : Str} {x : PyData} (hs : s ∈ [sS "text", sS "code", sS "html"]) (h : gWord x) : GE q w (.tuple [.str s, x]) := by
  have e : (isTextF x && isStrNe x) = true := by rw [word_text h, word_ne h]; rfl
  simp only [List.mem_cons, List.not_mem_nil, or_false] at hs
  rcases hs with rfl | rfl | rfl
  · exact ⟨small2 (by decide +kernel) (word_small h), fun r _ => by rw [inl_text]; exact e⟩
  · exact ⟨small2 (by decide +kernel) (word_small h), fun r _ => by rw [inl_code]; exact e⟩
  · exact ⟨small2 (by decide +kernel) (word_small h), fun r _ => by rw [inl_html]; exact e⟩
theorem ge_hold {q : Nat} {w : Bool} {s : Str} {x : PyData} (hq : 1 ≤ q) (hs : s ∈ [sS "emph", sS "strong"]) (h : GI (q - 1) w x) : GE q w (.tuple [.str s, x]) := by
  obtain ⟨es, rfl, hn, hsm, hr⟩ := h
  have e : ∀ r, q ≤ r → (!isNil (.tuple es) && inlsF r w (.tuple es)) = true := fun r h => by rw [not_nil hn, hr r (by omega)]; rfl
  simp only [List.mem_cons, List.not_mem_nil, or_false] at hs
  rcases hs with rfl | rfl
  · exact ⟨small2 (by decide +kernel) hsm, fun r h => by rw [inl_emph]; exact e r h⟩
  · exact ⟨small2 (by decide +kernel) hsm, fun r h => by rw [inl_strong]; exact e r h⟩
abbrev N_k_inlines : Nat := 3
def S_k_inlines (n : Nat) : SpW := fun ws ds P => ∃ (r : List PyData) (q : Nat) (w : Bool), Well r ws ∧ ds = [.int (q : Int), .bool w] ∧ q + 1 ≤ n ∧ ∀ ws' d, Well r ws' → GI q w d → P ws' d
theorem l_k_inlines : ∀ n ws ds P, S_k_inlines n ws ds P → ds.length + 1 = 3 := by rintro n ws ds P ⟨_, _, _, _, rfl, _⟩; rfl
def w_k_inlines_b1 (S_k_inlines : SpW) : WS :=
(wSeq (wSet 5 (wCallW S_k_draw 0 (wCons (wIte (wTst (wOp fGt (wVar 1) (wC (.int 0)))) (wC (.int 10)) (wC (.int 5))) wNil)))
(wIf (wAnd (wTst (wOp fLt (wVar 5) (wC (.int 2)))) (wOr (wTst (wOpO (fEq false) 3 (wLst wNil))) (wTst (wOp (fEq true) (wOp fIx (wOpO fIx 3 (wU fNeg (wC (.int 1)))) (wC (.int 0))) (wC (.str (PySem.Str.ofString "text")))))))
(wApp 3 (wTup (wCons (wC (.str (PySem.Str.ofString "text"))) (wCons (wCallW S_k_words 0 wNil) wNil))))
(wIf (wTst (wOp fLt (wVar 5) (wC (.int 5))))
(wSeq (wSet 6 (wCallW S_k_one 0 (wCons (wLst (wCons (wC (.str (PySem.Str.ofString "soft"))) (wCons (wC (.str (PySem.Str.ofString "hard"))) (wCons (wC (.str (PySem.Str.ofString "code"))) (wCons (wC (.str (PySem.Str.ofString "html"))) wNil))))) wNil)))
(wApp 3 (wIte (wTst (wOp (fIn false) (wVar 6) (wTup (wCons (wC (.str (PySem.Str.ofString "soft"))) (wCons (wC (.str (PySem.Str.ofString "hard"))) wNil))))) (wTup (wCons (wVar 6) wNil)) (wTup (wCons (wVar 6) (wCons (wCallW S_k_words 0 wNil) wNil))))))
(wIf (wTst (wOp fLt (wVar 5) (wC (.int 8))))
(wApp 3 (wTup (wCons (wCallW S_k_one 0 (wCons (wLst (wCons (wC (.str (PySem.Str.ofString "emph"))) (wCons (wC (.str (PySem.Str.ofString "strong"))) wNil))) wNil)) (wCons (wCallW S_k_inlines 0 (wCons (wOp fSub (wVar 1) (wC (.int 1))) (wCons (wVar 2) wNil))) wNil))))
(wIf (wAnd (wTst (wOp (fEq false) (wVar 5) (wC (.int 8)))) (wNot (wTst (wVar 2))))
(wApp 3 (wOp fAdd (wOp fAdd (wTup (wCons (wC (.str (PySem.Str.ofString "link"))) wNil)) (wCallW S_k_target 0 wNil)) (wTup (wCons (wCallW S_k_inlines 0 (wCons (wOp fSub (wVar 1) (wC (.int 1))) (wCons (wC (.bool true)) wNil))) wNil))))
(wApp 3 (wOp fAdd (wOp fAdd (wTup (wCons (wC (.str (PySem.Str.ofString "image"))) wNil)) (wCallW S_k_target 0 wNil)) (wTup (wCons (wCallW S_k_inlines 0 (wCons (wOp fSub (wVar 1) (wC (.int 1))) (wCons (wC (.bool false)) wNil))) wNil)))))))))
/-- _law_inlines(_law_well_here, _law_room, _law_is_link): slots 0 _law_well_here 1 _law_room 2 _law_is_link 3 _law_found 4 _law_k 5 _law_way 6 _law_word -/
def w_k_inlines (S_k_inlines : SpW) : WS :=
(wSeq (wNew 3)
(wSeq (wFor (wRange1 (wCons (wOp fAdd (wC (.int 1)) (wCallW S_k_draw 0 (wCons (wC (.int 3)) wNil))) wNil)) (gN 4) (w_k_inlines_b1 S_k_inlines))
(wRet (wU fTuple (wOwn 3)))))


theorem z_k_inlines : (fun _ _ _ => False) = S_k_inlines 0 := by
  funext ws ds P; exact propext ⟨False.elim, fun h => by obtain ⟨_, _, _, _, _, h, _⟩ := h; omega⟩
theorem dr_inls {r : List PyData} {l : Addr} {rest : Env} {n q : Nat} {v : Bool} {wa wb : WE} (hq : 1 ≤ q) (hn : q ≤ n) (ha : ∀ ws, evD wa (.bor l ws :: rest) (.int (q : Int))) (hb : ∀ ws, evD wb (.bor l ws :: rest) (.bool v)) : drD (Well r) l rest (wCallW (S_k_inlines n) 0 (wCons (wOp fSub wa (wC (.int 1))) (wCons wb wNil))) (GI (q - 1) v) := by
  refine dr_call (H := fun ds => ds = [.int ((q - 1 : Nat) : Int), .bool v]) ?_ fun ds h => by subst h; exact fun ws hw P p => ⟨r, q - 1, v, hw, rfl, by omega, p⟩
  intro ws hw P p
  have e := ev_cons (ev_sub (ha ws) (ev_c (d := .int 1))) (ev_cons (hb ws) ev_nil)
  rw [show ((q : Int) - 1) = ((q - 1 : Nat) : Int) by omega] at e
  exact e _ (p ws _ hw rfl)
theorem eqv_nilL {acc : List PyData} (h : acc ≠ []) : PyData.eqv (.list acc) (.list []) = false := by
  cases acc with
  | nil => exact absurd rfl h
  | cons x r => simp [PyData.eqv, PyData.eqvAll]
theorem ev_last {ρ : Env} {acc : List PyData} (h3 : Env.at ρ 3 = .own acc) (hl : acc.length ≤ 100) (hs : ∀ e, e ∈ acc → smallD e = true) (hn : ∀ e, e ∈ acc → ∃ s n, 1 ≤ n ∧ nodeF e s n = true) :
    evT (wOr (wTst (wOpO (fEq false) 3 (wLst wNil))) (wTst (wOp (fEq true) (wOp fIx (wOpO fIx 3 (wU fNeg (wC (.int 1)))) (wC (.int 0))) (wC (.str (PySem.Str.ofString "text")))))) ρ (!lastTxt acc) := by
  have hi : (Env.at ρ 3).items = some acc := by rw [h3]; rfl
  have sm : smallD (.list acc) = true := by
    have := small_tup (ds := acc) (by omega) hs
    simpa only [smallD] using this
  have ok : eqOk (.list acc) (.list []) = true := by
    unfold eqOk
    rw [small_lay sm]
    have : min (PyData.list acc).depth (PyData.list []).depth ≤ 64 := Nat.le_trans (Nat.min_le_right _ _) (by decide)
    rw [decide_eq_true this]; rfl
  rcases List.eq_nil_or_concat acc with e | ⟨ys, z, e⟩
  · subst e
    exact ev_or (b := true) (c := false) (ev_tst (ev_opO hi (ev_lst ev_nil (Nat.zero_le _)) fun P p => ⟨ok, p⟩)) fun z => by cases z
  · rw [List.concat_eq_append] at e
    subst e
    obtain ⟨s, n, h1, h2⟩ := hn z (by simp)
    have e1 : lastTxt (ys ++ [z]) = txtF z := by
      unfold lastTxt
      rw [List.getLast?_append]; rfl
    rw [e1]
    refine ev_or (b := false) (c := !txtF z) (ev_tst (ev_opO hi (ev_lst ev_nil (Nat.zero_le _)) fun P p => ⟨ok, by rw [eqv_nilL (by simp)]; exact p⟩)) fun _ => ev_tst ?_
    obtain ⟨rr, rfl, hr⟩ := node_at h2
    have q := ev_eqS (neg := true) (ρ := ρ) (s := s) (ev_ix (k := 0) (ds := .str s :: rr) (ev_opO (f := fIx) (j := 3) (wb := wU fNeg (wC (.int 1))) (y := .int (-1)) hi (ev_u ev_c fun P p => p) fun P p => ⟨_, atI_end ys _, p⟩) (ev_c (d := .int 0)) atI_0) (ev_c (d := .str (PySem.Str.ofString "text")))
    rw [Bool.true_xor] at q
    exact q

theorem txt_of {s : Str} {r : List PyData} : txtF (.tuple (.str s :: r)) = decide (s = sS "text") := rfl
/-- what the row is after so many turns -/
def Row (q : Nat) (w : Bool) (acc : List PyData) : Prop := (∀ e, e ∈ acc → GE q w e) ∧ twoF acc = false
theorem row_app {q : Nat} {w : Bool} {acc : List PyData} {e : PyData} (h : Row q w acc) (he : GE q w e) (ht : (lastTxt acc && txtF e) = false) : Row q w (acc ++ [e]) := by
  refine ⟨fun x hx => ?_, ?_⟩
  · rcases List.mem_append.mp hx with h1 | h1
    · exact h.1 x h1
    · rw [List.mem_singleton] at h1; subst h1; exact he
  · rw [two_app, h.2, ht]; rfl
theorem t_inl {r : List PyData} {l : Addr} {n q : Nat} {w : Bool} {acc ws : List PyData} {v4 v5 v6 : SV} {E : DEnds} (hn : q ≤ n) (hl : acc.length ≤ 100) (hw : Well r ws) (ha : Row q w acc)
    (k : ∀ ws' e v5 v6, Well r ws' → Row q w (acc ++ [e]) → E.nx [.bor l ws', .dat (.int (q : Int)), .dat (.bool w), .own (acc ++ [e]), v4, v5, v6]) :
    w_k_inlines_b1 (S_k_inlines n) E [.bor l ws, .dat (.int (q : Int)), .dat (.bool w), .own acc, v4, v5, v6] := by
  unfold w_k_inlines_b1
  have hz : acc.length < sizeLine := Nat.lt_of_le_of_lt hl (by decide)
  refine dr_sset (W := Well r) (i := 4) (G := fun d => ∃ m : Nat, d = .int (m : Int) ∧ m < 10 ∧ (q = 0 → m < 5)) ?_ hw ?_
  · by_cases hq : q = 0
    · refine dr_w (dr_draw (n := 5) (dr_ev (d := .int 5) (fun ws hw => ev_ite (ev_tst (ev_gt (ev_var rfl) ev_c)) (fun h => ?_) fun _ => ev_c) rfl) (by decide) (by decide)) ?_
      · have := of_decide_eq_true h; omega
      · rintro d ⟨m, rfl, hm⟩; exact ⟨m, rfl, by omega, fun _ => hm⟩
    · refine dr_w (dr_draw (n := 10) (dr_ev (d := .int 10) (fun ws hw => ev_ite (ev_tst (ev_gt (ev_var rfl) ev_c)) (fun _ => ev_c) fun h => ?_) rfl) (by decide) (by decide)) ?_
      · have := of_decide_eq_false h; omega
      · rintro d ⟨m, rfl, hm⟩; exact ⟨m, rfl, hm, fun z => absurd z hq⟩
  clear hw ws
  rintro ws _ hw ⟨m, rfl, hm, hm0⟩
  show wIf _ _ _ _ [.bor l ws, .dat (.int (q : Int)), .dat (.bool w), .own acc, v4, .dat (.int (m : Int)), v6]
  refine ev_if (ev_and (ev_tst (ev_op (f := fLt) (x := .int (m : Int)) (y := .int 2) (d := .bool (decide ((m : Int) < 2))) (ev_var rfl) ev_c fun P p => p)) fun _ => ev_last rfl hl (fun e he => (ha.1 e he).1) fun e he => inl_node ((ha.1 e he).2 q (Nat.le_refl _))) (fun hb => ?_) fun hb => ?_
  · have ht : lastTxt acc = false := by
      have := (Bool.and_eq_true_iff.mp hb).2
      simpa using this
    refine dr_app (W := Well r) (i := 2) (G := GE q w) (dr_tup (drA_cons dr_c (drA_cons dr_words drA_nil)) ?_) hw rfl hz fun ws' e hw' ge => k _ _ _ _ hw' (row_app ha ge (by rw [ht]; rfl))
    rintro ds ⟨d1, e1, rfl, rfl, d2, e2, rfl, g2, rfl⟩
    exact ⟨line10k (by simp), ge_leaf (by simp) g2⟩
  clear hb
  refine ev_if (ev_tst (ev_op (f := fLt) (x := .int (m : Int)) (y := .int 5) (d := .bool (decide ((m : Int) < 5))) (ev_var rfl) ev_c fun P p => p)) (fun hb => ?_) fun hb => ?_
  · refine dr_sset (W := Well r) (i := 5) (G := fun d => ∃ s, d = .str s ∧ s ∈ [sS "soft", sS "hard", sS "code", sS "html"]) (dr_one (dr_lst (drA_cons dr_c (drA_cons dr_c (drA_cons dr_c (drA_cons dr_c drA_nil)))) ?_)) hw ?_
    · rintro ds ⟨d1, e1, rfl, rfl, d2, e2, rfl, rfl, d3, e3, rfl, rfl, d4, e4, rfl, rfl, rfl⟩
      refine ⟨line10k (by simp), _, rfl, by simp, by simp, fun x hx => ?_⟩
      simp only [List.mem_cons, List.not_mem_nil, or_false] at hx
      rcases hx with rfl | rfl | rfl | rfl
      · exact ⟨_, rfl, by simp⟩
      · exact ⟨_, rfl, by simp⟩
      · exact ⟨_, rfl, by simp⟩
      · exact ⟨_, rfl, by simp⟩
    clear hw ws
    rintro ws _ hw ⟨s, rfl, hs⟩
    show wApp 3 _ _ [.bor l ws, .dat (.int (q : Int)), .dat (.bool w), .own acc, v4, .dat (.int (m : Int)), .dat (.str s)]
    refine dr_app (W := Well r) (i := 2) (G := fun e => GE q w e ∧ txtF e = false) (dr_ite (B := fun b => b = ([sS "soft", sS "hard"].any fun y => decide (y = s))) (drT_ev fun ws hw => ev_tst (by
      have q := ev_inT (neg := false) (ws := [sS "soft", sS "hard"]) (ρ := [.bor l ws, .dat (.int (q : Int)), .dat (.bool w), .own acc, v4, .dat (.int (m : Int)), .dat (.str s)]) (ev_var (i := 6) rfl) (ev_tup (ev_cons (ev_c (d := .str (sS "soft"))) (ev_cons (ev_c (d := .str (sS "hard"))) ev_nil)) (line10k (by simp)))
      rw [Bool.false_xor] at q
      exact q)) (fun hb => ?_) fun hb => ?_) hw rfl hz fun ws' e hw' ge => k _ _ _ _ hw' (row_app ha ge.1 (by rw [ge.2, Bool.and_false]))
    · refine dr_tup (drA_cons (dr_ev (fun ws hw => ev_var rfl) rfl) drA_nil) ?_
      rintro ds ⟨d1, e1, rfl, rfl, rfl⟩
      refine ⟨line10k (by simp), ?_⟩
      simp only [List.mem_cons, List.not_mem_nil, or_false] at hs
      rcases hs with rfl | rfl | rfl | rfl
      · exact ⟨⟨by decide +kernel, fun r _ => inl_soft _ _⟩, by decide +kernel⟩
      · exact ⟨⟨by decide +kernel, fun r _ => inl_hard _ _⟩, by decide +kernel⟩
      · exact absurd hb (by decide +kernel)
      · exact absurd hb (by decide +kernel)
    · refine dr_tup (drA_cons (dr_ev (fun ws hw => ev_var rfl) rfl) (drA_cons dr_words drA_nil)) ?_
      rintro ds ⟨d1, e1, rfl, rfl, d2, e2, rfl, g2, rfl⟩
      refine ⟨line10k (by simp), ?_⟩
      simp only [List.mem_cons, List.not_mem_nil, or_false] at hs
      rcases hs with rfl | rfl | rfl | rfl
      · exact absurd hb (by decide +kernel)
      · exact absurd hb (by decide +kernel)
      · exact ⟨ge_leaf (by simp) g2, by rw [txt_of]; decide +kernel⟩
      · exact ⟨ge_leaf (by simp) g2, by rw [txt_of]; decide +kernel⟩
  have h5 : ¬ m < 5 := by have := of_decide_eq_false hb; omega
  have hq : 1 ≤ q := by
    rcases Nat.eq_zero_or_pos q with e | e
    · exact absurd (hm0 e) h5
    · exact e
  clear hb
  refine ev_if (ev_tst (ev_op (f := fLt) (x := .int (m : Int)) (y := .int 8) (d := .bool (decide ((m : Int) < 8))) (ev_var rfl) ev_c fun P p => p)) (fun hb => ?_) fun hb => ?_
  · refine dr_app (W := Well r) (i := 2) (G := fun e => GE q w e ∧ txtF e = false) (dr_tup (drA_cons (dr_one (G := fun d => ∃ s, d = .str s ∧ s ∈ [sS "emph", sS "strong"]) (dr_lst (drA_cons dr_c (drA_cons dr_c drA_nil)) ?_)) (drA_cons (dr_inls hq hn (fun ws => ev_var rfl) fun ws => ev_var rfl) drA_nil)) ?_) hw rfl hz fun ws' e hw' ge => k _ _ _ _ hw' (row_app ha ge.1 (by rw [ge.2, Bool.and_false]))
    · rintro ds ⟨d1, e1, rfl, rfl, d2, e2, rfl, rfl, rfl⟩
      refine ⟨line10k (by simp), _, rfl, by simp, by simp, fun x hx => ?_⟩
      simp only [List.mem_cons, List.not_mem_nil, or_false] at hx
      rcases hx with rfl | rfl
      · exact ⟨_, rfl, by simp⟩
      · exact ⟨_, rfl, by simp⟩
    · rintro ds ⟨d1, e1, rfl, ⟨s, rfl, hs⟩, d2, e2, rfl, g2, rfl⟩
      refine ⟨line10k (by simp), ge_hold hq hs g2, ?_⟩
      rw [txt_of]
      simp only [List.mem_cons, List.not_mem_nil, or_false] at hs
      rcases hs with rfl | rfl
      · decide +kernel
      · decide +kernel
  clear hb
  have tail : ∀ {nm : Str} {v : Bool} {wv : WE}, smallD (.str nm) = true → (∀ r x y z, targetF x y = true → inlsF r v z = true → inlF (inlsF r) w (.tuple [.str nm, x, y, z]) = true) → decide (nm = sS "text") = false → (∀ ws, evD wv [.bor l ws, .dat (.int (q : Int)), .dat (.bool w), .own acc, v4, .dat (.int (m : Int)), v6] (.bool v)) →
      wApp 3 (wOp fAdd (wOp fAdd (wTup (wCons (wC (.str nm)) wNil)) (wCallW S_k_target 0 wNil)) (wTup (wCons (wCallW (S_k_inlines n) 0 (wCons (wOp fSub (wVar 1) (wC (.int 1))) (wCons wv wNil))) wNil))) E [.bor l ws, .dat (.int (q : Int)), .dat (.bool w), .own acc, v4, .dat (.int (m : Int)), v6] := by
    intro nm v wv hnm hin htx hv
    refine dr_app (W := Well r) (i := 2) (G := fun e => GE q w e ∧ txtF e = false) (dr_op (G1 := fun d => ∃ x y, d = .tuple [.str nm, x, y] ∧ targetF x y = true ∧ smallD x = true ∧ smallD y = true) (G2 := fun d => ∃ z, d = .tuple [z] ∧ GI (q - 1) v z) (dr_op (G1 := fun d => d = .tuple [.str nm]) (dr_tup (drA_cons dr_c drA_nil) ?_) dr_target ?_) (dr_tup (drA_cons (dr_inls hq hn (fun ws => ev_var rfl) hv) drA_nil) ?_) ?_) hw rfl hz fun ws' e hw' ge => k _ _ _ _ hw' (row_app ha ge.1 (by rw [ge.2, Bool.and_false]))
    · rintro ds ⟨d1, e1, rfl, rfl, rfl⟩
      exact ⟨line10k (by simp), rfl⟩
    · rintro x y rfl ⟨a, b, rfl, g1, g2, g3⟩
      exact ⟨.tuple [.str nm, a, b], ⟨a, b, rfl, g1, g2, g3⟩, fun P p => ⟨line10k (by simp), p⟩⟩
    · rintro ds ⟨d1, e1, rfl, g, rfl⟩
      exact ⟨line10k (by simp), d1, rfl, g⟩
    · rintro x y ⟨a, b, rfl, g1, g2, g3⟩ ⟨z, rfl, es, rfl, ne, sz, gz⟩
      exact ⟨.tuple [.str nm, a, b, .tuple es], ⟨⟨small4 hnm g2 g3 sz, fun r hr => hin r _ _ _ g1 (gz r (by omega))⟩, by rw [txt_of]; exact htx⟩, fun P p => ⟨line10k (by simp), p⟩⟩
  refine ev_if (ev_and (c := !w) (ev_tst (ev_eqI (neg := false) (ev_var rfl) ev_c)) fun _ => ev_not (ev_tst (ev_var rfl))) (fun hb => ?_) fun hb => ?_
  · have hwf : w = false := by
      have := (Bool.and_eq_true_iff.mp hb).2
      simpa using this
    refine tail (nm := sS "link") (v := true) (by decide +kernel) (fun r x y z h1 h2 => ?_) (by decide +kernel) fun ws => ev_c
    rw [inl_link, hwf, h1, h2]; rfl
  · refine tail (nm := sS "image") (v := false) (by decide +kernel) (fun r x y z h1 h2 => ?_) (by decide +kernel) fun ws => ev_c
    rw [inl_image, h1, h2]; rfl
theorem m_k_inlines : ∀ n l ws ds Q, S_k_inlines (n + 1) ws ds Q → w_k_inlines (S_k_inlines n) { nx := fun ρ => ∃ ws', ρ.at 0 = .bor l ws' ∧ Q ws' .none, rt := fun ρ d => ∃ ws', ρ.at 0 = .bor l ws' ∧ Q ws' d } (startW l ["_law_well_here", "_law_room", "_law_is_link", "_law_found", "_law_k", "_law_way", "_law_word"] ws ds) := by
  rintro n l ws ds Q ⟨r, q, w, hw, rfl, hn, k⟩
  show w_k_inlines _ _ [.bor l ws, .dat (.int (q : Int)), .dat (.bool w), .un, .un, .un, .un]
  unfold w_k_inlines
  refine ev_snew ?_
  refine dr_sfor (W := Well r) (rest := [.dat (.int (q : Int)), .dat (.bool w), .own [], .un, .un, .un]) (n := 3) (by decide) (dr_1plus (n := 3) (by decide) (by decide)) (fun d hd => by obtain ⟨m, rfl, _, h⟩ := hd; exact ⟨m, rfl, h⟩) hw fun ws1 m hw1 hm h3 => ?_
  have h1 : 1 ≤ m := by
    obtain ⟨m', e, h, _⟩ := hm
    have : (m : Int) = (m' : Int) := by simpa using e
    omega
  refine forD_inv (fun i ρ => ∃ ws acc v4 v5 v6, Well r ws ∧ acc.length = i ∧ Row q w acc ∧ ρ = [.bor l ws, .dat (.int (q : Int)), .dat (.bool w), .own acc, v4, v5, v6]) 3 ?_ (rangeD 0 m) 0 _ (by rw [rangeD_len]; omega) ⟨ws1, [], .un, .un, .un, hw1, rfl, ⟨fun e h => (List.not_mem_nil h).elim, rfl⟩, rfl⟩ ?_
  · rintro i d ρ E' hi ⟨ws2, acc, v4, v5, v6, hw2, hl, ha, rfl⟩ k2 _
    show w_k_inlines_b1 _ _ [.bor l ws2, .dat (.int (q : Int)), .dat (.bool w), .own acc, .dat d, v5, v6]
    exact t_inl (by omega) (by omega) hw2 ha fun ws' e v5 v6 hw' ha' => k2 _ ⟨ws', acc ++ [e], _, v5, v6, hw', by rw [List.length_append, hl]; rfl, ha', rfl⟩
  · rintro ρ ⟨ws2, acc, v4, v5, v6, hw2, hl, ha, rfl⟩
    rw [rangeD_len] at hl
    refine ev_ret (d := .tuple acc) (ev_u (ev_own (j := 3) rfl) fun P p => p) ⟨ws2, rfl, k _ _ hw2 ⟨acc, rfl, fun e => by subst e; simp at hl; omega, small_tup (by omega) fun e he => (ha.1 e he).1, fun rr hr => ?_⟩⟩
    obtain ⟨r', rfl⟩ : ∃ r', rr = r' + 1 := ⟨rr - 1, by omega⟩
    show (true && (acc.all (inlF (inlsF r') w) && !twoF acc)) = true
    rw [ha.2, List.all_eq_true.mpr fun e he => (ha.1 e he).2 r' (by omega)]; rfl
end Pm
namespace Pm
open PySem PySem.Spec PyProof.Rows L2 TL
/-! ### drawn blocks -/
def GB (q : Nat) (d : PyData) : Prop := smallD d = true ∧ ∀ r, q + 3 ≤ r → blkF (blksF r) (inlsF r false) d = true
def GBs (q : Nat) (d : PyData) : Prop := ∃ es, d = .tuple es ∧ smallD d = true ∧ es.length ≤ 3 ∧ ∀ r, q + 4 ≤ r → blksF r d = true
theorem blk_heading (A B : PyData → Bool) (x y : PyData) : blkF A B (.tuple [.str (sS "heading"), x, y]) = (betweenF x 1 6 && B y) := rfl
theorem blk_break (A B : PyData → Bool) : blkF A B (.tuple [.str (sS "break")]) = true := rfl
theorem blk_code (A B : PyData → Bool) (x y : PyData) : blkF A B (.tuple [.str (sS "code"), x, y]) = ((isTextF x && linesD x) && (isTextF y || (isN y && isStrNe x))) := rfl
theorem blk_html (A B : PyData → Bool) (x : PyData) : blkF A B (.tuple [.str (sS "html"), x]) = (isTextF x && (isStrNe x && linesD x)) := rfl
theorem blk_def (A B : PyData → Bool) (x y z : PyData) : blkF A B (.tuple [.str (sS "definition"), x, y, z]) = (isLabelF x && (normD x && targetF y z)) := rfl
theorem blk_para (A B : PyData → Bool) (x : PyData) : blkF A B (.tuple [.str (sS "paragraph"), x]) = (!isNil x && B x) := rfl
theorem blk_quote (A B : PyData → Bool) (x : PyData) : blkF A B (.tuple [.str (sS "quote"), x]) = A x := rfl
theorem blk_list (A B : PyData → Bool) (a b c d : PyData) : blkF A B (.tuple [.str (sS "list"), a, b, c, d]) = ((((bulF a || ordF a) && isBl c) && !((bulF a && !isN b) || (ordF a && !betweenF b 0 999999999))) && (isTup d && (!isNil d && (itms d).all A))) := rfl
theorem small3 {s : Str} {x y : PyData} (h : smallD (.str s) = true) (hx : smallD x = true) (hy : smallD y = true) : smallD (.tuple [.str s, x, y]) = true := small_tup (by simp) fun d hd => by
  simp only [List.mem_cons, List.not_mem_nil, or_false] at hd
  rcases hd with rfl | rfl | rfl
  · exact h
  · exact hx
  · exact hy
theorem small5 {s : Str} {x y z u : PyData} (h : smallD (.str s) = true) (hx : smallD x = true) (hy : smallD y = true) (hz : smallD z = true) (hu : smallD u = true) : smallD (.tuple [.str s, x, y, z, u]) = true := small_tup (by simp) fun d hd => by
  simp only [List.mem_cons, List.not_mem_nil, or_false] at hd
  rcases hd with rfl | rfl | rfl | rfl | rfl
  · exact h
  · exact hx
  · exact hy
  · exact hz
  · exact hu
abbrev N_k_block : Nat := 8
abbrev N_k_blocks : Nat := 8
def S_k_block (n : Nat) : SpW := fun ws ds P => ∃ (r : List PyData) (q : Nat), Well r ws ∧ ds = [.int (q : Int)] ∧ 2 * q + 1 ≤ n ∧ ∀ ws' d, Well r ws' → GB q d → P ws' d
def S_k_blocks (n : Nat) : SpW := fun ws ds P => ∃ (r : List PyData) (q : Nat), Well r ws ∧ ds = [.int (q : Int)] ∧ 2 * q + 2 ≤ n ∧ ∀ ws' d, Well r ws' → GBs q d → P ws' d
theorem l_k_block : ∀ n ws ds P, S_k_block n ws ds P → ds.length + 1 = 2 := by rintro n ws ds P ⟨_, _, _, rfl, _⟩; rfl
theorem l_k_blocks : ∀ n ws ds P, S_k_blocks n ws ds P → ds.length + 1 = 2 := by rintro n ws ds P ⟨_, _, _, rfl, _⟩; rfl
def w_k_block_e1 (S_k_block : SpW) (S_k_blocks : SpW) : WE :=
(wCallW S_k_blocks 0 (wCons (wOp fSub (wVar 1) (wC (.int 1))) wNil))
/-- _law_block(_law_well_here, _law_room): slots 0 _law_well_here 1 _law_room 2 _law_way 3 _law_sign 4 _law_start 5 _law_items 6 _law_k -/
def w_k_block (S_k_block : SpW) (S_k_blocks : SpW) : WS :=
(wSeq (wSet 2 (wCallW S_k_draw 0 (wCons (wIte (wTst (wOp fGt (wVar 1) (wC (.int 0)))) (wC (.int 9)) (wC (.int 6))) wNil)))
(wSeq (wIf (wTst (wOp (fEq false) (wVar 2) (wC (.int 0))))
(wRet (wTup (wCons (wC (.str (PySem.Str.ofString "heading"))) (wCons (wOp fAdd (wC (.int 1)) (wCallW S_k_draw 0 (wCons (wC (.int 6)) wNil))) (wCons (wCallW S_k_one 0 (wCons (wLst (wCons (wTup wNil) (wCons (wCallW (S_k_inlines N_k_inlines) 0 (wCons (wC (.int 2)) (wCons (wC (.bool false)) wNil))) wNil))) wNil)) wNil)))))
wSkip)
(wSeq (wIf (wTst (wOp (fEq false) (wVar 2) (wC (.int 1))))
(wRet (wTup (wCons (wC (.str (PySem.Str.ofString "break"))) wNil)))
wSkip)
(wSeq (wIf (wTst (wOp (fEq false) (wVar 2) (wC (.int 2))))
(wRet (wTup (wCons (wC (.str (PySem.Str.ofString "code"))) (wCons (wOp fAdd (wCallW S_k_words 0 wNil) (wC (.str (PySem.Str.ofString "\n")))) (wCons (wCallW S_k_one 0 (wCons (wLst (wCons (wC (.none)) (wCons (wC (.str (PySem.Str.ofString ""))) (wCons (wC (.str (PySem.Str.ofString "x y"))) wNil)))) wNil)) wNil)))))
wSkip)
(wSeq (wIf (wTst (wOp (fEq false) (wVar 2) (wC (.int 3))))
(wRet (wTup (wCons (wC (.str (PySem.Str.ofString "html"))) (wCons (wOp fAdd (wOp fAdd (wC (.str (PySem.Str.ofString "<b>"))) (wCallW S_k_words 0 wNil)) (wC (.str (PySem.Str.ofString "\n")))) wNil))))
wSkip)
(wSeq (wIf (wTst (wOp (fEq false) (wVar 2) (wC (.int 4))))
(wRet (wOp fAdd (wTup (wCons (wC (.str (PySem.Str.ofString "definition"))) (wCons (wCallW S_k_one 0 (wCons (wLst (wCons (wC (.str (PySem.Str.ofString "a"))) (wCons (wC (.str (PySem.Str.ofString "b c"))) (wCons (wC (.str (PySem.Str.ofString "x\\]"))) wNil)))) wNil)) wNil))) (wCallW S_k_target 0 wNil)))
wSkip)
(wSeq (wIf (wTst (wOp (fEq false) (wVar 2) (wC (.int 5))))
(wRet (wTup (wCons (wC (.str (PySem.Str.ofString "paragraph"))) (wCons (wCallW (S_k_inlines N_k_inlines) 0 (wCons (wC (.int 2)) (wCons (wC (.bool false)) wNil))) wNil))))
wSkip)
(wSeq (wIf (wTst (wOp (fEq false) (wVar 2) (wC (.int 6))))
(wRet (wTup (wCons (wC (.str (PySem.Str.ofString "quote"))) (wCons (wCallW S_k_blocks 0 (wCons (wOp fSub (wVar 1) (wC (.int 1))) wNil)) wNil))))
wSkip)
(wSeq (wSet 3 (wCallW S_k_one 0 (wCons (wLst (wCons (wC (.str (PySem.Str.ofString "-"))) (wCons (wC (.str (PySem.Str.ofString "+"))) (wCons (wC (.str (PySem.Str.ofString "*"))) (wCons (wC (.str (PySem.Str.ofString "."))) (wCons (wC (.str (PySem.Str.ofString ")"))) wNil)))))) wNil)))
(wSeq (wSet 4 (wIte (wTst (wOp (fIn false) (wVar 3) (wC (.str (PySem.Str.ofString "-+*"))))) (wC (.none)) (wCallW S_k_one 0 (wCons (wLst (wCons (wC (.int 0)) (wCons (wC (.int 1)) (wCons (wC (.int 7)) (wCons (wC (.int 999999999)) wNil))))) wNil))))
(wSeq (wSet 5 (wU fTuple (wLc 6 (wRange1 (wCons (wOp fAdd (wC (.int 1)) (wCallW S_k_draw 0 (wCons (wC (.int 3)) wNil))) wNil)) wYes (w_k_block_e1 S_k_block S_k_blocks))))
(wRet (wTup (wCons (wC (.str (PySem.Str.ofString "list"))) (wCons (wVar 3) (wCons (wVar 4) (wCons (wOp (fEq false) (wCallW S_k_draw 0 (wCons (wC (.int 2)) wNil)) (wC (.int 0))) (wCons (wVar 5) wNil))))))))))))))))))

def w_k_blocks_e1 (S_k_block : SpW) (S_k_blocks : SpW) : WE :=
(wCallW S_k_block 0 (wCons (wVar 1) wNil))
/-- _law_blocks(_law_well_here, _law_room): slots 0 _law_well_here 1 _law_room 2 _law_k -/
def w_k_blocks (S_k_block : SpW) (S_k_blocks : SpW) : WS :=
(wRet (wU fTuple (wLc 2 (wRange1 (wCons (wCallW S_k_draw 0 (wCons (wC (.int 4)) wNil)) wNil)) wYes (w_k_blocks_e1 S_k_block S_k_blocks))))


theorem z_k_block : (fun _ _ _ => False) = S_k_block 0 := by
  funext ws ds P; exact propext ⟨False.elim, fun h => by obtain ⟨_, _, _, _, h, _⟩ := h; omega⟩
theorem z_k_blocks : (fun _ _ _ => False) = S_k_blocks 0 := by
  funext ws ds P; exact propext ⟨False.elim, fun h => by obtain ⟨_, _, _, _, h, _⟩ := h; omega⟩
theorem m_k_blocks : ∀ n l ws ds Q, S_k_blocks (n + 1) ws ds Q → w_k_blocks (S_k_block n) (S_k_blocks n) { nx := fun ρ => ∃ ws', ρ.at 0 = .bor l ws' ∧ Q ws' .none, rt := fun ρ d => ∃ ws', ρ.at 0 = .bor l ws' ∧ Q ws' d } (startW l ["_law_well_here", "_law_room", "_law_k"] ws ds) := by
  rintro n l ws ds Q ⟨r, q, hw, rfl, hn, k⟩
  show w_k_blocks _ _ _ [.bor l ws, .dat (.int (q : Int)), .un]
  unfold w_k_blocks
  refine dr_ret (W := Well r) (G := GBs q) (dr_u (dr_lc (G := GB q) (n := 3) (by decide) rfl (drA_cons (dr_drawC (n := 4) (by decide) (by decide)) drA_nil) ?_ ?_) ?_) hw fun ws' d hw' g => ⟨ws', rfl, k ws' d hw' g⟩
  · rintro ds ⟨d, es, rfl, ⟨m, rfl, h⟩, rfl⟩
    exact ⟨m, rfl, by omega⟩
  · intro d
    refine dr_call (H := fun ds => ds = [.int (q : Int)]) (fun ws hw P p => ev_cons (ev_var rfl) ev_nil _ (p ws _ hw rfl)) fun ds h => by subst h; exact fun ws hw P p => ⟨r, q, hw, rfl, by omega, p⟩
  · rintro d ⟨es, rfl, hx, zs, ⟨d1, es1, rfl, ⟨m, rfl, h2⟩, rfl⟩, h3⟩
    have hm : m = es.length := by
      simp at h3
      omega
    refine ⟨.tuple es, ⟨es, rfl, small_tup (by omega) fun e he => (hx e he).1, by omega, fun rr hr => ?_⟩, fun P p => p⟩
    obtain ⟨r', rfl⟩ : ∃ r', rr = r' + 1 := ⟨rr - 1, by omega⟩
    show (true && es.all (blkF (blksF r') (inlsF r' false))) = true
    rw [List.all_eq_true.mpr fun e he => (hx e he).2 r' (by omega)]; rfl

theorem lines_end (t : List Nat) : linesF (tx (t ++ [10])) = true := by
  unfold linesF Txt.endswith
  rw [Bool.or_eq_true]
  right
  rw [Bool.and_eq_true]
  refine ⟨by rw [tx_len, tx_len]; exact decide_eq_true (by simp), ?_⟩
  rw [tx_len, tx_len]
  show ((t ++ [10]).toArray.extract ((t ++ [10]).length - 1) ((t ++ [10]).length - 1 + 1) == #[10]) = true
  have e : (t ++ [10]).length - 1 = t.length := by rw [List.length_append]; rfl
  rw [e]
  simp
theorem lines_tx (d : List Nat) : linesD (.str (tx d)) = linesF (tx d) := rfl
def signL : List Str := [sS "-", sS "+", sS "*", sS ".", sS ")"]
def startOk (s : Str) (d : PyData) : Prop := (bulF (.str s) = true → d = .none) ∧ (ordF (.str s) = true → ∃ i : Int, d = .int i ∧ 0 ≤ i ∧ i ≤ 999999999) ∧ smallD d = true
theorem ten_ok : okSign 10 = true ∧ okSign 60 = true ∧ okSign 98 = true ∧ okSign 62 = true := by decide +kernel
theorem b_eq : sS "<b>" = tx [60, 98, 62] := by decide +kernel
theorem m_k_block : ∀ n l ws ds Q, S_k_block (n + 1) ws ds Q → w_k_block (S_k_block n) (S_k_blocks n) { nx := fun ρ => ∃ ws', ρ.at 0 = .bor l ws' ∧ Q ws' .none, rt := fun ρ d => ∃ ws', ρ.at 0 = .bor l ws' ∧ Q ws' d } (startW l ["_law_well_here", "_law_room", "_law_way", "_law_sign", "_law_start", "_law_items", "_law_k"] ws ds) := by
  rintro n l ws ds Q ⟨r, q, hw, rfl, hn, k⟩
  show w_k_block _ _ _ [.bor l ws, .dat (.int (q : Int)), .un, .un, .un, .un, .un]
  unfold w_k_block
  have K : ∀ ws' d, Well r ws' → GB q d → ∀ rest, (fun (ρ : Env) d => ∃ ws', ρ.at 0 = .bor l ws' ∧ Q ws' d) (.bor l ws' :: rest) d := fun ws' d hw' g rest => ⟨ws', rfl, k ws' d hw' g⟩
  refine dr_sset (W := Well r) (i := 1) (G := fun d => ∃ m : Nat, d = .int (m : Int) ∧ m < 9 ∧ (q = 0 → m < 6)) ?_ hw ?_
  · by_cases hq : q = 0
    · refine dr_w (dr_draw (n := 6) (dr_ev (d := .int 6) (fun ws hw => ev_ite (ev_tst (ev_gt (ev_var rfl) ev_c)) (fun h => ?_) fun _ => ev_c) rfl) (by decide) (by decide)) ?_
      · have := of_decide_eq_true h; omega
      · rintro d ⟨m, rfl, hm⟩; exact ⟨m, rfl, by omega, fun _ => hm⟩
    · refine dr_w (dr_draw (n := 9) (dr_ev (d := .int 9) (fun ws hw => ev_ite (ev_tst (ev_gt (ev_var rfl) ev_c)) (fun _ => ev_c) fun h => ?_) rfl) (by decide) (by decide)) ?_
      · have := of_decide_eq_false h; omega
      · rintro d ⟨m, rfl, hm⟩; exact ⟨m, rfl, hm, fun z => absurd z hq⟩
  clear hw ws
  rintro ws _ hw ⟨m, rfl, hm, hm0⟩
  show wSeq _ _ _ [.bor l ws, .dat (.int (q : Int)), .dat (.int (m : Int)), .un, .un, .un, .un]
  have tst : ∀ j : Int, evT (wTst (wOp (fEq false) (wVar 2) (wC (.int j)))) [.bor l ws, .dat (.int (q : Int)), .dat (.int (m : Int)), .un, .un, .un, .un] (decide ((m : Int) = j)) := fun j => by
    have e := ev_eqI (neg := false) (ρ := [.bor l ws, .dat (.int (q : Int)), .dat (.int (m : Int)), .un, .un, .un, .un]) (ev_var (i := 2) rfl) (ev_c (d := .int j))
    rw [Bool.false_xor] at e
    exact ev_tst e
  have inls : ∀ {rest : Env}, drD (Well r) l rest (wCallW (S_k_inlines N_k_inlines) 0 (wCons (wC (.int 2)) (wCons (wC (.bool false)) wNil))) (GI 2 false) := fun {rest} => dr_call (drA_cons dr_c (drA_cons dr_c drA_nil)) fun ds h => by
    obtain ⟨d1, e1, rfl, rfl, d2, e2, rfl, rfl, rfl⟩ := h
    exact fun ws hw P p => ⟨r, 2, false, hw, rfl, by decide, p⟩
  have recB : ∀ {rest : Env}, 1 ≤ q → rest.at 0 = .dat (.int (q : Int)) → drD (Well r) l rest (wCallW (S_k_blocks n) 0 (wCons (wOp fSub (wVar 1) (wC (.int 1))) wNil)) (GBs (q - 1)) := fun {rest} hq h0 => by
    refine dr_call (H := fun ds => ds = [.int ((q - 1 : Nat) : Int)]) ?_ fun ds h => by subst h; exact fun ws hw P p => ⟨r, q - 1, hw, rfl, by omega, p⟩
    intro ws hw P p
    have e := ev_cons (ev_sub (ρ := .bor l ws :: rest) (ev_var (i := 1) h0) (ev_c (d := .int 1))) ev_nil
    rw [show ((q : Int) - 1) = ((q - 1 : Nat) : Int) by omega] at e
    exact e _ (p ws _ hw rfl)
  refine ev_guard (tst 0) (fun _ => ?_) fun h0 => ?_
  · refine dr_ret (W := Well r) (G := GB q) (dr_tup (drA_cons dr_c (drA_cons (dr_1plus (n := 6) (by decide) (by decide)) (drA_cons (dr_one (G := fun d => smallD d = true ∧ ∀ r, 3 ≤ r → inlsF r false d = true) (dr_lst (drA_cons (dr_tup (G := fun d => d = .tuple []) drA_nil fun ds h => ⟨by rw [h]; exact Nat.zero_le _, by rw [h]⟩) (drA_cons inls drA_nil)) ?_)) drA_nil))) ?_) hw fun ws' d hw' g => K _ _ hw' g _
    · rintro ds ⟨d1, e1, rfl, rfl, d2, e2, rfl, ⟨es, rfl, g1, g2, g3⟩, rfl⟩
      refine ⟨line10k (by simp), _, rfl, by simp, by simp, fun x hx => ?_⟩
      simp only [List.mem_cons, List.not_mem_nil, or_false] at hx
      rcases hx with rfl | rfl
      · refine ⟨by decide, fun r hr => ?_⟩
        obtain ⟨r', rfl⟩ : ∃ r', r = r' + 1 := ⟨r - 1, by omega⟩
        rfl
      · exact ⟨g2, g3⟩
    · rintro ds ⟨d1, e1, rfl, rfl, d2, e2, rfl, ⟨i, rfl, h1, h6⟩, d3, e3, rfl, ⟨g1, g2⟩, rfl⟩
      refine ⟨line10k (by simp), small3 (by decide +kernel) rfl g1, fun r hr => ?_⟩
      rw [blk_heading, g2 r (by omega), Bool.and_true]
      show (decide ((1 : Int) ≤ (i : Int)) && decide ((i : Int) ≤ 6)) = true
      rw [decide_eq_true (by omega), decide_eq_true (by omega)]; rfl
  refine ev_guard (tst 1) (fun _ => ?_) fun h1 => ?_
  · refine dr_ret (W := Well r) (G := GB q) (dr_tup (drA_cons dr_c drA_nil) ?_) hw fun ws' d hw' g => K _ _ hw' g _
    rintro ds ⟨d1, e1, rfl, rfl, rfl⟩
    exact ⟨line10k (by simp), by decide +kernel, fun r _ => blk_break _ _⟩
  refine ev_guard (tst 2) (fun _ => ?_) fun h2 => ?_
  · refine dr_ret (W := Well r) (G := GB q) (dr_tup (drA_cons dr_c (drA_cons (dr_op (G := fun d => ∃ t, d = .str (tx (t ++ [10])) ∧ wordOk t) dr_words dr_c ?_) (drA_cons (dr_one (G := fun d => (d = .none ∨ isTextF d = true) ∧ smallD d = true) (dr_lst (drA_cons dr_c (drA_cons dr_c (drA_cons dr_c drA_nil))) ?_)) drA_nil))) ?_) hw fun ws' d hw' g => K _ _ hw' g _
    · rintro x y ⟨t, rfl, ht⟩ rfl
      refine ⟨_, ⟨t, rfl, ht⟩, fun P p => ?_⟩
      show _ ∧ P (.str (tx t ++ PySem.Str.ofString "\n"))
      rw [feed_eq, show (⟨#[10]⟩ : Str) = tx [10] from rfl, tx_app]
      refine ⟨line10k ?_, p⟩
      rw [tx_len]
      have := ht.2.1
      show t.length + 1 ≤ _
      omega
    · rintro ds ⟨d1, e1, rfl, rfl, d2, e2, rfl, rfl, d3, e3, rfl, rfl, rfl⟩
      refine ⟨line10k (by simp), _, rfl, by simp, by simp, fun x hx => ?_⟩
      simp only [List.mem_cons, List.not_mem_nil, or_false] at hx
      rcases hx with rfl | rfl | rfl
      · exact ⟨.inl rfl, rfl⟩
      · exact ⟨.inr (by decide +kernel), by decide +kernel⟩
      · exact ⟨.inr (by decide +kernel), by decide +kernel⟩
    · rintro ds ⟨d1, e1, rfl, rfl, d2, e2, rfl, ⟨t, rfl, ht⟩, d3, e3, rfl, ⟨g1, g2⟩, rfl⟩
      have hc : ∀ c, c ∈ t ++ [10] → okSign c = true ∧ c < 128 := fun c hc => by
        rcases List.mem_append.mp hc with h | h
        · exact word_sign c (ht.2.2 c h)
        · rw [List.mem_singleton] at h; subst h; exact ⟨ten_ok.1, by decide⟩
      have hl : (t ++ [10]).length ≤ 10000 := by rw [List.length_append]; have := ht.2.1; simp; omega
      refine ⟨line10k (by simp), small3 (by decide +kernel) (small_str (fun c h => (hc c h).2) hl) g2, fun r hr => ?_⟩
      rw [blk_code, text_of fun c h => (hc c h).1, lines_tx, lines_end]
      have ne : isStrNe (.str (tx (t ++ [10]))) = true := by
        show (!decide (tx (t ++ [10]) = tx [])) = true
        rw [decide_eq_false fun e => by have := tx_inj e; simp at this]; rfl
      rcases g1 with rfl | g1
      · rw [ne]; rfl
      · rw [g1]; rfl
  refine ev_guard (tst 3) (fun _ => ?_) fun h3 => ?_
  · refine dr_ret (W := Well r) (G := GB q) (dr_tup (drA_cons dr_c (drA_cons (dr_op (G := fun d => ∃ t, d = .str (tx (([60, 98, 62] ++ t) ++ [10])) ∧ wordOk t) (dr_op (G := fun d => ∃ t, d = .str (tx ([60, 98, 62] ++ t)) ∧ wordOk t) dr_c dr_words ?_) dr_c ?_) drA_nil)) ?_) hw fun ws' d hw' g => K _ _ hw' g _
    · rintro x y rfl ⟨t, rfl, ht⟩
      refine ⟨_, ⟨t, rfl, ht⟩, fun P p => ?_⟩
      show _ ∧ P (.str (sS "<b>" ++ tx t))
      rw [b_eq, tx_app]
      refine ⟨line10k ?_, p⟩
      show (sS "<b>").length + (tx t).length ≤ _
      rw [b_eq, tx_len, tx_len]
      have := ht.2.1
      simp; omega
    · rintro x y ⟨t, rfl, ht⟩ rfl
      refine ⟨_, ⟨t, rfl, ht⟩, fun P p => ?_⟩
      show _ ∧ P (.str (tx ([60, 98, 62] ++ t) ++ PySem.Str.ofString "\n"))
      rw [feed_eq, show (⟨#[10]⟩ : Str) = tx [10] from rfl, tx_app]
      refine ⟨line10k ?_, p⟩
      rw [tx_len]
      have := ht.2.1
      show ([60, 98, 62] ++ t).length + 1 ≤ _
      simp; omega
    · rintro ds ⟨d1, e1, rfl, rfl, d2, e2, rfl, ⟨t, rfl, ht⟩, rfl⟩
      have hc : ∀ c, c ∈ ([60, 98, 62] ++ t) ++ [10] → okSign c = true ∧ c < 128 := fun c hc => by
        rcases List.mem_append.mp hc with h | h
        · rcases List.mem_append.mp h with h | h
          · simp only [List.mem_cons, List.not_mem_nil, or_false] at h
            rcases h with rfl | rfl | rfl
            · exact ⟨ten_ok.2.1, by decide⟩
            · exact ⟨ten_ok.2.2.1, by decide⟩
            · exact ⟨ten_ok.2.2.2, by decide⟩
          · exact word_sign c (ht.2.2 c h)
        · rw [List.mem_singleton] at h; subst h; exact ⟨ten_ok.1, by decide⟩
      have hl : (([60, 98, 62] ++ t) ++ [10]).length ≤ 10000 := by rw [List.length_append, List.length_append]; have := ht.2.1; simp; omega
      refine ⟨line10k (by simp), small2 (by decide +kernel) (small_str (fun c h => (hc c h).2) hl), fun r hr => ?_⟩
      have ne : isStrNe (.str (tx (([60, 98, 62] ++ t) ++ [10]))) = true := by
        show (!decide (tx (([60, 98, 62] ++ t) ++ [10]) = tx [])) = true
        rw [decide_eq_false fun e => by have := tx_inj e; simp at this]; rfl
      rw [blk_html, text_of fun c h => (hc c h).1, lines_tx, lines_end, ne]; rfl
  refine ev_guard (tst 4) (fun _ => ?_) fun h4 => ?_
  · refine dr_ret (W := Well r) (G := GB q) (dr_op (G1 := fun d => ∃ x, d = .tuple [.str (sS "definition"), x] ∧ (isLabelF x && normD x) = true ∧ smallD x = true) (dr_tup (drA_cons dr_c (drA_cons (dr_one (G := fun x => (isLabelF x && normD x) = true ∧ smallD x = true) (dr_lst (drA_cons dr_c (drA_cons dr_c (drA_cons dr_c drA_nil))) ?_)) drA_nil)) ?_) dr_target ?_) hw fun ws' d hw' g => K _ _ hw' g _
    · rintro ds ⟨d1, e1, rfl, rfl, d2, e2, rfl, rfl, d3, e3, rfl, rfl, rfl⟩
      refine ⟨line10k (by simp), _, rfl, by simp, by simp, fun x hx => ?_⟩
      simp only [List.mem_cons, List.not_mem_nil, or_false] at hx
      rcases hx with rfl | rfl | rfl
      · exact ⟨by decide +kernel, by decide +kernel⟩
      · exact ⟨by decide +kernel, by decide +kernel⟩
      · exact ⟨by decide +kernel, by decide +kernel⟩
    · rintro ds ⟨d1, e1, rfl, rfl, d2, e2, rfl, g, rfl⟩
      exact ⟨line10k (by simp), d2, rfl, g⟩
    · rintro x y ⟨x, rfl, g1, g2⟩ ⟨a, b, rfl, g3, g4, g5⟩
      refine ⟨.tuple [.str (sS "definition"), x, a, b], ⟨small4 (by decide +kernel) g2 g4 g5, fun r hr => ?_⟩, fun P p => ⟨line10k (by simp), p⟩⟩
      rw [blk_def, g3, Bool.and_true]; exact g1
  refine ev_guard (tst 5) (fun _ => ?_) fun h5 => ?_
  · refine dr_ret (W := Well r) (G := GB q) (dr_tup (drA_cons dr_c (drA_cons inls drA_nil)) ?_) hw fun ws' d hw' g => K _ _ hw' g _
    rintro ds ⟨d1, e1, rfl, rfl, d2, e2, rfl, ⟨es, rfl, g1, g2, g3⟩, rfl⟩
    refine ⟨line10k (by simp), small2 (by decide +kernel) g2, fun r hr => ?_⟩
    rw [blk_para, not_nil g1, g3 r (by omega)]; rfl
  have hq : 1 ≤ q := by
    rcases Nat.eq_zero_or_pos q with e | e
    · have a := hm0 e
      have b0 := of_decide_eq_false h0
      have b1 := of_decide_eq_false h1
      have b2 := of_decide_eq_false h2
      have b3 := of_decide_eq_false h3
      have b4 := of_decide_eq_false h4
      have b5 := of_decide_eq_false h5
      omega
    · exact e
  refine ev_guard (tst 6) (fun _ => ?_) fun h6 => ?_
  · refine dr_ret (W := Well r) (G := GB q) (dr_tup (drA_cons dr_c (drA_cons (recB hq rfl) drA_nil)) ?_) hw fun ws' d hw' g => K _ _ hw' g _
    rintro ds ⟨d1, e1, rfl, rfl, d2, e2, rfl, ⟨es, rfl, g2, _, g3⟩, rfl⟩
    refine ⟨line10k (by simp), small2 (by decide +kernel) g2, fun r hr => ?_⟩
    rw [blk_quote, g3 r (by omega)]
  refine dr_sset (W := Well r) (i := 2) (G := fun d => ∃ s, d = .str s ∧ s ∈ signL) (dr_one (dr_lst (drA_cons dr_c (drA_cons dr_c (drA_cons dr_c (drA_cons dr_c (drA_cons dr_c drA_nil))))) ?_)) hw ?_
  · rintro ds ⟨d1, e1, rfl, rfl, d2, e2, rfl, rfl, d3, e3, rfl, rfl, d4, e4, rfl, rfl, d5, e5, rfl, rfl, rfl⟩
    refine ⟨line10k (by simp), _, rfl, by simp, by simp, fun x hx => ?_⟩
    simp only [List.mem_cons, List.not_mem_nil, or_false] at hx
    rcases hx with rfl | rfl | rfl | rfl | rfl
    · exact ⟨_, rfl, by simp [signL]⟩
    · exact ⟨_, rfl, by simp [signL]⟩
    · exact ⟨_, rfl, by simp [signL]⟩
    · exact ⟨_, rfl, by simp [signL]⟩
    · exact ⟨_, rfl, by simp [signL]⟩
  clear hw ws tst
  rintro ws _ hw ⟨s, rfl, hs⟩
  show wSeq _ _ _ [.bor l ws, .dat (.int (q : Int)), .dat (.int (m : Int)), .dat (.str s), .un, .un, .un]
  refine dr_sset (W := Well r) (i := 3) (G := startOk s) (dr_ite (B := fun b => b = inS s (PySem.Str.ofString "-+*")) (drT_ev fun ws hw => ev_tst (ev_op (f := fIn false) (x := .str s) (y := .str (PySem.Str.ofString "-+*")) (ev_var rfl) ev_c fun P p => by
      show P (.bool (false ^^ _))
      rw [Bool.false_xor]; exact p)) (fun hb => ?_) fun hb => ?_) hw ?_
  · refine dr_w dr_c fun d hd => ?_
    subst hd
    refine ⟨fun _ => rfl, fun ho => ?_, rfl⟩
    simp only [signL, List.mem_cons, List.not_mem_nil, or_false] at hs
    rcases hs with rfl | rfl | rfl | rfl | rfl
    · exact absurd ho (by decide +kernel)
    · exact absurd ho (by decide +kernel)
    · exact absurd ho (by decide +kernel)
    · exact absurd hb (by decide +kernel)
    · exact absurd hb (by decide +kernel)
  · have hb2 : bulF (.str s) = false := by
      simp only [signL, List.mem_cons, List.not_mem_nil, or_false] at hs
      rcases hs with rfl | rfl | rfl | rfl | rfl
      · exact absurd hb (by decide +kernel)
      · exact absurd hb (by decide +kernel)
      · exact absurd hb (by decide +kernel)
      · decide +kernel
      · decide +kernel
    refine dr_one (dr_lst (drA_cons dr_c (drA_cons dr_c (drA_cons dr_c (drA_cons dr_c drA_nil)))) ?_)
    rintro ds ⟨d1, e1, rfl, rfl, d2, e2, rfl, rfl, d3, e3, rfl, rfl, d4, e4, rfl, rfl, rfl⟩
    refine ⟨line10k (by simp), _, rfl, by simp, by simp, fun x hx => ?_⟩
    simp only [List.mem_cons, List.not_mem_nil, or_false] at hx
    refine ⟨fun z => absurd z (by rw [hb2]; exact Bool.false_ne_true), fun _ => ?_, ?_⟩
    · rcases hx with rfl | rfl | rfl | rfl
      · exact ⟨0, rfl, by decide, by decide⟩
      · exact ⟨1, rfl, by decide, by decide⟩
      · exact ⟨7, rfl, by decide, by decide⟩
      · exact ⟨999999999, rfl, by decide, by decide⟩
    · rcases hx with rfl | rfl | rfl | rfl <;> rfl
  clear hw ws
  rintro ws st hw hst
  show wSeq _ _ _ [.bor l ws, .dat (.int (q : Int)), .dat (.int (m : Int)), .dat (.str s), .dat st, .un, .un]
  refine dr_sset (W := Well r) (i := 4) (G := fun d => ∃ es, d = .tuple es ∧ es ≠ [] ∧ es.length ≤ 3 ∧ ∀ x, x ∈ es → GBs (q - 1) x) (dr_u (dr_lc (G := GBs (q - 1)) (n := 3) (by decide) rfl (drA_cons (dr_1plus (n := 3) (by decide) (by decide)) drA_nil) ?_ ?_) ?_) hw ?_
  · rintro ds ⟨d, es, rfl, ⟨m, rfl, _, h⟩, rfl⟩
    exact ⟨m, rfl, h⟩
  · intro d
    exact recB hq rfl
  · rintro d ⟨es, rfl, hx, zs, ⟨d1, es1, rfl, ⟨m, rfl, h1, h2⟩, rfl⟩, h3⟩
    have hm : m = es.length := by
      simp at h3
      omega
    exact ⟨.tuple es, ⟨es, rfl, fun e => by subst e; simp at hm; omega, by omega, hx⟩, fun P p => p⟩
  clear hw ws
  rintro ws _ hw ⟨es, rfl, hne, hle, hes⟩
  show wRet _ _ [.bor l ws, .dat (.int (q : Int)), .dat (.int (m : Int)), .dat (.str s), .dat st, .dat (.tuple es), .un]
  refine dr_ret (W := Well r) (G := GB q) (dr_tup (drA_cons dr_c (drA_cons (dr_ev (fun ws hw => ev_var rfl) rfl) (drA_cons (dr_ev (fun ws hw => ev_var rfl) rfl) (drA_cons (dr_op (G := fun d => ∃ b, d = .bool b) (dr_drawC (n := 2) (by decide) (by decide)) dr_c ?_) (drA_cons (dr_ev (fun ws hw => ev_var rfl) rfl) drA_nil))))) ?_) hw fun ws' d hw' g => K _ _ hw' g _
  · rintro x y ⟨m, rfl, _⟩ rfl
    exact ⟨_, ⟨_, rfl⟩, fun P p => p⟩
  · rintro ds ⟨d1, e1, rfl, rfl, d2, e2, rfl, rfl, d3, e3, rfl, rfl, d4, e4, rfl, ⟨b, rfl⟩, d5, e5, rfl, rfl, rfl⟩
    refine ⟨line10k (by simp), small5 (by decide +kernel) ?_ hst.2.2 rfl (small_tup (by omega) fun e he => by obtain ⟨_, _, g, _⟩ := hes e he; exact g), fun r hr => ?_⟩
    · simp only [signL, List.mem_cons, List.not_mem_nil, or_false] at hs
      rcases hs with rfl | rfl | rfl | rfl | rfl <;> decide +kernel
    · have hall : es.all (blksF r) = true := List.all_eq_true.mpr fun e he => by
        obtain ⟨_, _, _, _, g⟩ := hes e he
        exact g r (by omega)
      have e1 : (itms (.tuple es)).all (blksF r) = true := hall
      rw [blk_list, not_nil hne, e1]
      have sg : (bulF (.str s) || ordF (.str s)) = true := by
        simp only [signL, List.mem_cons, List.not_mem_nil, or_false] at hs
        rcases hs with rfl | rfl | rfl | rfl | rfl <;> decide +kernel
      rw [sg]
      have c1 : (bulF (.str s) && !isN st) = false := by
        cases h : bulF (.str s)
        · rfl
        · rw [hst.1 h]; rfl
      have c2 : (ordF (.str s) && !betweenF st 0 999999999) = false := by
        cases h : ordF (.str s)
        · rfl
        · obtain ⟨i, rfl, i1, i2⟩ := hst.2.1 h
          have : betweenF (.int i) 0 999999999 = true := by
            show (decide ((0 : Int) ≤ i) && decide (i ≤ 999999999)) = true
            rw [decide_eq_true i1, decide_eq_true i2]; rfl
          rw [this]; rfl
      rw [c1, c2]; rfl
end Pm
namespace Pm
open PySem PySem.Spec PyProof.Rows L2 TL
theorem ev_addL {ρ : Env} {wa wb : WE} {xs ys : List PyData} (ha : evD wa ρ (.list xs)) (hb : evD wb ρ (.list ys)) (hl : xs.length + ys.length ≤ sizeLine) : evD (wOp fAdd wa wb) ρ (.list (xs ++ ys)) := ev_op ha hb fun P p => ⟨hl, p⟩
theorem ev_neg {ρ : Env} {wa : WE} {i : Int} (ha : evD wa ρ (.int i)) : evD (wU fNeg wa) ρ (.int (-i)) := ev_u ha fun P p => p
theorem ev_pow9 {ρ : Env} : evD (wOp fPow (wC (.int 10)) (wC (.int 9))) ρ (.int 1000000000) := ev_op ev_c ev_c fun P p => ⟨⟨by decide, by decide, by decide⟩, p⟩
/-! ### the wrong ones -/
def wrongOk (d : PyData) : Bool := smallD d && (!blkF (blksF 99) (inlsF 99 false) d && !blkF (blksF 98) (inlsF 98 false) d)
def S_k_wrong : SpW := fun ws ds P => ∃ r, Well r ws ∧ ds = [] ∧ ∀ ws' d, Well r ws' → wrongOk d = true → P ws' d
theorem l_k_wrong : ∀ ws ds P, S_k_wrong ws ds P → ds.length + 1 = 1 := by rintro ws ds P ⟨_, _, rfl, _⟩; rfl
/-- _law_wrong(_law_well_here): slots 0 _law_well_here 1 _law_some 2 _law_inner 3 _law_pair -/
def w_k_wrong : WS :=
(wSeq (wSet 1 (wLst (wCons (wTup (wCons (wC (.str (PySem.Str.ofString "quote"))) wNil)) (wCons (wTup (wCons (wC (.str (PySem.Str.ofString "quote"))) (wCons (wLst (wCons (wTup (wCons (wC (.str (PySem.Str.ofString "break"))) wNil)) wNil)) wNil))) (wCons (wTup (wCons (wC (.str (PySem.Str.ofString "quote"))) (wCons (wTup (wCons (wTup (wCons (wC (.str (PySem.Str.ofString "text"))) (wCons (wC (.str (PySem.Str.ofString "a"))) wNil))) wNil)) wNil))) (wCons (wLst (wCons (wC (.str (PySem.Str.ofString "break"))) wNil)) (wCons (wTup (wCons (wC (.str (PySem.Str.ofString "break"))) (wCons (wC (.int 1)) wNil))) (wCons (wC (.str (PySem.Str.ofString "break"))) (wCons (wC (.none)) wNil)))))))))
(wSeq (wSet 1 (wOp fAdd (wVar 1) (wLst (wCons (wTup (wCons (wC (.str (PySem.Str.ofString "heading"))) (wCons (wC (.int 0)) (wCons (wTup wNil) wNil)))) (wCons (wTup (wCons (wC (.str (PySem.Str.ofString "heading"))) (wCons (wC (.int 7)) (wCons (wTup wNil) wNil)))) (wCons (wTup (wCons (wC (.str (PySem.Str.ofString "heading"))) (wCons (wC (.bool true)) (wCons (wTup wNil) wNil)))) (wCons (wTup (wCons (wC (.str (PySem.Str.ofString "heading"))) (wCons (wC (.int 1)) (wCons (wLst wNil) wNil)))) wNil)))))))
(wSeq (wSet 1 (wOp fAdd (wVar 1) (wLst (wCons (wTup (wCons (wC (.str (PySem.Str.ofString "heading"))) (wCons (wC (.str (PySem.Str.ofString "1"))) (wCons (wTup wNil) wNil)))) wNil))))
(wSeq (wSet 1 (wOp fAdd (wVar 1) (wLst (wCons (wTup (wCons (wC (.str (PySem.Str.ofString "heading"))) (wCons (wC (.int 1)) (wCons (wTup (wCons (wTup (wCons (wC (.str (PySem.Str.ofString "text"))) (wCons (wC (.str (PySem.Str.ofString ""))) wNil))) wNil)) wNil)))) (wCons (wTup (wCons (wC (.str (PySem.Str.ofString "paragraph"))) (wCons (wTup wNil) wNil))) (wCons (wTup (wCons (wC (.str (PySem.Str.ofString "paragraph"))) (wCons (wTup (wCons (wTup (wCons (wC (.str (PySem.Str.ofString "text"))) (wCons (wC (.str (PySem.Str.ofString "a"))) wNil))) (wCons (wTup (wCons (wC (.str (PySem.Str.ofString "text"))) (wCons (wC (.str (PySem.Str.ofString "b"))) wNil))) wNil))) wNil))) wNil))))))
(wSeq (wSet 1 (wOp fAdd (wVar 1) (wLst (wCons (wTup (wCons (wC (.str (PySem.Str.ofString "paragraph"))) (wCons (wTup (wCons (wTup (wCons (wC (.str (PySem.Str.ofString "emph"))) (wCons (wTup wNil) wNil))) wNil)) wNil))) (wCons (wTup (wCons (wC (.str (PySem.Str.ofString "paragraph"))) (wCons (wTup (wCons (wC (.str (PySem.Str.ofString "a"))) wNil)) wNil))) (wCons (wTup (wCons (wC (.str (PySem.Str.ofString "paragraph"))) (wCons (wTup (wCons (wTup (wCons (wC (.str (PySem.Str.ofString "soft"))) (wCons (wC (.int 1)) wNil))) wNil)) wNil))) wNil))))))
(wSeq (wSet 1 (wOp fAdd (wVar 1) (wLst (wCons (wTup (wCons (wC (.str (PySem.Str.ofString "code"))) (wCons (wC (.str (PySem.Str.ofString "a"))) (wCons (wC (.none)) wNil)))) (wCons (wTup (wCons (wC (.str (PySem.Str.ofString "code"))) (wCons (wC (.str (PySem.Str.ofString ""))) (wCons (wC (.none)) wNil)))) (wCons (wTup (wCons (wC (.str (PySem.Str.ofString "code"))) (wCons (wC (.int 5)) (wCons (wC (.str (PySem.Str.ofString ""))) wNil)))) (wCons (wTup (wCons (wC (.str (PySem.Str.ofString "code"))) (wCons (wC (.str (PySem.Str.ofString "a\n"))) (wCons (wC (.int 5)) wNil)))) (wCons (wTup (wCons (wC (.str (PySem.Str.ofString "html"))) (wCons (wC (.str (PySem.Str.ofString "a"))) wNil))) wNil))))))))
(wSeq (wSet 1 (wOp fAdd (wVar 1) (wLst (wCons (wTup (wCons (wC (.str (PySem.Str.ofString "html"))) (wCons (wC (.str (PySem.Str.ofString ""))) wNil))) (wCons (wTup (wCons (wC (.str (PySem.Str.ofString "definition"))) (wCons (wC (.str (PySem.Str.ofString "A"))) (wCons (wC (.str (PySem.Str.ofString "/u"))) (wCons (wC (.none)) wNil))))) (wCons (wTup (wCons (wC (.str (PySem.Str.ofString "definition"))) (wCons (wC (.str (PySem.Str.ofString "a  b"))) (wCons (wC (.str (PySem.Str.ofString "/u"))) (wCons (wC (.none)) wNil))))) wNil))))))
(wSeq (wSet 1 (wOp fAdd (wVar 1) (wLst (wCons (wTup (wCons (wC (.str (PySem.Str.ofString "definition"))) (wCons (wC (.str (PySem.Str.ofString "a]"))) (wCons (wC (.str (PySem.Str.ofString "/u"))) (wCons (wC (.none)) wNil))))) (wCons (wTup (wCons (wC (.str (PySem.Str.ofString "definition"))) (wCons (wC (.str (PySem.Str.ofString " "))) (wCons (wC (.str (PySem.Str.ofString "/u"))) (wCons (wC (.none)) wNil))))) (wCons (wTup (wCons (wC (.str (PySem.Str.ofString "definition"))) (wCons (wC (.str (PySem.Str.ofString "a"))) (wCons (wC (.none)) (wCons (wC (.none)) wNil))))) wNil))))))
(wSeq (wSet 1 (wOp fAdd (wVar 1) (wLst (wCons (wTup (wCons (wC (.str (PySem.Str.ofString "definition"))) (wCons (wC (.str (PySem.Str.ofString "a"))) (wCons (wC (.str (PySem.Str.ofString "/u"))) (wCons (wC (.int 5)) wNil))))) (wCons (wTup (wCons (wC (.str (PySem.Str.ofString "list"))) (wCons (wC (.str (PySem.Str.ofString "-"))) (wCons (wC (.int 1)) (wCons (wC (.bool true)) (wCons (wTup (wCons (wTup wNil) wNil)) wNil)))))) (wCons (wTup (wCons (wC (.str (PySem.Str.ofString "list"))) (wCons (wC (.str (PySem.Str.ofString "."))) (wCons (wC (.none)) (wCons (wC (.bool true)) (wCons (wTup (wCons (wTup wNil) wNil)) wNil)))))) wNil))))))
(wSeq (wSet 1 (wOp fAdd (wVar 1) (wLst (wCons (wTup (wCons (wC (.str (PySem.Str.ofString "list"))) (wCons (wC (.str (PySem.Str.ofString "."))) (wCons (wU fNeg (wC (.int 1))) (wCons (wC (.bool true)) (wCons (wTup (wCons (wTup wNil) wNil)) wNil)))))) (wCons (wTup (wCons (wC (.str (PySem.Str.ofString "list"))) (wCons (wC (.str (PySem.Str.ofString "."))) (wCons (wOp fPow (wC (.int 10)) (wC (.int 9))) (wCons (wC (.bool true)) (wCons (wTup (wCons (wTup wNil) wNil)) wNil)))))) (wCons (wTup (wCons (wC (.str (PySem.Str.ofString "list"))) (wCons (wC (.str (PySem.Str.ofString "-"))) (wCons (wC (.none)) (wCons (wC (.int 1)) (wCons (wTup (wCons (wTup wNil) wNil)) wNil)))))) wNil))))))
(wSeq (wSet 1 (wOp fAdd (wVar 1) (wLst (wCons (wTup (wCons (wC (.str (PySem.Str.ofString "list"))) (wCons (wC (.str (PySem.Str.ofString "-"))) (wCons (wC (.none)) (wCons (wC (.bool true)) (wCons (wTup wNil) wNil)))))) (wCons (wTup (wCons (wC (.str (PySem.Str.ofString "list"))) (wCons (wC (.str (PySem.Str.ofString "-"))) (wCons (wC (.none)) (wCons (wC (.bool true)) (wCons (wTup (wCons (wLst wNil) wNil)) wNil)))))) (wCons (wTup (wCons (wC (.str (PySem.Str.ofString "list"))) (wCons (wC (.str (PySem.Str.ofString "x"))) (wCons (wC (.none)) (wCons (wC (.bool true)) (wCons (wTup (wCons (wTup wNil) wNil)) wNil)))))) wNil))))))
(wSeq (wSet 2 (wTup (wCons (wC (.str (PySem.Str.ofString "link"))) (wCons (wC (.str (PySem.Str.ofString "/u"))) (wCons (wC (.none)) (wCons (wTup (wCons (wTup (wCons (wC (.str (PySem.Str.ofString "text"))) (wCons (wC (.str (PySem.Str.ofString "a"))) wNil))) wNil)) wNil))))))
(wSeq (wSet 1 (wOp fAdd (wVar 1) (wLst (wCons (wTup (wCons (wC (.str (PySem.Str.ofString "paragraph"))) (wCons (wTup (wCons (wTup (wCons (wC (.str (PySem.Str.ofString "link"))) (wCons (wC (.str (PySem.Str.ofString "/v"))) (wCons (wC (.none)) (wCons (wTup (wCons (wVar 2) wNil)) wNil))))) wNil)) wNil))) wNil))))
(wSeq (wSet 1 (wOp fAdd (wVar 1) (wLst (wCons (wTup (wCons (wC (.str (PySem.Str.ofString "paragraph"))) (wCons (wTup (wCons (wTup (wCons (wC (.str (PySem.Str.ofString "link"))) (wCons (wC (.str (PySem.Str.ofString "/v"))) (wCons (wC (.none)) (wCons (wTup (wCons (wTup (wCons (wC (.str (PySem.Str.ofString "emph"))) (wCons (wTup (wCons (wVar 2) wNil)) wNil))) wNil)) wNil))))) wNil)) wNil))) wNil))))
(wSeq (wSet 1 (wOp fAdd (wVar 1) (wLst (wCons (wTup (wCons (wC (.str (PySem.Str.ofString "paragraph"))) (wCons (wTup (wCons (wTup (wCons (wC (.str (PySem.Str.ofString "link"))) (wCons (wC (.none)) (wCons (wC (.none)) (wCons (wTup wNil) wNil))))) wNil)) wNil))) (wCons (wTup (wCons (wC (.str (PySem.Str.ofString "paragraph"))) (wCons (wTup (wCons (wTup (wCons (wC (.str (PySem.Str.ofString "image"))) (wCons (wC (.str (PySem.Str.ofString "/u"))) (wCons (wC (.int 5)) (wCons (wTup wNil) wNil))))) wNil)) wNil))) wNil)))))
(wSeq (wSet 1 (wOp fAdd (wVar 1) (wLst (wCons (wTup (wCons (wC (.str (PySem.Str.ofString "list"))) (wCons (wC (.str (PySem.Str.ofString "."))) (wCons (wC (.bool true)) (wCons (wC (.bool true)) (wCons (wTup (wCons (wTup wNil) wNil)) wNil)))))) (wCons (wTup (wCons (wC (.str (PySem.Str.ofString "list"))) (wCons (wC (.str (PySem.Str.ofString "."))) (wCons (wC (.bool false)) (wCons (wC (.bool true)) (wCons (wTup (wCons (wTup wNil) wNil)) wNil)))))) wNil)))))
(wSeq (wSet 3 (wTup (wCons (wTup (wCons (wC (.str (PySem.Str.ofString "text"))) (wCons (wC (.str (PySem.Str.ofString "a"))) wNil))) (wCons (wTup (wCons (wC (.str (PySem.Str.ofString "text"))) (wCons (wC (.str (PySem.Str.ofString "b"))) wNil))) wNil))))
(wSeq (wSet 1 (wOp fAdd (wVar 1) (wLst (wCons (wTup (wCons (wC (.str (PySem.Str.ofString "paragraph"))) (wCons (wTup (wCons (wTup (wCons (wC (.str (PySem.Str.ofString "emph"))) (wCons (wVar 3) wNil))) wNil)) wNil))) (wCons (wTup (wCons (wC (.str (PySem.Str.ofString "paragraph"))) (wCons (wTup (wCons (wTup (wCons (wC (.str (PySem.Str.ofString "strong"))) (wCons (wTup (wCons (wTup (wCons (wC (.str (PySem.Str.ofString "text"))) (wCons (wC (.str (PySem.Str.ofString "a"))) wNil))) (wCons (wTup (wCons (wC (.str (PySem.Str.ofString "emph"))) (wCons (wVar 3) wNil))) wNil))) wNil))) wNil)) wNil))) wNil)))))
(wSeq (wSet 1 (wOp fAdd (wVar 1) (wLst (wCons (wTup (wCons (wC (.str (PySem.Str.ofString "paragraph"))) (wCons (wTup (wCons (wTup (wCons (wC (.str (PySem.Str.ofString "link"))) (wCons (wC (.str (PySem.Str.ofString "/u"))) (wCons (wC (.none)) (wCons (wVar 3) wNil))))) wNil)) wNil))) (wCons (wTup (wCons (wC (.str (PySem.Str.ofString "heading"))) (wCons (wC (.int 1)) (wCons (wTup (wCons (wTup (wCons (wC (.str (PySem.Str.ofString "image"))) (wCons (wC (.str (PySem.Str.ofString "/u"))) (wCons (wC (.none)) (wCons (wVar 3) wNil))))) wNil)) wNil)))) wNil)))))
(wSeq (wSet 1 (wOp fAdd (wVar 1) (wLst (wCons (wTup wNil) (wCons (wC (.int 5)) (wCons (wTup (wCons (wC (.str (PySem.Str.ofString "text"))) (wCons (wC (.str (PySem.Str.ofString "a"))) wNil))) wNil))))))
(wRet (wCallW S_k_one 0 (wCons (wVar 1) wNil)))))))))))))))))))))))


def wr1 : List PyData := [(.tuple [(.str (PySem.Str.ofString "quote"))]), (.tuple [(.str (PySem.Str.ofString "quote")), (.list [(.tuple [(.str (PySem.Str.ofString "break"))])])]), (.tuple [(.str (PySem.Str.ofString "quote")), (.tuple [(.tuple [(.str (PySem.Str.ofString "text")), (.str (PySem.Str.ofString "a"))])])]), (.list [(.str (PySem.Str.ofString "break"))]), (.tuple [(.str (PySem.Str.ofString "break")), (.int 1)]), (.str (PySem.Str.ofString "break")), (.none)]
def wr2 : List PyData := wr1 ++ [(.tuple [(.str (PySem.Str.ofString "heading")), (.int 0), (.tuple [])]), (.tuple [(.str (PySem.Str.ofString "heading")), (.int 7), (.tuple [])]), (.tuple [(.str (PySem.Str.ofString "heading")), (.bool true), (.tuple [])]), (.tuple [(.str (PySem.Str.ofString "heading")), (.int 1), (.list [])])]
def wr3 : List PyData := wr2 ++ [(.tuple [(.str (PySem.Str.ofString "heading")), (.str (PySem.Str.ofString "1")), (.tuple [])])]
def wr4 : List PyData := wr3 ++ [(.tuple [(.str (PySem.Str.ofString "heading")), (.int 1), (.tuple [(.tuple [(.str (PySem.Str.ofString "text")), (.str (PySem.Str.ofString ""))])])]), (.tuple [(.str (PySem.Str.ofString "paragraph")), (.tuple [])]), (.tuple [(.str (PySem.Str.ofString "paragraph")), (.tuple [(.tuple [(.str (PySem.Str.ofString "text")), (.str (PySem.Str.ofString "a"))]), (.tuple [(.str (PySem.Str.ofString "text")), (.str (PySem.Str.ofString "b"))])])])]
def wr5 : List PyData := wr4 ++ [(.tuple [(.str (PySem.Str.ofString "paragraph")), (.tuple [(.tuple [(.str (PySem.Str.ofString "emph")), (.tuple [])])])]), (.tuple [(.str (PySem.Str.ofString "paragraph")), (.tuple [(.str (PySem.Str.ofString "a"))])]), (.tuple [(.str (PySem.Str.ofString "paragraph")), (.tuple [(.tuple [(.str (PySem.Str.ofString "soft")), (.int 1)])])])]
def wr6 : List PyData := wr5 ++ [(.tuple [(.str (PySem.Str.ofString "code")), (.str (PySem.Str.ofString "a")), (.none)]), (.tuple [(.str (PySem.Str.ofString "code")), (.str (PySem.Str.ofString "")), (.none)]), (.tuple [(.str (PySem.Str.ofString "code")), (.int 5), (.str (PySem.Str.ofString ""))]), (.tuple [(.str (PySem.Str.ofString "code")), (.str (PySem.Str.ofString "a\n")), (.int 5)]), (.tuple [(.str (PySem.Str.ofString "html")), (.str (PySem.Str.ofString "a"))])]
def wr7 : List PyData := wr6 ++ [(.tuple [(.str (PySem.Str.ofString "html")), (.str (PySem.Str.ofString ""))]), (.tuple [(.str (PySem.Str.ofString "definition")), (.str (PySem.Str.ofString "A")), (.str (PySem.Str.ofString "/u")), (.none)]), (.tuple [(.str (PySem.Str.ofString "definition")), (.str (PySem.Str.ofString "a  b")), (.str (PySem.Str.ofString "/u")), (.none)])]
def wr8 : List PyData := wr7 ++ [(.tuple [(.str (PySem.Str.ofString "definition")), (.str (PySem.Str.ofString "a]")), (.str (PySem.Str.ofString "/u")), (.none)]), (.tuple [(.str (PySem.Str.ofString "definition")), (.str (PySem.Str.ofString " ")), (.str (PySem.Str.ofString "/u")), (.none)]), (.tuple [(.str (PySem.Str.ofString "definition")), (.str (PySem.Str.ofString "a")), (.none), (.none)])]
def wr9 : List PyData := wr8 ++ [(.tuple [(.str (PySem.Str.ofString "definition")), (.str (PySem.Str.ofString "a")), (.str (PySem.Str.ofString "/u")), (.int 5)]), (.tuple [(.str (PySem.Str.ofString "list")), (.str (PySem.Str.ofString "-")), (.int 1), (.bool true), (.tuple [(.tuple [])])]), (.tuple [(.str (PySem.Str.ofString "list")), (.str (PySem.Str.ofString ".")), (.none), (.bool true), (.tuple [(.tuple [])])])]
def wr10 : List PyData := wr9 ++ [(.tuple [(.str (PySem.Str.ofString "list")), (.str (PySem.Str.ofString ".")), (.int (-1)), (.bool true), (.tuple [(.tuple [])])]), (.tuple [(.str (PySem.Str.ofString "list")), (.str (PySem.Str.ofString ".")), (.int 1000000000), (.bool true), (.tuple [(.tuple [])])]), (.tuple [(.str (PySem.Str.ofString "list")), (.str (PySem.Str.ofString "-")), (.none), (.int 1), (.tuple [(.tuple [])])])]
def wr11 : List PyData := wr10 ++ [(.tuple [(.str (PySem.Str.ofString "list")), (.str (PySem.Str.ofString "-")), (.none), (.bool true), (.tuple [])]), (.tuple [(.str (PySem.Str.ofString "list")), (.str (PySem.Str.ofString "-")), (.none), (.bool true), (.tuple [(.list [])])]), (.tuple [(.str (PySem.Str.ofString "list")), (.str (PySem.Str.ofString "x")), (.none), (.bool true), (.tuple [(.tuple [])])])]
def wv2 : PyData := (.tuple [(.str (PySem.Str.ofString "link")), (.str (PySem.Str.ofString "/u")), (.none), (.tuple [(.tuple [(.str (PySem.Str.ofString "text")), (.str (PySem.Str.ofString "a"))])])])
def wr12 : List PyData := wr11 ++ [(.tuple [(.str (PySem.Str.ofString "paragraph")), (.tuple [(.tuple [(.str (PySem.Str.ofString "link")), (.str (PySem.Str.ofString "/v")), (.none), (.tuple [wv2])])])])]
def wr13 : List PyData := wr12 ++ [(.tuple [(.str (PySem.Str.ofString "paragraph")), (.tuple [(.tuple [(.str (PySem.Str.ofString "link")), (.str (PySem.Str.ofString "/v")), (.none), (.tuple [(.tuple [(.str (PySem.Str.ofString "emph")), (.tuple [wv2])])])])])])]
def wr14 : List PyData := wr13 ++ [(.tuple [(.str (PySem.Str.ofString "paragraph")), (.tuple [(.tuple [(.str (PySem.Str.ofString "link")), (.none), (.none), (.tuple [])])])]), (.tuple [(.str (PySem.Str.ofString "paragraph")), (.tuple [(.tuple [(.str (PySem.Str.ofString "image")), (.str (PySem.Str.ofString "/u")), (.int 5), (.tuple [])])])])]
def wr15 : List PyData := wr14 ++ [(.tuple [(.str (PySem.Str.ofString "list")), (.str (PySem.Str.ofString ".")), (.bool true), (.bool true), (.tuple [(.tuple [])])]), (.tuple [(.str (PySem.Str.ofString "list")), (.str (PySem.Str.ofString ".")), (.bool false), (.bool true), (.tuple [(.tuple [])])])]
def wv3 : PyData := (.tuple [(.tuple [(.str (PySem.Str.ofString "text")), (.str (PySem.Str.ofString "a"))]), (.tuple [(.str (PySem.Str.ofString "text")), (.str (PySem.Str.ofString "b"))])])
def wr16 : List PyData := wr15 ++ [(.tuple [(.str (PySem.Str.ofString "paragraph")), (.tuple [(.tuple [(.str (PySem.Str.ofString "emph")), wv3])])]), (.tuple [(.str (PySem.Str.ofString "paragraph")), (.tuple [(.tuple [(.str (PySem.Str.ofString "strong")), (.tuple [(.tuple [(.str (PySem.Str.ofString "text")), (.str (PySem.Str.ofString "a"))]), (.tuple [(.str (PySem.Str.ofString "emph")), wv3])])])])])]
def wr17 : List PyData := wr16 ++ [(.tuple [(.str (PySem.Str.ofString "paragraph")), (.tuple [(.tuple [(.str (PySem.Str.ofString "link")), (.str (PySem.Str.ofString "/u")), (.none), wv3])])]), (.tuple [(.str (PySem.Str.ofString "heading")), (.int 1), (.tuple [(.tuple [(.str (PySem.Str.ofString "image")), (.str (PySem.Str.ofString "/u")), (.none), wv3])])])]
def wr18 : List PyData := wr17 ++ [(.tuple []), (.int 5), (.tuple [(.str (PySem.Str.ofString "text")), (.str (PySem.Str.ofString "a"))])]
theorem wr_all : (wr18.all fun d => wrongOk d) = true := by decide +kernel
theorem m_k_wrong : ∀ l ws ds Q, S_k_wrong ws ds Q → w_k_wrong { nx := fun ρ => ∃ ws', ρ.at 0 = .bor l ws' ∧ Q ws' .none, rt := fun ρ d => ∃ ws', ρ.at 0 = .bor l ws' ∧ Q ws' d } (startW l ["_law_well_here", "_law_some", "_law_inner", "_law_pair"] ws ds) := by
  rintro l ws ds Q ⟨r, hw, rfl, k⟩
  show w_k_wrong _ [.bor l ws, .un, .un, .un]
  unfold w_k_wrong
  refine ev_sset (d := (.list wr1)) (ev_lst (ev_cons (ev_tup (ev_cons ev_c ev_nil) (line10k (by first | simp | decide +kernel))) (ev_cons (ev_tup (ev_cons ev_c (ev_cons (ev_lst (ev_cons (ev_tup (ev_cons ev_c ev_nil) (line10k (by first | simp | decide +kernel))) ev_nil) (line10k (by first | simp | decide +kernel))) ev_nil)) (line10k (by first | simp | decide +kernel))) (ev_cons (ev_tup (ev_cons ev_c (ev_cons (ev_tup (ev_cons (ev_tup (ev_cons ev_c (ev_cons ev_c ev_nil)) (line10k (by first | simp | decide +kernel))) ev_nil) (line10k (by first | simp | decide +kernel))) ev_nil)) (line10k (by first | simp | decide +kernel))) (ev_cons (ev_lst (ev_cons ev_c ev_nil) (line10k (by first | simp | decide +kernel))) (ev_cons (ev_tup (ev_cons ev_c (ev_cons ev_c ev_nil)) (line10k (by first | simp | decide +kernel))) (ev_cons ev_c (ev_cons ev_c ev_nil))))))) (line10k (by first | simp | decide +kernel))) ?_
  show wSeq _ _ _ [.bor l ws, .dat (.list wr1), .un, .un]
  refine ev_sset (d := (.list wr2)) (ev_addL (xs := wr1) (ev_var rfl) (ev_lst (ev_cons (ev_tup (ev_cons ev_c (ev_cons ev_c (ev_cons (ev_tup ev_nil (line10k (by first | simp | decide +kernel))) ev_nil))) (line10k (by first | simp | decide +kernel))) (ev_cons (ev_tup (ev_cons ev_c (ev_cons ev_c (ev_cons (ev_tup ev_nil (line10k (by first | simp | decide +kernel))) ev_nil))) (line10k (by first | simp | decide +kernel))) (ev_cons (ev_tup (ev_cons ev_c (ev_cons ev_c (ev_cons (ev_tup ev_nil (line10k (by first | simp | decide +kernel))) ev_nil))) (line10k (by first | simp | decide +kernel))) (ev_cons (ev_tup (ev_cons ev_c (ev_cons ev_c (ev_cons (ev_lst ev_nil (line10k (by first | simp | decide +kernel))) ev_nil))) (line10k (by first | simp | decide +kernel))) ev_nil)))) (line10k (by first | simp | decide +kernel))) (line10k (by decide +kernel))) ?_
  show wSeq _ _ _ [.bor l ws, .dat (.list wr2), .un, .un]
  refine ev_sset (d := (.list wr3)) (ev_addL (xs := wr2) (ev_var rfl) (ev_lst (ev_cons (ev_tup (ev_cons ev_c (ev_cons ev_c (ev_cons (ev_tup ev_nil (line10k (by first | simp | decide +kernel))) ev_nil))) (line10k (by first | simp | decide +kernel))) ev_nil) (line10k (by first | simp | decide +kernel))) (line10k (by decide +kernel))) ?_
  show wSeq _ _ _ [.bor l ws, .dat (.list wr3), .un, .un]
  refine ev_sset (d := (.list wr4)) (ev_addL (xs := wr3) (ev_var rfl) (ev_lst (ev_cons (ev_tup (ev_cons ev_c (ev_cons ev_c (ev_cons (ev_tup (ev_cons (ev_tup (ev_cons ev_c (ev_cons ev_c ev_nil)) (line10k (by first | simp | decide +kernel))) ev_nil) (line10k (by first | simp | decide +kernel))) ev_nil))) (line10k (by first | simp | decide +kernel))) (ev_cons (ev_tup (ev_cons ev_c (ev_cons (ev_tup ev_nil (line10k (by first | simp | decide +kernel))) ev_nil)) (line10k (by first | simp | decide +kernel))) (ev_cons (ev_tup (ev_cons ev_c (ev_cons (ev_tup (ev_cons (ev_tup (ev_cons ev_c (ev_cons ev_c ev_nil)) (line10k (by first | simp | decide +kernel))) (ev_cons (ev_tup (ev_cons ev_c (ev_cons ev_c ev_nil)) (line10k (by first | simp | decide +kernel))) ev_nil)) (line10k (by first | simp | decide +kernel))) ev_nil)) (line10k (by first | simp | decide +kernel))) ev_nil))) (line10k (by first | simp | decide +kernel))) (line10k (by decide +kernel))) ?_
  show wSeq _ _ _ [.bor l ws, .dat (.list wr4), .un, .un]
  refine ev_sset (d := (.list wr5)) (ev_addL (xs := wr4) (ev_var rfl) (ev_lst (ev_cons (ev_tup (ev_cons ev_c (ev_cons (ev_tup (ev_cons (ev_tup (ev_cons ev_c (ev_cons (ev_tup ev_nil (line10k (by first | simp | decide +kernel))) ev_nil)) (line10k (by first | simp | decide +kernel))) ev_nil) (line10k (by first | simp | decide +kernel))) ev_nil)) (line10k (by first | simp | decide +kernel))) (ev_cons (ev_tup (ev_cons ev_c (ev_cons (ev_tup (ev_cons ev_c ev_nil) (line10k (by first | simp | decide +kernel))) ev_nil)) (line10k (by first | simp | decide +kernel))) (ev_cons (ev_tup (ev_cons ev_c (ev_cons (ev_tup (ev_cons (ev_tup (ev_cons ev_c (ev_cons ev_c ev_nil)) (line10k (by first | simp | decide +kernel))) ev_nil) (line10k (by first | simp | decide +kernel))) ev_nil)) (line10k (by first | simp | decide +kernel))) ev_nil))) (line10k (by first | simp | decide +kernel))) (line10k (by decide +kernel))) ?_
  show wSeq _ _ _ [.bor l ws, .dat (.list wr5), .un, .un]
  refine ev_sset (d := (.list wr6)) (ev_addL (xs := wr5) (ev_var rfl) (ev_lst (ev_cons (ev_tup (ev_cons ev_c (ev_cons ev_c (ev_cons ev_c ev_nil))) (line10k (by first | simp | decide +kernel))) (ev_cons (ev_tup (ev_cons ev_c (ev_cons ev_c (ev_cons ev_c ev_nil))) (line10k (by first | simp | decide +kernel))) (ev_cons (ev_tup (ev_cons ev_c (ev_cons ev_c (ev_cons ev_c ev_nil))) (line10k (by first | simp | decide +kernel))) (ev_cons (ev_tup (ev_cons ev_c (ev_cons ev_c (ev_cons ev_c ev_nil))) (line10k (by first | simp | decide +kernel))) (ev_cons (ev_tup (ev_cons ev_c (ev_cons ev_c ev_nil)) (line10k (by first | simp | decide +kernel))) ev_nil))))) (line10k (by first | simp | decide +kernel))) (line10k (by decide +kernel))) ?_
  show wSeq _ _ _ [.bor l ws, .dat (.list wr6), .un, .un]
  refine ev_sset (d := (.list wr7)) (ev_addL (xs := wr6) (ev_var rfl) (ev_lst (ev_cons (ev_tup (ev_cons ev_c (ev_cons ev_c ev_nil)) (line10k (by first | simp | decide +kernel))) (ev_cons (ev_tup (ev_cons ev_c (ev_cons ev_c (ev_cons ev_c (ev_cons ev_c ev_nil)))) (line10k (by first | simp | decide +kernel))) (ev_cons (ev_tup (ev_cons ev_c (ev_cons ev_c (ev_cons ev_c (ev_cons ev_c ev_nil)))) (line10k (by first | simp | decide +kernel))) ev_nil))) (line10k (by first | simp | decide +kernel))) (line10k (by decide +kernel))) ?_
  show wSeq _ _ _ [.bor l ws, .dat (.list wr7), .un, .un]
  refine ev_sset (d := (.list wr8)) (ev_addL (xs := wr7) (ev_var rfl) (ev_lst (ev_cons (ev_tup (ev_cons ev_c (ev_cons ev_c (ev_cons ev_c (ev_cons ev_c ev_nil)))) (line10k (by first | simp | decide +kernel))) (ev_cons (ev_tup (ev_cons ev_c (ev_cons ev_c (ev_cons ev_c (ev_cons ev_c ev_nil)))) (line10k (by first | simp | decide +kernel))) (ev_cons (ev_tup (ev_cons ev_c (ev_cons ev_c (ev_cons ev_c (ev_cons ev_c ev_nil)))) (line10k (by first | simp | decide +kernel))) ev_nil))) (line10k (by first | simp | decide +kernel))) (line10k (by decide +kernel))) ?_
  show wSeq _ _ _ [.bor l ws, .dat (.list wr8), .un, .un]
  refine ev_sset (d := (.list wr9)) (ev_addL (xs := wr8) (ev_var rfl) (ev_lst (ev_cons (ev_tup (ev_cons ev_c (ev_cons ev_c (ev_cons ev_c (ev_cons ev_c ev_nil)))) (line10k (by first | simp | decide +kernel))) (ev_cons (ev_tup (ev_cons ev_c (ev_cons ev_c (ev_cons ev_c (ev_cons ev_c (ev_cons (ev_tup (ev_cons (ev_tup ev_nil (line10k (by first | simp | decide +kernel))) ev_nil) (line10k (by first | simp | decide +kernel))) ev_nil))))) (line10k (by first | simp | decide +kernel))) (ev_cons (ev_tup (ev_cons ev_c (ev_cons ev_c (ev_cons ev_c (ev_cons ev_c (ev_cons (ev_tup (ev_cons (ev_tup ev_nil (line10k (by first | simp | decide +kernel))) ev_nil) (line10k (by first | simp | decide +kernel))) ev_nil))))) (line10k (by first | simp | decide +kernel))) ev_nil))) (line10k (by first | simp | decide +kernel))) (line10k (by decide +kernel))) ?_
  show wSeq _ _ _ [.bor l ws, .dat (.list wr9), .un, .un]
  refine ev_sset (d := (.list wr10)) (ev_addL (xs := wr9) (ev_var rfl) (ev_lst (ev_cons (ev_tup (ev_cons ev_c (ev_cons ev_c (ev_cons (ev_neg ev_c) (ev_cons ev_c (ev_cons (ev_tup (ev_cons (ev_tup ev_nil (line10k (by first | simp | decide +kernel))) ev_nil) (line10k (by first | simp | decide +kernel))) ev_nil))))) (line10k (by first | simp | decide +kernel))) (ev_cons (ev_tup (ev_cons ev_c (ev_cons ev_c (ev_cons ev_pow9 (ev_cons ev_c (ev_cons (ev_tup (ev_cons (ev_tup ev_nil (line10k (by first | simp | decide +kernel))) ev_nil) (line10k (by first | simp | decide +kernel))) ev_nil))))) (line10k (by first | simp | decide +kernel))) (ev_cons (ev_tup (ev_cons ev_c (ev_cons ev_c (ev_cons ev_c (ev_cons ev_c (ev_cons (ev_tup (ev_cons (ev_tup ev_nil (line10k (by first | simp | decide +kernel))) ev_nil) (line10k (by first | simp | decide +kernel))) ev_nil))))) (line10k (by first | simp | decide +kernel))) ev_nil))) (line10k (by first | simp | decide +kernel))) (line10k (by decide +kernel))) ?_
  show wSeq _ _ _ [.bor l ws, .dat (.list wr10), .un, .un]
  refine ev_sset (d := (.list wr11)) (ev_addL (xs := wr10) (ev_var rfl) (ev_lst (ev_cons (ev_tup (ev_cons ev_c (ev_cons ev_c (ev_cons ev_c (ev_cons ev_c (ev_cons (ev_tup ev_nil (line10k (by first | simp | decide +kernel))) ev_nil))))) (line10k (by first | simp | decide +kernel))) (ev_cons (ev_tup (ev_cons ev_c (ev_cons ev_c (ev_cons ev_c (ev_cons ev_c (ev_cons (ev_tup (ev_cons (ev_lst ev_nil (line10k (by first | simp | decide +kernel))) ev_nil) (line10k (by first | simp | decide +kernel))) ev_nil))))) (line10k (by first | simp | decide +kernel))) (ev_cons (ev_tup (ev_cons ev_c (ev_cons ev_c (ev_cons ev_c (ev_cons ev_c (ev_cons (ev_tup (ev_cons (ev_tup ev_nil (line10k (by first | simp | decide +kernel))) ev_nil) (line10k (by first | simp | decide +kernel))) ev_nil))))) (line10k (by first | simp | decide +kernel))) ev_nil))) (line10k (by first | simp | decide +kernel))) (line10k (by decide +kernel))) ?_
  show wSeq _ _ _ [.bor l ws, .dat (.list wr11), .un, .un]
  refine ev_sset (d := wv2) (ev_tup (ev_cons ev_c (ev_cons ev_c (ev_cons ev_c (ev_cons (ev_tup (ev_cons (ev_tup (ev_cons ev_c (ev_cons ev_c ev_nil)) (line10k (by first | simp | decide +kernel))) ev_nil) (line10k (by first | simp | decide +kernel))) ev_nil)))) (line10k (by first | simp | decide +kernel))) ?_
  show wSeq _ _ _ [.bor l ws, .dat (.list wr11), .dat wv2, .un]
  refine ev_sset (d := (.list wr12)) (ev_addL (xs := wr11) (ev_var rfl) (ev_lst (ev_cons (ev_tup (ev_cons ev_c (ev_cons (ev_tup (ev_cons (ev_tup (ev_cons ev_c (ev_cons ev_c (ev_cons ev_c (ev_cons (ev_tup (ev_cons (ev_var rfl) ev_nil) (line10k (by first | simp | decide +kernel))) ev_nil)))) (line10k (by first | simp | decide +kernel))) ev_nil) (line10k (by first | simp | decide +kernel))) ev_nil)) (line10k (by first | simp | decide +kernel))) ev_nil) (line10k (by first | simp | decide +kernel))) (line10k (by decide +kernel))) ?_
  show wSeq _ _ _ [.bor l ws, .dat (.list wr12), .dat wv2, .un]
  refine ev_sset (d := (.list wr13)) (ev_addL (xs := wr12) (ev_var rfl) (ev_lst (ev_cons (ev_tup (ev_cons ev_c (ev_cons (ev_tup (ev_cons (ev_tup (ev_cons ev_c (ev_cons ev_c (ev_cons ev_c (ev_cons (ev_tup (ev_cons (ev_tup (ev_cons ev_c (ev_cons (ev_tup (ev_cons (ev_var rfl) ev_nil) (line10k (by first | simp | decide +kernel))) ev_nil)) (line10k (by first | simp | decide +kernel))) ev_nil) (line10k (by first | simp | decide +kernel))) ev_nil)))) (line10k (by first | simp | decide +kernel))) ev_nil) (line10k (by first | simp | decide +kernel))) ev_nil)) (line10k (by first | simp | decide +kernel))) ev_nil) (line10k (by first | simp | decide +kernel))) (line10k (by decide +kernel))) ?_
  show wSeq _ _ _ [.bor l ws, .dat (.list wr13), .dat wv2, .un]
  refine ev_sset (d := (.list wr14)) (ev_addL (xs := wr13) (ev_var rfl) (ev_lst (ev_cons (ev_tup (ev_cons ev_c (ev_cons (ev_tup (ev_cons (ev_tup (ev_cons ev_c (ev_cons ev_c (ev_cons ev_c (ev_cons (ev_tup ev_nil (line10k (by first | simp | decide +kernel))) ev_nil)))) (line10k (by first | simp | decide +kernel))) ev_nil) (line10k (by first | simp | decide +kernel))) ev_nil)) (line10k (by first | simp | decide +kernel))) (ev_cons (ev_tup (ev_cons ev_c (ev_cons (ev_tup (ev_cons (ev_tup (ev_cons ev_c (ev_cons ev_c (ev_cons ev_c (ev_cons (ev_tup ev_nil (line10k (by first | simp | decide +kernel))) ev_nil)))) (line10k (by first | simp | decide +kernel))) ev_nil) (line10k (by first | simp | decide +kernel))) ev_nil)) (line10k (by first | simp | decide +kernel))) ev_nil)) (line10k (by first | simp | decide +kernel))) (line10k (by decide +kernel))) ?_
  show wSeq _ _ _ [.bor l ws, .dat (.list wr14), .dat wv2, .un]
  refine ev_sset (d := (.list wr15)) (ev_addL (xs := wr14) (ev_var rfl) (ev_lst (ev_cons (ev_tup (ev_cons ev_c (ev_cons ev_c (ev_cons ev_c (ev_cons ev_c (ev_cons (ev_tup (ev_cons (ev_tup ev_nil (line10k (by first | simp | decide +kernel))) ev_nil) (line10k (by first | simp | decide +kernel))) ev_nil))))) (line10k (by first | simp | decide +kernel))) (ev_cons (ev_tup (ev_cons ev_c (ev_cons ev_c (ev_cons ev_c (ev_cons ev_c (ev_cons (ev_tup (ev_cons (ev_tup ev_nil (line10k (by first | simp | decide +kernel))) ev_nil) (line10k (by first | simp | decide +kernel))) ev_nil))))) (line10k (by first | simp | decide +kernel))) ev_nil)) (line10k (by first | simp | decide +kernel))) (line10k (by decide +kernel))) ?_
  show wSeq _ _ _ [.bor l ws, .dat (.list wr15), .dat wv2, .un]
  refine ev_sset (d := wv3) (ev_tup (ev_cons (ev_tup (ev_cons ev_c (ev_cons ev_c ev_nil)) (line10k (by first | simp | decide +kernel))) (ev_cons (ev_tup (ev_cons ev_c (ev_cons ev_c ev_nil)) (line10k (by first | simp | decide +kernel))) ev_nil)) (line10k (by first | simp | decide +kernel))) ?_
  show wSeq _ _ _ [.bor l ws, .dat (.list wr15), .dat wv2, .dat wv3]
  refine ev_sset (d := (.list wr16)) (ev_addL (xs := wr15) (ev_var rfl) (ev_lst (ev_cons (ev_tup (ev_cons ev_c (ev_cons (ev_tup (ev_cons (ev_tup (ev_cons ev_c (ev_cons (ev_var rfl) ev_nil)) (line10k (by first | simp | decide +kernel))) ev_nil) (line10k (by first | simp | decide +kernel))) ev_nil)) (line10k (by first | simp | decide +kernel))) (ev_cons (ev_tup (ev_cons ev_c (ev_cons (ev_tup (ev_cons (ev_tup (ev_cons ev_c (ev_cons (ev_tup (ev_cons (ev_tup (ev_cons ev_c (ev_cons ev_c ev_nil)) (line10k (by first | simp | decide +kernel))) (ev_cons (ev_tup (ev_cons ev_c (ev_cons (ev_var rfl) ev_nil)) (line10k (by first | simp | decide +kernel))) ev_nil)) (line10k (by first | simp | decide +kernel))) ev_nil)) (line10k (by first | simp | decide +kernel))) ev_nil) (line10k (by first | simp | decide +kernel))) ev_nil)) (line10k (by first | simp | decide +kernel))) ev_nil)) (line10k (by first | simp | decide +kernel))) (line10k (by decide +kernel))) ?_
  show wSeq _ _ _ [.bor l ws, .dat (.list wr16), .dat wv2, .dat wv3]
  refine ev_sset (d := (.list wr17)) (ev_addL (xs := wr16) (ev_var rfl) (ev_lst (ev_cons (ev_tup (ev_cons ev_c (ev_cons (ev_tup (ev_cons (ev_tup (ev_cons ev_c (ev_cons ev_c (ev_cons ev_c (ev_cons (ev_var rfl) ev_nil)))) (line10k (by first | simp | decide +kernel))) ev_nil) (line10k (by first | simp | decide +kernel))) ev_nil)) (line10k (by first | simp | decide +kernel))) (ev_cons (ev_tup (ev_cons ev_c (ev_cons ev_c (ev_cons (ev_tup (ev_cons (ev_tup (ev_cons ev_c (ev_cons ev_c (ev_cons ev_c (ev_cons (ev_var rfl) ev_nil)))) (line10k (by first | simp | decide +kernel))) ev_nil) (line10k (by first | simp | decide +kernel))) ev_nil))) (line10k (by first | simp | decide +kernel))) ev_nil)) (line10k (by first | simp | decide +kernel))) (line10k (by decide +kernel))) ?_
  show wSeq _ _ _ [.bor l ws, .dat (.list wr17), .dat wv2, .dat wv3]
  refine ev_sset (d := (.list wr18)) (ev_addL (xs := wr17) (ev_var rfl) (ev_lst (ev_cons (ev_tup ev_nil (line10k (by first | simp | decide +kernel))) (ev_cons ev_c (ev_cons (ev_tup (ev_cons ev_c (ev_cons ev_c ev_nil)) (line10k (by first | simp | decide +kernel))) ev_nil))) (line10k (by first | simp | decide +kernel))) (line10k (by decide +kernel))) ?_
  show wRet _ _ [.bor l ws, .dat (.list wr18), .dat wv2, .dat wv3]
  exact dr_ret (W := Well r) (rest := [.dat (.list wr18), .dat wv2, .dat wv3]) (G := fun d => wrongOk d = true) (dr_one (dr_ev (fun ws hw => ev_var rfl) ⟨wr18, rfl, by decide +kernel, by decide +kernel, List.all_eq_true.mp wr_all⟩)) hw fun ws' d hw' g => ⟨ws', rfl, k ws' d hw' g⟩
end Pm
namespace Pm
open PySem PySem.Spec PyProof.Rows L2 TL
/-! ### deep ones -/
def DB (n : Nat) (d : PyData) : Prop := smallD d = true ∧ ∀ r, blksF r d = decide (n < r)
def DR (n : Nat) (d : PyData) : Prop := smallD d = true ∧ isNil d = false ∧ ∀ r w, inlsF r w d = decide (n < r)
theorem small1 {d : PyData} (h : smallD d = true) : smallD (.tuple [d]) = true := small_tup (by simp) fun e he => by
  rw [List.mem_singleton] at he; subst he; exact h
theorem dec_s (n r : Nat) : decide (n < r) = decide (n + 1 < r + 1) := by
  by_cases h : n < r
  · rw [decide_eq_true h, decide_eq_true (by omega)]
  · rw [decide_eq_false h, decide_eq_false (by omega)]
theorem db_one {n : Nat} {e x : PyData} (hs : smallD e = true) (h : DB n x) (he : ∀ A B, blkF A B e = A x) : DB (n + 1) (.tuple [e]) := by
  refine ⟨small1 hs, fun r => ?_⟩
  cases r with
  | zero => rfl
  | succ r =>
    show (true && (blkF (blksF r) (inlsF r false) e && true)) = _
    rw [he, h.2 r, Bool.and_true, Bool.true_and, dec_s]
theorem db_quote {n : Nat} {x : PyData} (h : DB n x) : DB (n + 1) (.tuple [.tuple [.str (sS "quote"), x]]) := db_one (small2 (by decide +kernel) h.1) h fun A B => blk_quote A B x
theorem db_list {n : Nat} {x : PyData} (h : DB n x) : DB (n + 1) (.tuple [.tuple [.str (sS "list"), .str (sS "-"), .none, .bool true, .tuple [x]]]) := by
  refine db_one (small5 (by decide +kernel) (by decide +kernel) rfl rfl (small1 h.1)) h fun A B => ?_
  rw [blk_list]
  have e : (((bulF (.str (sS "-")) || ordF (.str (sS "-"))) && isBl (.bool true)) && !((bulF (.str (sS "-")) && !isN .none) || (ordF (.str (sS "-")) && !betweenF .none 0 999999999))) = true := by decide +kernel
  rw [e, not_nil (by simp)]
  show (true && (true && (!false && (A x && true)))) = A x
  rw [Bool.and_true]; rfl
theorem dr_hold {n : Nat} {s : Str} {x : PyData} (hs : s ∈ [sS "emph", sS "strong"]) (h : DR n x) : DR (n + 1) (.tuple [.tuple [.str s, x]]) := by
  have hsm : smallD (.str s) = true := by
    simp only [List.mem_cons, List.not_mem_nil, or_false] at hs
    rcases hs with rfl | rfl <;> decide +kernel
  refine ⟨small1 (small2 hsm h.1), not_nil (by simp), fun r w => ?_⟩
  have e : ∀ rec, inlF rec w (.tuple [.str s, x]) = (!isNil x && rec w x) := fun rec => by
    simp only [List.mem_cons, List.not_mem_nil, or_false] at hs
    rcases hs with rfl | rfl
    · exact inl_emph _ _ _
    · exact inl_strong _ _ _
  cases r with
  | zero => rfl
  | succ r =>
    show (true && ((inlF (inlsF r) w (.tuple [.str s, x]) && true) && !false)) = _
    rw [e, h.2.1, h.2.2 r w, ← dec_s]
    simp
theorem db_0 : DB 0 (.tuple []) := ⟨by decide, fun r => by
  cases r with
  | zero => rfl
  | succ r => rfl⟩
theorem db_1 : DB 0 (.tuple [.tuple [.str (sS "break")]]) := ⟨by decide +kernel, fun r => by
  cases r with
  | zero => rfl
  | succ r => rfl⟩
theorem dr_0 : DR 0 (.tuple [.tuple [.str (sS "text"), .str (sS "a")]]) := ⟨by decide +kernel, by decide +kernel, fun r w => by
  cases r with
  | zero => rfl
  | succ r =>
    show (true && ((inlF (inlsF r) w (.tuple [.str (sS "text"), .str (sS "a")]) && true) && !false)) = _
    rw [inl_text, show (isTextF (.str (sS "a")) && isStrNe (.str (sS "a"))) = true by decide +kernel, decide_eq_true (by omega)]; rfl⟩
theorem db_para {n : Nat} {x : PyData} (h : DR n x) : smallD (.tuple [.tuple [.str (sS "paragraph"), x]]) = true ∧ blksF 100 (.tuple [.tuple [.str (sS "paragraph"), x]]) = decide (n < 99) := by
  refine ⟨small1 (small2 (by decide +kernel) h.1), ?_⟩
  show (true && (blkF (blksF 99) (inlsF 99 false) (.tuple [.str (sS "paragraph"), x]) && true)) = _
  rw [blk_para, h.2.1, h.2.2]
  simp
theorem g_tree {d : PyData} (h : isTup d = true → smallD d = true) : gives S_is_tree [d] (.bool (blksF 100 d)) := fun P p => ⟨d, rfl, h, p⟩
def S_k_deep_right : SpW := fun ws ds P => ∃ r, Well r ws ∧ ds = [] ∧ ∀ ws', Well r ws' → P ws' (.bool true)
theorem l_k_deep_right : ∀ ws ds P, S_k_deep_right ws ds P → ds.length + 1 = 1 := by rintro ws ds P ⟨_, _, rfl, _⟩; rfl
def w_k_deep_right_b1 : WS :=
(wSet 5 (wTup (wCons (wTup (wCons (wOp fIx (wLst (wCons (wC (.str (PySem.Str.ofString "emph"))) (wCons (wC (.str (PySem.Str.ofString "strong"))) wNil))) (wOp fMod (wU fInt (wVar 3)) (wC (.int 2)))) (wCons (wVar 5) wNil))) wNil)))
def w_k_deep_right_b2 : WS :=
(wSet 4 (wTup (wCons (wTup (wCons (wC (.str (PySem.Str.ofString "list"))) (wCons (wC (.str (PySem.Str.ofString "-"))) (wCons (wC (.none)) (wCons (wC (.bool true)) (wCons (wTup (wCons (wVar 4) wNil)) wNil)))))) wNil)))
def w_k_deep_right_b3 : WS :=
(wSet 2 (wTup (wCons (wTup (wCons (wC (.str (PySem.Str.ofString "quote"))) (wCons (wVar 2) wNil))) wNil)))
/-- _law_deep_right(_law_well_here): slots 0 _law_well_here 1 _law_many 2 _law_quote 3 _law_k 4 _law_item 5 _law_row 6 _law_found -/
def w_k_deep_right : WS :=
(wSeq (wSet 1 (wOp fAdd (wC (.int 95)) (wCallW S_k_draw 0 (wCons (wC (.int 10)) wNil))))
(wSeq (wSet 2 (wTup wNil))
(wSeq (wFor (wRange1 (wCons (wOp fSub (wVar 1) (wC (.int 1))) wNil)) (gN 3) w_k_deep_right_b3)
(wSeq (wSet 4 (wTup (wCons (wTup (wCons (wC (.str (PySem.Str.ofString "break"))) wNil)) wNil)))
(wSeq (wFor (wRange1 (wCons (wOp fSub (wVar 1) (wC (.int 1))) wNil)) (gN 3) w_k_deep_right_b2)
(wSeq (wSet 5 (wTup (wCons (wTup (wCons (wC (.str (PySem.Str.ofString "text"))) (wCons (wC (.str (PySem.Str.ofString "a"))) wNil))) wNil)))
(wSeq (wFor (wRange1 (wCons (wOp fSub (wVar 1) (wC (.int 2))) wNil)) (gN 3) w_k_deep_right_b1)
(wSeq (wSet 6 (wLst (wCons (wCall S_is_tree (wCons (wVar 2) wNil)) (wCons (wCall S_is_tree (wCons (wVar 4) wNil)) (wCons (wCall S_is_tree (wCons (wTup (wCons (wTup (wCons (wC (.str (PySem.Str.ofString "paragraph"))) (wCons (wVar 5) wNil))) wNil)) wNil)) wNil)))))
(wRet (wOp (fEq false) (wVar 6) (wOp fMul (wLst (wCons (wOp fLe (wVar 1) (wC (.int 100))) wNil)) (wC (.int 3)))))))))))))


theorem ev_range {ρ : Env} {wa : WE} {wg : WG} {w u : WS} {E : DEnds} {m : Nat} (h : evD wa ρ (.int (m : Int))) (hm : m < 2 ^ 61) (k : forD wg w { E with nx := u E } (rangeD 0 m) ρ) : wSeq (wFor (wRange1 (wCons wa wNil)) wg w) u E ρ := by
  refine ev_sfor (h _ ?_)
  refine ⟨(m : Int), rfl, by omega, by omega, ?_⟩
  have e : ((m : Int)).toNat = m := by omega
  rw [e]; exact k
theorem eq_bools (b : Bool) (P : PyData → Prop) (p : P (.bool true)) : fEq false (.list [.bool b, .bool b, .bool b]) (.list (repD [.bool b] 3)) P := by
  have e : PyData.eqv (.list [.bool b, .bool b, .bool b]) (.list (repD [.bool b] 3)) = true := by cases b <;> decide +kernel
  have o : eqOk (.list [.bool b, .bool b, .bool b]) (.list (repD [.bool b] 3)) = true := by cases b <;> decide +kernel
  refine ⟨o, ?_⟩
  rw [e]; exact p
/-- loops whose items are all G -/
theorem forD_invG {wg : WG} {w : WS} {E : DEnds} (G : PyData → Prop) (I : Nat → Env → Prop) (N : Nat) (turn : ∀ (n : Nat) (d : PyData) (ρ : Env) (E' : DEnds), n < N → G d → I n ρ → (∀ ρ', I (n + 1) ρ' → E'.nx ρ') → E'.rt = E.rt → wg d ρ fun ρ1 => w E' ρ1) : ∀ (items : List PyData) (n : Nat) (ρ : Env), (∀ d, d ∈ items → G d) → n + items.length ≤ N → I n ρ → (∀ ρ', I (n + items.length) ρ' → E.nx ρ') → forD wg w E items ρ
  | [], n, ρ, _, _, h, k => k ρ h
  | d :: ds, n, ρ, hg, hn, h, k => turn n d ρ { nx := forD wg w E ds, ct := forD wg w E ds, bk := E.nx, rt := E.rt } (by rw [List.length_cons] at hn; omega) (hg d (List.mem_cons_self ..)) h (fun ρ' h' => forD_invG G I N turn ds (n + 1) ρ' (fun x hx => hg x (List.mem_cons_of_mem _ hx)) (by rw [List.length_cons] at hn; omega) h' fun ρ2 h2 => k ρ2 (by rw [List.length_cons]; rw [show n + (ds.length + 1) = n + 1 + ds.length by omega]; exact h2)) rfl
theorem range_ints {n : Nat} {d : PyData} (h : d ∈ rangeD 0 n) : ∃ i : Int, d = .int i := by
  unfold rangeD at h
  obtain ⟨i, _, rfl⟩ := List.mem_map.mp h
  exact ⟨_, rfl⟩
theorem m_k_deep_right : ∀ l ws ds Q, S_k_deep_right ws ds Q → w_k_deep_right { nx := fun ρ => ∃ ws', ρ.at 0 = .bor l ws' ∧ Q ws' .none, rt := fun ρ d => ∃ ws', ρ.at 0 = .bor l ws' ∧ Q ws' d } (startW l ["_law_well_here", "_law_many", "_law_quote", "_law_k", "_law_item", "_law_row", "_law_found"] ws ds) := by
  rintro l ws ds Q ⟨r, hw, rfl, k⟩
  show w_k_deep_right _ [.bor l ws, .un, .un, .un, .un, .un, .un]
  unfold w_k_deep_right
  refine dr_sset (W := Well r) (i := 0) (G := fun d => ∃ m : Nat, d = .int (m : Int) ∧ 95 ≤ m ∧ m < 105) (dr_op dr_c (dr_drawC (n := 10) (by decide) (by decide)) ?_) hw ?_
  · rintro x y rfl ⟨m, rfl, hm⟩
    refine ⟨.int ((95 + m : Nat) : Int), ⟨95 + m, rfl, by omega, by omega⟩, fun P p => ?_⟩
    show P (.int (95 + (m : Int)))
    rw [show (95 : Int) + (m : Int) = ((95 + m : Nat) : Int) by omega]; exact p
  clear hw ws
  rintro ws _ hw ⟨m, rfl, h1, h2⟩
  show wSeq _ _ _ [.bor l ws, .dat (.int (m : Int)), .un, .un, .un, .un, .un]
  refine ev_sset (d := .tuple []) (ev_tup ev_nil (Nat.zero_le _)) ?_
  show wSeq _ _ _ [.bor l ws, .dat (.int (m : Int)), .dat (.tuple []), .un, .un, .un, .un]
  have sub : ∀ (j : Nat) (ρ : Env), j ≤ m → ρ.at 1 = .dat (.int (m : Int)) → evD (wOp fSub (wVar 1) (wC (.int (j : Int)))) ρ (.int ((m - j : Nat) : Int)) := fun j ρ hj h => by
    have e := ev_sub (ev_var h) (ev_c (ρ := ρ) (d := .int (j : Int)))
    rw [show ((m : Int) - (j : Int)) = ((m - j : Nat) : Int) by omega] at e
    exact e
  refine ev_range (m := m - 1) (sub 1 _ (by omega) rfl) (by omega) ?_
  refine forD_inv (fun i ρ => ∃ d v3, DB i d ∧ ρ = [.bor l ws, .dat (.int (m : Int)), .dat d, v3, .un, .un, .un]) 200 ?_ (rangeD 0 (m - 1)) 0 _ (by rw [rangeD_len]; omega) ⟨.tuple [], .un, db_0, rfl⟩ ?_
  · rintro i d ρ E' hi ⟨x, v3, hx, rfl⟩ k2 _
    show w_k_deep_right_b3 _ [.bor l ws, .dat (.int (m : Int)), .dat x, .dat d, .un, .un, .un]
    unfold w_k_deep_right_b3
    exact ev_set (ev_tup (ev_cons (ev_tup (ev_cons ev_c (ev_cons (ev_var rfl) ev_nil)) (line10k (by simp))) ev_nil) (line10k (by simp))) (k2 _ ⟨_, _, db_quote hx, rfl⟩)
  rintro ρ ⟨qd, v3, hq, rfl⟩
  rw [rangeD_len, Nat.zero_add] at hq
  refine ev_sset (d := .tuple [.tuple [.str (sS "break")]]) (ev_tup (ev_cons (ev_tup (ev_cons ev_c ev_nil) (line10k (by simp))) ev_nil) (line10k (by simp))) ?_
  show wSeq _ _ _ [.bor l ws, .dat (.int (m : Int)), .dat qd, v3, .dat (.tuple [.tuple [.str (sS "break")]]), .un, .un]
  refine ev_range (m := m - 1) (sub 1 _ (by omega) rfl) (by omega) ?_
  refine forD_inv (fun i ρ => ∃ d v3, DB i d ∧ ρ = [.bor l ws, .dat (.int (m : Int)), .dat qd, v3, .dat d, .un, .un]) 200 ?_ (rangeD 0 (m - 1)) 0 _ (by rw [rangeD_len]; omega) ⟨_, v3, db_1, rfl⟩ ?_
  · rintro i d ρ E' hi ⟨x, v3, hx, rfl⟩ k2 _
    show w_k_deep_right_b2 _ [.bor l ws, .dat (.int (m : Int)), .dat qd, .dat d, .dat x, .un, .un]
    unfold w_k_deep_right_b2
    exact ev_set (ev_tup (ev_cons (ev_tup (ev_cons ev_c (ev_cons ev_c (ev_cons ev_c (ev_cons ev_c (ev_cons (ev_tup (ev_cons (ev_var rfl) ev_nil) (line10k (by simp))) ev_nil))))) (line10k (by simp))) ev_nil) (line10k (by simp))) (k2 _ ⟨_, _, db_list hx, rfl⟩)
  clear v3
  rintro ρ ⟨xd, v3, hx, rfl⟩
  rw [rangeD_len, Nat.zero_add] at hx
  refine ev_sset (d := .tuple [.tuple [.str (sS "text"), .str (sS "a")]]) (ev_tup (ev_cons (ev_tup (ev_cons ev_c (ev_cons ev_c ev_nil)) (line10k (by simp))) ev_nil) (line10k (by simp))) ?_
  show wSeq _ _ _ [.bor l ws, .dat (.int (m : Int)), .dat qd, v3, .dat xd, .dat (.tuple [.tuple [.str (sS "text"), .str (sS "a")]]), .un]
  refine ev_range (m := m - 2) (sub 2 _ (by omega) rfl) (by omega) ?_
  refine forD_invG (fun d => ∃ i : Int, d = .int i) (fun i ρ => ∃ d v3, DR i d ∧ ρ = [.bor l ws, .dat (.int (m : Int)), .dat qd, v3, .dat xd, .dat d, .un]) 200 ?_ (rangeD 0 (m - 2)) 0 _ (fun d h => range_ints h) (by rw [rangeD_len]; omega) ⟨_, v3, dr_0, rfl⟩ ?_
  · rintro i d ρ E' hi ⟨jj, rfl⟩ ⟨x, v3, hx, rfl⟩ k2 _
    show w_k_deep_right_b1 _ [.bor l ws, .dat (.int (m : Int)), .dat qd, .dat (.int jj), .dat xd, .dat x, .un]
    unfold w_k_deep_right_b1
    have hat : ∃ s, s ∈ [sS "emph", sS "strong"] ∧ atI [PyData.str (sS "emph"), .str (sS "strong")] (jj % 2) = some (.str s) := by
      have h0 := Int.emod_two_eq jj
      rcases h0 with e | e
      · rw [e]; exact ⟨sS "emph", by simp, atI_0⟩
      · rw [e]; exact ⟨sS "strong", by simp, atI_1⟩
    obtain ⟨s, hs, hat⟩ := hat
    have md : evD (wOp fMod (wU fInt (wVar 3)) (wC (.int 2))) [.bor l ws, .dat (.int (m : Int)), .dat qd, .dat (.int jj), .dat xd, .dat x, .un] (.int (jj % 2)) := ev_op (f := fMod) (x := .int jj) (y := .int 2) (ev_u (ev_var rfl) fun P p => p) ev_c fun P p => ⟨(by decide : (0 : Int) < 2), p⟩
    have ix : evD (wOp fIx (wLst (wCons (wC (.str (PySem.Str.ofString "emph"))) (wCons (wC (.str (PySem.Str.ofString "strong"))) wNil))) (wOp fMod (wU fInt (wVar 3)) (wC (.int 2)))) [.bor l ws, .dat (.int (m : Int)), .dat qd, .dat (.int jj), .dat xd, .dat x, .un] (.str s) := ev_op (ev_lst (ev_cons ev_c (ev_cons ev_c ev_nil)) (line10k (by simp))) md fun P p => ⟨_, hat, p⟩
    exact ev_set (ev_tup (ev_cons (ev_tup (ev_cons ix (ev_cons (ev_var rfl) ev_nil)) (line10k (by simp))) ev_nil) (line10k (by simp))) (k2 _ ⟨_, _, dr_hold hs hx, rfl⟩)
  clear v3
  rintro ρ ⟨rd, v3, hr, rfl⟩
  rw [rangeD_len, Nat.zero_add] at hr
  have f1 : blksF 100 qd = decide (m ≤ 100) := by
    rw [hq.2]
    by_cases h : m ≤ 100
    · rw [decide_eq_true h, decide_eq_true (by omega)]
    · rw [decide_eq_false h, decide_eq_false (by omega)]
  have f2 : blksF 100 xd = decide (m ≤ 100) := by
    rw [hx.2]
    by_cases h : m ≤ 100
    · rw [decide_eq_true h, decide_eq_true (by omega)]
    · rw [decide_eq_false h, decide_eq_false (by omega)]
  have f3 : blksF 100 (.tuple [.tuple [.str (sS "paragraph"), rd]]) = decide (m ≤ 100) := by
    rw [(db_para hr).2]
    by_cases h : m ≤ 100
    · rw [decide_eq_true h, decide_eq_true (by omega)]
    · rw [decide_eq_false h, decide_eq_false (by omega)]
  have t1 := g_tree (d := qd) fun _ => hq.1
  have t2 := g_tree (d := xd) fun _ => hx.1
  have t3 := g_tree fun _ => (db_para hr).1
  rw [f1] at t1
  rw [f2] at t2
  rw [f3] at t3
  refine ev_sset (d := .list [.bool (decide (m ≤ 100)), .bool (decide (m ≤ 100)), .bool (decide (m ≤ 100))]) (ev_lst (ev_cons (ev_call (ev_cons (ev_var rfl) ev_nil) t1) (ev_cons (ev_call (ev_cons (ev_var rfl) ev_nil) t2) (ev_cons (ev_call (ev_cons (ev_tup (ev_cons (ev_tup (ev_cons ev_c (ev_cons (ev_var rfl) ev_nil)) (line10k (by simp))) ev_nil) (line10k (by simp))) ev_nil) t3) ev_nil))) (line10k (by simp))) ?_
  show wRet _ _ [.bor l ws, .dat (.int (m : Int)), .dat qd, v3, .dat xd, .dat rd, .dat (.list [.bool (decide (m ≤ 100)), .bool (decide (m ≤ 100)), .bool (decide (m ≤ 100))])]
  have le : evD (wOp fLe (wVar 1) (wC (.int 100))) [.bor l ws, .dat (.int (m : Int)), .dat qd, v3, .dat xd, .dat rd, .dat (.list [.bool (decide (m ≤ 100)), .bool (decide (m ≤ 100)), .bool (decide (m ≤ 100))])] (.bool (decide (m ≤ 100))) := ev_op (f := fLe) (x := .int (m : Int)) (y := .int 100) (ev_var rfl) ev_c fun P p => by
    show P (.bool (decide ((m : Int) ≤ 100)))
    have e : decide ((m : Int) ≤ 100) = decide (m ≤ 100) := by
      by_cases h : m ≤ 100
      · rw [decide_eq_true h, decide_eq_true (by omega)]
      · rw [decide_eq_false h, decide_eq_false (by omega)]
    rw [e]; exact p
  exact ev_ret (d := .bool true) (ev_op (ev_var rfl) (ev_op (f := fMul) (y := .int 3) (d := .list (repD [.bool (decide (m ≤ 100))] 3)) (ev_lst (ev_cons le ev_nil) (line10k (by simp))) ev_c fun P p => ⟨by decide, by decide, line10k (by simp), p⟩) fun P p => eq_bools _ P p) ⟨ws, rfl, k ws hw⟩
end Pm
namespace Pm
open PySem PySem.Spec PyProof.Rows L2 TL
local macro_rules | `(tactic| walk_at "dx") => `(tactic| simp only [wSeq, wIf, wTst, wOp, wOpO, wC, wVar, wOwn, wSet, wPut, wRet, wRetO, wRetN, wU, wSkip, wBreak, wCont, wIte, wAnd, wOr, wNot, wAndV, wOrV, wNotV, wCons, wNil, wTup, wLst, wSl, wSlO, wSo, wNo, wM, wJoin, wCall, wCallW, wSetF, wNew, wApp, wAsg, wPar, wAug, wFor, wSeqI, wRange1, wRange2, wDown, wEnum, wLc, wYes, wChain, wSlS, wIsi, wIsi2, isiD, wDrop, wNever, FZ, fStrip, fLstrip, fRstrip, fStarts, fStarts3, fEnds, fFind, fFind3, fFind4, fCount, fCount4, wLc2, wZip, gN, gT, gCons', gNil', fSeq, fI0, fI, fInt, fIx, fAdd, fMul, fLen, fEq, fIs, isN, fIn, fNeg, fSl, fJoin, fSplit, fTuple, fList, fBools, Env.at, SV.items, SV.put, atI_0, atI_1, atI_2, List.length_cons, List.length_nil, ixN_0, ixN_1, ixN_2, List.set, Option.some.injEq, exists_eq_left', exists_eq_left, exists_eq', exists_eq, exists_and_left, exists_and_right, true_and, and_true, SV.dat.injEq, SV.own.injEq, SV.bor.injEq, SV.scr.injEq, PyData.int.injEq, PyData.str.injEq, PyData.list.injEq, PyData.tuple.injEq, PyData.bool.injEq, List.cons.injEq, and_assoc, Bool.true_eq_false, Bool.false_eq_true, false_implies, true_implies, implies_true, Bool.false_xor, Bool.true_xor, Bool.not_true, Bool.not_false])

def S_k_well : SpF := fun ds P => ∃ n : Int, ds = [.int n] ∧ P [.int n, .int 0]
theorem l_k_well : ∀ ds P, S_k_well ds P → ds.length = 1 := by rintro ds P ⟨_, rfl, _⟩; rfl
/-- _law_well(_law_cell): slots 0 _law_cell -/
def w_k_well : WA :=
(wCons (wU fInt (wVar 0)) (wCons (wC (.int 0)) wNil))
theorem m_k_well : ∀ ds Q, S_k_well ds Q → w_k_well (startE ["_law_cell"] ds) fun ρ es => es.length ≤ sizeLine ∧ Q es := by
  rintro ds Q ⟨n, rfl, k⟩
  show w_k_well [.dat (.int n)] _
  unfold w_k_well
  walk_at "dx"
  exact ⟨by decide, k⟩
def w_law_i1 : WS :=
(wIf (wOr (wNot (wTst (wCall S_is_tree (wCons (wTup wNil) wNil)))) (wNot (wTst (wCallW S_k_deep_right 2 wNil))))
(wRet (wC (.bool false)))
wSkip)
def w_law_i2 : WS :=
(wIf (wTst (wCall S_is_tree (wCons (wVar 8) wNil)))
(wRet (wC (.bool false)))
wSkip)
def w_law_b3 : WS :=
w_law_i2
def w_law_i4 : WS :=
(wIf (wTst (wCall S_is_tree (wCons (wTup (wCons (wTup (wCons (wC (.str (PySem.Str.ofString "list"))) (wCons (wC (.str (PySem.Str.ofString "+"))) (wCons (wC (.none)) (wCons (wC (.bool false)) (wCons (wTup (wCons (wTup wNil) (wCons (wVar 7) wNil))) wNil)))))) wNil)) wNil)))
(wRet (wC (.bool false)))
wSkip)
def w_law_i5 : WS :=
(wIf (wOr (wTst (wCall S_is_tree (wCons (wVar 7) wNil))) (wOr (wTst (wCall S_is_tree (wCons (wTup (wCons (wTup (wCons (wC (.str (PySem.Str.ofString "quote"))) (wCons (wVar 7) wNil))) wNil)) wNil))) (wTst (wCall S_is_tree (wCons (wU fList (wVar 4)) wNil)))))
(wRet (wC (.bool false)))
wSkip)
def w_law_i6 : WS :=
(wIf (wNot (wTst (wCall S_is_tree (wCons (wVar 4) wNil))))
(wRet (wC (.bool false)))
wSkip)
def w_law_b7 : WS :=
(wSeq (wSet 4 (wCallW (S_k_blocks N_k_blocks) 2 (wCons (wC (.int 3)) wNil)))
(wSeq w_law_i6
(wSeq (wSet 5 (wCallW S_k_draw 2 (wCons (wOp fAdd (wU fLen (wVar 4)) (wC (.int 1))) wNil)))
(wSeq (wSet 6 (wCallW S_k_wrong 2 wNil))
(wSeq (wSet 7 (wOp fAdd (wOp fAdd (wSl (wVar 4) wNo (wSo (wVar 5))) (wTup (wCons (wVar 6) wNil))) (wSl (wVar 4) (wSo (wVar 5)) wNo)))
(wSeq w_law_i5
w_law_i4))))))
def w_law_b8 : WS :=
(wSeq (wSetF 2 S_k_well (wCons (wVar 1) wNil))
(wSeq (wFor (wRange1 (wCons (wC (.int 4)) wNil)) (gN 3) w_law_b7)
(wSeq (wFor (wSeqI (wLst (wCons (wC (.none)) (wCons (wC (.int 5)) (wCons (wC (.bool true)) (wCons (wC (.str (PySem.Str.ofString ""))) (wCons (wC (.str (PySem.Str.ofString "a"))) (wCons (wLst wNil) (wCons (wC (.dict [])) (wCons (wTup (wCons (wC (.str (PySem.Str.ofString "quote"))) (wCons (wTup wNil) wNil))) (wCons (wTup (wCons (wTup (wCons (wC (.str (PySem.Str.ofString "break"))) wNil)) (wCons (wC (.int 5)) wNil))) wNil))))))))))) (gN 8) w_law_b3)
w_law_i1)))
/-- law(_law_script): slots 0 _law_script 1 _law_cell 2 _law_well_here 3 _law_k 4 _law_blocks_here 5 _law_at 6 _law_wrong_here 7 _law_spoilt 8 _law_thing -/
def w_law : WS :=
(wSeq (wFor (wSeqI (wOp fAdd (wSlS 0 wNo (wSo (wC (.int 6)))) (wLst (wCons (wC (.int 0)) wNil)))) (gN 1) w_law_b8)
(wRet (wC (.bool true))))


theorem blks_tup (r : Nat) (es : List PyData) : blksF (r + 1) (.tuple es) = es.all (blkF (blksF r) (inlsF r false)) := by
  show (true && _) = _
  rw [Bool.true_and]; rfl
theorem ev_tree {ρ : Env} {wa : WE} {d : PyData} {b : Bool} (h : evD wa ρ d) (hs : isTup d = true → smallD d = true) (e : blksF 100 d = b) : evD (wCall S_is_tree (wCons wa wNil)) ρ (.bool b) := e ▸ ev_call (ev_cons h ev_nil) (g_tree hs)
theorem all_bad {f : PyData → Bool} {a b : List PyData} {w : PyData} (h : f w = false) : (a ++ [w] ++ b).all f = false := by
  rw [List.all_append, List.all_append]
  simp [h]
theorem t_b7 {E : DEnds} {ns : List Int} {c : SV} {ws : List PyData} {v3 v4 v5 v6 v7 v8 : SV} (hw : Well [] ws)
    (k : ∀ ws' v4 v5 v6 v7, Well [] ws' → E.nx [.scr ns, c, .own ws', v3, v4, v5, v6, v7, v8]) : w_law_b7 E [.scr ns, c, .own ws, v3, v4, v5, v6, v7, v8] := by
  unfold w_law_b7
  refine ⟨⟨ws, rfl⟩, ws, rfl, [], 3, hw, rfl, by decide, fun ws1 d hw1 hd => ?_⟩
  obtain ⟨es, rfl, hsm, hlen, hr⟩ := hd
  change wSeq w_law_i6 _ _ [.scr ns, c, .own ws1, v3, .dat (.tuple es), v5, v6, v7, v8]
  unfold w_law_i6
  refine ev_guard (b := false) (ev_not (b := true) (ev_tst (ev_tree (ev_var rfl) (fun _ => hsm) (hr 100 (by decide))))) (fun z => by cases z) fun _ => ?_
  obtain ⟨a, b, rfl⟩ := hw1
  have ea : evA (wCons (wOp fAdd (wU fLen (wVar 4)) (wC (.int 1))) wNil) [.scr ns, c, .own [.int a, .int b], v3, .dat (.tuple es), v5, v6, v7, v8] [.int ((es.length + 1 : Nat) : Int)] := ev_cons (ev_op (f := fAdd) (x := .int (es.length : Int)) (y := .int 1) (ev_u (ev_var rfl) fun P p => p) ev_c fun P p => p) ev_nil
  refine ⟨⟨_, rfl⟩, ea _ ⟨_, rfl, a, b, ((es.length + 1 : Nat) : Int), [], rfl, rfl, by omega, by omega, fun a' b' at' h0 h1 => ?_⟩⟩
  obtain ⟨j, rfl⟩ : ∃ j : Nat, at' = (j : Int) := ⟨at'.toNat, by omega⟩
  refine ⟨⟨_, rfl⟩, _, rfl, [], ⟨a', b', rfl⟩, rfl, fun ws2 w hw2 hwr => ?_⟩
  change wSeq (wSet 7 (wOp fAdd (wOp fAdd (wSl (wVar 4) wNo (wSo (wVar 5))) (wTup (wCons (wVar 6) wNil))) (wSl (wVar 4) (wSo (wVar 5)) wNo))) (wSeq w_law_i5 w_law_i4) E [.scr ns, c, .own ws2, v3, .dat (.tuple es), .dat (.int (j : Int)), .dat w, v7, v8]
  have q := Bool.and_eq_true_iff.mp hwr
  have q2 := Bool.and_eq_true_iff.mp q.2
  have sw : smallD w = true := q.1
  have b99 : blkF (blksF 99) (inlsF 99 false) w = false := by simpa using q2.1
  have b98 : blkF (blksF 98) (inlsF 98 false) w = false := by simpa using q2.2
  have hms := small_items hsm
  generalize hsp : es.take j ++ [w] ++ es.drop j = sp
  have ssp : smallD (.tuple sp) = true := by
    subst hsp
    refine small_tup ?_ fun d hd => ?_
    · simp only [List.length_append, List.length_take, List.length_drop, List.length_singleton]; omega
    · rcases List.mem_append.mp hd with h | h
      · rcases List.mem_append.mp h with h | h
        · exact hms.2 d (List.mem_of_mem_take h)
        · rw [List.mem_singleton] at h; subst h; exact sw
      · exact hms.2 d (List.mem_of_mem_drop h)
  have bad100 : blksF 100 (.tuple sp) = false := by
    rw [blks_tup]; subst hsp; exact all_bad b99
  have bad99 : blksF 99 (.tuple sp) = false := by
    rw [blks_tup]; subst hsp; exact all_bad b98
  refine ev_sset (d := .tuple sp) ?_ ?_
  · have c1 := ev_slT (ρ := [.scr ns, c, .own ws2, v3, .dat (.tuple es), .dat (.int (j : Int)), .dat w, v7, v8]) (ds := es) (ev_var (i := 4) rfl) ev_no (ev_so (ev_var (i := 5) rfl))
    have c2 := ev_slT (ρ := [.scr ns, c, .own ws2, v3, .dat (.tuple es), .dat (.int (j : Int)), .dat w, v7, v8]) (ds := es) (ev_var (i := 4) rfl) (ev_so (ev_var (i := 5) rfl)) ev_no
    rw [cutD_to] at c1
    rw [cutD_from] at c2
    rw [← hsp]
    exact ev_op (f := fAdd) (ev_op (f := fAdd) (d := .tuple (es.take j ++ [w])) c1 (ev_tup (ev_cons (ev_var rfl) ev_nil) (line10k (by simp))) fun P p => ⟨line10k (by simp only [List.length_take, List.length_singleton]; omega), p⟩) c2 fun P p => ⟨line10k (by simp only [List.length_append, List.length_take, List.length_drop, List.length_singleton]; omega), p⟩
  change wSeq w_law_i5 w_law_i4 _ [.scr ns, c, .own ws2, v3, .dat (.tuple es), .dat (.int (j : Int)), .dat w, .dat (.tuple sp), v8]
  unfold w_law_i5 w_law_i4
  have s1 : smallD (.tuple [.tuple [.str (sS "quote"), .tuple sp]]) = true := small1 (small2 (by decide +kernel) ssp)
  have s2 : smallD (.tuple [.tuple [.str (sS "list"), .str (sS "+"), .none, .bool false, .tuple [.tuple [], .tuple sp]]]) = true := small1 (small5 (by decide +kernel) (by decide +kernel) rfl rfl (small_tup (by simp) fun d hd => by
    simp only [List.mem_cons, List.not_mem_nil, or_false] at hd
    rcases hd with rfl | rfl
    · decide
    · exact ssp))
  refine ev_guard (b := false) (ev_or (b := false) (c := false) (ev_tst (ev_tree (ev_var rfl) (fun _ => ssp) bad100)) fun _ => ev_or (b := false) (c := false) (ev_tst (ev_tree (ev_tup (ev_cons (ev_tup (ev_cons ev_c (ev_cons (ev_var rfl) ev_nil)) (line10k (by simp))) ev_nil) (line10k (by simp))) (fun _ => s1) ?_)) fun _ => ev_tst (ev_tree (d := .list es) (ev_u (ev_var rfl) fun P p => p) (fun z => by cases z) rfl)) (fun z => by cases z) fun _ => ?_
  · rw [blks_tup]
    show (blkF (blksF 99) (inlsF 99 false) (.tuple [.str (sS "quote"), .tuple sp]) && true) = false
    rw [blk_quote, bad99]; rfl
  refine ev_if (b := false) (ev_tst (ev_tree (ev_tup (ev_cons (ev_tup (ev_cons ev_c (ev_cons ev_c (ev_cons ev_c (ev_cons ev_c (ev_cons (ev_tup (ev_cons (ev_tup ev_nil (line10k (by simp))) (ev_cons (ev_var rfl) ev_nil)) (line10k (by simp))) ev_nil))))) (line10k (by simp))) ev_nil) (line10k (by simp))) (fun _ => s2) ?_)) (fun z => by cases z) fun _ => k ws2 _ _ _ _ hw2
  rw [blks_tup]
  show (blkF (blksF 99) (inlsF 99 false) (.tuple [.str (sS "list"), .str (sS "+"), .none, .bool false, .tuple [.tuple [], .tuple sp]]) && true) = false
  rw [blk_list]
  show ((_ && (true && (_ && (blksF 99 (.tuple []) && (blksF 99 (.tuple sp) && true))))) && true) = false
  rw [bad99]
  simp
def notTree (d : PyData) : Prop := (isTup d = true → smallD d = true) ∧ blksF 100 d = false
theorem f_b3 {E : DEnds} {a0 a1 a2 a3 a4 a5 a6 a7 : SV} (k : ∀ v8, E.nx [a0, a1, a2, a3, a4, a5, a6, a7, v8]) : ∀ (ds : List PyData) (v8 : SV), (∀ d, d ∈ ds → notTree d) → forD (gN 8) w_law_b3 E ds [a0, a1, a2, a3, a4, a5, a6, a7, v8]
  | [], v8, _ => k v8
  | d :: ds, v8, h => by
    show w_law_b3 _ [a0, a1, a2, a3, a4, a5, a6, a7, .dat d]
    unfold w_law_b3 w_law_i2
    exact ev_if (b := false) (ev_tst (ev_tree (ev_var rfl) (h d (List.mem_cons_self ..)).1 (h d (List.mem_cons_self ..)).2)) (fun z => by cases z) fun _ => f_b3 k ds (.dat d) fun x hx => h x (List.mem_cons_of_mem _ hx)
theorem ev_if_or {ρ : Env} {E : DEnds} {t u : WT} {w v : WS} (h : evT t ρ false) (k : wIf u w v E ρ) : wIf (wOr t u) w v E ρ := h _ ⟨(fun z => nomatch z), fun _ => k⟩
theorem ev_sforL {ρ : Env} {E : DEnds} {we : WE} {wg : WG} {w u : WS} {ds : List PyData} (h : evD we ρ (.list ds)) (k : forD wg w { E with nx := u E } ds ρ) : wSeq (wFor (wSeqI we) wg w) u E ρ := h _ k
theorem t_b8 {E : DEnds} {ns : List Int} {n : Int} {v2 v3 v4 v5 v6 v7 v8 : SV} (k : ∀ v2 v3 v4 v5 v6 v7 v8, E.nx [.scr ns, .dat (.int n), v2, v3, v4, v5, v6, v7, v8]) : w_law_b8 E [.scr ns, .dat (.int n), v2, v3, v4, v5, v6, v7, v8] := by
  unfold w_law_b8
  refine ⟨_, rfl, n, rfl, ?_⟩
  refine ⟨4, rfl, by decide, by decide, ?_⟩
  refine forD_inv (fun i ρ => ∃ ws v3 v4 v5 v6 v7, Well [] ws ∧ ρ = [.scr ns, .dat (.int n), .own ws, v3, v4, v5, v6, v7, v8]) 10 ?_ (rangeD 0 4) 0 _ (by decide) ⟨_, v3, v4, v5, v6, v7, ⟨n, 0, rfl⟩, rfl⟩ ?_
  · rintro i d ρ E' hi ⟨ws, v3, v4, v5, v6, v7, hw, rfl⟩ k2 _
    show w_law_b7 _ [.scr ns, .dat (.int n), .own ws, .dat d, v4, v5, v6, v7, v8]
    exact t_b7 hw fun ws' v4 v5 v6 v7 hw' => k2 _ ⟨ws', .dat d, v4, v5, v6, v7, hw', rfl⟩
  rintro ρ ⟨ws, v3, v4, v5, v6, v7, hw, rfl⟩
  refine ev_sforL (ev_lst (ds := [.none, .int 5, .bool true, .str (PySem.Str.ofString ""), .str (PySem.Str.ofString "a"), .list [], .dict [], .tuple [.str (PySem.Str.ofString "quote"), .tuple []], .tuple [.tuple [.str (PySem.Str.ofString "break")], .int 5]]) (ev_cons ev_c (ev_cons ev_c (ev_cons ev_c (ev_cons ev_c (ev_cons ev_c (ev_cons (ev_lst ev_nil (line10k (by simp))) (ev_cons ev_c (ev_cons (ev_tup (ev_cons ev_c (ev_cons (ev_tup ev_nil (line10k (by simp))) ev_nil)) (line10k (by simp))) (ev_cons (ev_tup (ev_cons (ev_tup (ev_cons ev_c ev_nil) (line10k (by simp))) (ev_cons ev_c ev_nil)) (line10k (by simp))) ev_nil))))))))) (line10k (by simp))) ?_
  refine f_b3 (fun v8 => ?_) _ _ fun d hd => ?_
  · show w_law_i1 _ [.scr ns, .dat (.int n), .own ws, v3, v4, v5, v6, v7, v8]
    unfold w_law_i1
    have e : evT (wNot (wTst (wCall S_is_tree (wCons (wTup wNil) wNil)))) [.scr ns, .dat (.int n), .own ws, v3, v4, v5, v6, v7, v8] false := ev_not (b := true) (ev_tst (ev_tree (ev_tup ev_nil (Nat.zero_le _)) (fun _ => by decide) (by decide +kernel)))
    refine ev_if_or e ?_
    exact ⟨⟨ws, rfl⟩, ws, rfl, [], hw, rfl, fun ws' hw' => ⟨true, rfl, (fun z => nomatch z), fun _ => k _ _ _ _ _ _ _⟩⟩
  · simp only [List.mem_cons, List.not_mem_nil, or_false] at hd
    rcases hd with rfl | rfl | rfl | rfl | rfl | rfl | rfl | rfl | rfl
    · exact ⟨(fun z => nomatch z), rfl⟩
    · exact ⟨(fun z => nomatch z), rfl⟩
    · exact ⟨(fun z => nomatch z), rfl⟩
    · exact ⟨(fun z => nomatch z), rfl⟩
    · exact ⟨(fun z => nomatch z), rfl⟩
    · exact ⟨(fun z => nomatch z), rfl⟩
    · exact ⟨(fun z => nomatch z), rfl⟩
    · exact ⟨fun _ => by decide +kernel, by decide +kernel⟩
    · exact ⟨fun _ => by decide +kernel, by decide +kernel⟩
theorem f_b8 {E : DEnds} {ns : List Int} (k : ∀ v1 v2 v3 v4 v5 v6 v7 v8, E.nx [.scr ns, v1, v2, v3, v4, v5, v6, v7, v8]) : ∀ (xs : List Int) (v1 v2 v3 v4 v5 v6 v7 v8 : SV), forD (gN 1) w_law_b8 E (xs.map .int) [.scr ns, v1, v2, v3, v4, v5, v6, v7, v8]
  | [], v1, v2, v3, v4, v5, v6, v7, v8 => k v1 v2 v3 v4 v5 v6 v7 v8
  | n :: xs, v1, v2, v3, v4, v5, v6, v7, v8 => t_b8 (E := { nx := forD (gN 1) w_law_b8 E (xs.map .int), ct := forD (gN 1) w_law_b8 E (xs.map .int), bk := E.nx, rt := E.rt }) fun v2 v3 v4 v5 v6 v7 v8 => f_b8 k xs (.dat (.int n)) v2 v3 v4 v5 v6 v7 v8
theorem cutD_len {α : Type} (xs : List α) (lo hi : Option Int) : (cutD xs lo hi).length ≤ xs.length := by
  unfold cutD
  rw [List.length_take, List.length_drop]; omega
theorem m_law : ∀ ns : List Int, ns.length ≤ 63 → w_law { nx := fun _ => False, rt := fun _ d => d = .bool true } (startS ["_law_script", "_law_cell", "_law_well_here", "_law_k", "_law_blocks_here", "_law_at", "_law_wrong_here", "_law_spoilt", "_law_thing"] ns) := by
  intro ns hn
  show w_law _ [.scr ns, .un, .un, .un, .un, .un, .un, .un, .un]
  unfold w_law
  have hl := cutD_len ns none (some 6)
  have hm : (cutD ns none (some 6)).map PyData.int ++ [.int 0] = (cutD ns none (some 6) ++ [0]).map .int := by rw [List.map_append]; rfl
  refine ⟨ns, rfl, 6, rfl, by decide, line_of (by simp; omega), ?_⟩
  rw [hm]
  exact f_b8 (fun v1 v2 v3 v4 v5 v6 v7 v8 => rfl) _ _ _ _ _ _ _ _ _
end Pm
namespace Pm.plainmark_k02_what_is_a_tree
open PySem PySem.Spec PyProof.Rows L2 Pm
def top (i : Nat) : Stmt := PySem.Challenge.pw_plainmark_k02_what_is_a_tree.main.body.getD i (.Pass ⟨0, 0, 0, 0⟩)
abbrev s_is_punctuation : Stmt := top 8
theorem sc_is_punctuation : FnScope ["sign"] ["sign"] (defScope s_is_punctuation) := ⟨rfl, rfl, rfl, by decide +kernel, rfl, by decide +kernel, by decide +kernel⟩
abbrev s_first_wrong : Stmt := top 9
theorem sc_first_wrong : FnScope ["text", "at", "sign"] ["text"] (defScope s_first_wrong) := ⟨rfl, rfl, rfl, by decide +kernel, rfl, by decide +kernel, by decide +kernel⟩
abbrev s_is_escape : Stmt := top 12
theorem sc_is_escape : FnScope ["text", "at"] ["text", "at"] (defScope s_is_escape) := ⟨rfl, rfl, rfl, by decide +kernel, rfl, by decide +kernel, by decide +kernel⟩
abbrev s_label_end : Stmt := top 13
theorem sc_label_end : FnScope ["text", "at", "start"] ["text", "at"] (defScope s_label_end) := ⟨rfl, rfl, rfl, by decide +kernel, rfl, by decide +kernel, by decide +kernel⟩
abbrev s_is_label_text : Stmt := top 14
theorem sc_is_label_text : FnScope ["text"] ["text"] (defScope s_is_label_text) := ⟨rfl, rfl, rfl, by decide +kernel, rfl, by decide +kernel, by decide +kernel⟩
abbrev s_normalised : Stmt := top 15
theorem sc_normalised : FnScope ["text"] ["text"] (defScope s_normalised) := ⟨rfl, rfl, rfl, by decide +kernel, rfl, by decide +kernel, by decide +kernel⟩
abbrev s_is_text : Stmt := top 23
theorem sc_is_text : FnScope ["thing"] ["thing"] (defScope s_is_text) := ⟨rfl, rfl, rfl, by decide +kernel, rfl, by decide +kernel, by decide +kernel⟩
abbrev s_is_between : Stmt := top 24
theorem sc_is_between : FnScope ["thing", "low", "high"] ["thing", "low", "high"] (defScope s_is_between) := ⟨rfl, rfl, rfl, by decide +kernel, rfl, by decide +kernel, by decide +kernel⟩
abbrev s_is_node : Stmt := top 25
theorem sc_is_node : FnScope ["thing", "word", "many"] ["thing", "word", "many"] (defScope s_is_node) := ⟨rfl, rfl, rfl, by decide +kernel, rfl, by decide +kernel, by decide +kernel⟩
abbrev s_has_lines : Stmt := top 26
theorem sc_has_lines : FnScope ["text"] ["text"] (defScope s_has_lines) := ⟨rfl, rfl, rfl, by decide +kernel, rfl, by decide +kernel, by decide +kernel⟩
abbrev s_is_target : Stmt := top 27
theorem sc_is_target : FnScope ["destination", "title"] ["destination", "title"] (defScope s_is_target) := ⟨rfl, rfl, rfl, by decide +kernel, rfl, by decide +kernel, by decide +kernel⟩
abbrev s_is_inlines : Stmt := top 28
theorem sc_is_inlines : FnScope ["thing", "is_within", "room", "one", "other"] ["thing", "is_within", "room"] (defScope s_is_inlines) := ⟨rfl, rfl, rfl, by decide +kernel, rfl, by decide +kernel, by decide +kernel⟩
abbrev s_is_inline : Stmt := top 29
theorem sc_is_inline : FnScope ["thing", "is_within", "room", "word"] ["thing", "is_within", "room"] (defScope s_is_inline) := ⟨rfl, rfl, rfl, by decide +kernel, rfl, by decide +kernel, by decide +kernel⟩
abbrev s_is_blocks : Stmt := top 30
theorem sc_is_blocks : FnScope ["thing", "room", "one"] ["thing", "room"] (defScope s_is_blocks) := ⟨rfl, rfl, rfl, by decide +kernel, rfl, by decide +kernel, by decide +kernel⟩
abbrev s_is_block : Stmt := top 31
theorem sc_is_block : FnScope ["thing", "room"] ["thing", "room"] (defScope s_is_block) := ⟨rfl, rfl, rfl, by decide +kernel, rfl, by decide +kernel, by decide +kernel⟩
abbrev s_is_plain_block : Stmt := top 32
theorem sc_is_plain_block : FnScope ["thing"] ["thing"] (defScope s_is_plain_block) := ⟨rfl, rfl, rfl, by decide +kernel, rfl, by decide +kernel, by decide +kernel⟩
abbrev s_is_list : Stmt := top 33
theorem sc_is_list : FnScope ["thing", "room", "word", "sign", "start", "is_tight", "items", "item"] ["thing", "room"] (defScope s_is_list) := ⟨rfl, rfl, rfl, by decide +kernel, rfl, by decide +kernel, by decide +kernel⟩
abbrev s_is_tree : Stmt := top 34
theorem sc_is_tree : FnScope ["thing"] ["thing"] (defScope s_is_tree) := ⟨rfl, rfl, rfl, by decide +kernel, rfl, by decide +kernel, by decide +kernel⟩
abbrev s_k_well : Stmt := top 36
theorem sc_k_well : FnScope ["_law_cell"] ["_law_cell"] (defScope s_k_well) := ⟨rfl, rfl, rfl, by decide +kernel, rfl, by decide +kernel, by decide +kernel⟩
abbrev s_k_draw : Stmt := top 37
theorem sc_k_draw : FnScope ["_law_well_here", "_law_many", "_law_digit", "_law_number", "_law_more"] ["_law_well_here", "_law_many"] (defScope s_k_draw) := ⟨rfl, rfl, rfl, by decide +kernel, rfl, by decide +kernel, by decide +kernel⟩
abbrev s_k_one : Stmt := top 38
theorem sc_k_one : FnScope ["_law_well_here", "_law_some"] ["_law_well_here", "_law_some"] (defScope s_k_one) := ⟨rfl, rfl, rfl, by decide +kernel, rfl, by decide +kernel, by decide +kernel⟩
abbrev s_k_words : Stmt := top 39
theorem sc_k_words : FnScope ["_law_well_here", "_law_some", "_law_k"] ["_law_well_here"] (defScope s_k_words) := ⟨rfl, rfl, rfl, by decide +kernel, rfl, by decide +kernel, by decide +kernel⟩
abbrev s_k_target : Stmt := top 40
theorem sc_k_target : FnScope ["_law_well_here"] ["_law_well_here"] (defScope s_k_target) := ⟨rfl, rfl, rfl, by decide +kernel, rfl, by decide +kernel, by decide +kernel⟩
abbrev s_k_inlines : Stmt := top 41
theorem sc_k_inlines : FnScope ["_law_well_here", "_law_room", "_law_is_link", "_law_found", "_law_k", "_law_way", "_law_word"] ["_law_well_here", "_law_room", "_law_is_link"] (defScope s_k_inlines) := ⟨rfl, rfl, rfl, by decide +kernel, rfl, by decide +kernel, by decide +kernel⟩
abbrev s_k_block : Stmt := top 42
theorem sc_k_block : FnScope ["_law_well_here", "_law_room", "_law_way", "_law_sign", "_law_start", "_law_items", "_law_k"] ["_law_well_here", "_law_room"] (defScope s_k_block) := ⟨rfl, rfl, rfl, by decide +kernel, rfl, by decide +kernel, by decide +kernel⟩
abbrev s_k_blocks : Stmt := top 43
theorem sc_k_blocks : FnScope ["_law_well_here", "_law_room", "_law_k"] ["_law_well_here", "_law_room"] (defScope s_k_blocks) := ⟨rfl, rfl, rfl, by decide +kernel, rfl, by decide +kernel, by decide +kernel⟩
abbrev s_k_wrong : Stmt := top 44
theorem sc_k_wrong : FnScope ["_law_well_here", "_law_some", "_law_inner", "_law_pair"] ["_law_well_here"] (defScope s_k_wrong) := ⟨rfl, rfl, rfl, by decide +kernel, rfl, by decide +kernel, by decide +kernel⟩
abbrev s_k_deep_right : Stmt := top 45
theorem sc_k_deep_right : FnScope ["_law_well_here", "_law_many", "_law_quote", "_law_k", "_law_item", "_law_row", "_law_found"] ["_law_well_here"] (defScope s_k_deep_right) := ⟨rfl, rfl, rfl, by decide +kernel, rfl, by decide +kernel, by decide +kernel⟩
abbrev s_law : Stmt := top 46
theorem sc_law : FnScope ["_law_script", "_law_cell", "_law_well_here", "_law_k", "_law_blocks_here", "_law_at", "_law_wrong_here", "_law_spoilt", "_law_thing"] ["_law_script"] (defScope s_law) := ⟨rfl, rfl, rfl, by decide +kernel, rfl, by decide +kernel, by decide +kernel⟩
/-- what the top has written -/
structure Txt (K : Fr) (mg : Str → Option Value) : Prop where
  D_is_punctuation : Def K mg "is_punctuation" s_is_punctuation ["sign"]
  D_first_wrong : Def K mg "first_wrong" s_first_wrong ["text"]
  D_is_escape : Def K mg "is_escape" s_is_escape ["text", "at"]
  D_label_end : Def K mg "label_end" s_label_end ["text", "at"]
  D_is_label_text : Def K mg "is_label_text" s_is_label_text ["text"]
  D_normalised : Def K mg "normalised" s_normalised ["text"]
  D_is_text : Def K mg "is_text" s_is_text ["thing"]
  D_is_between : Def K mg "is_between" s_is_between ["thing", "low", "high"]
  D_is_node : Def K mg "is_node" s_is_node ["thing", "word", "many"]
  D_has_lines : Def K mg "has_lines" s_has_lines ["text"]
  D_is_target : Def K mg "is_target" s_is_target ["destination", "title"]
  D_is_inlines : Def K mg "is_inlines" s_is_inlines ["thing", "is_within", "room"]
  D_is_inline : Def K mg "is_inline" s_is_inline ["thing", "is_within", "room"]
  D_is_blocks : Def K mg "is_blocks" s_is_blocks ["thing", "room"]
  D_is_block : Def K mg "is_block" s_is_block ["thing", "room"]
  D_is_plain_block : Def K mg "is_plain_block" s_is_plain_block ["thing"]
  D_is_list : Def K mg "is_list" s_is_list ["thing", "room"]
  D_is_tree : Def K mg "is_tree" s_is_tree ["thing"]
  D_k_well : Def K mg "_law_well" s_k_well ["_law_cell"]
  D_k_draw : Def K mg "_law_draw" s_k_draw ["_law_well_here", "_law_many"]
  D_k_one : Def K mg "_law_one" s_k_one ["_law_well_here", "_law_some"]
  D_k_words : Def K mg "_law_words" s_k_words ["_law_well_here"]
  D_k_target : Def K mg "_law_target" s_k_target ["_law_well_here"]
  D_k_inlines : Def K mg "_law_inlines" s_k_inlines ["_law_well_here", "_law_room", "_law_is_link"]
  D_k_block : Def K mg "_law_block" s_k_block ["_law_well_here", "_law_room"]
  D_k_blocks : Def K mg "_law_blocks" s_k_blocks ["_law_well_here", "_law_room"]
  D_k_wrong : Def K mg "_law_wrong" s_k_wrong ["_law_well_here"]
  D_k_deep_right : Def K mg "_law_deep_right" s_k_deep_right ["_law_well_here"]
  D_law : Def K mg "law" s_law ["_law_script"]
  g_PUNCTUATION : ∃ t : Tok, mg "PUNCTUATION" = some (.str (PySem.Str.ofString "!\"#$&'()*+,-./:;<=>?\x40[\\]^_`{|}~") t)
  g_LETTERS : ∃ t : Tok, mg "LETTERS" = some (.str (PySem.Str.ofString "abcdefghijklmnopqrstuvwxyzABCDEFGHIJKLMNOPQRSTUVWXYZ") t)
  g_DIGITS : ∃ t : Tok, mg "DIGITS" = some (.str (PySem.Str.ofString "0123456789") t)
  g_WHITE : ∃ t : Tok, mg "WHITE" = some (.str (PySem.Str.ofString " \t\n") t)
  g_MOST_LABEL : ∃ t : Tok, mg "MOST_LABEL" = some (.int 999 t)
  g_PLAIN_INLINES : GlobOk K mg "PLAIN_INLINES" (.tuple [.str (PySem.Str.ofString "soft"), .str (PySem.Str.ofString "hard")])
  g_TEXT_INLINES : GlobOk K mg "TEXT_INLINES" (.tuple [.str (PySem.Str.ofString "text"), .str (PySem.Str.ofString "code"), .str (PySem.Str.ofString "html")])
  g_HOLDERS : GlobOk K mg "HOLDERS" (.tuple [.str (PySem.Str.ofString "emph"), .str (PySem.Str.ofString "strong")])
  g_SIGNS : GlobOk K mg "SIGNS" (.tuple [.str (PySem.Str.ofString "-"), .str (PySem.Str.ofString "+"), .str (PySem.Str.ofString "*"), .str (PySem.Str.ofString "."), .str (PySem.Str.ofString ")")])
  g_MOST_START : ∃ t : Tok, mg "MOST_START" = some (.int 999999999 t)
  g_MOST_DEEP : ∃ t : Tok, mg "MOST_DEEP" = some (.int 100 t)
  n_enumerate : mg "enumerate" = none
  n_len : mg "len" = none
  n_str : mg "str" = none
  n_isinstance : mg "isinstance" = none
  n_int : mg "int" = none
  n_bool : mg "bool" = none
  n_tuple : mg "tuple" = none
  n_any : mg "any" = none
  n_all : mg "all" = none
  n_zip : mg "zip" = none
  n_range : mg "range" = none
  n_list : mg "list" = none
section
variable {P : Program} {w : World} {K : Fr} {mg : Str → Option Value} {base : Heap} (T : Txt K mg)
include T
set_option maxHeartbeats 4000000 in
theorem d_is_punctuation  {f : Addr} {cdv : Value} {A : Around} {outer : List PySem.Env} {s : Shared} {H : Hp} {E : XK} (hr : Room 0 (A.deeper (envOfC "is_punctuation" (defScope s_is_punctuation) s.heap.objs.size f cdv))) :
    DSs (cxOf CX0 P w K mg base ["sign"] "is_punctuation" (defScope s_is_punctuation) f cdv A outer s H E).nox K (defBody s_is_punctuation) w_is_punctuation := by
  have nd := sc_is_punctuation.nd
  exact
(dss_one (ds_ret (de_and (de_ne (fun _ => hr.units) (de_v 0) (DE.v de_str)) (de_one (de_in (de_v 0) (DE.v (de_globS (T.g_PUNCTUATION.imp fun _ h _ => h))))))))

theorem has_is_punctuation  : Has P w K mg base 1 "is_punctuation" (spP K S_is_punctuation) := T.D_is_punctuation.has fun f fd F =>
  fn_pure F sc_is_punctuation l_is_punctuation (fun cdv A outer s H E hr => d_is_punctuation T  hr) m_is_punctuation
set_option maxHeartbeats 4000000 in
theorem d_first_wrong  {f : Addr} {cdv : Value} {A : Around} {outer : List PySem.Env} {s : Shared} {H : Hp} {E : XK} (hr : Room 0 (A.deeper (envOfC "first_wrong" (defScope s_first_wrong) s.heap.objs.size f cdv))) :
    DSs (cxOf CX0 P w K mg base ["text", "at", "sign"] "first_wrong" (defScope s_first_wrong) f cdv A outer s H E).nox K (defBody s_first_wrong) w_first_wrong := by
  have nd := sc_first_wrong.nd
  exact
(dss_cons (ds_for (di_enum (fun _ => T.n_enumerate) (de_v 0)) (dg_tup (dgs_cons (dg_name 1 nd) (dgs_cons (dg_name 2 nd) dgs_nil)))
(dss_one (ds_if (DW.t (dw_and (dt_notin (de_v 2) (DE.v (de_globS (T.g_WHITE.imp fun _ h _ => h)))) (dw_and (dt_notin (de_v 2) (DE.v (de_globS (T.g_LETTERS.imp fun _ h _ => h)))) (dw_and (dt_notin (de_v 2) (DE.v (de_globS (T.g_DIGITS.imp fun _ h _ => h)))) (dw_and1 (dt_notin (de_v 2) (DE.v (de_globS (T.g_PUNCTUATION.imp fun _ h _ => h)))))))))
(dss_one (ds_ret (de_v 1)))
dss_nil)))
(dss_one (ds_ret de_non)))

theorem has_first_wrong  : Has P w K mg base 1 "first_wrong" (spP K S_first_wrong) := T.D_first_wrong.has fun f fd F =>
  fn_pure F sc_first_wrong l_first_wrong (fun cdv A outer s H E hr => d_first_wrong T  hr) m_first_wrong
set_option maxHeartbeats 4000000 in
theorem d_is_escape (C_is_punctuation : Has P w K mg base 1 "is_punctuation" (spP K S_is_punctuation)) {f : Addr} {cdv : Value} {A : Around} {outer : List PySem.Env} {s : Shared} {H : Hp} {E : XK} (hr : Room 1 (A.deeper (envOfC "is_escape" (defScope s_is_escape) s.heap.objs.size f cdv))) :
    DSs (cxOf CX0 P w K mg base ["text", "at"] "is_escape" (defScope s_is_escape) f cdv A outer s H E).nox K (defBody s_is_escape) w_is_escape := by
  have nd := sc_is_escape.nd
  exact
(dss_one (ds_ret (de_and (de_eq (fun _ => hr.units) (de_ix (de_v 0) (de_v 1)) (DE.v de_str)) (de_one (de_call (fun _ => callOk C_is_punctuation hr (by decide)) (da_cons (de_sl (de_v 0) (do_so (de_add (de_v 1) (DE.v de_int))) (do_so (de_add (de_v 1) (DE.v de_int)))) da_nil))))))

theorem has_is_escape (C_is_punctuation : Has P w K mg base 1 "is_punctuation" (spP K S_is_punctuation)) : Has P w K mg base 2 "is_escape" (spP K S_is_escape) := T.D_is_escape.has fun f fd F =>
  fn_pure F sc_is_escape l_is_escape (fun cdv A outer s H E hr => d_is_escape T C_is_punctuation hr) m_is_escape
set_option maxHeartbeats 4000000 in
theorem d_label_end (C_is_escape : Has P w K mg base 2 "is_escape" (spP K S_is_escape)) {f : Addr} {cdv : Value} {A : Around} {outer : List PySem.Env} {s : Shared} {H : Hp} {E : XK} (hr : Room 2 (A.deeper (envOfC "label_end" (defScope s_label_end) s.heap.objs.size f cdv))) :
    DSs (cxOf CX0 P w K mg base ["text", "at", "start"] "label_end" (defScope s_label_end) f cdv A outer s H E).nox K (defBody s_label_end) w_label_end := by
  have nd := sc_label_end.nd
  exact
(dss_cons (ds_set 2 nd (de_v 1))
(dss_cons (ds_while (DW.t (dw_and (dt_lt (de_v 1) (de_len (fun _ => T.n_len) (DE.v (de_v 0)))) (dw_and1 (dt_le (de_sub (de_v 1) (de_v 2)) (de_globI (T.g_MOST_LABEL.imp fun _ h _ => h))))))
(dss_cons (ds_if (dt_in (de_ix (de_v 0) (de_v 1)) (DE.v de_str))
(dss_one (ds_ret (de_ite (dt_eq (fun _ => hr.units) (de_ix (de_v 0) (de_v 1)) (DE.v de_str)) (de_v 1) de_non)))
dss_nil)
(dss_one (ds_augI 1 nd (de_ite (dt_val (de_call (fun _ => callOk C_is_escape hr (by decide)) (da_cons (de_v 0) (da_cons (de_v 1) da_nil)))) de_int de_int)))))
(dss_one (ds_ret de_non))))

theorem has_label_end (C_is_escape : Has P w K mg base 2 "is_escape" (spP K S_is_escape)) : Has P w K mg base 3 "label_end" (spP K S_label_end) := T.D_label_end.has fun f fd F =>
  fn_pure F sc_label_end l_label_end (fun cdv A outer s H E hr => d_label_end T C_is_escape hr) m_label_end
set_option maxHeartbeats 4000000 in
theorem d_is_label_text (C_label_end : Has P w K mg base 3 "label_end" (spP K S_label_end)) {f : Addr} {cdv : Value} {A : Around} {outer : List PySem.Env} {s : Shared} {H : Hp} {E : XK} (hr : Room 3 (A.deeper (envOfC "is_label_text" (defScope s_is_label_text) s.heap.objs.size f cdv))) :
    DSs (cxOf CX0 P w K mg base ["text"] "is_label_text" (defScope s_is_label_text) f cdv A outer s H E).nox K (defBody s_is_label_text) w_is_label_text := by
  have nd := sc_is_label_text.nd
  exact
(dss_cons (ds_if (DW.t (dw_or (dt_not (dt_val (de_isi .str (fun _ => T.n_isinstance) (fun _ => T.n_str) (de_v 0)))) (dw_or (dt_not (dt_chain (fun _ => op_le) (fun _ => op_le) (od_I0 fun _ _ _ => .bl _) (od_I0 fun _ _ _ => .bl _) de_int (de_len (fun _ => T.n_len) (DE.v (de_v 0))) (de_globI (T.g_MOST_LABEL.imp fun _ h _ => h)))) (dw_or1 (dt_eq (fun _ => hr.units) (de_strip (de_v 0) (da_cons (de_globS (T.g_WHITE.imp fun _ h _ => h)) da_nil)) (DE.v de_str))))))
(dss_one (ds_ret de_bl))
dss_nil)
(dss_one (ds_ret (de_eq (fun _ => hr.units) (de_call (fun _ => callOk C_label_end hr (by decide)) (da_cons (de_add (de_v 0) (DE.v de_str)) (da_cons de_int da_nil))) (DE.v (de_len (fun _ => T.n_len) (DE.v (de_v 0))))))))

theorem has_is_label_text (C_label_end : Has P w K mg base 3 "label_end" (spP K S_label_end)) : Has P w K mg base 4 "is_label_text" (spP K S_is_label_text) := T.D_is_label_text.has fun f fd F =>
  fn_pure F sc_is_label_text l_is_label_text (fun cdv A outer s H E hr => d_is_label_text T C_label_end hr) m_is_label_text
set_option maxHeartbeats 4000000 in
theorem d_normalised (C_is_label_text : Has P w K mg base 4 "is_label_text" (spP K S_is_label_text)) {f : Addr} {cdv : Value} {A : Around} {outer : List PySem.Env} {s : Shared} {H : Hp} {E : XK} (hr : Room 4 (A.deeper (envOfC "normalised" (defScope s_normalised) s.heap.objs.size f cdv))) :
    DSs (cxOf CX0 P w K mg base ["text"] "normalised" (defScope s_normalised) f cdv A outer s H E).nox K (defBody s_normalised) w_normalised := by
  have nd := sc_normalised.nd
  exact
(dss_cons (ds_if (dt_not (dt_val (de_call (fun _ => callOk C_is_label_text hr (by decide)) (da_cons (de_v 0) da_nil))))
(dss_one ds_never)
dss_nil)
(dss_one (ds_ret (de_join de_str (DE.v (de_split0 (de_lower (de_v 0))))))))

theorem has_normalised (C_is_label_text : Has P w K mg base 4 "is_label_text" (spP K S_is_label_text)) : Has P w K mg base 5 "normalised" (spP K S_normalised) := T.D_normalised.has fun f fd F =>
  fn_pure F sc_normalised l_normalised (fun cdv A outer s H E hr => d_normalised T C_is_label_text hr) m_normalised
set_option maxHeartbeats 4000000 in
theorem d_is_text (C_first_wrong : Has P w K mg base 1 "first_wrong" (spP K S_first_wrong)) {f : Addr} {cdv : Value} {A : Around} {outer : List PySem.Env} {s : Shared} {H : Hp} {E : XK} (hr : Room 1 (A.deeper (envOfC "is_text" (defScope s_is_text) s.heap.objs.size f cdv))) :
    DSs (cxOf CX0 P w K mg base ["thing"] "is_text" (defScope s_is_text) f cdv A outer s H E).nox K (defBody s_is_text) w_is_text := by
  have nd := sc_is_text.nd
  exact
(dss_one (ds_ret (de_and (de_isi .str (fun _ => T.n_isinstance) (fun _ => T.n_str) (de_v 0)) (de_one (de_is (de_call (fun _ => callOk C_first_wrong hr (by decide)) (da_cons (de_v 0) da_nil)) de_non)))))

theorem has_is_text (C_first_wrong : Has P w K mg base 1 "first_wrong" (spP K S_first_wrong)) : Has P w K mg base 2 "is_text" (spP K S_is_text) := T.D_is_text.has fun f fd F =>
  fn_pure F sc_is_text l_is_text (fun cdv A outer s H E hr => d_is_text T C_first_wrong hr) m_is_text
set_option maxHeartbeats 4000000 in
theorem d_is_between  {f : Addr} {cdv : Value} {A : Around} {outer : List PySem.Env} {s : Shared} {H : Hp} {E : XK} (hr : Room 0 (A.deeper (envOfC "is_between" (defScope s_is_between) s.heap.objs.size f cdv))) :
    DSs (cxOf CX0 P w K mg base ["thing", "low", "high"] "is_between" (defScope s_is_between) f cdv A outer s H E).nox K (defBody s_is_between) w_is_between := by
  have nd := sc_is_between.nd
  exact
(dss_one (ds_ret (de_and (de_isi .int (fun _ => T.n_isinstance) (fun _ => T.n_int) (de_v 0)) (de_and (de_not (de_isi .bool (fun _ => T.n_isinstance) (fun _ => T.n_bool) (de_v 0))) (de_one (de_chain (fun _ => op_le) (fun _ => op_le) (od_I0 fun _ _ _ => .bl _) (od_I0 fun _ _ _ => .bl _) (de_v 1) (de_v 0) (de_v 2)))))))

theorem has_is_between  : Has P w K mg base 1 "is_between" (spP K S_is_between) := T.D_is_between.has fun f fd F =>
  fn_pure F sc_is_between l_is_between (fun cdv A outer s H E hr => d_is_between T  hr) m_is_between
set_option maxHeartbeats 4000000 in
theorem d_is_node  {f : Addr} {cdv : Value} {A : Around} {outer : List PySem.Env} {s : Shared} {H : Hp} {E : XK} (hr : Room 0 (A.deeper (envOfC "is_node" (defScope s_is_node) s.heap.objs.size f cdv))) :
    DSs (cxOf CX0 P w K mg base ["thing", "word", "many"] "is_node" (defScope s_is_node) f cdv A outer s H E).nox K (defBody s_is_node) w_is_node := by
  have nd := sc_is_node.nd
  exact
(dss_one (ds_ret (de_and (de_isi .tuple (fun _ => T.n_isinstance) (fun _ => T.n_tuple) (de_v 0)) (de_and (de_eq (fun _ => hr.units) (de_len (fun _ => T.n_len) (DE.v (de_v 0))) (DE.v (de_v 2))) (de_and (de_isi .str (fun _ => T.n_isinstance) (fun _ => T.n_str) (de_ix (de_v 0) de_int)) (de_one (de_eq (fun _ => hr.units) (de_ix (de_v 0) de_int) (DE.v (de_v 1)))))))))

theorem has_is_node  : Has P w K mg base 1 "is_node" (spP K S_is_node) := T.D_is_node.has fun f fd F =>
  fn_pure F sc_is_node l_is_node (fun cdv A outer s H E hr => d_is_node T  hr) m_is_node
set_option maxHeartbeats 4000000 in
theorem d_has_lines  {f : Addr} {cdv : Value} {A : Around} {outer : List PySem.Env} {s : Shared} {H : Hp} {E : XK} (hr : Room 0 (A.deeper (envOfC "has_lines" (defScope s_has_lines) s.heap.objs.size f cdv))) :
    DSs (cxOf CX0 P w K mg base ["text"] "has_lines" (defScope s_has_lines) f cdv A outer s H E).nox K (defBody s_has_lines) w_has_lines := by
  have nd := sc_has_lines.nd
  exact
(dss_one (ds_ret (de_or (de_eq (fun _ => hr.units) (de_v 0) (DE.v de_str)) (de_one (de_endswith (de_v 0) (da_cons de_str da_nil))))))

theorem has_has_lines  : Has P w K mg base 1 "has_lines" (spP K S_has_lines) := T.D_has_lines.has fun f fd F =>
  fn_pure F sc_has_lines l_has_lines (fun cdv A outer s H E hr => d_has_lines T  hr) m_has_lines
set_option maxHeartbeats 4000000 in
theorem d_is_target (C_is_text : Has P w K mg base 2 "is_text" (spP K S_is_text)) {f : Addr} {cdv : Value} {A : Around} {outer : List PySem.Env} {s : Shared} {H : Hp} {E : XK} (hr : Room 2 (A.deeper (envOfC "is_target" (defScope s_is_target) s.heap.objs.size f cdv))) :
    DSs (cxOf CX0 P w K mg base ["destination", "title"] "is_target" (defScope s_is_target) f cdv A outer s H E).nox K (defBody s_is_target) w_is_target := by
  have nd := sc_is_target.nd
  exact
(dss_one (ds_ret (de_and (de_call (fun _ => callOk C_is_text hr (by decide)) (da_cons (de_v 0) da_nil)) (de_one (de_or (de_is (de_v 1) de_non) (de_one (de_call (fun _ => callOk C_is_text hr (by decide)) (da_cons (de_v 1) da_nil))))))))

theorem has_is_target (C_is_text : Has P w K mg base 2 "is_text" (spP K S_is_text)) : Has P w K mg base 3 "is_target" (spP K S_is_target) := T.D_is_target.has fun f fd F =>
  fn_pure F sc_is_target l_is_target (fun cdv A outer s H E hr => d_is_target T C_is_text hr) m_is_target
set_option maxHeartbeats 4000000 in
theorem d_is_inlines {S_is_inlines : SpD} {S_is_blocks : SpD} {S_is_block : SpD} {S_is_list : SpD} {k : Nat} {S_is_inline : SpD} {k_is_inline : Nat} (C_is_inline : Has P w K mg base k_is_inline "is_inline" (spP K S_is_inline)) (le_is_inline : k_is_inline ≤ k) (hk : 6 ≤ k) {f : Addr} {cdv : Value} {A : Around} {outer : List PySem.Env} {s : Shared} {H : Hp} {E : XK} (hr : Room k (A.deeper (envOfC "is_inlines" (defScope s_is_inlines) s.heap.objs.size f cdv))) :
    DSs (cxOf CX0 P w K mg base ["thing", "is_within", "room", "one", "other"] "is_inlines" (defScope s_is_inlines) f cdv A outer s H E).nox K (defBody s_is_inlines) (w_is_inlines S_is_inlines S_is_inline S_is_blocks S_is_block S_is_list) := by
  have nd := sc_is_inlines.nd
  exact
(dss_cons (ds_if (DW.t (dw_or (dt_not (dt_val (de_isi .tuple (fun _ => T.n_isinstance) (fun _ => T.n_tuple) (de_v 0)))) (dw_or (dt_eq (fun _ => hr.units) (de_v 2) (DE.v de_int)) (dw_or1 (dt_not (dt_val (de_all (fun _ => T.n_all) (DE.v (de_lc 3 (fun _ => nd) (di_seq (de_v 0)) (de_call (fun _ => callOk C_is_inline hr le_is_inline) (da_cons (de_v 3) (da_cons (de_v 1) (da_cons (de_v 2) da_nil)))) (ok := fun _ => (by decide +kernel : blkC ["thing", "is_within", "room", "one", "other"] (defScope s_is_inlines) _ _ = true)))))))))))
(dss_one (ds_ret de_bl))
dss_nil)
(dss_one (ds_ret (de_not (de_any (fun _ => T.n_any) (DE.v (de_lc2 3 4 (fun _ => nd) (di_zip (fun _ => T.n_zip) (de_v 0) (de_sl (de_v 0) (do_so de_int) do_no)) (de_and (de_eq (fun _ => hr.units) (de_ix (de_v 3) de_int) (DE.v de_str)) (de_one (de_eq (fun _ => hr.units) (de_ix (de_v 4) de_int) (DE.v de_str)))) (ok := fun _ => (by decide +kernel : blkC ["thing", "is_within", "room", "one", "other"] (defScope s_is_inlines) _ _ = true)))))))))

set_option maxHeartbeats 4000000 in
theorem d_is_inline {S_is_inline : SpD} {S_is_blocks : SpD} {S_is_block : SpD} {S_is_list : SpD} {k : Nat} (C_is_node : Has P w K mg base 1 "is_node" (spP K S_is_node)) (C_is_target : Has P w K mg base 3 "is_target" (spP K S_is_target)) {S_is_inlines : SpD} {k_is_inlines : Nat} (C_is_inlines : Has P w K mg base k_is_inlines "is_inlines" (spP K S_is_inlines)) (le_is_inlines : k_is_inlines ≤ k) (C_is_text : Has P w K mg base 2 "is_text" (spP K S_is_text)) (hk : 6 ≤ k) {f : Addr} {cdv : Value} {A : Around} {outer : List PySem.Env} {s : Shared} {H : Hp} {E : XK} (hr : Room k (A.deeper (envOfC "is_inline" (defScope s_is_inline) s.heap.objs.size f cdv))) :
    DSs (cxOf CX0 P w K mg base ["thing", "is_within", "room", "word"] "is_inline" (defScope s_is_inline) f cdv A outer s H E).nox K (defBody s_is_inline) (w_is_inline S_is_inlines S_is_inline S_is_blocks S_is_block S_is_list) := by
  have nd := sc_is_inline.nd
  exact
(dss_cons (ds_if (dt_val (de_any (fun _ => T.n_any) (DE.v (de_lc 3 (fun _ => nd) (di_seq (de_globT (T.g_PLAIN_INLINES.use fun _ => rfl))) (de_call (fun _ => callOk C_is_node hr (Nat.le_trans (by decide) hk)) (da_cons (de_v 0) (da_cons (de_v 3) (da_cons de_int da_nil)))) (ok := fun _ => (by decide +kernel : blkC ["thing", "is_within", "room", "word"] (defScope s_is_inline) _ _ = true))))))
(dss_one (ds_ret de_bl))
dss_nil)
(dss_cons (ds_if (dt_val (de_any (fun _ => T.n_any) (DE.v (de_lc 3 (fun _ => nd) (di_seq (de_globT (T.g_TEXT_INLINES.use fun _ => rfl))) (de_call (fun _ => callOk C_is_node hr (Nat.le_trans (by decide) hk)) (da_cons (de_v 0) (da_cons (de_v 3) (da_cons de_int da_nil)))) (ok := fun _ => (by decide +kernel : blkC ["thing", "is_within", "room", "word"] (defScope s_is_inline) _ _ = true))))))
(dss_one (ds_ret (de_and (de_call (fun _ => callOk C_is_text hr (Nat.le_trans (by decide) hk)) (da_cons (de_ix (de_v 0) de_int) da_nil)) (de_one (de_ne (fun _ => hr.units) (de_ix (de_v 0) de_int) (DE.v de_str))))))
dss_nil)
(dss_cons (ds_if (dt_val (de_any (fun _ => T.n_any) (DE.v (de_lc 3 (fun _ => nd) (di_seq (de_globT (T.g_HOLDERS.use fun _ => rfl))) (de_call (fun _ => callOk C_is_node hr (Nat.le_trans (by decide) hk)) (da_cons (de_v 0) (da_cons (de_v 3) (da_cons de_int da_nil)))) (ok := fun _ => (by decide +kernel : blkC ["thing", "is_within", "room", "word"] (defScope s_is_inline) _ _ = true))))))
(dss_one (ds_ret (de_and (de_ne (fun _ => hr.units) (de_ix (de_v 0) de_int) (DE.v (de_tup da_nil))) (de_one (de_call (fun _ => callOk C_is_inlines hr le_is_inlines) (da_cons (de_ix (de_v 0) de_int) (da_cons (de_v 1) (da_cons (de_sub (de_v 2) de_int) da_nil))))))))
dss_nil)
(dss_cons (ds_if (dt_val (de_call (fun _ => callOk C_is_node hr (Nat.le_trans (by decide) hk)) (da_cons (de_v 0) (da_cons de_str (da_cons de_int da_nil)))))
(dss_one (ds_ret (de_and (de_not (de_v 1)) (de_and (de_call (fun _ => callOk C_is_target hr (Nat.le_trans (by decide) hk)) (da_cons (de_ix (de_v 0) de_int) (da_cons (de_ix (de_v 0) de_int) da_nil))) (de_one (de_call (fun _ => callOk C_is_inlines hr le_is_inlines) (da_cons (de_ix (de_v 0) de_int) (da_cons de_bl (da_cons (de_sub (de_v 2) de_int) da_nil)))))))))
dss_nil)
(dss_one (ds_ret (de_and (de_call (fun _ => callOk C_is_node hr (Nat.le_trans (by decide) hk)) (da_cons (de_v 0) (da_cons de_str (da_cons de_int da_nil)))) (de_and (de_call (fun _ => callOk C_is_target hr (Nat.le_trans (by decide) hk)) (da_cons (de_ix (de_v 0) de_int) (da_cons (de_ix (de_v 0) de_int) da_nil))) (de_one (de_call (fun _ => callOk C_is_inlines hr le_is_inlines) (da_cons (de_ix (de_v 0) de_int) (da_cons de_bl (da_cons (de_sub (de_v 2) de_int) da_nil)))))))))))))

set_option maxHeartbeats 4000000 in
theorem d_is_blocks {S_is_inlines : SpD} {S_is_inline : SpD} {S_is_blocks : SpD} {S_is_list : SpD} {k : Nat} {S_is_block : SpD} {k_is_block : Nat} (C_is_block : Has P w K mg base k_is_block "is_block" (spP K S_is_block)) (le_is_block : k_is_block ≤ k) (hk : 6 ≤ k) {f : Addr} {cdv : Value} {A : Around} {outer : List PySem.Env} {s : Shared} {H : Hp} {E : XK} (hr : Room k (A.deeper (envOfC "is_blocks" (defScope s_is_blocks) s.heap.objs.size f cdv))) :
    DSs (cxOf CX0 P w K mg base ["thing", "room", "one"] "is_blocks" (defScope s_is_blocks) f cdv A outer s H E).nox K (defBody s_is_blocks) (w_is_blocks S_is_inlines S_is_inline S_is_blocks S_is_block S_is_list) := by
  have nd := sc_is_blocks.nd
  exact
(dss_one (ds_ret (de_and (de_isi .tuple (fun _ => T.n_isinstance) (fun _ => T.n_tuple) (de_v 0)) (de_and (de_gt (de_v 1) de_int) (de_one (de_all (fun _ => T.n_all) (DE.v (de_lc 2 (fun _ => nd) (di_seq (de_v 0)) (de_call (fun _ => callOk C_is_block hr le_is_block) (da_cons (de_v 2) (da_cons (de_v 1) da_nil))) (ok := fun _ => (by decide +kernel : blkC ["thing", "room", "one"] (defScope s_is_blocks) _ _ = true))))))))))

set_option maxHeartbeats 4000000 in
theorem d_is_block {S_is_inline : SpD} {S_is_block : SpD} {k : Nat} (C_is_node : Has P w K mg base 1 "is_node" (spP K S_is_node)) {S_is_blocks : SpD} {k_is_blocks : Nat} (C_is_blocks : Has P w K mg base k_is_blocks "is_blocks" (spP K S_is_blocks)) (le_is_blocks : k_is_blocks ≤ k) {S_is_list : SpD} {k_is_list : Nat} (C_is_list : Has P w K mg base k_is_list "is_list" (spP K S_is_list)) (le_is_list : k_is_list ≤ k) (C_is_plain_block : Has P w K mg base 6 "is_plain_block" (spP K S_is_plain_block)) (C_is_between : Has P w K mg base 1 "is_between" (spP K S_is_between)) {S_is_inlines : SpD} {k_is_inlines : Nat} (C_is_inlines : Has P w K mg base k_is_inlines "is_inlines" (spP K S_is_inlines)) (le_is_inlines : k_is_inlines ≤ k) (hk : 6 ≤ k) {f : Addr} {cdv : Value} {A : Around} {outer : List PySem.Env} {s : Shared} {H : Hp} {E : XK} (hr : Room k (A.deeper (envOfC "is_block" (defScope s_is_block) s.heap.objs.size f cdv))) :
    DSs (cxOf CX0 P w K mg base ["thing", "room"] "is_block" (defScope s_is_block) f cdv A outer s H E).nox K (defBody s_is_block) (w_is_block S_is_inlines S_is_inline S_is_blocks S_is_block S_is_list) := by
  have nd := sc_is_block.nd
  exact
(dss_cons (ds_if (dt_val (de_call (fun _ => callOk C_is_node hr (Nat.le_trans (by decide) hk)) (da_cons (de_v 0) (da_cons de_str (da_cons de_int da_nil)))))
(dss_one (ds_ret (de_call (fun _ => callOk C_is_blocks hr le_is_blocks) (da_cons (de_ix (de_v 0) de_int) (da_cons (de_sub (de_v 1) de_int) da_nil)))))
dss_nil)
(dss_cons (ds_if (dt_val (de_call (fun _ => callOk C_is_node hr (Nat.le_trans (by decide) hk)) (da_cons (de_v 0) (da_cons de_str (da_cons de_int da_nil)))))
(dss_one (ds_ret (de_call (fun _ => callOk C_is_list hr le_is_list) (da_cons (de_v 0) (da_cons (de_v 1) da_nil)))))
dss_nil)
(dss_cons (ds_if (dt_val (de_call (fun _ => callOk C_is_node hr (Nat.le_trans (by decide) hk)) (da_cons (de_v 0) (da_cons de_str (da_cons de_int da_nil)))))
(dss_one (ds_ret (de_and (de_call (fun _ => callOk C_is_between hr (Nat.le_trans (by decide) hk)) (da_cons (de_ix (de_v 0) de_int) (da_cons de_int (da_cons de_int da_nil)))) (de_one (de_call (fun _ => callOk C_is_inlines hr le_is_inlines) (da_cons (de_ix (de_v 0) de_int) (da_cons de_bl (da_cons (de_sub (de_v 1) de_int) da_nil))))))))
dss_nil)
(dss_cons (ds_if (dt_val (de_call (fun _ => callOk C_is_node hr (Nat.le_trans (by decide) hk)) (da_cons (de_v 0) (da_cons de_str (da_cons de_int da_nil)))))
(dss_one (ds_ret (de_and (de_ne (fun _ => hr.units) (de_ix (de_v 0) de_int) (DE.v (de_tup da_nil))) (de_one (de_call (fun _ => callOk C_is_inlines hr le_is_inlines) (da_cons (de_ix (de_v 0) de_int) (da_cons de_bl (da_cons (de_sub (de_v 1) de_int) da_nil))))))))
dss_nil)
(dss_one (ds_ret (de_or (de_call (fun _ => callOk C_is_node hr (Nat.le_trans (by decide) hk)) (da_cons (de_v 0) (da_cons de_str (da_cons de_int da_nil)))) (de_one (de_call (fun _ => callOk C_is_plain_block hr (Nat.le_trans (by decide) hk)) (da_cons (de_v 0) da_nil))))))))))

set_option maxHeartbeats 4000000 in
theorem d_is_plain_block (C_is_node : Has P w K mg base 1 "is_node" (spP K S_is_node)) (C_is_target : Has P w K mg base 3 "is_target" (spP K S_is_target)) (C_is_text : Has P w K mg base 2 "is_text" (spP K S_is_text)) (C_has_lines : Has P w K mg base 1 "has_lines" (spP K S_has_lines)) (C_is_label_text : Has P w K mg base 4 "is_label_text" (spP K S_is_label_text)) (C_normalised : Has P w K mg base 5 "normalised" (spP K S_normalised)) {f : Addr} {cdv : Value} {A : Around} {outer : List PySem.Env} {s : Shared} {H : Hp} {E : XK} (hr : Room 5 (A.deeper (envOfC "is_plain_block" (defScope s_is_plain_block) s.heap.objs.size f cdv))) :
    DSs (cxOf CX0 P w K mg base ["thing"] "is_plain_block" (defScope s_is_plain_block) f cdv A outer s H E).nox K (defBody s_is_plain_block) w_is_plain_block := by
  have nd := sc_is_plain_block.nd
  exact
(dss_cons (ds_if (dt_val (de_call (fun _ => callOk C_is_node hr (by decide)) (da_cons (de_v 0) (da_cons de_str (da_cons de_int da_nil)))))
(dss_cons (ds_if (DW.t (dw_or (dt_not (dt_val (de_call (fun _ => callOk C_is_text hr (by decide)) (da_cons (de_ix (de_v 0) de_int) da_nil)))) (dw_or1 (dt_not (dt_val (de_call (fun _ => callOk C_has_lines hr (by decide)) (da_cons (de_ix (de_v 0) de_int) da_nil)))))))
(dss_one (ds_ret de_bl))
dss_nil)
(dss_one (ds_ret (de_or (de_call (fun _ => callOk C_is_text hr (by decide)) (da_cons (de_ix (de_v 0) de_int) da_nil)) (de_one (de_and (de_is (de_ix (de_v 0) de_int) de_non) (de_one (de_ne (fun _ => hr.units) (de_ix (de_v 0) de_int) (DE.v de_str)))))))))
dss_nil)
(dss_cons (ds_if (dt_val (de_call (fun _ => callOk C_is_node hr (by decide)) (da_cons (de_v 0) (da_cons de_str (da_cons de_int da_nil)))))
(dss_one (ds_ret (de_and (de_call (fun _ => callOk C_is_text hr (by decide)) (da_cons (de_ix (de_v 0) de_int) da_nil)) (de_and (de_ne (fun _ => hr.units) (de_ix (de_v 0) de_int) (DE.v de_str)) (de_one (de_call (fun _ => callOk C_has_lines hr (by decide)) (da_cons (de_ix (de_v 0) de_int) da_nil)))))))
dss_nil)
(dss_cons (ds_if (DW.t (dw_or (dt_not (dt_val (de_call (fun _ => callOk C_is_node hr (by decide)) (da_cons (de_v 0) (da_cons de_str (da_cons de_int da_nil)))))) (dw_or1 (dt_not (dt_val (de_call (fun _ => callOk C_is_label_text hr (by decide)) (da_cons (de_ix (de_v 0) de_int) da_nil)))))))
(dss_one (ds_ret de_bl))
dss_nil)
(dss_one (ds_ret (de_and (de_eq (fun _ => hr.units) (de_call (fun _ => callOk C_normalised hr (by decide)) (da_cons (de_ix (de_v 0) de_int) da_nil)) (DE.v (de_ix (de_v 0) de_int))) (de_one (de_call (fun _ => callOk C_is_target hr (by decide)) (da_cons (de_ix (de_v 0) de_int) (da_cons (de_ix (de_v 0) de_int) da_nil))))))))))

theorem has_is_plain_block (C_is_node : Has P w K mg base 1 "is_node" (spP K S_is_node)) (C_is_target : Has P w K mg base 3 "is_target" (spP K S_is_target)) (C_is_text : Has P w K mg base 2 "is_text" (spP K S_is_text)) (C_has_lines : Has P w K mg base 1 "has_lines" (spP K S_has_lines)) (C_is_label_text : Has P w K mg base 4 "is_label_text" (spP K S_is_label_text)) (C_normalised : Has P w K mg base 5 "normalised" (spP K S_normalised)) : Has P w K mg base 6 "is_plain_block" (spP K S_is_plain_block) := T.D_is_plain_block.has fun f fd F =>
  fn_pure F sc_is_plain_block l_is_plain_block (fun cdv A outer s H E hr => d_is_plain_block T C_is_node C_is_target C_is_text C_has_lines C_is_label_text C_normalised hr) m_is_plain_block
set_option maxHeartbeats 4000000 in
theorem d_is_list {S_is_inlines : SpD} {S_is_inline : SpD} {S_is_block : SpD} {S_is_list : SpD} {k : Nat} (C_is_between : Has P w K mg base 1 "is_between" (spP K S_is_between)) {S_is_blocks : SpD} {k_is_blocks : Nat} (C_is_blocks : Has P w K mg base k_is_blocks "is_blocks" (spP K S_is_blocks)) (le_is_blocks : k_is_blocks ≤ k) (hk : 6 ≤ k) {f : Addr} {cdv : Value} {A : Around} {outer : List PySem.Env} {s : Shared} {H : Hp} {E : XK} (hr : Room k (A.deeper (envOfC "is_list" (defScope s_is_list) s.heap.objs.size f cdv))) :
    DSs (cxOf CX0 P w K mg base ["thing", "room", "word", "sign", "start", "is_tight", "items", "item"] "is_list" (defScope s_is_list) f cdv A outer s H E).nox K (defBody s_is_list) (w_is_list S_is_inlines S_is_inline S_is_blocks S_is_block S_is_list) := by
  have nd := sc_is_list.nd
  exact
(dss_cons (ds_asg (de_v 0) (dg_tup (dgs_cons (dg_name 2 nd) (dgs_cons (dg_name 3 nd) (dgs_cons (dg_name 4 nd) (dgs_cons (dg_name 5 nd) (dgs_cons (dg_name 6 nd) dgs_nil)))))))
(dss_cons (ds_if (DW.t (dw_or (dt_not (dt_val (de_isi .str (fun _ => T.n_isinstance) (fun _ => T.n_str) (de_v 3)))) (dw_or (dt_notin (de_v 3) (DE.v (de_globT (T.g_SIGNS.use fun _ => rfl)))) (dw_or1 (dt_not (dt_val (de_isi .bool (fun _ => T.n_isinstance) (fun _ => T.n_bool) (de_v 5))))))))
(dss_one (ds_ret de_bl))
dss_nil)
(dss_cons (ds_if (DW.t (dw_or (DW.t (dw_and (dt_in (de_v 3) (DE.v (de_sl (de_globT (T.g_SIGNS.use fun _ => rfl)) do_no (do_so de_int)))) (dw_and1 (dt_isnot (de_v 4) de_non)))) (dw_or1 (DW.t (dw_and (dt_in (de_v 3) (DE.v (de_sl (de_globT (T.g_SIGNS.use fun _ => rfl)) (do_so de_int) do_no))) (dw_and1 (dt_not (dt_val (de_call (fun _ => callOk C_is_between hr (Nat.le_trans (by decide) hk)) (da_cons (de_v 4) (da_cons de_int (da_cons (de_globI (T.g_MOST_START.imp fun _ h _ => h)) da_nil))))))))))))
(dss_one (ds_ret de_bl))
dss_nil)
(dss_one (ds_ret (de_and (de_isi .tuple (fun _ => T.n_isinstance) (fun _ => T.n_tuple) (de_v 6)) (de_and (de_ne (fun _ => hr.units) (de_v 6) (DE.v (de_tup da_nil))) (de_one (de_all (fun _ => T.n_all) (DE.v (de_lc 7 (fun _ => nd) (di_seq (de_v 6)) (de_call (fun _ => callOk C_is_blocks hr le_is_blocks) (da_cons (de_v 7) (da_cons (de_sub (de_v 1) de_int) da_nil))) (ok := fun _ => (by decide +kernel : blkC ["thing", "room", "word", "sign", "start", "is_tight", "items", "item"] (defScope s_is_list) _ _ = true)))))))))))))

theorem grp_is_inlines (C_is_text : Has P w K mg base 2 "is_text" (spP K S_is_text)) (C_is_between : Has P w K mg base 1 "is_between" (spP K S_is_between)) (C_is_node : Has P w K mg base 1 "is_node" (spP K S_is_node)) (C_is_target : Has P w K mg base 3 "is_target" (spP K S_is_target)) (C_is_plain_block : Has P w K mg base 6 "is_plain_block" (spP K S_is_plain_block)) : ∀ n : Nat, Has P w K mg base (7 + n) "is_inlines" (spP K (S_is_inlines n)) ∧ Has P w K mg base (7 + n) "is_inline" (spP K (S_is_inline n)) ∧ Has P w K mg base (7 + n) "is_blocks" (spP K (S_is_blocks n)) ∧ Has P w K mg base (7 + n) "is_block" (spP K (S_is_block n)) ∧ Has P w K mg base (7 + n) "is_list" (spP K (S_is_list n))
  | 0 => ⟨(z_is_inlines ▸ has_none (k := 6) T.D_is_inlines sc_is_inlines), (z_is_inline ▸ has_none (k := 6) T.D_is_inline sc_is_inline), (z_is_blocks ▸ has_none (k := 6) T.D_is_blocks sc_is_blocks), (z_is_block ▸ has_none (k := 6) T.D_is_block sc_is_block), (z_is_list ▸ has_none (k := 6) T.D_is_list sc_is_list)⟩
  | n + 1 => by
    have IH := grp_is_inlines C_is_text C_is_between C_is_node C_is_target C_is_plain_block n
    obtain ⟨C_is_inlines, C_is_inline, C_is_blocks, C_is_block, C_is_list⟩ := IH
    exact ⟨T.D_is_inlines.has fun f fd F => fn_pure F sc_is_inlines (l_is_inlines (n + 1)) (fun cdv A outer s H E hr => d_is_inlines T C_is_inline (Nat.le_refl _) (Nat.le_trans (by decide) (Nat.le_add_right _ _)) hr) (m_is_inlines n),
      T.D_is_inline.has fun f fd F => fn_pure F sc_is_inline (l_is_inline (n + 1)) (fun cdv A outer s H E hr => d_is_inline T C_is_node C_is_target C_is_inlines (Nat.le_refl _) C_is_text (Nat.le_trans (by decide) (Nat.le_add_right _ _)) hr) (m_is_inline n),
      T.D_is_blocks.has fun f fd F => fn_pure F sc_is_blocks (l_is_blocks (n + 1)) (fun cdv A outer s H E hr => d_is_blocks T C_is_block (Nat.le_refl _) (Nat.le_trans (by decide) (Nat.le_add_right _ _)) hr) (m_is_blocks n),
      T.D_is_block.has fun f fd F => fn_pure F sc_is_block (l_is_block (n + 1)) (fun cdv A outer s H E hr => d_is_block T C_is_node C_is_blocks (Nat.le_refl _) C_is_list (Nat.le_refl _) C_is_plain_block C_is_between C_is_inlines (Nat.le_refl _) (Nat.le_trans (by decide) (Nat.le_add_right _ _)) hr) (m_is_block n),
      T.D_is_list.has fun f fd F => fn_pure F sc_is_list (l_is_list (n + 1)) (fun cdv A outer s H E hr => d_is_list T C_is_between C_is_blocks (Nat.le_refl _) (Nat.le_trans (by decide) (Nat.le_add_right _ _)) hr) (m_is_list n)⟩
set_option maxHeartbeats 4000000 in
theorem d_is_tree (C_is_blocks : Has P w K mg base 308 "is_blocks" (spP K (S_is_blocks N_is_blocks))) {f : Addr} {cdv : Value} {A : Around} {outer : List PySem.Env} {s : Shared} {H : Hp} {E : XK} (hr : Room 308 (A.deeper (envOfC "is_tree" (defScope s_is_tree) s.heap.objs.size f cdv))) :
    DSs (cxOf CX0 P w K mg base ["thing"] "is_tree" (defScope s_is_tree) f cdv A outer s H E).nox K (defBody s_is_tree) w_is_tree := by
  have nd := sc_is_tree.nd
  exact
(dss_one (ds_ret (de_call (fun _ => callOk C_is_blocks hr (by decide)) (da_cons (de_v 0) (da_cons (de_globI (T.g_MOST_DEEP.imp fun _ h _ => h)) da_nil)))))

theorem has_is_tree (C_is_blocks : Has P w K mg base 308 "is_blocks" (spP K (S_is_blocks N_is_blocks))) : Has P w K mg base 309 "is_tree" (spP K S_is_tree) := T.D_is_tree.has fun f fd F =>
  fn_pure F sc_is_tree l_is_tree (fun cdv A outer s H E hr => d_is_tree T C_is_blocks hr) m_is_tree
theorem has_k_well : Has P w K mg base 1 "_law_well" (spF K S_k_well) := T.D_k_well.has fun f fd F => by
  have nd := sc_k_well.nd
  exact fn_fresh F sc_k_well l_k_well rfl (fun cdv A outer s H E hr => (da_cons (de_toInt (fun _ => T.n_int) (de_v 0)) (da_cons de_int da_nil))) m_k_well
set_option maxHeartbeats 4000000 in
theorem d_k_draw  {f : Addr} {cdv : Value} {A : Around} {outer : List PySem.Env} {s : Shared} {H : Hp} {E : XK} (hr : Room 0 (A.deeper (envOfC "_law_draw" (defScope s_k_draw) s.heap.objs.size f cdv))) :
    DSs (cxOf CX0 P w K mg base ["_law_well_here", "_law_many", "_law_digit", "_law_number", "_law_more"] "_law_draw" (defScope s_k_draw) f cdv A outer s H E).nox K (defBody s_k_draw) w_k_draw := by
  have nd := sc_k_draw.nd
  exact
(dss_cons (ds_if (dt_ge (de_ixo 0 de_int) (de_pow de_int de_int))
(dss_cons (ds_set 2 nd (de_mod (de_toInt (fun _ => T.n_int) (de_ixo 0 de_int)) (de_v 1)))
(dss_cons (ds_put 0 (de_div (de_ixo 0 de_int) (de_v 1)) de_int)
(dss_one (ds_ret (de_v 2)))))
dss_nil)
(dss_cons (ds_put 0 (de_add (de_ixo 0 de_int) (DE.v de_int)) de_int)
(dss_cons (ds_set 3 nd (de_mod (de_toInt (fun _ => T.n_int) (de_mul (de_toInt (fun _ => T.n_int) (de_add (de_add (de_mod (de_toInt (fun _ => T.n_int) (de_ixo 0 de_int)) de_int) (DE.v (de_mul de_int (de_ixo 0 de_int)))) (DE.v de_int))) de_int)) de_int))
(dss_cons (ds_set 4 nd (de_mod (de_toInt (fun _ => T.n_int) (de_div (de_ixo 0 de_int) de_int)) de_int))
(dss_cons (ds_set 3 nd (de_mod (de_toInt (fun _ => T.n_int) (de_mul (de_v 3) (de_add (de_add (de_div (de_v 3) de_int) (DE.v de_int)) (DE.v (de_v 4))))) de_int))
(dss_one (ds_ret (de_mod (de_toInt (fun _ => T.n_int) (de_div (de_mod (de_toInt (fun _ => T.n_int) (de_mul (de_v 3) (de_add (de_div (de_v 3) de_int) (DE.v de_int)))) de_int) de_int)) (de_v 1)))))))))

theorem has_k_draw  : Has P w K mg base 1 "_law_draw" (spW K S_k_draw) := T.D_k_draw.has fun f fd F =>
  fn_well F sc_k_draw l_k_draw (fun cdv A outer s H E hr => d_k_draw T  hr) m_k_draw
set_option maxHeartbeats 4000000 in
theorem d_k_one (C_k_draw : Has P w K mg base 1 "_law_draw" (spW K S_k_draw)) {f : Addr} {cdv : Value} {A : Around} {outer : List PySem.Env} {s : Shared} {H : Hp} {E : XK} (hr : Room 1 (A.deeper (envOfC "_law_one" (defScope s_k_one) s.heap.objs.size f cdv))) :
    DSs (cxOf CX0 P w K mg base ["_law_well_here", "_law_some"] "_law_one" (defScope s_k_one) f cdv A outer s H E).nox K (defBody s_k_one) w_k_one := by
  have nd := sc_k_one.nd
  exact
(dss_one (ds_ret (de_ix (de_v 1) (de_callW 0 (fun _ => callOk C_k_draw hr (by decide)) (da_cons (de_len (fun _ => T.n_len) (DE.v (de_v 1))) da_nil)))))

theorem has_k_one (C_k_draw : Has P w K mg base 1 "_law_draw" (spW K S_k_draw)) : Has P w K mg base 2 "_law_one" (spW K S_k_one) := T.D_k_one.has fun f fd F =>
  fn_well F sc_k_one l_k_one (fun cdv A outer s H E hr => d_k_one T C_k_draw hr) m_k_one
set_option maxHeartbeats 4000000 in
theorem d_k_words (C_k_one : Has P w K mg base 2 "_law_one" (spW K S_k_one)) (C_k_draw : Has P w K mg base 1 "_law_draw" (spW K S_k_draw)) {f : Addr} {cdv : Value} {A : Around} {outer : List PySem.Env} {s : Shared} {H : Hp} {E : XK} (hr : Room 2 (A.deeper (envOfC "_law_words" (defScope s_k_words) s.heap.objs.size f cdv))) :
    DSs (cxOf CX0 P w K mg base ["_law_well_here", "_law_some", "_law_k"] "_law_words" (defScope s_k_words) f cdv A outer s H E).nox K (defBody s_k_words) w_k_words := by
  have nd := sc_k_words.nd
  exact
(dss_cons (ds_set 1 nd (de_lst (da_cons de_str (da_cons de_str (da_cons de_str (da_cons de_str (da_cons de_str (da_cons de_str (da_cons de_str (da_cons de_str (da_cons de_str (da_cons de_str da_nil))))))))))))
(dss_one (ds_ret (de_join de_str (DE.v (de_lc 2 (fun _ => nd) (di_range1 (fun _ => T.n_range) (da_cons (de_add de_int (DE.v (de_callW 0 (fun _ => callOk C_k_draw hr (by decide)) (da_cons de_int da_nil)))) da_nil)) (de_callW 0 (fun _ => callOk C_k_one hr (by decide)) (da_cons (de_v 1) da_nil)) (ok := fun _ => (by decide +kernel : blkC ["_law_well_here", "_law_some", "_law_k"] (defScope s_k_words) _ _ = true))))))))

theorem has_k_words (C_k_one : Has P w K mg base 2 "_law_one" (spW K S_k_one)) (C_k_draw : Has P w K mg base 1 "_law_draw" (spW K S_k_draw)) : Has P w K mg base 3 "_law_words" (spW K S_k_words) := T.D_k_words.has fun f fd F =>
  fn_well F sc_k_words l_k_words (fun cdv A outer s H E hr => d_k_words T C_k_one C_k_draw hr) m_k_words
set_option maxHeartbeats 4000000 in
theorem d_k_target (C_k_one : Has P w K mg base 2 "_law_one" (spW K S_k_one)) (C_k_words : Has P w K mg base 3 "_law_words" (spW K S_k_words)) {f : Addr} {cdv : Value} {A : Around} {outer : List PySem.Env} {s : Shared} {H : Hp} {E : XK} (hr : Room 3 (A.deeper (envOfC "_law_target" (defScope s_k_target) s.heap.objs.size f cdv))) :
    DSs (cxOf CX0 P w K mg base ["_law_well_here"] "_law_target" (defScope s_k_target) f cdv A outer s H E).nox K (defBody s_k_target) w_k_target := by
  have nd := sc_k_target.nd
  exact
(dss_one (ds_ret (de_tup (da_cons (de_callW 0 (fun _ => callOk C_k_one hr (by decide)) (da_cons (de_lst (da_cons de_str (da_cons de_str (da_cons (de_callW 0 (fun _ => callOk C_k_words hr (by decide)) da_nil) da_nil)))) da_nil)) (da_cons (de_callW 0 (fun _ => callOk C_k_one hr (by decide)) (da_cons (de_lst (da_cons de_non (da_cons de_str (da_cons (de_callW 0 (fun _ => callOk C_k_words hr (by decide)) da_nil) da_nil)))) da_nil)) da_nil)))))

theorem has_k_target (C_k_one : Has P w K mg base 2 "_law_one" (spW K S_k_one)) (C_k_words : Has P w K mg base 3 "_law_words" (spW K S_k_words)) : Has P w K mg base 4 "_law_target" (spW K S_k_target) := T.D_k_target.has fun f fd F =>
  fn_well F sc_k_target l_k_target (fun cdv A outer s H E hr => d_k_target T C_k_one C_k_words hr) m_k_target
set_option maxHeartbeats 4000000 in
theorem d_k_inlines  {k : Nat} (C_k_draw : Has P w K mg base 1 "_law_draw" (spW K S_k_draw)) (C_k_one : Has P w K mg base 2 "_law_one" (spW K S_k_one)) (C_k_words : Has P w K mg base 3 "_law_words" (spW K S_k_words)) {S_k_inlines : SpW} {k_k_inlines : Nat} (C_k_inlines : Has P w K mg base k_k_inlines "_law_inlines" (spW K S_k_inlines)) (le_k_inlines : k_k_inlines ≤ k) (C_k_target : Has P w K mg base 4 "_law_target" (spW K S_k_target)) (hk : 4 ≤ k) {f : Addr} {cdv : Value} {A : Around} {outer : List PySem.Env} {s : Shared} {H : Hp} {E : XK} (hr : Room k (A.deeper (envOfC "_law_inlines" (defScope s_k_inlines) s.heap.objs.size f cdv))) :
    DSs (cxOf CX0 P w K mg base ["_law_well_here", "_law_room", "_law_is_link", "_law_found", "_law_k", "_law_way", "_law_word"] "_law_inlines" (defScope s_k_inlines) f cdv A outer s H E).nox K (defBody s_k_inlines) (w_k_inlines S_k_inlines) := by
  have nd := sc_k_inlines.nd
  exact
(dss_cons (ds_new 3 nd)
(dss_cons (ds_for (di_range1 (fun _ => T.n_range) (da_cons (de_add de_int (DE.v (de_callW 0 (fun _ => callOk C_k_draw hr (Nat.le_trans (by decide) hk)) (da_cons de_int da_nil)))) da_nil)) (dg_name 4 nd)
(dss_cons (ds_set 5 nd (de_callW 0 (fun _ => callOk C_k_draw hr (Nat.le_trans (by decide) hk)) (da_cons (de_ite (dt_gt (de_v 1) de_int) de_int de_int) da_nil)))
(dss_one (ds_if (DW.t (dw_and (dt_lt (de_v 5) de_int) (dw_and1 (DW.t (dw_or (dt_eqo 3 (fun _ => hr.units) (DE.v (de_lst da_nil))) (dw_or1 (dt_ne (fun _ => hr.units) (de_ix (de_ixo 3 (de_neg de_int)) de_int) (DE.v de_str))))))))
(dss_one (ds_app 3 (de_tup (da_cons de_str (da_cons (de_callW 0 (fun _ => callOk C_k_words hr (Nat.le_trans (by decide) hk)) da_nil) da_nil)))))
(dss_one (ds_if (dt_lt (de_v 5) de_int)
(dss_cons (ds_set 6 nd (de_callW 0 (fun _ => callOk C_k_one hr (Nat.le_trans (by decide) hk)) (da_cons (de_lst (da_cons de_str (da_cons de_str (da_cons de_str (da_cons de_str da_nil))))) da_nil)))
(dss_one (ds_app 3 (de_ite (dt_in (de_v 6) (DE.v (de_tup (da_cons de_str (da_cons de_str da_nil))))) (de_tup (da_cons (de_v 6) da_nil)) (de_tup (da_cons (de_v 6) (da_cons (de_callW 0 (fun _ => callOk C_k_words hr (Nat.le_trans (by decide) hk)) da_nil) da_nil)))))))
(dss_one (ds_if (dt_lt (de_v 5) de_int)
(dss_one (ds_app 3 (de_tup (da_cons (de_callW 0 (fun _ => callOk C_k_one hr (Nat.le_trans (by decide) hk)) (da_cons (de_lst (da_cons de_str (da_cons de_str da_nil))) da_nil)) (da_cons (de_callW 0 (fun _ => callOk C_k_inlines hr le_k_inlines) (da_cons (de_sub (de_v 1) de_int) (da_cons (de_v 2) da_nil))) da_nil)))))
(dss_one (ds_if (DW.t (dw_and (dt_eq (fun _ => hr.units) (de_v 5) (DE.v de_int)) (dw_and1 (dt_not (dt_val (de_v 2))))))
(dss_one (ds_app 3 (de_add (de_add (de_tup (da_cons de_str da_nil)) (DE.v (de_callW 0 (fun _ => callOk C_k_target hr (Nat.le_trans (by decide) hk)) da_nil))) (DE.v (de_tup (da_cons (de_callW 0 (fun _ => callOk C_k_inlines hr le_k_inlines) (da_cons (de_sub (de_v 1) de_int) (da_cons de_bl da_nil))) da_nil))))))
(dss_one (ds_app 3 (de_add (de_add (de_tup (da_cons de_str da_nil)) (DE.v (de_callW 0 (fun _ => callOk C_k_target hr (Nat.le_trans (by decide) hk)) da_nil))) (DE.v (de_tup (da_cons (de_callW 0 (fun _ => callOk C_k_inlines hr le_k_inlines) (da_cons (de_sub (de_v 1) de_int) (da_cons de_bl da_nil))) da_nil))))))))))))))))
(dss_one (ds_ret (de_tuple (fun _ => T.n_tuple) (dv_own 3))))))

theorem grp_k_inlines (C_k_draw : Has P w K mg base 1 "_law_draw" (spW K S_k_draw)) (C_k_one : Has P w K mg base 2 "_law_one" (spW K S_k_one)) (C_k_words : Has P w K mg base 3 "_law_words" (spW K S_k_words)) (C_k_target : Has P w K mg base 4 "_law_target" (spW K S_k_target)) : ∀ n : Nat, Has P w K mg base (5 + n) "_law_inlines" (spW K (S_k_inlines n))
  | 0 => (z_k_inlines ▸ has_noneW (k := 4) T.D_k_inlines sc_k_inlines)
  | n + 1 => by
    have IH := grp_k_inlines C_k_draw C_k_one C_k_words C_k_target n
    have C_k_inlines := IH
    exact T.D_k_inlines.has fun f fd F => fn_well F sc_k_inlines (l_k_inlines (n + 1)) (fun cdv A outer s H E hr => d_k_inlines T C_k_draw C_k_one C_k_words C_k_inlines (Nat.le_refl _) C_k_target (Nat.le_trans (by decide) (Nat.le_add_right _ _)) hr) (m_k_inlines n)
set_option maxHeartbeats 4000000 in
theorem d_k_block {S_k_block : SpW} {k : Nat} (C_k_draw : Has P w K mg base 1 "_law_draw" (spW K S_k_draw)) (C_k_one : Has P w K mg base 2 "_law_one" (spW K S_k_one)) (C_k_target : Has P w K mg base 4 "_law_target" (spW K S_k_target)) (C_k_inlines : Has P w K mg base 8 "_law_inlines" (spW K (S_k_inlines N_k_inlines))) {S_k_blocks : SpW} {k_k_blocks : Nat} (C_k_blocks : Has P w K mg base k_k_blocks "_law_blocks" (spW K S_k_blocks)) (le_k_blocks : k_k_blocks ≤ k) (C_k_words : Has P w K mg base 3 "_law_words" (spW K S_k_words)) (hk : 8 ≤ k) {f : Addr} {cdv : Value} {A : Around} {outer : List PySem.Env} {s : Shared} {H : Hp} {E : XK} (hr : Room k (A.deeper (envOfC "_law_block" (defScope s_k_block) s.heap.objs.size f cdv))) :
    DSs (cxOf CX0 P w K mg base ["_law_well_here", "_law_room", "_law_way", "_law_sign", "_law_start", "_law_items", "_law_k"] "_law_block" (defScope s_k_block) f cdv A outer s H E).nox K (defBody s_k_block) (w_k_block S_k_block S_k_blocks) := by
  have nd := sc_k_block.nd
  exact
(dss_cons (ds_set 2 nd (de_callW 0 (fun _ => callOk C_k_draw hr (Nat.le_trans (by decide) hk)) (da_cons (de_ite (dt_gt (de_v 1) de_int) de_int de_int) da_nil)))
(dss_cons (ds_if (dt_eq (fun _ => hr.units) (de_v 2) (DE.v de_int))
(dss_one (ds_ret (de_tup (da_cons de_str (da_cons (de_add de_int (DE.v (de_callW 0 (fun _ => callOk C_k_draw hr (Nat.le_trans (by decide) hk)) (da_cons de_int da_nil)))) (da_cons (de_callW 0 (fun _ => callOk C_k_one hr (Nat.le_trans (by decide) hk)) (da_cons (de_lst (da_cons (de_tup da_nil) (da_cons (de_callW 0 (fun _ => callOk C_k_inlines hr (Nat.le_trans (by decide) hk)) (da_cons de_int (da_cons de_bl da_nil))) da_nil))) da_nil)) da_nil))))))
dss_nil)
(dss_cons (ds_if (dt_eq (fun _ => hr.units) (de_v 2) (DE.v de_int))
(dss_one (ds_ret (de_tup (da_cons de_str da_nil))))
dss_nil)
(dss_cons (ds_if (dt_eq (fun _ => hr.units) (de_v 2) (DE.v de_int))
(dss_one (ds_ret (de_tup (da_cons de_str (da_cons (de_add (de_callW 0 (fun _ => callOk C_k_words hr (Nat.le_trans (by decide) hk)) da_nil) (DE.v de_str)) (da_cons (de_callW 0 (fun _ => callOk C_k_one hr (Nat.le_trans (by decide) hk)) (da_cons (de_lst (da_cons de_non (da_cons de_str (da_cons de_str da_nil)))) da_nil)) da_nil))))))
dss_nil)
(dss_cons (ds_if (dt_eq (fun _ => hr.units) (de_v 2) (DE.v de_int))
(dss_one (ds_ret (de_tup (da_cons de_str (da_cons (de_add (de_add de_str (DE.v (de_callW 0 (fun _ => callOk C_k_words hr (Nat.le_trans (by decide) hk)) da_nil))) (DE.v de_str)) da_nil)))))
dss_nil)
(dss_cons (ds_if (dt_eq (fun _ => hr.units) (de_v 2) (DE.v de_int))
(dss_one (ds_ret (de_add (de_tup (da_cons de_str (da_cons (de_callW 0 (fun _ => callOk C_k_one hr (Nat.le_trans (by decide) hk)) (da_cons (de_lst (da_cons de_str (da_cons de_str (da_cons de_str da_nil)))) da_nil)) da_nil))) (DE.v (de_callW 0 (fun _ => callOk C_k_target hr (Nat.le_trans (by decide) hk)) da_nil)))))
dss_nil)
(dss_cons (ds_if (dt_eq (fun _ => hr.units) (de_v 2) (DE.v de_int))
(dss_one (ds_ret (de_tup (da_cons de_str (da_cons (de_callW 0 (fun _ => callOk C_k_inlines hr (Nat.le_trans (by decide) hk)) (da_cons de_int (da_cons de_bl da_nil))) da_nil)))))
dss_nil)
(dss_cons (ds_if (dt_eq (fun _ => hr.units) (de_v 2) (DE.v de_int))
(dss_one (ds_ret (de_tup (da_cons de_str (da_cons (de_callW 0 (fun _ => callOk C_k_blocks hr le_k_blocks) (da_cons (de_sub (de_v 1) de_int) da_nil)) da_nil)))))
dss_nil)
(dss_cons (ds_set 3 nd (de_callW 0 (fun _ => callOk C_k_one hr (Nat.le_trans (by decide) hk)) (da_cons (de_lst (da_cons de_str (da_cons de_str (da_cons de_str (da_cons de_str (da_cons de_str da_nil)))))) da_nil)))
(dss_cons (ds_set 4 nd (de_ite (dt_in (de_v 3) (DE.v de_str)) de_non (de_callW 0 (fun _ => callOk C_k_one hr (Nat.le_trans (by decide) hk)) (da_cons (de_lst (da_cons de_int (da_cons de_int (da_cons de_int (da_cons de_int da_nil))))) da_nil))))
(dss_cons (ds_set 5 nd (de_tuple (fun _ => T.n_tuple) (DE.v (de_lc 6 (fun _ => nd) (di_range1 (fun _ => T.n_range) (da_cons (de_add de_int (DE.v (de_callW 0 (fun _ => callOk C_k_draw hr (Nat.le_trans (by decide) hk)) (da_cons de_int da_nil)))) da_nil)) (de_callW 0 (fun _ => callOk C_k_blocks hr le_k_blocks) (da_cons (de_sub (de_v 1) de_int) da_nil)) (ok := fun _ => (by decide +kernel : blkC ["_law_well_here", "_law_room", "_law_way", "_law_sign", "_law_start", "_law_items", "_law_k"] (defScope s_k_block) _ _ = true))))))
(dss_one (ds_ret (de_tup (da_cons de_str (da_cons (de_v 3) (da_cons (de_v 4) (da_cons (de_eq (fun _ => hr.units) (de_callW 0 (fun _ => callOk C_k_draw hr (Nat.le_trans (by decide) hk)) (da_cons de_int da_nil)) (DE.v de_int)) (da_cons (de_v 5) da_nil)))))))))))))))))))

set_option maxHeartbeats 4000000 in
theorem d_k_blocks {S_k_blocks : SpW} {k : Nat} {S_k_block : SpW} {k_k_block : Nat} (C_k_block : Has P w K mg base k_k_block "_law_block" (spW K S_k_block)) (le_k_block : k_k_block ≤ k) (C_k_draw : Has P w K mg base 1 "_law_draw" (spW K S_k_draw)) (hk : 8 ≤ k) {f : Addr} {cdv : Value} {A : Around} {outer : List PySem.Env} {s : Shared} {H : Hp} {E : XK} (hr : Room k (A.deeper (envOfC "_law_blocks" (defScope s_k_blocks) s.heap.objs.size f cdv))) :
    DSs (cxOf CX0 P w K mg base ["_law_well_here", "_law_room", "_law_k"] "_law_blocks" (defScope s_k_blocks) f cdv A outer s H E).nox K (defBody s_k_blocks) (w_k_blocks S_k_block S_k_blocks) := by
  have nd := sc_k_blocks.nd
  exact
(dss_one (ds_ret (de_tuple (fun _ => T.n_tuple) (DE.v (de_lc 2 (fun _ => nd) (di_range1 (fun _ => T.n_range) (da_cons (de_callW 0 (fun _ => callOk C_k_draw hr (Nat.le_trans (by decide) hk)) (da_cons de_int da_nil)) da_nil)) (de_callW 0 (fun _ => callOk C_k_block hr le_k_block) (da_cons (de_v 1) da_nil)) (ok := fun _ => (by decide +kernel : blkC ["_law_well_here", "_law_room", "_law_k"] (defScope s_k_blocks) _ _ = true)))))))

theorem grp_k_block (C_k_draw : Has P w K mg base 1 "_law_draw" (spW K S_k_draw)) (C_k_one : Has P w K mg base 2 "_law_one" (spW K S_k_one)) (C_k_words : Has P w K mg base 3 "_law_words" (spW K S_k_words)) (C_k_target : Has P w K mg base 4 "_law_target" (spW K S_k_target)) (C_k_inlines : Has P w K mg base 8 "_law_inlines" (spW K (S_k_inlines N_k_inlines))) : ∀ n : Nat, Has P w K mg base (9 + n) "_law_block" (spW K (S_k_block n)) ∧ Has P w K mg base (9 + n) "_law_blocks" (spW K (S_k_blocks n))
  | 0 => ⟨(z_k_block ▸ has_noneW (k := 8) T.D_k_block sc_k_block), (z_k_blocks ▸ has_noneW (k := 8) T.D_k_blocks sc_k_blocks)⟩
  | n + 1 => by
    have IH := grp_k_block C_k_draw C_k_one C_k_words C_k_target C_k_inlines n
    obtain ⟨C_k_block, C_k_blocks⟩ := IH
    exact ⟨T.D_k_block.has fun f fd F => fn_well F sc_k_block (l_k_block (n + 1)) (fun cdv A outer s H E hr => d_k_block T C_k_draw C_k_one C_k_target C_k_inlines C_k_blocks (Nat.le_refl _) C_k_words (Nat.le_trans (by decide) (Nat.le_add_right _ _)) hr) (m_k_block n),
      T.D_k_blocks.has fun f fd F => fn_well F sc_k_blocks (l_k_blocks (n + 1)) (fun cdv A outer s H E hr => d_k_blocks T C_k_block (Nat.le_refl _) C_k_draw (Nat.le_trans (by decide) (Nat.le_add_right _ _)) hr) (m_k_blocks n)⟩
set_option maxHeartbeats 4000000 in
theorem d_k_wrong (C_k_one : Has P w K mg base 2 "_law_one" (spW K S_k_one)) {f : Addr} {cdv : Value} {A : Around} {outer : List PySem.Env} {s : Shared} {H : Hp} {E : XK} (hr : Room 2 (A.deeper (envOfC "_law_wrong" (defScope s_k_wrong) s.heap.objs.size f cdv))) :
    DSs (cxOf CX0 P w K mg base ["_law_well_here", "_law_some", "_law_inner", "_law_pair"] "_law_wrong" (defScope s_k_wrong) f cdv A outer s H E).nox K (defBody s_k_wrong) w_k_wrong := by
  have nd := sc_k_wrong.nd
  exact
(dss_cons (ds_set 1 nd (de_lst (da_cons (de_tup (da_cons de_str da_nil)) (da_cons (de_tup (da_cons de_str (da_cons (de_lst (da_cons (de_tup (da_cons de_str da_nil)) da_nil)) da_nil))) (da_cons (de_tup (da_cons de_str (da_cons (de_tup (da_cons (de_tup (da_cons de_str (da_cons de_str da_nil))) da_nil)) da_nil))) (da_cons (de_lst (da_cons de_str da_nil)) (da_cons (de_tup (da_cons de_str (da_cons de_int da_nil))) (da_cons de_str (da_cons de_non da_nil)))))))))
(dss_cons (ds_set 1 nd (de_add (de_v 1) (DE.v (de_lst (da_cons (de_tup (da_cons de_str (da_cons de_int (da_cons (de_tup da_nil) da_nil)))) (da_cons (de_tup (da_cons de_str (da_cons de_int (da_cons (de_tup da_nil) da_nil)))) (da_cons (de_tup (da_cons de_str (da_cons de_bl (da_cons (de_tup da_nil) da_nil)))) (da_cons (de_tup (da_cons de_str (da_cons de_int (da_cons (de_lst da_nil) da_nil)))) da_nil))))))))
(dss_cons (ds_set 1 nd (de_add (de_v 1) (DE.v (de_lst (da_cons (de_tup (da_cons de_str (da_cons de_str (da_cons (de_tup da_nil) da_nil)))) da_nil)))))
(dss_cons (ds_set 1 nd (de_add (de_v 1) (DE.v (de_lst (da_cons (de_tup (da_cons de_str (da_cons de_int (da_cons (de_tup (da_cons (de_tup (da_cons de_str (da_cons de_str da_nil))) da_nil)) da_nil)))) (da_cons (de_tup (da_cons de_str (da_cons (de_tup da_nil) da_nil))) (da_cons (de_tup (da_cons de_str (da_cons (de_tup (da_cons (de_tup (da_cons de_str (da_cons de_str da_nil))) (da_cons (de_tup (da_cons de_str (da_cons de_str da_nil))) da_nil))) da_nil))) da_nil)))))))
(dss_cons (ds_set 1 nd (de_add (de_v 1) (DE.v (de_lst (da_cons (de_tup (da_cons de_str (da_cons (de_tup (da_cons (de_tup (da_cons de_str (da_cons (de_tup da_nil) da_nil))) da_nil)) da_nil))) (da_cons (de_tup (da_cons de_str (da_cons (de_tup (da_cons de_str da_nil)) da_nil))) (da_cons (de_tup (da_cons de_str (da_cons (de_tup (da_cons (de_tup (da_cons de_str (da_cons de_int da_nil))) da_nil)) da_nil))) da_nil)))))))
(dss_cons (ds_set 1 nd (de_add (de_v 1) (DE.v (de_lst (da_cons (de_tup (da_cons de_str (da_cons de_str (da_cons de_non da_nil)))) (da_cons (de_tup (da_cons de_str (da_cons de_str (da_cons de_non da_nil)))) (da_cons (de_tup (da_cons de_str (da_cons de_int (da_cons de_str da_nil)))) (da_cons (de_tup (da_cons de_str (da_cons de_str (da_cons de_int da_nil)))) (da_cons (de_tup (da_cons de_str (da_cons de_str da_nil))) da_nil)))))))))
(dss_cons (ds_set 1 nd (de_add (de_v 1) (DE.v (de_lst (da_cons (de_tup (da_cons de_str (da_cons de_str da_nil))) (da_cons (de_tup (da_cons de_str (da_cons de_str (da_cons de_str (da_cons de_non da_nil))))) (da_cons (de_tup (da_cons de_str (da_cons de_str (da_cons de_str (da_cons de_non da_nil))))) da_nil)))))))
(dss_cons (ds_set 1 nd (de_add (de_v 1) (DE.v (de_lst (da_cons (de_tup (da_cons de_str (da_cons de_str (da_cons de_str (da_cons de_non da_nil))))) (da_cons (de_tup (da_cons de_str (da_cons de_str (da_cons de_str (da_cons de_non da_nil))))) (da_cons (de_tup (da_cons de_str (da_cons de_str (da_cons de_non (da_cons de_non da_nil))))) da_nil)))))))
(dss_cons (ds_set 1 nd (de_add (de_v 1) (DE.v (de_lst (da_cons (de_tup (da_cons de_str (da_cons de_str (da_cons de_str (da_cons de_int da_nil))))) (da_cons (de_tup (da_cons de_str (da_cons de_str (da_cons de_int (da_cons de_bl (da_cons (de_tup (da_cons (de_tup da_nil) da_nil)) da_nil)))))) (da_cons (de_tup (da_cons de_str (da_cons de_str (da_cons de_non (da_cons de_bl (da_cons (de_tup (da_cons (de_tup da_nil) da_nil)) da_nil)))))) da_nil)))))))
(dss_cons (ds_set 1 nd (de_add (de_v 1) (DE.v (de_lst (da_cons (de_tup (da_cons de_str (da_cons de_str (da_cons (de_neg de_int) (da_cons de_bl (da_cons (de_tup (da_cons (de_tup da_nil) da_nil)) da_nil)))))) (da_cons (de_tup (da_cons de_str (da_cons de_str (da_cons (de_pow de_int de_int) (da_cons de_bl (da_cons (de_tup (da_cons (de_tup da_nil) da_nil)) da_nil)))))) (da_cons (de_tup (da_cons de_str (da_cons de_str (da_cons de_non (da_cons de_int (da_cons (de_tup (da_cons (de_tup da_nil) da_nil)) da_nil)))))) da_nil)))))))
(dss_cons (ds_set 1 nd (de_add (de_v 1) (DE.v (de_lst (da_cons (de_tup (da_cons de_str (da_cons de_str (da_cons de_non (da_cons de_bl (da_cons (de_tup da_nil) da_nil)))))) (da_cons (de_tup (da_cons de_str (da_cons de_str (da_cons de_non (da_cons de_bl (da_cons (de_tup (da_cons (de_lst da_nil) da_nil)) da_nil)))))) (da_cons (de_tup (da_cons de_str (da_cons de_str (da_cons de_non (da_cons de_bl (da_cons (de_tup (da_cons (de_tup da_nil) da_nil)) da_nil)))))) da_nil)))))))
(dss_cons (ds_set 2 nd (de_tup (da_cons de_str (da_cons de_str (da_cons de_non (da_cons (de_tup (da_cons (de_tup (da_cons de_str (da_cons de_str da_nil))) da_nil)) da_nil))))))
(dss_cons (ds_set 1 nd (de_add (de_v 1) (DE.v (de_lst (da_cons (de_tup (da_cons de_str (da_cons (de_tup (da_cons (de_tup (da_cons de_str (da_cons de_str (da_cons de_non (da_cons (de_tup (da_cons (de_v 2) da_nil)) da_nil))))) da_nil)) da_nil))) da_nil)))))
(dss_cons (ds_set 1 nd (de_add (de_v 1) (DE.v (de_lst (da_cons (de_tup (da_cons de_str (da_cons (de_tup (da_cons (de_tup (da_cons de_str (da_cons de_str (da_cons de_non (da_cons (de_tup (da_cons (de_tup (da_cons de_str (da_cons (de_tup (da_cons (de_v 2) da_nil)) da_nil))) da_nil)) da_nil))))) da_nil)) da_nil))) da_nil)))))
(dss_cons (ds_set 1 nd (de_add (de_v 1) (DE.v (de_lst (da_cons (de_tup (da_cons de_str (da_cons (de_tup (da_cons (de_tup (da_cons de_str (da_cons de_non (da_cons de_non (da_cons (de_tup da_nil) da_nil))))) da_nil)) da_nil))) (da_cons (de_tup (da_cons de_str (da_cons (de_tup (da_cons (de_tup (da_cons de_str (da_cons de_str (da_cons de_int (da_cons (de_tup da_nil) da_nil))))) da_nil)) da_nil))) da_nil))))))
(dss_cons (ds_set 1 nd (de_add (de_v 1) (DE.v (de_lst (da_cons (de_tup (da_cons de_str (da_cons de_str (da_cons de_bl (da_cons de_bl (da_cons (de_tup (da_cons (de_tup da_nil) da_nil)) da_nil)))))) (da_cons (de_tup (da_cons de_str (da_cons de_str (da_cons de_bl (da_cons de_bl (da_cons (de_tup (da_cons (de_tup da_nil) da_nil)) da_nil)))))) da_nil))))))
(dss_cons (ds_set 3 nd (de_tup (da_cons (de_tup (da_cons de_str (da_cons de_str da_nil))) (da_cons (de_tup (da_cons de_str (da_cons de_str da_nil))) da_nil))))
(dss_cons (ds_set 1 nd (de_add (de_v 1) (DE.v (de_lst (da_cons (de_tup (da_cons de_str (da_cons (de_tup (da_cons (de_tup (da_cons de_str (da_cons (de_v 3) da_nil))) da_nil)) da_nil))) (da_cons (de_tup (da_cons de_str (da_cons (de_tup (da_cons (de_tup (da_cons de_str (da_cons (de_tup (da_cons (de_tup (da_cons de_str (da_cons de_str da_nil))) (da_cons (de_tup (da_cons de_str (da_cons (de_v 3) da_nil))) da_nil))) da_nil))) da_nil)) da_nil))) da_nil))))))
(dss_cons (ds_set 1 nd (de_add (de_v 1) (DE.v (de_lst (da_cons (de_tup (da_cons de_str (da_cons (de_tup (da_cons (de_tup (da_cons de_str (da_cons de_str (da_cons de_non (da_cons (de_v 3) da_nil))))) da_nil)) da_nil))) (da_cons (de_tup (da_cons de_str (da_cons de_int (da_cons (de_tup (da_cons (de_tup (da_cons de_str (da_cons de_str (da_cons de_non (da_cons (de_v 3) da_nil))))) da_nil)) da_nil)))) da_nil))))))
(dss_cons (ds_set 1 nd (de_add (de_v 1) (DE.v (de_lst (da_cons (de_tup da_nil) (da_cons de_int (da_cons (de_tup (da_cons de_str (da_cons de_str da_nil))) da_nil)))))))
(dss_one (ds_ret (de_callW 0 (fun _ => callOk C_k_one hr (by decide)) (da_cons (de_v 1) da_nil))))))))))))))))))))))))

theorem has_k_wrong (C_k_one : Has P w K mg base 2 "_law_one" (spW K S_k_one)) : Has P w K mg base 3 "_law_wrong" (spW K S_k_wrong) := T.D_k_wrong.has fun f fd F =>
  fn_well F sc_k_wrong l_k_wrong (fun cdv A outer s H E hr => d_k_wrong T C_k_one hr) m_k_wrong
set_option maxHeartbeats 4000000 in
theorem d_k_deep_right (C_k_draw : Has P w K mg base 1 "_law_draw" (spW K S_k_draw)) (C_is_tree : Has P w K mg base 309 "is_tree" (spP K S_is_tree)) {f : Addr} {cdv : Value} {A : Around} {outer : List PySem.Env} {s : Shared} {H : Hp} {E : XK} (hr : Room 309 (A.deeper (envOfC "_law_deep_right" (defScope s_k_deep_right) s.heap.objs.size f cdv))) :
    DSs (cxOf CX0 P w K mg base ["_law_well_here", "_law_many", "_law_quote", "_law_k", "_law_item", "_law_row", "_law_found"] "_law_deep_right" (defScope s_k_deep_right) f cdv A outer s H E).nox K (defBody s_k_deep_right) w_k_deep_right := by
  have nd := sc_k_deep_right.nd
  exact
(dss_cons (ds_set 1 nd (de_add de_int (DE.v (de_callW 0 (fun _ => callOk C_k_draw hr (by decide)) (da_cons de_int da_nil)))))
(dss_cons (ds_set 2 nd (de_tup da_nil))
(dss_cons (ds_for (di_range1 (fun _ => T.n_range) (da_cons (de_sub (de_v 1) de_int) da_nil)) (dg_name 3 nd)
(dss_one (ds_set 2 nd (de_tup (da_cons (de_tup (da_cons de_str (da_cons (de_v 2) da_nil))) da_nil)))))
(dss_cons (ds_set 4 nd (de_tup (da_cons (de_tup (da_cons de_str da_nil)) da_nil)))
(dss_cons (ds_for (di_range1 (fun _ => T.n_range) (da_cons (de_sub (de_v 1) de_int) da_nil)) (dg_name 3 nd)
(dss_one (ds_set 4 nd (de_tup (da_cons (de_tup (da_cons de_str (da_cons de_str (da_cons de_non (da_cons de_bl (da_cons (de_tup (da_cons (de_v 4) da_nil)) da_nil)))))) da_nil)))))
(dss_cons (ds_set 5 nd (de_tup (da_cons (de_tup (da_cons de_str (da_cons de_str da_nil))) da_nil)))
(dss_cons (ds_for (di_range1 (fun _ => T.n_range) (da_cons (de_sub (de_v 1) de_int) da_nil)) (dg_name 3 nd)
(dss_one (ds_set 5 nd (de_tup (da_cons (de_tup (da_cons (de_ix (de_lst (da_cons de_str (da_cons de_str da_nil))) (de_mod (de_toInt (fun _ => T.n_int) (de_v 3)) de_int)) (da_cons (de_v 5) da_nil))) da_nil)))))
(dss_cons (ds_set 6 nd (de_lst (da_cons (de_call (fun _ => callOk C_is_tree hr (by decide)) (da_cons (de_v 2) da_nil)) (da_cons (de_call (fun _ => callOk C_is_tree hr (by decide)) (da_cons (de_v 4) da_nil)) (da_cons (de_call (fun _ => callOk C_is_tree hr (by decide)) (da_cons (de_tup (da_cons (de_tup (da_cons de_str (da_cons (de_v 5) da_nil))) da_nil)) da_nil)) da_nil)))))
(dss_one (ds_ret (de_eq (fun _ => hr.units) (de_v 6) (DE.v (de_mul (de_lst (da_cons (de_le (de_v 1) de_int) da_nil)) de_int)))))))))))))

theorem has_k_deep_right (C_k_draw : Has P w K mg base 1 "_law_draw" (spW K S_k_draw)) (C_is_tree : Has P w K mg base 309 "is_tree" (spP K S_is_tree)) : Has P w K mg base 310 "_law_deep_right" (spW K S_k_deep_right) := T.D_k_deep_right.has fun f fd F =>
  fn_well F sc_k_deep_right l_k_deep_right (fun cdv A outer s H E hr => d_k_deep_right T C_k_draw C_is_tree hr) m_k_deep_right
set_option maxHeartbeats 4000000 in
theorem d_law (C_k_well : Has P w K mg base 1 "_law_well" (spF K S_k_well)) (C_k_blocks : Has P w K mg base 17 "_law_blocks" (spW K (S_k_blocks N_k_blocks))) (C_k_draw : Has P w K mg base 1 "_law_draw" (spW K S_k_draw)) (C_k_wrong : Has P w K mg base 3 "_law_wrong" (spW K S_k_wrong)) (C_is_tree : Has P w K mg base 309 "is_tree" (spP K S_is_tree)) (C_k_deep_right : Has P w K mg base 310 "_law_deep_right" (spW K S_k_deep_right)) {f : Addr} {cdv : Value} {A : Around} {outer : List PySem.Env} {s : Shared} {H : Hp} {E : XK} (hr : Room 310 (A.deeper (envOfC "law" (defScope s_law) s.heap.objs.size f cdv))) :
    DSs (cxOf CX0 P w K mg base ["_law_script", "_law_cell", "_law_well_here", "_law_k", "_law_blocks_here", "_law_at", "_law_wrong_here", "_law_spoilt", "_law_thing"] "law" (defScope s_law) f cdv A outer s H E).nox K (defBody s_law) w_law := by
  have nd := sc_law.nd
  exact
(dss_cons (ds_for (di_seq (de_add (de_sls 0 do_no (do_so de_int)) (DE.v (de_lst (da_cons de_int da_nil))))) (dg_name 1 nd)
(dss_cons (ds_setF 2 nd (callOk C_k_well hr (by decide)) (da_cons (de_v 1) da_nil))
(dss_cons (ds_for (di_range1 (fun _ => T.n_range) (da_cons de_int da_nil)) (dg_name 3 nd)
(dss_cons (ds_set 4 nd (de_callW 2 (fun _ => callOk C_k_blocks hr (by decide)) (da_cons de_int da_nil)))
(dss_cons (ds_if (dt_not (dt_val (de_call (fun _ => callOk C_is_tree hr (by decide)) (da_cons (de_v 4) da_nil))))
(dss_one (ds_ret de_bl))
dss_nil)
(dss_cons (ds_set 5 nd (de_callW 2 (fun _ => callOk C_k_draw hr (by decide)) (da_cons (de_add (de_len (fun _ => T.n_len) (DE.v (de_v 4))) (DE.v de_int)) da_nil)))
(dss_cons (ds_set 6 nd (de_callW 2 (fun _ => callOk C_k_wrong hr (by decide)) da_nil))
(dss_cons (ds_set 7 nd (de_add (de_add (de_sl (de_v 4) do_no (do_so (de_v 5))) (DE.v (de_tup (da_cons (de_v 6) da_nil)))) (DE.v (de_sl (de_v 4) (do_so (de_v 5)) do_no))))
(dss_cons (ds_if (DW.t (dw_or (dt_val (de_call (fun _ => callOk C_is_tree hr (by decide)) (da_cons (de_v 7) da_nil))) (dw_or (dt_val (de_call (fun _ => callOk C_is_tree hr (by decide)) (da_cons (de_tup (da_cons (de_tup (da_cons de_str (da_cons (de_v 7) da_nil))) da_nil)) da_nil))) (dw_or1 (dt_val (de_call (fun _ => callOk C_is_tree hr (by decide)) (da_cons (de_list (fun _ => T.n_list) (DE.v (de_v 4))) da_nil)))))))
(dss_one (ds_ret de_bl))
dss_nil)
(dss_one (ds_if (dt_val (de_call (fun _ => callOk C_is_tree hr (by decide)) (da_cons (de_tup (da_cons (de_tup (da_cons de_str (da_cons de_str (da_cons de_non (da_cons de_bl (da_cons (de_tup (da_cons (de_tup da_nil) (da_cons (de_v 7) da_nil))) da_nil)))))) da_nil)) da_nil)))
(dss_one (ds_ret de_bl))
dss_nil)))))))))
(dss_cons (ds_for (di_seq (de_lst (da_cons de_non (da_cons de_int (da_cons de_bl (da_cons de_str (da_cons de_str (da_cons (de_lst da_nil) (da_cons de_dnew (da_cons (de_tup (da_cons de_str (da_cons (de_tup da_nil) da_nil))) (da_cons (de_tup (da_cons (de_tup (da_cons de_str da_nil)) (da_cons de_int da_nil))) da_nil))))))))))) (dg_name 8 nd)
(dss_one (ds_if (dt_val (de_call (fun _ => callOk C_is_tree hr (by decide)) (da_cons (de_v 8) da_nil)))
(dss_one (ds_ret de_bl))
dss_nil)))
(dss_one (ds_if (DW.t (dw_or (dt_not (dt_val (de_call (fun _ => callOk C_is_tree hr (by decide)) (da_cons (de_tup da_nil) da_nil)))) (dw_or1 (dt_not (dt_val (de_callW 2 (fun _ => callOk C_k_deep_right hr (by decide)) da_nil))))))
(dss_one (ds_ret de_bl))
dss_nil))))))
(dss_one (ds_ret de_bl)))

theorem ok_law (C_k_well : Has P w K mg base 1 "_law_well" (spF K S_k_well)) (C_k_blocks : Has P w K mg base 17 "_law_blocks" (spW K (S_k_blocks N_k_blocks))) (C_k_draw : Has P w K mg base 1 "_law_draw" (spW K S_k_draw)) (C_k_wrong : Has P w K mg base 3 "_law_wrong" (spW K S_k_wrong)) (C_is_tree : Has P w K mg base 309 "is_tree" (spP K S_is_tree)) (C_k_deep_right : Has P w K mg base 310 "_law_deep_right" (spW K S_k_deep_right)) {f : Addr} {fd : FuncData} (F : Fun K "law" "law" s_law f fd) : FnOk P w K mg base CX0 311 f fd ["_law_script"] (spLaw K) :=
  fn_law F sc_law (fun cdv A outer s H E hr => d_law T C_k_well C_k_blocks C_k_draw C_k_wrong C_is_tree C_k_deep_right hr) m_law
theorem all_law {f : Addr} {fd : FuncData} (F : Fun K "law" "law" s_law f fd) : FnOk P w K mg base CX0 311 f fd ["_law_script"] (spLaw K) := by
  have C_is_punctuation := has_is_punctuation (P := P) (w := w) (base := base) T 
  have C_first_wrong := has_first_wrong (P := P) (w := w) (base := base) T 
  have C_is_escape := has_is_escape (P := P) (w := w) (base := base) T C_is_punctuation
  have C_label_end := has_label_end (P := P) (w := w) (base := base) T C_is_escape
  have C_is_label_text := has_is_label_text (P := P) (w := w) (base := base) T C_label_end
  have C_normalised := has_normalised (P := P) (w := w) (base := base) T C_is_label_text
  have C_is_text := has_is_text (P := P) (w := w) (base := base) T C_first_wrong
  have C_is_between := has_is_between (P := P) (w := w) (base := base) T 
  have C_is_node := has_is_node (P := P) (w := w) (base := base) T 
  have C_has_lines := has_has_lines (P := P) (w := w) (base := base) T 
  have C_is_target := has_is_target (P := P) (w := w) (base := base) T C_is_text
  have C_is_plain_block := has_is_plain_block (P := P) (w := w) (base := base) T C_is_node C_is_target C_is_text C_has_lines C_is_label_text C_normalised
  obtain ⟨C_is_inlines, C_is_inline, C_is_blocks, C_is_block, C_is_list⟩ := grp_is_inlines (P := P) (w := w) (base := base) T C_is_text C_is_between C_is_node C_is_target C_is_plain_block 301
  have C_is_tree := has_is_tree (P := P) (w := w) (base := base) T C_is_blocks
  have C_k_well := has_k_well (P := P) (w := w) (base := base) T 
  have C_k_draw := has_k_draw (P := P) (w := w) (base := base) T 
  have C_k_one := has_k_one (P := P) (w := w) (base := base) T C_k_draw
  have C_k_words := has_k_words (P := P) (w := w) (base := base) T C_k_one C_k_draw
  have C_k_target := has_k_target (P := P) (w := w) (base := base) T C_k_one C_k_words
  have C_k_inlines := grp_k_inlines (P := P) (w := w) (base := base) T C_k_draw C_k_one C_k_words C_k_target 3
  obtain ⟨C_k_block, C_k_blocks⟩ := grp_k_block (P := P) (w := w) (base := base) T C_k_draw C_k_one C_k_words C_k_target C_k_inlines 8
  have C_k_wrong := has_k_wrong (P := P) (w := w) (base := base) T C_k_one
  have C_k_deep_right := has_k_deep_right (P := P) (w := w) (base := base) T C_k_draw C_is_tree
  exact ok_law T C_k_well C_k_blocks C_k_draw C_k_wrong C_is_tree C_k_deep_right F
end
theorem all_mk {l : PySem.W.OpenLaw} {w : World} {K : Fr} {h : Heap} {mg : Str → Option Value} {fa : Addr} (X : K.In h) (G : h.Ns mainGlobals mg) (hfa : mg "law" = some (.ref fa))
    {f_is_punctuation : Addr} {od_is_punctuation an_is_punctuation : Option Addr} {sl_is_punctuation : Array (Option Value)} {oc_is_punctuation kV_is_punctuation dc_is_punctuation pm_is_punctuation cd_is_punctuation ct_is_punctuation : Value}
    {f_first_wrong : Addr} {od_first_wrong an_first_wrong : Option Addr} {sl_first_wrong : Array (Option Value)} {oc_first_wrong kV_first_wrong dc_first_wrong pm_first_wrong cd_first_wrong ct_first_wrong : Value}
    {f_is_escape : Addr} {od_is_escape an_is_escape : Option Addr} {sl_is_escape : Array (Option Value)} {oc_is_escape kV_is_escape dc_is_escape pm_is_escape cd_is_escape ct_is_escape : Value}
    {f_label_end : Addr} {od_label_end an_label_end : Option Addr} {sl_label_end : Array (Option Value)} {oc_label_end kV_label_end dc_label_end pm_label_end cd_label_end ct_label_end : Value}
    {f_is_label_text : Addr} {od_is_label_text an_is_label_text : Option Addr} {sl_is_label_text : Array (Option Value)} {oc_is_label_text kV_is_label_text dc_is_label_text pm_is_label_text cd_is_label_text ct_is_label_text : Value}
    {f_normalised : Addr} {od_normalised an_normalised : Option Addr} {sl_normalised : Array (Option Value)} {oc_normalised kV_normalised dc_normalised pm_normalised cd_normalised ct_normalised : Value}
    {f_is_text : Addr} {od_is_text an_is_text : Option Addr} {sl_is_text : Array (Option Value)} {oc_is_text kV_is_text dc_is_text pm_is_text cd_is_text ct_is_text : Value}
    {f_is_between : Addr} {od_is_between an_is_between : Option Addr} {sl_is_between : Array (Option Value)} {oc_is_between kV_is_between dc_is_between pm_is_between cd_is_between ct_is_between : Value}
    {f_is_node : Addr} {od_is_node an_is_node : Option Addr} {sl_is_node : Array (Option Value)} {oc_is_node kV_is_node dc_is_node pm_is_node cd_is_node ct_is_node : Value}
    {f_has_lines : Addr} {od_has_lines an_has_lines : Option Addr} {sl_has_lines : Array (Option Value)} {oc_has_lines kV_has_lines dc_has_lines pm_has_lines cd_has_lines ct_has_lines : Value}
    {f_is_target : Addr} {od_is_target an_is_target : Option Addr} {sl_is_target : Array (Option Value)} {oc_is_target kV_is_target dc_is_target pm_is_target cd_is_target ct_is_target : Value}
    {f_is_inlines : Addr} {od_is_inlines an_is_inlines : Option Addr} {sl_is_inlines : Array (Option Value)} {oc_is_inlines kV_is_inlines dc_is_inlines pm_is_inlines cd_is_inlines ct_is_inlines : Value}
    {f_is_inline : Addr} {od_is_inline an_is_inline : Option Addr} {sl_is_inline : Array (Option Value)} {oc_is_inline kV_is_inline dc_is_inline pm_is_inline cd_is_inline ct_is_inline : Value}
    {f_is_blocks : Addr} {od_is_blocks an_is_blocks : Option Addr} {sl_is_blocks : Array (Option Value)} {oc_is_blocks kV_is_blocks dc_is_blocks pm_is_blocks cd_is_blocks ct_is_blocks : Value}
    {f_is_block : Addr} {od_is_block an_is_block : Option Addr} {sl_is_block : Array (Option Value)} {oc_is_block kV_is_block dc_is_block pm_is_block cd_is_block ct_is_block : Value}
    {f_is_plain_block : Addr} {od_is_plain_block an_is_plain_block : Option Addr} {sl_is_plain_block : Array (Option Value)} {oc_is_plain_block kV_is_plain_block dc_is_plain_block pm_is_plain_block cd_is_plain_block ct_is_plain_block : Value}
    {f_is_list : Addr} {od_is_list an_is_list : Option Addr} {sl_is_list : Array (Option Value)} {oc_is_list kV_is_list dc_is_list pm_is_list cd_is_list ct_is_list : Value}
    {f_is_tree : Addr} {od_is_tree an_is_tree : Option Addr} {sl_is_tree : Array (Option Value)} {oc_is_tree kV_is_tree dc_is_tree pm_is_tree cd_is_tree ct_is_tree : Value}
    {f_k_well : Addr} {od_k_well an_k_well : Option Addr} {sl_k_well : Array (Option Value)} {oc_k_well kV_k_well dc_k_well pm_k_well cd_k_well ct_k_well : Value}
    {f_k_draw : Addr} {od_k_draw an_k_draw : Option Addr} {sl_k_draw : Array (Option Value)} {oc_k_draw kV_k_draw dc_k_draw pm_k_draw cd_k_draw ct_k_draw : Value}
    {f_k_one : Addr} {od_k_one an_k_one : Option Addr} {sl_k_one : Array (Option Value)} {oc_k_one kV_k_one dc_k_one pm_k_one cd_k_one ct_k_one : Value}
    {f_k_words : Addr} {od_k_words an_k_words : Option Addr} {sl_k_words : Array (Option Value)} {oc_k_words kV_k_words dc_k_words pm_k_words cd_k_words ct_k_words : Value}
    {f_k_target : Addr} {od_k_target an_k_target : Option Addr} {sl_k_target : Array (Option Value)} {oc_k_target kV_k_target dc_k_target pm_k_target cd_k_target ct_k_target : Value}
    {f_k_inlines : Addr} {od_k_inlines an_k_inlines : Option Addr} {sl_k_inlines : Array (Option Value)} {oc_k_inlines kV_k_inlines dc_k_inlines pm_k_inlines cd_k_inlines ct_k_inlines : Value}
    {f_k_block : Addr} {od_k_block an_k_block : Option Addr} {sl_k_block : Array (Option Value)} {oc_k_block kV_k_block dc_k_block pm_k_block cd_k_block ct_k_block : Value}
    {f_k_blocks : Addr} {od_k_blocks an_k_blocks : Option Addr} {sl_k_blocks : Array (Option Value)} {oc_k_blocks kV_k_blocks dc_k_blocks pm_k_blocks cd_k_blocks ct_k_blocks : Value}
    {f_k_wrong : Addr} {od_k_wrong an_k_wrong : Option Addr} {sl_k_wrong : Array (Option Value)} {oc_k_wrong kV_k_wrong dc_k_wrong pm_k_wrong cd_k_wrong ct_k_wrong : Value}
    {f_k_deep_right : Addr} {od_k_deep_right an_k_deep_right : Option Addr} {sl_k_deep_right : Array (Option Value)} {oc_k_deep_right kV_k_deep_right dc_k_deep_right pm_k_deep_right cd_k_deep_right ct_k_deep_right : Value}
    {f_law : Addr} {od_law an_law : Option Addr} {sl_law : Array (Option Value)} {oc_law kV_law dc_law pm_law cd_law ct_law : Value}
    (a_is_punctuation : PySem.W.nsIn K mainGlobals "is_punctuation" = some (some (.ref f_is_punctuation))) (l_is_punctuation : K.lookup f_is_punctuation = some ⟨oc_is_punctuation, od_is_punctuation, .func (PySem.W.fnOf "is_punctuation" "is_punctuation" (defArgs s_is_punctuation) (defBody s_is_punctuation) (defScope s_is_punctuation) .none kV_is_punctuation dc_is_punctuation pm_is_punctuation an_is_punctuation cd_is_punctuation ct_is_punctuation), sl_is_punctuation⟩) (e_is_punctuation : PySem.W.codeIn K cd_is_punctuation "is_punctuation" = true) (k_is_punctuation : PySem.W.keepIn K (.ref f_is_punctuation) = true)
    (a_first_wrong : PySem.W.nsIn K mainGlobals "first_wrong" = some (some (.ref f_first_wrong))) (l_first_wrong : K.lookup f_first_wrong = some ⟨oc_first_wrong, od_first_wrong, .func (PySem.W.fnOf "first_wrong" "first_wrong" (defArgs s_first_wrong) (defBody s_first_wrong) (defScope s_first_wrong) .none kV_first_wrong dc_first_wrong pm_first_wrong an_first_wrong cd_first_wrong ct_first_wrong), sl_first_wrong⟩) (e_first_wrong : PySem.W.codeIn K cd_first_wrong "first_wrong" = true) (k_first_wrong : PySem.W.keepIn K (.ref f_first_wrong) = true)
    (a_is_escape : PySem.W.nsIn K mainGlobals "is_escape" = some (some (.ref f_is_escape))) (l_is_escape : K.lookup f_is_escape = some ⟨oc_is_escape, od_is_escape, .func (PySem.W.fnOf "is_escape" "is_escape" (defArgs s_is_escape) (defBody s_is_escape) (defScope s_is_escape) .none kV_is_escape dc_is_escape pm_is_escape an_is_escape cd_is_escape ct_is_escape), sl_is_escape⟩) (e_is_escape : PySem.W.codeIn K cd_is_escape "is_escape" = true) (k_is_escape : PySem.W.keepIn K (.ref f_is_escape) = true)
    (a_label_end : PySem.W.nsIn K mainGlobals "label_end" = some (some (.ref f_label_end))) (l_label_end : K.lookup f_label_end = some ⟨oc_label_end, od_label_end, .func (PySem.W.fnOf "label_end" "label_end" (defArgs s_label_end) (defBody s_label_end) (defScope s_label_end) .none kV_label_end dc_label_end pm_label_end an_label_end cd_label_end ct_label_end), sl_label_end⟩) (e_label_end : PySem.W.codeIn K cd_label_end "label_end" = true) (k_label_end : PySem.W.keepIn K (.ref f_label_end) = true)
    (a_is_label_text : PySem.W.nsIn K mainGlobals "is_label_text" = some (some (.ref f_is_label_text))) (l_is_label_text : K.lookup f_is_label_text = some ⟨oc_is_label_text, od_is_label_text, .func (PySem.W.fnOf "is_label_text" "is_label_text" (defArgs s_is_label_text) (defBody s_is_label_text) (defScope s_is_label_text) .none kV_is_label_text dc_is_label_text pm_is_label_text an_is_label_text cd_is_label_text ct_is_label_text), sl_is_label_text⟩) (e_is_label_text : PySem.W.codeIn K cd_is_label_text "is_label_text" = true) (k_is_label_text : PySem.W.keepIn K (.ref f_is_label_text) = true)
    (a_normalised : PySem.W.nsIn K mainGlobals "normalised" = some (some (.ref f_normalised))) (l_normalised : K.lookup f_normalised = some ⟨oc_normalised, od_normalised, .func (PySem.W.fnOf "normalised" "normalised" (defArgs s_normalised) (defBody s_normalised) (defScope s_normalised) .none kV_normalised dc_normalised pm_normalised an_normalised cd_normalised ct_normalised), sl_normalised⟩) (e_normalised : PySem.W.codeIn K cd_normalised "normalised" = true) (k_normalised : PySem.W.keepIn K (.ref f_normalised) = true)
    (a_is_text : PySem.W.nsIn K mainGlobals "is_text" = some (some (.ref f_is_text))) (l_is_text : K.lookup f_is_text = some ⟨oc_is_text, od_is_text, .func (PySem.W.fnOf "is_text" "is_text" (defArgs s_is_text) (defBody s_is_text) (defScope s_is_text) .none kV_is_text dc_is_text pm_is_text an_is_text cd_is_text ct_is_text), sl_is_text⟩) (e_is_text : PySem.W.codeIn K cd_is_text "is_text" = true) (k_is_text : PySem.W.keepIn K (.ref f_is_text) = true)
    (a_is_between : PySem.W.nsIn K mainGlobals "is_between" = some (some (.ref f_is_between))) (l_is_between : K.lookup f_is_between = some ⟨oc_is_between, od_is_between, .func (PySem.W.fnOf "is_between" "is_between" (defArgs s_is_between) (defBody s_is_between) (defScope s_is_between) .none kV_is_between dc_is_between pm_is_between an_is_between cd_is_between ct_is_between), sl_is_between⟩) (e_is_between : PySem.W.codeIn K cd_is_between "is_between" = true) (k_is_between : PySem.W.keepIn K (.ref f_is_between) = true)
    (a_is_node : PySem.W.nsIn K mainGlobals "is_node" = some (some (.ref f_is_node))) (l_is_node : K.lookup f_is_node = some ⟨oc_is_node, od_is_node, .func (PySem.W.fnOf "is_node" "is_node" (defArgs s_is_node) (defBody s_is_node) (defScope s_is_node) .none kV_is_node dc_is_node pm_is_node an_is_node cd_is_node ct_is_node), sl_is_node⟩) (e_is_node : PySem.W.codeIn K cd_is_node "is_node" = true) (k_is_node : PySem.W.keepIn K (.ref f_is_node) = true)
    (a_has_lines : PySem.W.nsIn K mainGlobals "has_lines" = some (some (.ref f_has_lines))) (l_has_lines : K.lookup f_has_lines = some ⟨oc_has_lines, od_has_lines, .func (PySem.W.fnOf "has_lines" "has_lines" (defArgs s_has_lines) (defBody s_has_lines) (defScope s_has_lines) .none kV_has_lines dc_has_lines pm_has_lines an_has_lines cd_has_lines ct_has_lines), sl_has_lines⟩) (e_has_lines : PySem.W.codeIn K cd_has_lines "has_lines" = true) (k_has_lines : PySem.W.keepIn K (.ref f_has_lines) = true)
    (a_is_target : PySem.W.nsIn K mainGlobals "is_target" = some (some (.ref f_is_target))) (l_is_target : K.lookup f_is_target = some ⟨oc_is_target, od_is_target, .func (PySem.W.fnOf "is_target" "is_target" (defArgs s_is_target) (defBody s_is_target) (defScope s_is_target) .none kV_is_target dc_is_target pm_is_target an_is_target cd_is_target ct_is_target), sl_is_target⟩) (e_is_target : PySem.W.codeIn K cd_is_target "is_target" = true) (k_is_target : PySem.W.keepIn K (.ref f_is_target) = true)
    (a_is_inlines : PySem.W.nsIn K mainGlobals "is_inlines" = some (some (.ref f_is_inlines))) (l_is_inlines : K.lookup f_is_inlines = some ⟨oc_is_inlines, od_is_inlines, .func (PySem.W.fnOf "is_inlines" "is_inlines" (defArgs s_is_inlines) (defBody s_is_inlines) (defScope s_is_inlines) .none kV_is_inlines dc_is_inlines pm_is_inlines an_is_inlines cd_is_inlines ct_is_inlines), sl_is_inlines⟩) (e_is_inlines : PySem.W.codeIn K cd_is_inlines "is_inlines" = true) (k_is_inlines : PySem.W.keepIn K (.ref f_is_inlines) = true)
    (a_is_inline : PySem.W.nsIn K mainGlobals "is_inline" = some (some (.ref f_is_inline))) (l_is_inline : K.lookup f_is_inline = some ⟨oc_is_inline, od_is_inline, .func (PySem.W.fnOf "is_inline" "is_inline" (defArgs s_is_inline) (defBody s_is_inline) (defScope s_is_inline) .none kV_is_inline dc_is_inline pm_is_inline an_is_inline cd_is_inline ct_is_inline), sl_is_inline⟩) (e_is_inline : PySem.W.codeIn K cd_is_inline "is_inline" = true) (k_is_inline : PySem.W.keepIn K (.ref f_is_inline) = true)
    (a_is_blocks : PySem.W.nsIn K mainGlobals "is_blocks" = some (some (.ref f_is_blocks))) (l_is_blocks : K.lookup f_is_blocks = some ⟨oc_is_blocks, od_is_blocks, .func (PySem.W.fnOf "is_blocks" "is_blocks" (defArgs s_is_blocks) (defBody s_is_blocks) (defScope s_is_blocks) .none kV_is_blocks dc_is_blocks pm_is_blocks an_is_blocks cd_is_blocks ct_is_blocks), sl_is_blocks⟩) (e_is_blocks : PySem.W.codeIn K cd_is_blocks "is_blocks" = true) (k_is_blocks : PySem.W.keepIn K (.ref f_is_blocks) = true)
    (a_is_block : PySem.W.nsIn K mainGlobals "is_block" = some (some (.ref f_is_block))) (l_is_block : K.lookup f_is_block = some ⟨oc_is_block, od_is_block, .func (PySem.W.fnOf "is_block" "is_block" (defArgs s_is_block) (defBody s_is_block) (defScope s_is_block) .none kV_is_block dc_is_block pm_is_block an_is_block cd_is_block ct_is_block), sl_is_block⟩) (e_is_block : PySem.W.codeIn K cd_is_block "is_block" = true) (k_is_block : PySem.W.keepIn K (.ref f_is_block) = true)
    (a_is_plain_block : PySem.W.nsIn K mainGlobals "is_plain_block" = some (some (.ref f_is_plain_block))) (l_is_plain_block : K.lookup f_is_plain_block = some ⟨oc_is_plain_block, od_is_plain_block, .func (PySem.W.fnOf "is_plain_block" "is_plain_block" (defArgs s_is_plain_block) (defBody s_is_plain_block) (defScope s_is_plain_block) .none kV_is_plain_block dc_is_plain_block pm_is_plain_block an_is_plain_block cd_is_plain_block ct_is_plain_block), sl_is_plain_block⟩) (e_is_plain_block : PySem.W.codeIn K cd_is_plain_block "is_plain_block" = true) (k_is_plain_block : PySem.W.keepIn K (.ref f_is_plain_block) = true)
    (a_is_list : PySem.W.nsIn K mainGlobals "is_list" = some (some (.ref f_is_list))) (l_is_list : K.lookup f_is_list = some ⟨oc_is_list, od_is_list, .func (PySem.W.fnOf "is_list" "is_list" (defArgs s_is_list) (defBody s_is_list) (defScope s_is_list) .none kV_is_list dc_is_list pm_is_list an_is_list cd_is_list ct_is_list), sl_is_list⟩) (e_is_list : PySem.W.codeIn K cd_is_list "is_list" = true) (k_is_list : PySem.W.keepIn K (.ref f_is_list) = true)
    (a_is_tree : PySem.W.nsIn K mainGlobals "is_tree" = some (some (.ref f_is_tree))) (l_is_tree : K.lookup f_is_tree = some ⟨oc_is_tree, od_is_tree, .func (PySem.W.fnOf "is_tree" "is_tree" (defArgs s_is_tree) (defBody s_is_tree) (defScope s_is_tree) .none kV_is_tree dc_is_tree pm_is_tree an_is_tree cd_is_tree ct_is_tree), sl_is_tree⟩) (e_is_tree : PySem.W.codeIn K cd_is_tree "is_tree" = true) (k_is_tree : PySem.W.keepIn K (.ref f_is_tree) = true)
    (a_k_well : PySem.W.nsIn K mainGlobals "_law_well" = some (some (.ref f_k_well))) (l_k_well : K.lookup f_k_well = some ⟨oc_k_well, od_k_well, .func (PySem.W.fnOf "_law_well" "_law_well" (defArgs s_k_well) (defBody s_k_well) (defScope s_k_well) .none kV_k_well dc_k_well pm_k_well an_k_well cd_k_well ct_k_well), sl_k_well⟩) (e_k_well : PySem.W.codeIn K cd_k_well "_law_well" = true) (k_k_well : PySem.W.keepIn K (.ref f_k_well) = true)
    (a_k_draw : PySem.W.nsIn K mainGlobals "_law_draw" = some (some (.ref f_k_draw))) (l_k_draw : K.lookup f_k_draw = some ⟨oc_k_draw, od_k_draw, .func (PySem.W.fnOf "_law_draw" "_law_draw" (defArgs s_k_draw) (defBody s_k_draw) (defScope s_k_draw) .none kV_k_draw dc_k_draw pm_k_draw an_k_draw cd_k_draw ct_k_draw), sl_k_draw⟩) (e_k_draw : PySem.W.codeIn K cd_k_draw "_law_draw" = true) (k_k_draw : PySem.W.keepIn K (.ref f_k_draw) = true)
    (a_k_one : PySem.W.nsIn K mainGlobals "_law_one" = some (some (.ref f_k_one))) (l_k_one : K.lookup f_k_one = some ⟨oc_k_one, od_k_one, .func (PySem.W.fnOf "_law_one" "_law_one" (defArgs s_k_one) (defBody s_k_one) (defScope s_k_one) .none kV_k_one dc_k_one pm_k_one an_k_one cd_k_one ct_k_one), sl_k_one⟩) (e_k_one : PySem.W.codeIn K cd_k_one "_law_one" = true) (k_k_one : PySem.W.keepIn K (.ref f_k_one) = true)
    (a_k_words : PySem.W.nsIn K mainGlobals "_law_words" = some (some (.ref f_k_words))) (l_k_words : K.lookup f_k_words = some ⟨oc_k_words, od_k_words, .func (PySem.W.fnOf "_law_words" "_law_words" (defArgs s_k_words) (defBody s_k_words) (defScope s_k_words) .none kV_k_words dc_k_words pm_k_words an_k_words cd_k_words ct_k_words), sl_k_words⟩) (e_k_words : PySem.W.codeIn K cd_k_words "_law_words" = true) (k_k_words : PySem.W.keepIn K (.ref f_k_words) = true)
    (a_k_target : PySem.W.nsIn K mainGlobals "_law_target" = some (some (.ref f_k_target))) (l_k_target : K.lookup f_k_target = some ⟨oc_k_target, od_k_target, .func (PySem.W.fnOf "_law_target" "_law_target" (defArgs s_k_target) (defBody s_k_target) (defScope s_k_target) .none kV_k_target dc_k_target pm_k_target an_k_target cd_k_target ct_k_target), sl_k_target⟩) (e_k_target : PySem.W.codeIn K cd_k_target "_law_target" = true) (k_k_target : PySem.W.keepIn K (.ref f_k_target) = true)
    (a_k_inlines : PySem.W.nsIn K mainGlobals "_law_inlines" = some (some (.ref f_k_inlines))) (l_k_inlines : K.lookup f_k_inlines = some ⟨oc_k_inlines, od_k_inlines, .func (PySem.W.fnOf "_law_inlines" "_law_inlines" (defArgs s_k_inlines) (defBody s_k_inlines) (defScope s_k_inlines) .none kV_k_inlines dc_k_inlines pm_k_inlines an_k_inlines cd_k_inlines ct_k_inlines), sl_k_inlines⟩) (e_k_inlines : PySem.W.codeIn K cd_k_inlines "_law_inlines" = true) (k_k_inlines : PySem.W.keepIn K (.ref f_k_inlines) = true)
    (a_k_block : PySem.W.nsIn K mainGlobals "_law_block" = some (some (.ref f_k_block))) (l_k_block : K.lookup f_k_block = some ⟨oc_k_block, od_k_block, .func (PySem.W.fnOf "_law_block" "_law_block" (defArgs s_k_block) (defBody s_k_block) (defScope s_k_block) .none kV_k_block dc_k_block pm_k_block an_k_block cd_k_block ct_k_block), sl_k_block⟩) (e_k_block : PySem.W.codeIn K cd_k_block "_law_block" = true) (k_k_block : PySem.W.keepIn K (.ref f_k_block) = true)
    (a_k_blocks : PySem.W.nsIn K mainGlobals "_law_blocks" = some (some (.ref f_k_blocks))) (l_k_blocks : K.lookup f_k_blocks = some ⟨oc_k_blocks, od_k_blocks, .func (PySem.W.fnOf "_law_blocks" "_law_blocks" (defArgs s_k_blocks) (defBody s_k_blocks) (defScope s_k_blocks) .none kV_k_blocks dc_k_blocks pm_k_blocks an_k_blocks cd_k_blocks ct_k_blocks), sl_k_blocks⟩) (e_k_blocks : PySem.W.codeIn K cd_k_blocks "_law_blocks" = true) (k_k_blocks : PySem.W.keepIn K (.ref f_k_blocks) = true)
    (a_k_wrong : PySem.W.nsIn K mainGlobals "_law_wrong" = some (some (.ref f_k_wrong))) (l_k_wrong : K.lookup f_k_wrong = some ⟨oc_k_wrong, od_k_wrong, .func (PySem.W.fnOf "_law_wrong" "_law_wrong" (defArgs s_k_wrong) (defBody s_k_wrong) (defScope s_k_wrong) .none kV_k_wrong dc_k_wrong pm_k_wrong an_k_wrong cd_k_wrong ct_k_wrong), sl_k_wrong⟩) (e_k_wrong : PySem.W.codeIn K cd_k_wrong "_law_wrong" = true) (k_k_wrong : PySem.W.keepIn K (.ref f_k_wrong) = true)
    (a_k_deep_right : PySem.W.nsIn K mainGlobals "_law_deep_right" = some (some (.ref f_k_deep_right))) (l_k_deep_right : K.lookup f_k_deep_right = some ⟨oc_k_deep_right, od_k_deep_right, .func (PySem.W.fnOf "_law_deep_right" "_law_deep_right" (defArgs s_k_deep_right) (defBody s_k_deep_right) (defScope s_k_deep_right) .none kV_k_deep_right dc_k_deep_right pm_k_deep_right an_k_deep_right cd_k_deep_right ct_k_deep_right), sl_k_deep_right⟩) (e_k_deep_right : PySem.W.codeIn K cd_k_deep_right "_law_deep_right" = true) (k_k_deep_right : PySem.W.keepIn K (.ref f_k_deep_right) = true)
    (a_law : PySem.W.nsIn K mainGlobals "law" = some (some (.ref f_law))) (l_law : K.lookup f_law = some ⟨oc_law, od_law, .func (PySem.W.fnOf "law" "law" (defArgs s_law) (defBody s_law) (defScope s_law) .none kV_law dc_law pm_law an_law cd_law ct_law), sl_law⟩) (e_law : PySem.W.codeIn K cd_law "law" = true) (k_law : PySem.W.keepIn K (.ref f_law) = true)
    {t_PUNCTUATION : Tok} (g_PUNCTUATION : PySem.W.nsIn K mainGlobals "PUNCTUATION" = some (some (.str (PySem.Str.ofString "!\"#$&'()*+,-./:;<=>?\x40[\\]^_`{|}~") t_PUNCTUATION)))
    {t_LETTERS : Tok} (g_LETTERS : PySem.W.nsIn K mainGlobals "LETTERS" = some (some (.str (PySem.Str.ofString "abcdefghijklmnopqrstuvwxyzABCDEFGHIJKLMNOPQRSTUVWXYZ") t_LETTERS)))
    {t_DIGITS : Tok} (g_DIGITS : PySem.W.nsIn K mainGlobals "DIGITS" = some (some (.str (PySem.Str.ofString "0123456789") t_DIGITS)))
    {t_WHITE : Tok} (g_WHITE : PySem.W.nsIn K mainGlobals "WHITE" = some (some (.str (PySem.Str.ofString " \t\n") t_WHITE)))
    {t_MOST_LABEL : Tok} (g_MOST_LABEL : PySem.W.nsIn K mainGlobals "MOST_LABEL" = some (some (.int 999 t_MOST_LABEL)))
    {a_c_PLAIN_INLINES : Addr} {od_c_PLAIN_INLINES : Option Addr} {n_c_PLAIN_INLINES : Nat} {sl_c_PLAIN_INLINES : Array (Option Value)} {t_PLAIN_INLINES_0 t_PLAIN_INLINES_1 : Tok} (g_PLAIN_INLINES : PySem.W.nsIn K mainGlobals "PLAIN_INLINES" = some (some (.ref a_c_PLAIN_INLINES))) (h_PLAIN_INLINES : K.lookup a_c_PLAIN_INLINES = some ⟨.type "tuple", od_c_PLAIN_INLINES, .seq #[.str (PySem.Str.ofString "soft") t_PLAIN_INLINES_0, .str (PySem.Str.ofString "hard") t_PLAIN_INLINES_1] n_c_PLAIN_INLINES, sl_c_PLAIN_INLINES⟩)
    {a_c_TEXT_INLINES : Addr} {od_c_TEXT_INLINES : Option Addr} {n_c_TEXT_INLINES : Nat} {sl_c_TEXT_INLINES : Array (Option Value)} {t_TEXT_INLINES_0 t_TEXT_INLINES_1 t_TEXT_INLINES_2 : Tok} (g_TEXT_INLINES : PySem.W.nsIn K mainGlobals "TEXT_INLINES" = some (some (.ref a_c_TEXT_INLINES))) (h_TEXT_INLINES : K.lookup a_c_TEXT_INLINES = some ⟨.type "tuple", od_c_TEXT_INLINES, .seq #[.str (PySem.Str.ofString "text") t_TEXT_INLINES_0, .str (PySem.Str.ofString "code") t_TEXT_INLINES_1, .str (PySem.Str.ofString "html") t_TEXT_INLINES_2] n_c_TEXT_INLINES, sl_c_TEXT_INLINES⟩)
    {a_c_HOLDERS : Addr} {od_c_HOLDERS : Option Addr} {n_c_HOLDERS : Nat} {sl_c_HOLDERS : Array (Option Value)} {t_HOLDERS_0 t_HOLDERS_1 : Tok} (g_HOLDERS : PySem.W.nsIn K mainGlobals "HOLDERS" = some (some (.ref a_c_HOLDERS))) (h_HOLDERS : K.lookup a_c_HOLDERS = some ⟨.type "tuple", od_c_HOLDERS, .seq #[.str (PySem.Str.ofString "emph") t_HOLDERS_0, .str (PySem.Str.ofString "strong") t_HOLDERS_1] n_c_HOLDERS, sl_c_HOLDERS⟩)
    {a_c_SIGNS : Addr} {od_c_SIGNS : Option Addr} {n_c_SIGNS : Nat} {sl_c_SIGNS : Array (Option Value)} {t_SIGNS_0 t_SIGNS_1 t_SIGNS_2 t_SIGNS_3 t_SIGNS_4 : Tok} (g_SIGNS : PySem.W.nsIn K mainGlobals "SIGNS" = some (some (.ref a_c_SIGNS))) (h_SIGNS : K.lookup a_c_SIGNS = some ⟨.type "tuple", od_c_SIGNS, .seq #[.str (PySem.Str.ofString "-") t_SIGNS_0, .str (PySem.Str.ofString "+") t_SIGNS_1, .str (PySem.Str.ofString "*") t_SIGNS_2, .str (PySem.Str.ofString ".") t_SIGNS_3, .str (PySem.Str.ofString ")") t_SIGNS_4] n_c_SIGNS, sl_c_SIGNS⟩)
    {t_MOST_START : Tok} (g_MOST_START : PySem.W.nsIn K mainGlobals "MOST_START" = some (some (.int 999999999 t_MOST_START)))
    {t_MOST_DEEP : Tok} (g_MOST_DEEP : PySem.W.nsIn K mainGlobals "MOST_DEEP" = some (some (.int 100 t_MOST_DEEP)))
    (n_enumerate : PySem.W.nsIn K mainGlobals "enumerate" = some none)
    (n_len : PySem.W.nsIn K mainGlobals "len" = some none)
    (n_str : PySem.W.nsIn K mainGlobals "str" = some none)
    (n_isinstance : PySem.W.nsIn K mainGlobals "isinstance" = some none)
    (n_int : PySem.W.nsIn K mainGlobals "int" = some none)
    (n_bool : PySem.W.nsIn K mainGlobals "bool" = some none)
    (n_tuple : PySem.W.nsIn K mainGlobals "tuple" = some none)
    (n_any : PySem.W.nsIn K mainGlobals "any" = some none)
    (n_all : PySem.W.nsIn K mainGlobals "all" = some none)
    (n_zip : PySem.W.nsIn K mainGlobals "zip" = some none)
    (n_range : PySem.W.nsIn K mainGlobals "range" = some none)
    (n_list : PySem.W.nsIn K mainGlobals "list" = some none) :
    ∃ fd : FuncData, (∀ (s : Shared) (v : Value), BindsTo s fd ⟨[v], []⟩ [("_law_script", v)]) ∧ ∀ base : Heap, K.In base → base.Ns mainGlobals mg → FnOk l.prog w K mg base CX0 311 fa fd ["_law_script"] (spLaw K) := by
  have e := hfa.symm.trans (PySem.W.mg_of X G a_law)
  cases e
  have T : Txt K mg := {
    D_is_punctuation := def_mk X G a_is_punctuation l_is_punctuation e_is_punctuation k_is_punctuation fun _ _ _ _ _ _ us hl => match us, hl with | [_], _ => rfl,
    D_first_wrong := def_mk X G a_first_wrong l_first_wrong e_first_wrong k_first_wrong fun _ _ _ _ _ _ us hl => match us, hl with | [_], _ => rfl,
    D_is_escape := def_mk X G a_is_escape l_is_escape e_is_escape k_is_escape fun _ _ _ _ _ _ us hl => match us, hl with | [_, _], _ => rfl,
    D_label_end := def_mk X G a_label_end l_label_end e_label_end k_label_end fun _ _ _ _ _ _ us hl => match us, hl with | [_, _], _ => rfl,
    D_is_label_text := def_mk X G a_is_label_text l_is_label_text e_is_label_text k_is_label_text fun _ _ _ _ _ _ us hl => match us, hl with | [_], _ => rfl,
    D_normalised := def_mk X G a_normalised l_normalised e_normalised k_normalised fun _ _ _ _ _ _ us hl => match us, hl with | [_], _ => rfl,
    D_is_text := def_mk X G a_is_text l_is_text e_is_text k_is_text fun _ _ _ _ _ _ us hl => match us, hl with | [_], _ => rfl,
    D_is_between := def_mk X G a_is_between l_is_between e_is_between k_is_between fun _ _ _ _ _ _ us hl => match us, hl with | [_, _, _], _ => rfl,
    D_is_node := def_mk X G a_is_node l_is_node e_is_node k_is_node fun _ _ _ _ _ _ us hl => match us, hl with | [_, _, _], _ => rfl,
    D_has_lines := def_mk X G a_has_lines l_has_lines e_has_lines k_has_lines fun _ _ _ _ _ _ us hl => match us, hl with | [_], _ => rfl,
    D_is_target := def_mk X G a_is_target l_is_target e_is_target k_is_target fun _ _ _ _ _ _ us hl => match us, hl with | [_, _], _ => rfl,
    D_is_inlines := def_mk X G a_is_inlines l_is_inlines e_is_inlines k_is_inlines fun _ _ _ _ _ _ us hl => match us, hl with | [_, _, _], _ => rfl,
    D_is_inline := def_mk X G a_is_inline l_is_inline e_is_inline k_is_inline fun _ _ _ _ _ _ us hl => match us, hl with | [_, _, _], _ => rfl,
    D_is_blocks := def_mk X G a_is_blocks l_is_blocks e_is_blocks k_is_blocks fun _ _ _ _ _ _ us hl => match us, hl with | [_, _], _ => rfl,
    D_is_block := def_mk X G a_is_block l_is_block e_is_block k_is_block fun _ _ _ _ _ _ us hl => match us, hl with | [_, _], _ => rfl,
    D_is_plain_block := def_mk X G a_is_plain_block l_is_plain_block e_is_plain_block k_is_plain_block fun _ _ _ _ _ _ us hl => match us, hl with | [_], _ => rfl,
    D_is_list := def_mk X G a_is_list l_is_list e_is_list k_is_list fun _ _ _ _ _ _ us hl => match us, hl with | [_, _], _ => rfl,
    D_is_tree := def_mk X G a_is_tree l_is_tree e_is_tree k_is_tree fun _ _ _ _ _ _ us hl => match us, hl with | [_], _ => rfl,
    D_k_well := def_mk X G a_k_well l_k_well e_k_well k_k_well fun _ _ _ _ _ _ us hl => match us, hl with | [_], _ => rfl,
    D_k_draw := def_mk X G a_k_draw l_k_draw e_k_draw k_k_draw fun _ _ _ _ _ _ us hl => match us, hl with | [_, _], _ => rfl,
    D_k_one := def_mk X G a_k_one l_k_one e_k_one k_k_one fun _ _ _ _ _ _ us hl => match us, hl with | [_, _], _ => rfl,
    D_k_words := def_mk X G a_k_words l_k_words e_k_words k_k_words fun _ _ _ _ _ _ us hl => match us, hl with | [_], _ => rfl,
    D_k_target := def_mk X G a_k_target l_k_target e_k_target k_k_target fun _ _ _ _ _ _ us hl => match us, hl with | [_], _ => rfl,
    D_k_inlines := def_mk X G a_k_inlines l_k_inlines e_k_inlines k_k_inlines fun _ _ _ _ _ _ us hl => match us, hl with | [_, _, _], _ => rfl,
    D_k_block := def_mk X G a_k_block l_k_block e_k_block k_k_block fun _ _ _ _ _ _ us hl => match us, hl with | [_, _], _ => rfl,
    D_k_blocks := def_mk X G a_k_blocks l_k_blocks e_k_blocks k_k_blocks fun _ _ _ _ _ _ us hl => match us, hl with | [_, _], _ => rfl,
    D_k_wrong := def_mk X G a_k_wrong l_k_wrong e_k_wrong k_k_wrong fun _ _ _ _ _ _ us hl => match us, hl with | [_], _ => rfl,
    D_k_deep_right := def_mk X G a_k_deep_right l_k_deep_right e_k_deep_right k_k_deep_right fun _ _ _ _ _ _ us hl => match us, hl with | [_], _ => rfl,
    D_law := def_mk X G a_law l_law e_law k_law fun _ _ _ _ _ _ us hl => match us, hl with | [_], _ => rfl,
    g_PUNCTUATION := ⟨_, PySem.W.mg_of X G g_PUNCTUATION⟩,
    g_LETTERS := ⟨_, PySem.W.mg_of X G g_LETTERS⟩,
    g_DIGITS := ⟨_, PySem.W.mg_of X G g_DIGITS⟩,
    g_WHITE := ⟨_, PySem.W.mg_of X G g_WHITE⟩,
    g_MOST_LABEL := ⟨_, PySem.W.mg_of X G g_MOST_LABEL⟩,
    g_PLAIN_INLINES := glob_tup X G g_PLAIN_INLINES h_PLAIN_INLINES (show 2 ≤ sizeLine from by decide) (xs := [.str _, .str _]) (.cons ⟨_, rfl⟩ (.cons ⟨_, rfl⟩ (.nil))) fun _ => .cons (.str _) (.cons (.str _) (.nil)),
    g_TEXT_INLINES := glob_tup X G g_TEXT_INLINES h_TEXT_INLINES (show 3 ≤ sizeLine from by decide) (xs := [.str _, .str _, .str _]) (.cons ⟨_, rfl⟩ (.cons ⟨_, rfl⟩ (.cons ⟨_, rfl⟩ (.nil)))) fun _ => .cons (.str _) (.cons (.str _) (.cons (.str _) (.nil))),
    g_HOLDERS := glob_tup X G g_HOLDERS h_HOLDERS (show 2 ≤ sizeLine from by decide) (xs := [.str _, .str _]) (.cons ⟨_, rfl⟩ (.cons ⟨_, rfl⟩ (.nil))) fun _ => .cons (.str _) (.cons (.str _) (.nil)),
    g_SIGNS := glob_tup X G g_SIGNS h_SIGNS (show 5 ≤ sizeLine from by decide) (xs := [.str _, .str _, .str _, .str _, .str _]) (.cons ⟨_, rfl⟩ (.cons ⟨_, rfl⟩ (.cons ⟨_, rfl⟩ (.cons ⟨_, rfl⟩ (.cons ⟨_, rfl⟩ (.nil)))))) fun _ => .cons (.str _) (.cons (.str _) (.cons (.str _) (.cons (.str _) (.cons (.str _) (.nil))))),
    g_MOST_START := ⟨_, PySem.W.mg_of X G g_MOST_START⟩,
    g_MOST_DEEP := ⟨_, PySem.W.mg_of X G g_MOST_DEEP⟩,
    n_enumerate := PySem.W.mg_none_of X G n_enumerate,
    n_len := PySem.W.mg_none_of X G n_len,
    n_str := PySem.W.mg_none_of X G n_str,
    n_isinstance := PySem.W.mg_none_of X G n_isinstance,
    n_int := PySem.W.mg_none_of X G n_int,
    n_bool := PySem.W.mg_none_of X G n_bool,
    n_tuple := PySem.W.mg_none_of X G n_tuple,
    n_any := PySem.W.mg_none_of X G n_any,
    n_all := PySem.W.mg_none_of X G n_all,
    n_zip := PySem.W.mg_none_of X G n_zip,
    n_range := PySem.W.mg_none_of X G n_range,
    n_list := PySem.W.mg_none_of X G n_list }
  exact ⟨_, fun s v => .of_eq rfl, fun base _ _ => all_law T (fun_mk (st := s_law) l_law e_law k_law)⟩
theorem walk {l : PySem.W.OpenLaw} {q : Program} {loose : List Str} {XP : (Str → Option Value) → Heap → Prop} {YP : World → Heap → Prop} {d : DefRec} {K : Params → Fr} (hn : l.most = some 63) (hdf : d.params.defaults = [])
    (hY : ∀ (w : World) (h : Heap), YP w h → (K w.params).In h)
    (F : ∀ (w : World) (mg : Str → Option Value) (fa : Addr) (h : Heap), (K w.params).In h → h.Ns mainGlobals mg → mg d.name = some (.ref fa) →
      ∃ fd : FuncData, (∀ (s : Shared) (u : Value), BindsTo s fd ⟨[u], []⟩ [("_law_script", u)]) ∧ ∀ base : Heap, (K w.params).In base → base.Ns mainGlobals mg → FnOk l.prog w (K w.params) mg base CX0 311 fa fd ["_law_script"] (spLaw (K w.params))) :
    PySem.W.WalkO q loose XP YP l.row.toRowW d [] (fun f vs => PySem.call f vs) :=
  L2.walk_of (n := 63) (k := 105) (x := "_law_script") (CX := fun _ => CX0) (sp := fun w => spLaw (K w.params)) hn (by decide) hdf ⟨rfl, by decide, by decide⟩ hY (fun w mg fa h a b c => (F w mg fa h a b c).imp fun _ r => ⟨r.1, fun base p q => (r.2 base p q).kit (by decide) (by decide)⟩) (fun _ _ a ns hl _ hS => ⟨a, ns, rfl, hl, hS, fun _ => rfl⟩) fun _ _ _ _ _ z => z
end Pm.plainmark_k02_what_is_a_tree
open PySem PySem.W PyProof.Rows in
set_option maxRecDepth 100000 in
set_option maxHeartbeats 0 in
theorem PySem.Challenge.cw_plainmark_k02_what_is_a_tree_holds : PySem.Challenge.rw_plainmark_k02_what_is_a_tree.Holds := by
  w_on; o_law; k_head; (case hw => w_witness2)
  k_fill
  refine Pm.plainmark_k02_what_is_a_tree.walk (l := PySem.Challenge.rw_plainmark_k02_what_is_a_tree) rfl rfl (fun w h Y => PySem.W.kIn_of Y) ?F
  case F =>
    intro w mg fa h KX G hmg
    refine' Pm.plainmark_k02_what_is_a_tree.all_mk KX G hmg ?a_is_punctuation ?l_is_punctuation ?e_is_punctuation ?k_is_punctuation ?a_first_wrong ?l_first_wrong ?e_first_wrong ?k_first_wrong ?a_is_escape ?l_is_escape ?e_is_escape ?k_is_escape ?a_label_end ?l_label_end ?e_label_end ?k_label_end ?a_is_label_text ?l_is_label_text ?e_is_label_text ?k_is_label_text ?a_normalised ?l_normalised ?e_normalised ?k_normalised ?a_is_text ?l_is_text ?e_is_text ?k_is_text ?a_is_between ?l_is_between ?e_is_between ?k_is_between ?a_is_node ?l_is_node ?e_is_node ?k_is_node ?a_has_lines ?l_has_lines ?e_has_lines ?k_has_lines ?a_is_target ?l_is_target ?e_is_target ?k_is_target ?a_is_inlines ?l_is_inlines ?e_is_inlines ?k_is_inlines ?a_is_inline ?l_is_inline ?e_is_inline ?k_is_inline ?a_is_blocks ?l_is_blocks ?e_is_blocks ?k_is_blocks ?a_is_block ?l_is_block ?e_is_block ?k_is_block ?a_is_plain_block ?l_is_plain_block ?e_is_plain_block ?k_is_plain_block ?a_is_list ?l_is_list ?e_is_list ?k_is_list ?a_is_tree ?l_is_tree ?e_is_tree ?k_is_tree ?a_k_well ?l_k_well ?e_k_well ?k_k_well ?a_k_draw ?l_k_draw ?e_k_draw ?k_k_draw ?a_k_one ?l_k_one ?e_k_one ?k_k_one ?a_k_words ?l_k_words ?e_k_words ?k_k_words ?a_k_target ?l_k_target ?e_k_target ?k_k_target ?a_k_inlines ?l_k_inlines ?e_k_inlines ?k_k_inlines ?a_k_block ?l_k_block ?e_k_block ?k_k_block ?a_k_blocks ?l_k_blocks ?e_k_blocks ?k_k_blocks ?a_k_wrong ?l_k_wrong ?e_k_wrong ?k_k_wrong ?a_k_deep_right ?l_k_deep_right ?e_k_deep_right ?k_k_deep_right ?a_law ?l_law ?e_law ?k_law ?g_PUNCTUATION ?g_LETTERS ?g_DIGITS ?g_WHITE ?g_MOST_LABEL ?g_PLAIN_INLINES ?h_PLAIN_INLINES ?g_TEXT_INLINES ?h_TEXT_INLINES ?g_HOLDERS ?h_HOLDERS ?g_SIGNS ?h_SIGNS ?g_MOST_START ?g_MOST_DEEP ?n_enumerate ?n_len ?n_str ?n_isinstance ?n_int ?n_bool ?n_tuple ?n_any ?n_all ?n_zip ?n_range ?n_list
    (case a_is_punctuation => k_is)
    (case l_is_punctuation => k_is)
    (case e_is_punctuation => k_is)
    (case k_is_punctuation => k_is)
    (case a_first_wrong => k_is)
    (case l_first_wrong => k_is)
    (case e_first_wrong => k_is)
    (case k_first_wrong => k_is)
    (case a_is_escape => k_is)
    (case l_is_escape => k_is)
    (case e_is_escape => k_is)
    (case k_is_escape => k_is)
    (case a_label_end => k_is)
    (case l_label_end => k_is)
    (case e_label_end => k_is)
    (case k_label_end => k_is)
    (case a_is_label_text => k_is)
    (case l_is_label_text => k_is)
    (case e_is_label_text => k_is)
    (case k_is_label_text => k_is)
    (case a_normalised => k_is)
    (case l_normalised => k_is)
    (case e_normalised => k_is)
    (case k_normalised => k_is)
    (case a_is_text => k_is)
    (case l_is_text => k_is)
    (case e_is_text => k_is)
    (case k_is_text => k_is)
    (case a_is_between => k_is)
    (case l_is_between => k_is)
    (case e_is_between => k_is)
    (case k_is_between => k_is)
    (case a_is_node => k_is)
    (case l_is_node => k_is)
    (case e_is_node => k_is)
    (case k_is_node => k_is)
    (case a_has_lines => k_is)
    (case l_has_lines => k_is)
    (case e_has_lines => k_is)
    (case k_has_lines => k_is)
    (case a_is_target => k_is)
    (case l_is_target => k_is)
    (case e_is_target => k_is)
    (case k_is_target => k_is)
    (case a_is_inlines => k_is)
    (case l_is_inlines => k_is)
    (case e_is_inlines => k_is)
    (case k_is_inlines => k_is)
    (case a_is_inline => k_is)
    (case l_is_inline => k_is)
    (case e_is_inline => k_is)
    (case k_is_inline => k_is)
    (case a_is_blocks => k_is)
    (case l_is_blocks => k_is)
    (case e_is_blocks => k_is)
    (case k_is_blocks => k_is)
    (case a_is_block => k_is)
    (case l_is_block => k_is)
    (case e_is_block => k_is)
    (case k_is_block => k_is)
    (case a_is_plain_block => k_is)
    (case l_is_plain_block => k_is)
    (case e_is_plain_block => k_is)
    (case k_is_plain_block => k_is)
    (case a_is_list => k_is)
    (case l_is_list => k_is)
    (case e_is_list => k_is)
    (case k_is_list => k_is)
    (case a_is_tree => k_is)
    (case l_is_tree => k_is)
    (case e_is_tree => k_is)
    (case k_is_tree => k_is)
    (case a_k_well => k_is)
    (case l_k_well => k_is)
    (case e_k_well => k_is)
    (case k_k_well => k_is)
    (case a_k_draw => k_is)
    (case l_k_draw => k_is)
    (case e_k_draw => k_is)
    (case k_k_draw => k_is)
    (case a_k_one => k_is)
    (case l_k_one => k_is)
    (case e_k_one => k_is)
    (case k_k_one => k_is)
    (case a_k_words => k_is)
    (case l_k_words => k_is)
    (case e_k_words => k_is)
    (case k_k_words => k_is)
    (case a_k_target => k_is)
    (case l_k_target => k_is)
    (case e_k_target => k_is)
    (case k_k_target => k_is)
    (case a_k_inlines => k_is)
    (case l_k_inlines => k_is)
    (case e_k_inlines => k_is)
    (case k_k_inlines => k_is)
    (case a_k_block => k_is)
    (case l_k_block => k_is)
    (case e_k_block => k_is)
    (case k_k_block => k_is)
    (case a_k_blocks => k_is)
    (case l_k_blocks => k_is)
    (case e_k_blocks => k_is)
    (case k_k_blocks => k_is)
    (case a_k_wrong => k_is)
    (case l_k_wrong => k_is)
    (case e_k_wrong => k_is)
    (case k_k_wrong => k_is)
    (case a_k_deep_right => k_is)
    (case l_k_deep_right => k_is)
    (case e_k_deep_right => k_is)
    (case k_k_deep_right => k_is)
    (case a_law => k_is)
    (case l_law => k_is)
    (case e_law => k_is)
    (case k_law => k_is)
    (case g_PUNCTUATION => k_is)
    (case g_LETTERS => k_is)
    (case g_DIGITS => k_is)
    (case g_WHITE => k_is)
    (case g_MOST_LABEL => k_is)
    (case g_PLAIN_INLINES => k_is)
    (case h_PLAIN_INLINES => k_is)
    (case g_TEXT_INLINES => k_is)
    (case h_TEXT_INLINES => k_is)
    (case g_HOLDERS => k_is)
    (case h_HOLDERS => k_is)
    (case g_SIGNS => k_is)
    (case h_SIGNS => k_is)
    (case g_MOST_START => k_is)
    (case g_MOST_DEEP => k_is)
    (case n_enumerate => k_is)
    (case n_len => k_is)
    (case n_str => k_is)
    (case n_isinstance => k_is)
    (case n_int => k_is)
    (case n_bool => k_is)
    (case n_tuple => k_is)
    (case n_any => k_is)
    (case n_all => k_is)
    (case n_zip => k_is)
    (case n_range => k_is)
    (case n_list => k_is)

