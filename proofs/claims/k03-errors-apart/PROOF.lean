import PyProof.Rows.All
import Wide.All
import OpenK.AllK
import Wide.FinOn
import HandS.ForMost
import KE.GoesMore
import HandS.Wide
import HandS.TupAny
import HandS.StrMore
import HandS.Flow
import HandS.Style
import HandS.IsInst
import HandS.Zip
import KE.KxPercentT
import HandS.Replace
import HandS.More
import HandS.Iter
import PyProof.ReprRoads
import PyProof.Rows.NestShow
import HandS.ExcInit
import HandS.ExcValue
import HandS.ExcIs
import HandS.Defaults
import HandS.ExcField
import PySem.Challenge.RW_plainmark_k03_errors_apart
set_option Elab.async false
set_option linter.all false
set_option maxRecDepth 100000
set_option maxHeartbeats 2000000
/-! enumerate(text): each sign in a new pair with its place -/
namespace Pm
open PySem PySem.Spec PyProof.Rows L2
def IteS (x : Str) : It :=
  ⟨fun i _ => i < x.cps.size,
   fun i H v H' => ∃ T c, v = .ref T ∧ H T = none ∧ x.cps[i]? = some c ∧ H' = upd H T (.tup [.int (i : Nat), .str ⟨#[c]⟩]),
   fun i _ => x.cps.size ≤ i⟩
theorem turn_enumS {P : Program} {w : World} {K : PySem.W.Frag} {elts : List Expr} {kk : Nat} {tpos : Pos} (x : Str) (t : Tok) (e it : Addr) :
    Turn P w K (.Tuple elts kk tpos) (IteS x) [e, it] e (fun i h => (∃ old, IsEnum h e it ((i : Nat) : Int) old) ∧ h.IsStrIter it (strIterType x) x t i ∧ e ≠ it ∧ i ≤ x.cps.size) where
  mem := by simp
  obj := fun i h st b hb => by
    obtain ⟨⟨old, he⟩, ⟨o, ho, hc, hd⟩, _, _⟩ := st
    have e' : b = e ∨ b = it := by simpa using hb
    rcases e' with z | z
    · rw [z]; exact ⟨_, he, fun v q => nomatch q⟩
    · rw [z]; exact ⟨o, ho, fun v q => by rw [hd] at q; cases q⟩
  keep := fun i h h' st k => let ⟨⟨old, he⟩, ⟨o, ho, r⟩, hne, hle⟩ := st; ⟨⟨old, k e (by simp) _ he⟩, ⟨o, k it (by simp) o ho, r⟩, hne, hle⟩
  item := by
    intro X hP hw hK hc i pins s σ H E I hf st hg
    subst hP hw hK
    obtain ⟨⟨old, he⟩, hit, hne, hle⟩ := st
    have hel : e < s.heap.objs.size := Heap.lt_size he
    have hil : it < s.heap.objs.size := by obtain ⟨_, q, _⟩ := hit; exact Heap.lt_size q
    have D : Draws X.prog X.w X.A.in1 it [it] x.cps.size (fun i v => ∃ c u, x.cps[i]? = some c ∧ v = .str ⟨#[c]⟩ u) (fun i h => h.IsStrIter it (strIterType x) x t i) := Draws.text (show X.A.in1.handled = none from I.ok.hd hc) it x t
    refine wpAny_pyNext_enum_itemD D he hit hg hne (by simpa using hne) fun u h' tk hPx ho hit' hT hsz hk => ?_
    obtain ⟨c, u', hcx, rfl⟩ := hPx
    refine ⟨_, rfl, wpAny_letOwnedTupleGo_enum (s := { s with heap := h', toks := tk + 1 }) ho fun h'' he' sb => ?_⟩
    have hT2 : h''.get? s.heap.objs.size = some { cls := .type "tuple", data := .seq #[.int i tk, .str ⟨#[c]⟩ u'] } := (sb.2 _ (Nat.ne_of_gt hel)).trans hT
    have new : ObjOk X.prog X.w (upd H s.heap.objs.size (.tup [.int (i : Nat), .str ⟨#[c]⟩])) h'' s.heap.objs.size (.tup [.int (i : Nat), .str ⟨#[c]⟩]) :=
      ⟨by show 2 ≤ sizeLine; decide, [.int i tk, .str ⟨#[c]⟩ u'], .cons ⟨_, rfl⟩ (.cons ⟨_, rfl⟩ .nil), ⟨_, hT2, rfl, _, rfl⟩⟩
    have I1 : Inv X pins σ (upd H s.heap.objs.size (.tup [.int (i : Nat), .str ⟨#[c]⟩])) { s with heap := h'', toks := tk + 1 } :=
      I.turnedNew (ch := [e, it]) (fun b ob hb q => (sb.2 b (fun z => hb (by simp [z]))).trans (hk b ob (fun z => hb (by simp [z])) (fun z => hb (by simp [z])) q)) hf (Nat.le_refl _) new
    have e1 : ((i + 1 : Nat) : Int) = (i : Int) + 1 := by omega
    have hgt : i < x.cps.size := hg
    have st2 : h''.IsStrIter it (strIterType x) x t (i + 1) := by
      obtain ⟨o, ho', r⟩ := hit'
      exact ⟨o, (sb.2 it (Ne.symm hne)).trans ho', r⟩
    refine ⟨.ref s.heap.objs.size, _, I1, rfl, ⟨_, c, rfl, I.hok.fresh (Nat.le_refl _), hcx, rfl⟩, ⟨⟨.str ⟨#[c]⟩ u', by rw [e1]; exact he'⟩, st2, hne, hgt⟩, fun b hb => ?_⟩
    · have hb' : b < s.heap.objs.size := by
        have e' : b = e ∨ b = it := by simpa using hb
        rcases e' with z | z
        · rw [z]; exact hel
        · rw [z]; exact hil
      rw [upd_ne (Nat.ne_of_lt hb')]
      exact (hf b hb).1
  done := by
    intro X hP hw hK hc i pins s σ H E I hf st hg
    subst hP hw hK
    obtain ⟨⟨old, he⟩, hit, hne, hle⟩ := st
    obtain ⟨f0, f1, f2, f3, f4, f5⟩ := hf it (by simp)
    have hge : x.cps.size ≤ i := hg
    have hie : i = x.cps.size := Nat.le_antisymm hle hge
    rw [hie] at he hit
    have D : Draws X.prog X.w X.A.in1 it [it] x.cps.size (fun i v => ∃ c u, x.cps[i]? = some c ∧ v = .str ⟨#[c]⟩ u) (fun i h => h.IsStrIter it (strIterType x) x t i) := Draws.text (show X.A.in1.handled = none from I.ok.hd hc) it x t
    exact wpAny_pyNext_enum_endD D he hit fun h' eb => ⟨rfl, I.turned (t' := s.toks) (fun b o hb q => eb b o hb q) f0 f1 f3 f4 f5⟩
  self := fun A i s Q E st h => let ⟨⟨_, he⟩, _⟩ := st; wpAny_pyIter_enum he h
def iEnumS (ta : TA) : TI := fun σ H R => ta σ H fun vs H1 => ∃ x, vs = [.str x] ∧ R (IteS x) H1
theorem pi_enumS {X : Cx} {e : Expr} {ta : TA} {p pos tpos : Pos} {elts : List Expr} {kk : Nat} (hg : Gl X "enumerate") (hm : X.mg "enumerate" = none) (ha : PA X [e] ta) (hs : starEach [e] X.env = [(false, eval e X.env)] := by rfl) :
    PI X (.Tuple elts kk tpos) (.Call (.Name "enumerate" p) [e] [] pos) (iEnumS ta) := by
  refine ⟨fun pins s σ H R I h => ?_⟩
  refine Call_ (ld_blt I hg hm boot_enumerate (PyProof.Rows.callWith_type1 (thn (ha.run pos pins s σ H _ I h) fun us s1 ⟨vs, H1, I1, r1, q1⟩ => ?_) hs rfl))
  obtain ⟨x, ex, q⟩ := q1
  subst ex
  cases r1 with
  | cons r rr =>
    cases rr
    obtain ⟨t, rfl⟩ := r
    refine call_enumerate_str fun h' he hit hsz hk => wpAny_pyIter_enum he ?_
    have I2 : Inv X pins σ H1 { s1 with heap := h' } := I1.kept (t' := s1.toks) hk
    refine ⟨s1.heap.objs.size + 1, [s1.heap.objs.size + 1, s1.heap.objs.size], _, _, H1, rfl, I2, turn_enumS x t (s1.heap.objs.size + 1) s1.heap.objs.size, ⟨⟨.none, he⟩, hit, Nat.succ_ne_self _, Nat.zero_le _⟩, fun b hb => ?_, q⟩
    have e' : b = s1.heap.objs.size + 1 ∨ b = s1.heap.objs.size := by simpa using hb
    have hle : s1.heap.objs.size ≤ b := by
      rcases e' with z | z
      · rw [z]; exact Nat.le_add_right _ _
      · rw [z]; exact Nat.le_refl _
    exact I1.fpOk hle (I1.hok.fresh hle)
end Pm
/-! The data layer: readings over plain data, the heap put away. -/
namespace Pm
open PySem PySem.Spec PyProof.Rows L2
abbrev Fr := PySem.W.Frag
/-- the heap without some addresses -/
def rm (M : List Addr) (H : Hp) : Hp := fun a => if a ∈ M then none else H a
theorem rm_of {M : List Addr} {H : Hp} {a : Addr} {o : HO} (h1 : a ∉ M) (h2 : H a = some o) : rm M H a = some o := by
  unfold rm; rw [if_neg h1]; exact h2
theorem rm_to {M : List Addr} {H : Hp} {a : Addr} {o : HO} (h : rm M H a = some o) : a ∉ M ∧ H a = some o := by
  unfold rm at h
  by_cases c : a ∈ M
  · rw [if_pos c] at h; cases h
  · rw [if_neg c] at h; exact ⟨c, h⟩
theorem rm_le {M : List Addr} {H : Hp} : Same (rm M H) H := fun _ _ e => (rm_to e).2
theorem rm_nil {H : Hp} : rm [] H = H := by funext a; unfold rm; rw [if_neg (by simp)]
theorem rm_upd {M : List Addr} {H : Hp} {a : Addr} {o : HO} (h : a ∈ M) : rm M (upd H a o) = rm M H := by
  funext b; unfold rm
  by_cases c : b ∈ M
  · rw [if_pos c, if_pos c]
  · rw [if_neg c, if_neg c, upd_ne (fun e => c (by rw [e]; exact h))]
theorem same_rd {H H' : Hp} {a : Addr} {u : HO} (e : Same H H') (h : Rd H a u) : Rd H' a u := by
  rcases h with h | ⟨o, h⟩
  · exact .inl (e _ _ h)
  · exact .inr ⟨o, e _ _ h⟩
theorem same_l {K : Fr} {H H' : Hp} {a : Addr} {xs : List V} (e : Same H H') (h : SqL K H a xs) : SqL K H' a xs := by
  rcases h with h | h
  · exact .inl (same_rd e h)
  · exact .inr h
theorem same_t {K : Fr} {H H' : Hp} {a : Addr} {xs : List V} (e : Same H H') (h : SqT K H a xs) : SqT K H' a xs := by
  rcases h with h | h
  · exact .inl (same_rd e h)
  · exact .inr h
/-! data as it stands in the heap: lists are tracked, tuples may be the text its own -/
def kD : Key → PyData
  | .inl i => .int i
  | .inr x => .str x
mutual
inductive Dt (K : Fr) (H : Hp) : V → PyData → Prop
  | non : Dt K H .non .none
  | bl (b : Bool) : Dt K H (.bl b) (.bool b)
  | int (i : Int) : Dt K H (.int i) (.int i)
  | str (x : Str) : Dt K H (.str x) (.str x)
  | lst {a : Addr} {xs : List V} {ds : List PyData} : H a = some (.lst xs) → DtAll K H xs ds → Dt K H (.ref a) (.list ds)
  | tup {a : Addr} {xs : List V} {ds : List PyData} : SqT K H a xs → DtAll K H xs ds → Dt K H (.ref a) (.tuple ds)
  | dic {a : Addr} {o : Obj} {kvs : List (Key × V)} {ds : List (PyData × PyData)} : H a = some (.frz o (.dK kvs)) → DtKv K H kvs ds → Dt K H (.ref a) (.dict ds)
inductive DtAll (K : Fr) (H : Hp) : List V → List PyData → Prop
  | nil : DtAll K H [] []
  | cons {v : V} {vs : List V} {d : PyData} {ds : List PyData} : Dt K H v d → DtAll K H vs ds → DtAll K H (v :: vs) (d :: ds)
inductive DtKv (K : Fr) (H : Hp) : List (Key × V) → List (PyData × PyData) → Prop
  | nil : DtKv K H [] []
  | cons {k : Key} {v : V} {vs : List (Key × V)} {d : PyData} {ds : List (PyData × PyData)} : Dt K H v d → DtKv K H vs ds → DtKv K H ((k, v) :: vs) ((kD k, d) :: ds)
end
mutual
theorem Dt.dp {K : Fr} {H : Hp} : ∀ {v : V} {d : PyData}, Dt K H v d → d.canLay0 = true → Dp K H v d
  | _, _, .non, _ => .non
  | _, _, .bl b, _ => .bl b
  | _, _, .int i, _ => .int i
  | _, _, .str x, _ => .str x
  | _, _, .lst h r, c => .lst (.inl (.inl h)) (DtAll.dp r c)
  | _, _, .tup h r, c => .tup h (DtAll.dp r c)
  | _, _, .dic _ _, c => nomatch c
theorem DtAll.dp {K : Fr} {H : Hp} : ∀ {v : List V} {d : List PyData}, DtAll K H v d → PyData.canLayAll0 d = true → DpAll K H v d
  | _, _, .nil, _ => .nil
  | _, _, .cons h r, c => by
    have q := Bool.and_eq_true_iff.mp (show (_ && _) = true from c)
    exact .cons (Dt.dp h q.1) (DtAll.dp r q.2)
end
mutual
theorem Dt.up {K : Fr} {H H' : Hp} (e : Same H H') : ∀ {v : V} {d : PyData}, Dt K H v d → Dt K H' v d
  | _, _, .non => .non
  | _, _, .bl b => .bl b
  | _, _, .int i => .int i
  | _, _, .str x => .str x
  | _, _, .lst h r => .lst (e _ _ h) (DtAll.up e r)
  | _, _, .tup h r => .tup (same_t e h) (DtAll.up e r)
  | _, _, .dic h r => .dic (e _ _ h) (DtKv.up e r)
theorem DtAll.up {K : Fr} {H H' : Hp} (e : Same H H') : ∀ {v : List V} {d : List PyData}, DtAll K H v d → DtAll K H' v d
  | _, _, .nil => .nil
  | _, _, .cons h r => .cons (Dt.up e h) (DtAll.up e r)
theorem DtKv.up {K : Fr} {H H' : Hp} (e : Same H H') : ∀ {v : List (Key × V)} {d : List (PyData × PyData)}, DtKv K H v d → DtKv K H' v d
  | _, _, .nil => .nil
  | _, _, .cons h r => .cons (Dt.up e h) (DtKv.up e r)
end
theorem DtAll.len {K : Fr} {H : Hp} : ∀ {vs : List V} {ds : List PyData}, DtAll K H vs ds → vs.length = ds.length
  | _, _, .nil => rfl
  | _, _, .cons _ r => by rw [List.length_cons, List.length_cons, DtAll.len r]
theorem DtAll.get {K : Fr} {H : Hp} : ∀ {vs : List V} {ds : List PyData} {i : Nat} {v : V}, DtAll K H vs ds → vs[i]? = some v → ∃ d, ds[i]? = some d ∧ Dt K H v d
  | _, _, _, _, .nil, e => by simp at e
  | _, _, 0, _, .cons h _, e => by simp at e; subst e; exact ⟨_, rfl, h⟩
  | _, _, i + 1, v, .cons _ r, e => by
    obtain ⟨d, h1, h2⟩ := DtAll.get (i := i) (v := v) r (by simpa using e)
    exact ⟨d, by simpa using h1, h2⟩
theorem DtAll.getd {K : Fr} {H : Hp} : ∀ {vs : List V} {ds : List PyData} {i : Nat} {d : PyData}, DtAll K H vs ds → ds[i]? = some d → ∃ v, vs[i]? = some v ∧ Dt K H v d
  | _, _, _, _, .nil, e => by simp at e
  | _, _, 0, _, .cons h _, e => by simp at e; subst e; exact ⟨_, rfl, h⟩
  | _, _, i + 1, d, .cons _ r, e => by
    obtain ⟨v, h1, h2⟩ := DtAll.getd (i := i) (d := d) r (by simpa using e)
    exact ⟨v, by simpa using h1, h2⟩
theorem DtAll.app {K : Fr} {H : Hp} : ∀ {vs us : List V} {ds es : List PyData}, DtAll K H vs ds → DtAll K H us es → DtAll K H (vs ++ us) (ds ++ es)
  | _, _, _, _, .nil, s => s
  | _, _, _, _, .cons h r, s => .cons h (DtAll.app r s)
theorem DtAll.take {K : Fr} {H : Hp} : ∀ {vs : List V} {ds : List PyData} (n : Nat), DtAll K H vs ds → DtAll K H (vs.take n) (ds.take n)
  | _, _, 0, _ => .nil
  | _, _, _ + 1, .nil => .nil
  | _, _, n + 1, .cons h r => .cons h (DtAll.take n r)
theorem DtAll.drop {K : Fr} {H : Hp} : ∀ {vs : List V} {ds : List PyData} (n : Nat), DtAll K H vs ds → DtAll K H (vs.drop n) (ds.drop n)
  | _, _, 0, r => r
  | _, _, _ + 1, .nil => .nil
  | _, _, n + 1, .cons _ r => DtAll.drop n r
theorem DtAll.setAt {K : Fr} {H : Hp} {v : V} {d : PyData} (h : Dt K H v d) : ∀ {vs : List V} {ds : List PyData} (n : Nat), DtAll K H vs ds → DtAll K H (vs.set n v) (ds.set n d)
  | _, _, _, .nil => .nil
  | _, _, 0, .cons _ r => .cons h r
  | _, _, n + 1, .cons q r => .cons q (DtAll.setAt h n r)
/-! what a value of some data is -/
theorem Dt.isInt {K : Fr} {H : Hp} {v : V} {i : Int} (h : Dt K H v (.int i)) : v = .int i := by cases h; rfl
theorem Dt.isStr {K : Fr} {H : Hp} {v : V} {x : Str} (h : Dt K H v (.str x)) : v = .str x := by cases h; rfl
theorem Dt.isBl {K : Fr} {H : Hp} {v : V} {b : Bool} (h : Dt K H v (.bool b)) : v = .bl b := by cases h; rfl
theorem Dt.isNon {K : Fr} {H : Hp} {v : V} (h : Dt K H v .none) : v = .non := by cases h; rfl
theorem Dt.isTup {K : Fr} {H : Hp} {v : V} {ds : List PyData} (h : Dt K H v (.tuple ds)) : ∃ a xs, v = .ref a ∧ SqT K H a xs ∧ DtAll K H xs ds := by
  cases h with | tup h r => exact ⟨_, _, rfl, h, r⟩
theorem Dt.isDic {K : Fr} {H : Hp} {v : V} {ds : List (PyData × PyData)} (h : Dt K H v (.dict ds)) : ∃ a o kvs, v = .ref a ∧ H a = some (.frz o (.dK kvs)) ∧ DtKv K H kvs ds := by
  cases h with | dic h r => exact ⟨_, _, _, rfl, h, r⟩
theorem Dt.isLst {K : Fr} {H : Hp} {v : V} {ds : List PyData} (h : Dt K H v (.list ds)) : ∃ a xs, v = .ref a ∧ H a = some (.lst xs) ∧ DtAll K H xs ds := by
  cases h with | lst h r => exact ⟨_, _, rfl, h, r⟩
/-! ### how a state goes on: M the addresses put away, B those that may change -/
structure Ext (M B : List Addr) (H : Hp) (M' B' : List Addr) (H' : Hp) : Prop where
  m : ∀ a, a ∈ M → a ∈ M'
  new : ∀ a, a ∈ M' → a ∈ M ∨ H a = none
  b : ∀ a, a ∈ B → a ∈ B'
  newb : ∀ a, a ∈ B' → a ∈ B ∨ H a = none
  keep : ∀ a o, a ∉ B → H a = some o → H' a = some o
  live : ∀ a, H' a = none → H a = none
theorem Ext.refl (M B : List Addr) (H : Hp) : Ext M B H M B H := ⟨fun _ h => h, fun _ h => .inl h, fun _ h => h, fun _ h => .inl h, fun _ _ _ e => e, fun _ e => e⟩
theorem Ext.trans {M B M1 B1 M2 B2 : List Addr} {H H1 H2 : Hp} (x : Ext M B H M1 B1 H1) (y : Ext M1 B1 H1 M2 B2 H2) : Ext M B H M2 B2 H2 where
  m := fun a h => y.m a (x.m a h)
  new := fun a h => by
    rcases y.new a h with q | q
    · exact x.new a q
    · exact .inr (x.live a q)
  b := fun a h => y.b a (x.b a h)
  newb := fun a h => by
    rcases y.newb a h with q | q
    · exact x.newb a q
    · exact .inr (x.live a q)
  keep := fun a o nb e => y.keep a o (fun hb => by
    rcases x.newb a hb with q | q
    · exact nb q
    · rw [q] at e; cases e) (x.keep a o nb e)
  live := fun a e => x.live a (y.live a e)
theorem Ext.same {M B : List Addr} {H H' : Hp} (e : Same H H') : Ext M B H M B H' := ⟨fun _ h => h, fun _ h => .inl h, fun _ h => h, fun _ h => .inl h, fun a o _ q => e a o q, fun a q => e.free q⟩
theorem same_new {H : Hp} {p : Addr} {o : HO} (h : H p = none) : Same H (upd H p o) := fun a u e => by
  rw [upd_ne (ne_of_none e h)]; exact e
theorem Ext.rm {M B M' B' : List Addr} {H H' : Hp} (x : Ext M B H M' B' H') (hs : ∀ a, a ∈ B → a ∈ M) : Same (rm M H) (rm M' H') := fun a o e => by
  obtain ⟨h1, h2⟩ := rm_to e
  refine rm_of (fun c => ?_) (x.keep a o (fun c => h1 (hs a c)) h2)
  rcases x.new a c with q | q
  · exact h1 q
  · rw [q] at h2; cases h2
/-! ### what stands in a slot -/
inductive SV where
  | un | dat (d : PyData) | own (ds : List PyData) | bor (l : Addr) (ds : List PyData) | scr (ns : List Int)
def SV.isL : SV → Bool
  | .own _ => true
  | .bor _ _ => true
  | _ => false
abbrev Env := List SV
def SlotOk (K : Fr) (M0 M B : List Addr) (H : Hp) (o : Option (Option V)) : SV → Prop
  | .un => True
  | .dat d => ∃ v, o = some (some v) ∧ Dt K (rm M H) v d
  | .scr ns => ∃ a, o = some (some (.ref a)) ∧ SqL K (rm M H) a (ns.map V.int)
  | .own ds => ∃ l xs, o = some (some (.ref l)) ∧ l ∈ B ∧ l ∉ M0 ∧ H l = some (.lst xs) ∧ DtAll K (rm M H) xs ds
  | .bor l ds => ∃ xs, o = some (some (.ref l)) ∧ l ∈ B ∧ l ∈ M0 ∧ H l = some (.lst xs) ∧ DtAll K (rm M H) xs ds
structure EnvOk (K : Fr) (M0 M B : List Addr) (H : Hp) (σ : L2.St) (ρ : Env) : Prop where
  len : σ.length = ρ.length
  sub : ∀ a, a ∈ B → a ∈ M
  dom : ∀ a, a ∈ M → H a ≠ none
  m0 : ∀ a, a ∈ M0 → a ∈ M
  slot : ∀ (i : Nat) (s : SV), ρ[i]? = some s → SlotOk K M0 M B H (σ[i]?) s
  sep : ∀ (i j : Nat) (s s' : SV) (l : Addr), i ≠ j → ρ[i]? = some s → ρ[j]? = some s' → s.isL = true → s'.isL = true → σ[i]? = some (some (.ref l)) → σ[j]? = some (some (.ref l)) → False
section
variable {K : Fr} {M0 M B M' B' : List Addr} {H H' : Hp} {σ : L2.St} {ρ : Env} {i : Nat} {v : V} {d : PyData}
/-- the heap grew only -/
theorem EnvOk.same (E : EnvOk K M0 M B H σ ρ) (e : Same H H') : EnvOk K M0 M B H' σ ρ where
  len := E.len
  sub := E.sub
  dom := fun a h q => E.dom a h (e.free q)
  m0 := E.m0
  slot := fun i s h => by
    have r := (Ext.same (M := M) (B := B) e).rm E.sub
    have z := E.slot i s h
    cases s with
    | un => trivial
    | dat d => obtain ⟨v, h1, h2⟩ := z; exact ⟨v, h1, Dt.up r h2⟩
    | scr ns => obtain ⟨v, h1, h2⟩ := z; exact ⟨v, h1, same_l r h2⟩
    | own ds => obtain ⟨l, xs, h1, h2, h3, h4, h5⟩ := z; exact ⟨l, xs, h1, h2, h3, e _ _ h4, DtAll.up r h5⟩
    | bor l ds => obtain ⟨xs, h1, h2, h3, h4, h5⟩ := z; exact ⟨xs, h1, h2, h3, e _ _ h4, DtAll.up r h5⟩
  sep := E.sep
theorem EnvOk.fresh (E : EnvOk K M0 M B H σ ρ) {p : Addr} (h : H p = none) : p ∉ M := fun c => E.dom p c h
theorem EnvOk.newt (E : EnvOk K M0 M B H σ ρ) {p : Addr} {xs : List V} {ds : List PyData} (h : H p = none) (r : DtAll K (rm M H) xs ds) : Dt K (rm M (upd H p (.tup xs))) (.ref p) (.tuple ds) :=
  .tup (.inl (.inl (rm_of (E.fresh h) upd_same))) (DtAll.up ((Ext.same (M := M) (B := B) (same_new h)).rm E.sub) r)
theorem EnvOk.newl (E : EnvOk K M0 M B H σ ρ) {p : Addr} {xs : List V} {ds : List PyData} (h : H p = none) (r : DtAll K (rm M H) xs ds) : Dt K (rm M (upd H p (.lst xs))) (.ref p) (.list ds) :=
  .lst (rm_of (E.fresh h) upd_same) (DtAll.up ((Ext.same (M := M) (B := B) (same_new h)).rm E.sub) r)
theorem EnvOk.up (E : EnvOk K M0 M B H σ ρ) (x : Ext M B H M' B' H') (h : Dt K (rm M H) v d) : Dt K (rm M' H') v d := Dt.up (x.rm E.sub) h
theorem EnvOk.upA (E : EnvOk K M0 M B H σ ρ) (x : Ext M B H M' B' H') {vs : List V} {ds : List PyData} (h : DtAll K (rm M H) vs ds) : DtAll K (rm M' H') vs ds := DtAll.up (x.rm E.sub) h
theorem get_set_eq {α : Type} {l : List α} {i : Nat} {a : α} (h : i < l.length) : (l.set i a)[i]? = some a := by simp [h]
theorem get_set_ne {α : Type} {l : List α} {i j : Nat} {a : α} (h : i ≠ j) : (l.set i a)[j]? = l[j]? := by simp [h]
theorem get_set_some {α : Type} {l : List α} {i j : Nat} {a s : α} (h : (l.set i a)[j]? = some s) : (i = j ∧ s = a ∧ i < l.length) ∨ (i ≠ j ∧ l[j]? = some s) := by
  by_cases c : i = j
  · subst c
    have hl : i < l.length := by
      have q := (List.getElem?_eq_some_iff.mp h).1
      simpa using q
    rw [get_set_eq hl] at h
    exact .inl ⟨rfl, (Option.some.inj h).symm, hl⟩
  · rw [get_set_ne c] at h
    exact .inr ⟨c, h⟩
/-- a slot gets data -/
theorem EnvOk.set (E : EnvOk K M0 M B H σ ρ) (i : Nat) (h : Dt K (rm M H) v d) : EnvOk K M0 M B H (σ.set i (some v)) (ρ.set i (.dat d)) where
  len := by rw [List.length_set, List.length_set]; exact E.len
  sub := E.sub
  dom := E.dom
  m0 := E.m0
  slot := fun j s hj => by
    rcases get_set_some hj with ⟨rfl, rfl, hl⟩ | ⟨n, hj'⟩
    · exact ⟨v, get_set_eq (by rw [E.len]; exact hl), h⟩
    · rw [get_set_ne n]; exact E.slot j s hj'
  sep := fun j k s s' l n h1 h2 l1 l2 s1 s2 => by
    rcases get_set_some h1 with ⟨rfl, rfl, _⟩ | ⟨n1, h1'⟩
    · cases l1
    · rcases get_set_some h2 with ⟨rfl, rfl, _⟩ | ⟨n2, h2'⟩
      · cases l2
      · rw [get_set_ne n1] at s1
        rw [get_set_ne n2] at s2
        exact E.sep j k s s' l n h1' h2' l1 l2 s1 s2
/-- a slot is forgotten -/
theorem EnvOk.forget (E : EnvOk K M0 M B H σ ρ) (i : Nat) (o : Option V) : EnvOk K M0 M B H (σ.set i o) (ρ.set i .un) where
  len := by rw [List.length_set, List.length_set]; exact E.len
  sub := E.sub
  dom := E.dom
  m0 := E.m0
  slot := fun j s hj => by
    rcases get_set_some hj with ⟨rfl, rfl, hl⟩ | ⟨n, hj'⟩
    · trivial
    · rw [get_set_ne n]; exact E.slot j s hj'
  sep := fun j k s s' l n h1 h2 l1 l2 s1 s2 => by
    rcases get_set_some h1 with ⟨rfl, rfl, _⟩ | ⟨n1, h1'⟩
    · cases l1
    · rcases get_set_some h2 with ⟨rfl, rfl, _⟩ | ⟨n2, h2'⟩
      · cases l2
      · rw [get_set_ne n1] at s1
        rw [get_set_ne n2] at s2
        exact E.sep j k s s' l n h1' h2' l1 l2 s1 s2
/-- a new content of a list that is put away -/
theorem EnvOk.put (E : EnvOk K M0 M B H σ ρ) {i : Nat} {s s' : SV} {l : Addr} {xs : List V} {ds : List PyData} (hs : ρ[i]? = some s) (hL : s.isL = true) (hl : σ[i]? = some (some (.ref l))) (h : H' l = some (.lst xs)) (r : DtAll K (rm M H') xs ds)
    (ks : ∀ a o, a ≠ l → H a = some o → H' a = some o)
    (hs' : (∃ es, s = .own es ∧ s' = .own ds) ∨ ∃ es, s = .bor l es ∧ s' = .bor l ds) : EnvOk K M0 M B H' σ (ρ.set i s') := by
  have hlB : l ∈ B := by
    have z := E.slot i s hs
    cases s with
    | un => cases hL
    | dat d => cases hL
    | scr ns => cases hL
    | own ds =>
      obtain ⟨l2, xs, h1, h2, _⟩ := z
      rw [h1] at hl
      injection hl with e; injection e with e; injection e with e
      exact e ▸ h2
    | bor l2 ds =>
      obtain ⟨xs, h1, h2, _⟩ := z
      rw [h1] at hl
      injection hl with e; injection e with e; injection e with e
      exact e ▸ h2
  have sm : Same (rm M H) (rm M H') := fun a o e => by
    obtain ⟨h1, h2⟩ := rm_to e
    exact rm_of h1 (ks a o (fun q => h1 (q ▸ E.sub _ hlB)) h2)
  refine ⟨by rw [List.length_set]; exact E.len, E.sub, fun a ha q => ?_, E.m0, fun j t hj => ?_, fun j k t t' l' n h1 h2 l1 l2 s1 s2 => ?_⟩
  · by_cases c : a = l
    · rw [c, h] at q; cases q
    · cases e : H a with
      | none => exact E.dom a ha e
      | some o => rw [ks a o c e] at q; cases q
  · rcases get_set_some hj with ⟨rfl, rfl, hl'⟩ | ⟨n, hj'⟩
    · have z := E.slot i s hs
      rcases hs' with ⟨es, rfl, rfl⟩ | ⟨es, rfl, rfl⟩
      · obtain ⟨l2, xs2, h1, h2, h3, _⟩ := z
        have e := h1.symm.trans hl
        injection e with e; injection e with e; injection e with e
        exact ⟨l, xs, hl, hlB, e ▸ h3, h, r⟩
      · obtain ⟨xs2, h1, h2, h3, _⟩ := z
        exact ⟨xs, hl, hlB, h3, h, r⟩
    · have z := E.slot j t hj'
      have apart : t.isL = true → ∀ l2, σ[j]? = some (some (.ref l2)) → l2 ≠ l := fun ht l2 hl2 q => E.sep i j s t l n hs hj' hL ht hl (q ▸ hl2)
      cases t with
      | un => trivial
      | dat d => obtain ⟨v, h1, h2⟩ := z; exact ⟨v, h1, Dt.up sm h2⟩
      | scr ns => obtain ⟨v, h1, h2⟩ := z; exact ⟨v, h1, same_l sm h2⟩
      | own ds => obtain ⟨l2, xs, h1, h2, h3, h4, h5⟩ := z; exact ⟨l2, xs, h1, h2, h3, ks _ _ (apart rfl l2 h1) h4, DtAll.up sm h5⟩
      | bor l2 ds => obtain ⟨xs, h1, h2, h3, h4, h5⟩ := z; exact ⟨xs, h1, h2, h3, ks _ _ (apart rfl l2 h1) h4, DtAll.up sm h5⟩
  · have back : ∀ (j : Nat) (t : SV), (ρ.set i s')[j]? = some t → t.isL = true → ∃ t0, ρ[j]? = some t0 ∧ t0.isL = true := fun j t hj ht => by
      rcases get_set_some hj with ⟨rfl, rfl, _⟩ | ⟨_, hj'⟩
      · exact ⟨s, hs, hL⟩
      · exact ⟨t, hj', ht⟩
    obtain ⟨a, a1, a2⟩ := back j t h1 l1
    obtain ⟨b, b1, b2⟩ := back k t' h2 l2
    exact E.sep j k a b l' n a1 b1 a2 b2 s1 s2
end
end Pm
namespace Pm
open PySem PySem.Spec PyProof.Rows L2
/-! ### the readings over data -/
abbrev WE := Env → (Env → PyData → Prop) → Prop
abbrev WT := Env → (Env → Bool → Prop) → Prop
abbrev WA := Env → (Env → List PyData → Prop) → Prop
def Env.at : Env → Nat → SV
  | [], _ => .un
  | s :: _, 0 => s
  | _ :: r, n + 1 => Env.at r n
theorem Env.at_get : ∀ {ρ : Env} {i : Nat} {s : SV}, ρ.at i = s → s ≠ .un → ρ[i]? = some s
  | [], i, s, h, n => absurd h.symm n
  | a :: r, 0, s, h, n => by have e : a = s := h; subst e; rfl
  | a :: r, i + 1, s, h, n => by
    have z : Env.at r i = s := h
    have q := Env.at_get z n
    simpa using q
def SV.items : SV → Option (List PyData)
  | .own ds => some ds
  | .bor _ ds => some ds
  | _ => none
def SV.put : SV → List PyData → SV
  | .own _, ds => .own ds
  | .bor l _, ds => .bor l ds
  | s, _ => s
/-- a value: data, or a list that is put away, its items data -/
def RV (K : Fr) (M : List Addr) (H : Hp) (v : V) (d : PyData) : Prop :=
  Dt K (rm M H) v d ∨ ∃ l xs ds, v = .ref l ∧ d = .list ds ∧ H l = some (.lst xs) ∧ DtAll K (rm M H) xs ds
abbrev RVs (K : Fr) (M : List Addr) (H : Hp) : List V → List PyData → Prop := Paired (RV K M H)
variable {ι : Type}
def DE (X : ι → Cx) (K : Fr) (e : Expr) (w : WE) : Prop := ∃ t : TE, (∀ i, PE (X i) e t) ∧ ∀ (M0 M B : List Addr) (σ : L2.St) (H : Hp) (ρ : Env) (P : Env → PyData → Prop) (Q : VK), EnvOk K M0 M B H σ ρ → w ρ P →
  (∀ ρ' d v H', P ρ' d → Ext M B H M B H' → EnvOk K M0 M B H' σ ρ' → Dt K (rm M H') v d → Q v H') → t σ H Q
def DV (X : ι → Cx) (K : Fr) (e : Expr) (w : WE) : Prop := ∃ t : TE, (∀ i, PE (X i) e t) ∧ ∀ (M0 M B : List Addr) (σ : L2.St) (H : Hp) (ρ : Env) (P : Env → PyData → Prop) (Q : VK), EnvOk K M0 M B H σ ρ → w ρ P →
  (∀ ρ' d v H', P ρ' d → Ext M B H M B H' → EnvOk K M0 M B H' σ ρ' → RV K M H' v d → Q v H') → t σ H Q
def DT (X : ι → Cx) (K : Fr) (e : Expr) (w : WT) : Prop := ∃ t : TT, (∀ i, PT (X i) e t) ∧ ∀ (M0 M B : List Addr) (σ : L2.St) (H : Hp) (ρ : Env) (P : Env → Bool → Prop) (Q : Bool → Hp → Prop), EnvOk K M0 M B H σ ρ → w ρ P →
  (∀ ρ' b H', P ρ' b → Ext M B H M B H' → EnvOk K M0 M B H' σ ρ' → Q b H') → t σ H Q
def DW (X : ι → Cx) (K : Fr) (e : Expr) (w : WT) : Prop := ∃ t : TT, (∀ i, PW (X i) e t) ∧ ∀ (M0 M B : List Addr) (σ : L2.St) (H : Hp) (ρ : Env) (P : Env → Bool → Prop) (Q : Bool → Hp → Prop), EnvOk K M0 M B H σ ρ → w ρ P →
  (∀ ρ' b H', P ρ' b → Ext M B H M B H' → EnvOk K M0 M B H' σ ρ' → Q b H') → t σ H Q
def DA (X : ι → Cx) (K : Fr) (es : List Expr) (w : WA) : Prop := ∃ t : TA, (∀ i, PA (X i) es t) ∧ ∀ (M0 M B : List Addr) (σ : L2.St) (H : Hp) (ρ : Env) (P : Env → List PyData → Prop) (Q : List V → Hp → Prop), EnvOk K M0 M B H σ ρ → w ρ P →
  (∀ ρ' ds vs H', P ρ' ds → Ext M B H M B H' → EnvOk K M0 M B H' σ ρ' → DtAll K (rm M H') vs ds → Q vs H') → t σ H Q
/-- one argument, a value -/
def DA1 (X : ι → Cx) (K : Fr) (es : List Expr) (w : WE) : Prop := ∃ t : TA, (∀ i, PA (X i) es t) ∧ ∀ (M0 M B : List Addr) (σ : L2.St) (H : Hp) (ρ : Env) (P : Env → PyData → Prop) (Q : List V → Hp → Prop), EnvOk K M0 M B H σ ρ → w ρ P →
  (∀ ρ' d v H', P ρ' d → Ext M B H M B H' → EnvOk K M0 M B H' σ ρ' → RV K M H' v d → Q [v] H') → t σ H Q
section
variable {X : ι → Cx} {K : Fr} {a b e : Expr} {es : List Expr} {wa wb we : WE}
theorem DE.v (h : DE X K e we) : DV X K e we := by
  obtain ⟨t, h1, h2⟩ := h
  exact ⟨t, h1, fun M0 M B σ H ρ P Q E w k => h2 M0 M B σ H ρ P Q E w fun ρ' d v H' p x E' r => k ρ' d v H' p x E' (.inl r)⟩
/-! ### names and constants -/
def wVar (i : Nat) : WE := fun ρ P => ∃ d, ρ.at i = .dat d ∧ P ρ d
def wOwn (i : Nat) : WE := fun ρ P => ∃ ds, (ρ.at i).items = some ds ∧ P ρ (.list ds)
def wC (d : PyData) : WE := fun ρ P => P ρ d
theorem de_v (j : Nat) (h : ∀ i, PE (X i) e (tVar j) := by intro i; exact pv _) : DE X K e (wVar j) := by
  refine ⟨tVar j, h, fun M0 M B σ H ρ P Q E w k => ?_⟩
  obtain ⟨d, h1, p⟩ := w
  obtain ⟨v, h2, r⟩ := E.slot j _ (Env.at_get h1 (by intro z; cases z))
  exact ⟨v, h2, k ρ d v H p (Ext.refl ..) E r⟩
theorem dv_own (j : Nat) (h : ∀ i, PE (X i) e (tVar j) := by intro i; exact pv _) : DV X K e (wOwn j) := by
  refine ⟨tVar j, h, fun M0 M B σ H ρ P Q E w k => ?_⟩
  obtain ⟨ds, h1, p⟩ := w
  have hs : ρ[j]? = some (ρ.at j) := Env.at_get rfl (fun z => by rw [z] at h1; cases h1)
  have z := E.slot j _ hs
  revert h1 z
  cases ρ.at j with
  | un => intro h1; cases h1
  | dat d => intro h1; cases h1
  | scr d => intro h1; cases h1
  | own ds' =>
    intro h1 z
    injection h1 with h1
    subst h1
    obtain ⟨l, xs, h2, _, _, h4, h5⟩ := z
    exact ⟨_, h2, k ρ _ _ H p (Ext.refl ..) E (.inr ⟨l, xs, _, rfl, rfl, h4, h5⟩)⟩
  | bor l ds' =>
    intro h1 z
    injection h1 with h1
    subst h1
    obtain ⟨xs, h2, _, _, h4, h5⟩ := z
    exact ⟨_, h2, k ρ _ _ H p (Ext.refl ..) E (.inr ⟨l, xs, _, rfl, rfl, h4, h5⟩)⟩
theorem de_c {v : V} {d : PyData} (h : ∀ i, PE (X i) e (tC v)) (r : ∀ H, Dt K H v d) : DE X K e (wC d) :=
  ⟨tC v, h, fun M0 M B σ H ρ P Q E w k => k ρ d v H w (Ext.refl ..) E (r _)⟩
theorem de_int {n : Int} {k : Nat} {pos : Pos} : DE X K (.Constant (.int n) k pos) (wC (.int n)) := de_c (fun i => pe_int) fun H => .int n
theorem de_str {n : Str} {k : Nat} {pos : Pos} : DE X K (.Constant (.str n) k pos) (wC (.str n)) := de_c (fun i => pe_str) fun H => .str n
theorem de_bl {n : Bool} {k : Nat} {pos : Pos} : DE X K (.Constant (.bool n) k pos) (wC (.bool n)) := de_c (fun i => pe_bl) fun H => .bl n
theorem de_non {k : Nat} {pos : Pos} : DE X K (.Constant .none k pos) (wC .none) := de_c (fun i => pe_non) fun H => .non
/-- a module's constant: u its Value -/
theorem de_glob {x : Str} {u : Value} {v : V} {d : PyData} {pos : Pos} (hm : ∀ i, (X i).mg x = some u) (r : RelV v u) (hd : ∀ H, Dt K H v d) (hg : ∀ i, Gl (X i) x := by intro i; rfl) (hd1 : (x == ("__debug__" : Str)) = false := by decide) : DE X K (.Name x pos) (wC d) :=
  de_c (fun i => pe_glob (hg i) (hm i) r hd1) hd
/-! ### operators -/
/-- an operation on data is as that on values -/
def OpD (K : Fr) (r : R2) (f : PyData → PyData → (PyData → Prop) → Prop) : Prop := ∀ (M : List Addr) (H : Hp) (x y : PyData) (v u : V) (P : PyData → Prop) (Q : VK), (∀ a, a ∈ M → H a ≠ none) → RV K M H v x → RV K M H u y → f x y P →
  (∀ d z H', P d → Same H H' → Dt K (rm M H') z d → Q z H') → r v u H Q
def wOp (f : PyData → PyData → (PyData → Prop) → Prop) (wa wb : WE) : WE := fun ρ P => wa ρ fun ρ1 x => wb ρ1 fun ρ2 y => f x y fun d => P ρ2 d
theorem RV.up {M0 M B : List Addr} {H H' : Hp} {σ : L2.St} {ρ : Env} {v : V} {d : PyData} (E : EnvOk K M0 M B H σ ρ) (e : Same H H') (h : RV K M H v d) : RV K M H' v d := by
  have s := (Ext.same (M := M) (B := B) e).rm E.sub
  rcases h with h | ⟨l, xs, ds, h1, h2, h3, h4⟩
  · exact .inl (Dt.up s h)
  · exact .inr ⟨l, xs, ds, h1, h2, e _ _ h3, DtAll.up s h4⟩
/-- the second operand's reading keeps the first: it is data, or the second changes nothing that is put away -/
theorem de_op {r : R2} {f : PyData → PyData → (PyData → Prop) → Prop} (hp : ∀ i ta tb, PE (X i) a ta → PE (X i) b tb → PE (X i) e (tOp r ta tb)) (hr : OpD K r f) (ha : DE X K a wa) (hb : DV X K b wb) : DE X K e (wOp f wa wb) := by
  obtain ⟨ta, a1, a2⟩ := ha
  obtain ⟨tb, b1, b2⟩ := hb
  refine ⟨tOp r ta tb, fun i => hp i ta tb (a1 i) (b1 i), fun M0 M B σ H ρ P Q E w k => ?_⟩
  refine a2 M0 M B σ H ρ _ _ E w fun ρ1 x v H1 w1 x1 E1 r1 => ?_
  refine b2 M0 M B σ H1 ρ1 _ _ E1 w1 fun ρ2 y u H2 w2 x2 E2 r2 => ?_
  refine hr M H2 x y v u _ Q E2.dom (.inl (E1.up x2 r1)) r2 w2 fun d z H3 p e3 r3 => ?_
  exact k ρ2 d z H3 p ((x1.trans x2).trans (Ext.same e3)) (E2.same e3) r3
theorem EnvOk.lst {M0 M B : List Addr} {H : Hp} {σ : L2.St} {ρ : Env} {j : Nat} {ds : List PyData} (E : EnvOk K M0 M B H σ ρ) (h1 : (ρ.at j).items = some ds) : ∃ l xs, ρ[j]? = some (ρ.at j) ∧ (ρ.at j).isL = true ∧ σ[j]? = some (some (.ref l)) ∧ l ∈ B ∧ H l = some (.lst xs) ∧ DtAll K (rm M H) xs ds ∧
    ((∃ es, ρ.at j = .own es) ∨ ∃ es, ρ.at j = .bor l es) := by
  have hs : ρ[j]? = some (ρ.at j) := Env.at_get rfl (fun z => by rw [z] at h1; cases h1)
  have z := E.slot j _ hs
  revert hs h1 z
  cases ρ.at j with
  | un => intro h1; cases h1
  | dat d => intro h1; cases h1
  | scr d => intro h1; cases h1
  | own ds' =>
    intro h1 hs z
    injection h1 with h1
    subst h1
    obtain ⟨l, xs, h2, h3, _, h4, h5⟩ := z
    exact ⟨l, xs, hs, rfl, h2, h3, h4, h5, .inl ⟨_, rfl⟩⟩
  | bor l ds' =>
    intro h1 hs z
    injection h1 with h1
    subst h1
    obtain ⟨xs, h2, h3, _, h4, h5⟩ := z
    exact ⟨l, xs, hs, rfl, h2, h3, h4, h5, .inr ⟨_, rfl⟩⟩
/-- .. the first operand a list that is put away -/
def wOpO (f : PyData → PyData → (PyData → Prop) → Prop) (j : Nat) (wb : WE) : WE := fun ρ P => (∃ ds0, (ρ.at j).items = some ds0) ∧ wb ρ fun ρ2 y => ∃ ds, (ρ2.at j).items = some ds ∧ f (.list ds) y fun d => P ρ2 d
theorem de_opo (j : Nat) {r : R2} {f : PyData → PyData → (PyData → Prop) → Prop} (hp : ∀ i ta tb, PE (X i) a ta → PE (X i) b tb → PE (X i) e (tOp r ta tb)) (hr : OpD K r f) (hb : DV X K b wb) (h : ∀ i, PE (X i) a (tVar j) := by intro i; exact pv _) : DE X K e (wOpO f j wb) := by
  obtain ⟨tb, b1, b2⟩ := hb
  refine ⟨tOp r (tVar j) tb, fun i => hp i _ tb (h i) (b1 i), fun M0 M B σ H ρ P Q E w k => ?_⟩
  obtain ⟨⟨ds0, h0⟩, w⟩ := w
  obtain ⟨l0, xs0, _, _, hl0, _⟩ := E.lst h0
  refine ⟨_, hl0, ?_⟩
  refine b2 M0 M B σ H ρ _ _ E w fun ρ2 y u H2 w2 x2 E2 r2 => ?_
  obtain ⟨ds, h1, w3⟩ := w2
  obtain ⟨l, xs, _, _, hl, _, h4, h5, _⟩ := E2.lst h1
  rw [hl0] at hl
  injection hl with hl; injection hl with hl; injection hl with hl
  subst hl
  refine hr M H2 _ y _ u _ Q E2.dom (.inr ⟨l0, xs, ds, rfl, rfl, h4, h5⟩) r2 w3 fun d z H3 p e3 r3 => ?_
  exact k ρ2 d z H3 p (x2.trans (Ext.same e3)) (E2.same e3) r3
end
end Pm
namespace Pm
open PySem PySem.Spec PyProof.Rows L2
variable {ι : Type} {X : ι → Cx} {K : Fr} {a b e : Expr} {es : List Expr} {wa wb we : WE}
/-! ### arguments, displays -/
def wNil : WA := fun ρ P => P ρ []
def wCons (w : WE) (r : WA) : WA := fun ρ P => w ρ fun ρ1 d => r ρ1 fun ρ2 ds => P ρ2 (d :: ds)
theorem da_nil : DA X K [] wNil := ⟨tNil, fun i => pa_nil, fun M0 M B σ H ρ P Q E w k => k ρ [] [] H w (Ext.refl ..) E .nil⟩
theorem da_cons {w : WE} {r : WA} (h : DE X K e w) (hs : DA X K es r) (he : ∀ i, starEach (e :: es) (X i).env = (false, eval e (X i).env) :: starEach es (X i).env := by intro i; rfl) : DA X K (e :: es) (wCons w r) := by
  obtain ⟨ta, a1, a2⟩ := h
  obtain ⟨tb, b1, b2⟩ := hs
  refine ⟨tCons ta tb, fun i => pa_cons (a1 i) (b1 i) (he i), fun M0 M B σ H ρ P Q E w k => ?_⟩
  refine a2 M0 M B σ H ρ _ _ E w fun ρ1 x v H1 w1 x1 E1 r1 => ?_
  refine b2 M0 M B σ H1 ρ1 _ _ E1 w1 fun ρ2 ds vs H2 w2 x2 E2 r2 => ?_
  exact k ρ2 _ _ H2 w2 (x1.trans x2) E2 (.cons (E1.up x2 r1) r2)
def wTup (w : WA) : WE := fun ρ P => w ρ fun ρ1 ds => ds.length ≤ sizeLine ∧ P ρ1 (.tuple ds)
def wLst (w : WA) : WE := fun ρ P => w ρ fun ρ1 ds => ds.length ≤ sizeLine ∧ P ρ1 (.list ds)
theorem de_tup {w : WA} {c : Nat} {pos : Pos} (h : DA X K es w) (hp : ∀ i t, PA (X i) es t → PE (X i) (.Tuple es c pos) (tTup t) := by intro i t h; exact pe_tup h) : DE X K (.Tuple es c pos) (wTup w) := by
  obtain ⟨t, a1, a2⟩ := h
  refine ⟨tTup t, fun i => hp i t (a1 i), fun M0 M B σ H ρ P Q E w k => ?_⟩
  refine a2 M0 M B σ H ρ _ _ E w fun ρ1 ds vs H1 w1 x1 E1 r1 => ?_
  refine ⟨by rw [DtAll.len r1]; exact w1.1, fun p np => ?_⟩
  exact k ρ1 _ _ _ w1.2 (x1.trans (Ext.same (same_new np))) (E1.same (same_new np)) (E1.newt np r1)
theorem de_lst {w : WA} {pos : Pos} (h : DA X K es w) (hp : ∀ i t, PA (X i) es t → PE (X i) (.List es pos) (tLst t) := by intro i t h; exact pe_lst h) : DE X K (.List es pos) (wLst w) := by
  obtain ⟨t, a1, a2⟩ := h
  refine ⟨tLst t, fun i => hp i t (a1 i), fun M0 M B σ H ρ P Q E w k => ?_⟩
  refine a2 M0 M B σ H ρ _ _ E w fun ρ1 ds vs H1 w1 x1 E1 r1 => ?_
  refine ⟨by rw [DtAll.len r1]; exact w1.1, fun p np => ?_⟩
  exact k ρ1 _ _ _ w1.2 (x1.trans (Ext.same (same_new np))) (E1.same (same_new np)) (E1.newl np r1)
/-! ### tests -/
def wTst (we : WE) : WT := fun ρ P => we ρ fun ρ1 d => ∃ b, d = .bool b ∧ P ρ1 b
theorem dt_val (h : DE X K e we) (hp : ∀ i t, PE (X i) e t → PT (X i) e (tB t) := by intro i t h; exact pt_val h) : DT X K e (wTst we) := by
  obtain ⟨t, a1, a2⟩ := h
  refine ⟨tB t, fun i => hp i t (a1 i), fun M0 M B σ H ρ P Q E w k => ?_⟩
  refine a2 M0 M B σ H ρ _ _ E w fun ρ1 d v H1 w1 x1 E1 r1 => ?_
  obtain ⟨b, rfl, p⟩ := w1
  exact ⟨b, Dt.isBl r1, k ρ1 b H1 p x1 E1⟩
def wAnd (t u : WT) : WT := fun ρ P => t ρ fun ρ1 c => (c = true → u ρ1 P) ∧ (c = false → P ρ1 false)
def wOr (t u : WT) : WT := fun ρ P => t ρ fun ρ1 c => (c = true → P ρ1 true) ∧ (c = false → u ρ1 P)
def wNot (t : WT) : WT := fun ρ P => t ρ fun ρ1 c => P ρ1 (!c)
theorem ite_of {c : Bool} {A B : Prop} (h1 : c = true → A) (h2 : c = false → B) : if c = true then A else B := by
  cases c with
  | true => rw [if_pos rfl]; exact h1 rfl
  | false => rw [if_neg Bool.false_ne_true]; exact h2 rfl
theorem dt_not {t : WT} {pos : Pos} (h : DT X K e t) (hp : ∀ i t, PT (X i) e t → PT (X i) (.UnaryOp .Not e pos) (tNot t) := by intro i t h; exact pt_not h) : DT X K (.UnaryOp .Not e pos) (wNot t) := by
  obtain ⟨t, a1, a2⟩ := h
  refine ⟨tNot t, fun i => hp i t (a1 i), fun M0 M B σ H ρ P Q E w k => ?_⟩
  exact a2 M0 M B σ H ρ _ _ E w fun ρ1 b H1 w1 x1 E1 => k ρ1 _ H1 w1 x1 E1
theorem DW.t {w : WT} (h : DW X K e w) : DT X K e w := by
  obtain ⟨t, a1, a2⟩ := h
  exact ⟨t, fun i => (a1 i).pt, a2⟩
theorem dw_and {t u : WT} {c : Expr} {rest : List Expr} {pos : Pos} (h : DT X K a t) (hr : DW X K (.BoolOp .And (c :: rest) pos) u) (hp : ∀ i t u, PT (X i) a t → PW (X i) (.BoolOp .And (c :: rest) pos) u → PW (X i) (.BoolOp .And (a :: c :: rest) pos) (tAnd t u) := by intro i t u h1 h2; exact pw_and h1 h2) : DW X K (.BoolOp .And (a :: c :: rest) pos) (wAnd t u) := by
  obtain ⟨t, a1, a2⟩ := h
  obtain ⟨u, b1, b2⟩ := hr
  refine ⟨tAnd t u, fun i => hp i t u (a1 i) (b1 i), fun M0 M B σ H ρ P Q E w k => ?_⟩
  refine a2 M0 M B σ H ρ _ _ E w fun ρ1 c H1 w1 x1 E1 => ite_of (fun e => ?_) (fun e => ?_)
  · exact b2 M0 M B σ H1 ρ1 _ _ E1 (w1.1 e) fun ρ2 b H2 w2 x2 E2 => k ρ2 b H2 w2 (x1.trans x2) E2
  · exact k ρ1 false H1 (w1.2 e) x1 E1
theorem dw_or {t u : WT} {c : Expr} {rest : List Expr} {pos : Pos} (h : DT X K a t) (hr : DW X K (.BoolOp .Or (c :: rest) pos) u) (hp : ∀ i t u, PT (X i) a t → PW (X i) (.BoolOp .Or (c :: rest) pos) u → PW (X i) (.BoolOp .Or (a :: c :: rest) pos) (tOr t u) := by intro i t u h1 h2; exact pw_or h1 h2) : DW X K (.BoolOp .Or (a :: c :: rest) pos) (wOr t u) := by
  obtain ⟨t, a1, a2⟩ := h
  obtain ⟨u, b1, b2⟩ := hr
  refine ⟨tOr t u, fun i => hp i t u (a1 i) (b1 i), fun M0 M B σ H ρ P Q E w k => ?_⟩
  refine a2 M0 M B σ H ρ _ _ E w fun ρ1 c H1 w1 x1 E1 => ite_of (fun e => ?_) (fun e => ?_)
  · exact k ρ1 true H1 (w1.1 e) x1 E1
  · exact b2 M0 M B σ H1 ρ1 _ _ E1 (w1.2 e) fun ρ2 b H2 w2 x2 E2 => k ρ2 b H2 w2 (x1.trans x2) E2
theorem dw_and1 {t : WT} {pos : Pos} (h : DT X K a t) (hp : ∀ i t, PT (X i) a t → PW (X i) (.BoolOp .And [a] pos) t := by intro i t h1; exact pw_and1 h1) : DW X K (.BoolOp .And [a] pos) t := by
  obtain ⟨t, a1, a2⟩ := h
  exact ⟨t, fun i => hp i t (a1 i), a2⟩
theorem dw_or1 {t : WT} {pos : Pos} (h : DT X K a t) (hp : ∀ i t, PT (X i) a t → PW (X i) (.BoolOp .Or [a] pos) t := by intro i t h1; exact pw_or1 h1) : DW X K (.BoolOp .Or [a] pos) t := by
  obtain ⟨t, a1, a2⟩ := h
  exact ⟨t, fun i => hp i t (a1 i), a2⟩
/-- a if t else b -/
def wIte (t : WT) (wa wb : WE) : WE := fun ρ P => t ρ fun ρ1 c => (c = true → wa ρ1 P) ∧ (c = false → wb ρ1 P)
theorem de_ite {t : WT} {c : Expr} {pos : Pos} (h : DT X K c t) (ha : DE X K a wa) (hb : DE X K b wb) : DE X K (.IfExp c a b pos) (wIte t wa wb) := by
  obtain ⟨t, c1, c2⟩ := h
  obtain ⟨ta, a1, a2⟩ := ha
  obtain ⟨tb, b1, b2⟩ := hb
  refine ⟨tIf t ta tb, fun i => pe_ifExp (c1 i) (a1 i) (b1 i), fun M0 M B σ H ρ P Q E w k => ?_⟩
  refine c2 M0 M B σ H ρ _ _ E w fun ρ1 c H1 w1 x1 E1 => ite_of (fun e => ?_) (fun e => ?_)
  · exact a2 M0 M B σ H1 ρ1 _ _ E1 (w1.1 e) fun ρ2 d v H2 w2 x2 E2 r2 => k ρ2 d v H2 w2 (x1.trans x2) E2 r2
  · exact b2 M0 M B σ H1 ρ1 _ _ E1 (w1.2 e) fun ρ2 d v H2 w2 x2 E2 r2 => k ρ2 d v H2 w2 (x1.trans x2) E2 r2
/-! ### what the operators are on data -/
theorem op_orR {Y : Cx} {f : Value → Value → Sem Value} {r1 r2 : R2} (h1 : OpR Y f r1) (h2 : OpR Y f r2) : OpR Y f (fun x y H Q => r1 x y H Q ∨ r2 x y H Q) := by
  intro pins s σ H x y v u Q I rx ry h
  rcases h with h | h
  · exact h1 pins s σ H x y v u Q I rx ry h
  · exact h2 pins s σ H x y v u Q I rx ry h
/-- .. on data that must be flat or tuples: what stands put away is a list -/
def RV.isInt {M : List Addr} {H : Hp} {v : V} {i : Int} (h : RV K M H v (.int i)) : v = .int i := by
  rcases h with h | ⟨_, _, _, _, q, _⟩
  · exact Dt.isInt h
  · cases q
theorem RV.isStr {M : List Addr} {H : Hp} {v : V} {i : Str} (h : RV K M H v (.str i)) : v = .str i := by
  rcases h with h | ⟨_, _, _, _, q, _⟩
  · exact Dt.isStr h
  · cases q
theorem RV.isBl {M : List Addr} {H : Hp} {v : V} {i : Bool} (h : RV K M H v (.bool i)) : v = .bl i := by
  rcases h with h | ⟨_, _, _, _, q, _⟩
  · exact Dt.isBl h
  · cases q
theorem RV.isNon {M : List Addr} {H : Hp} {v : V} (h : RV K M H v .none) : v = .non := by
  rcases h with h | ⟨_, _, _, _, q, _⟩
  · exact Dt.isNon h
  · cases q
theorem RV.isTup {M : List Addr} {H : Hp} {v : V} {ds : List PyData} (h : RV K M H v (.tuple ds)) : ∃ a xs, v = .ref a ∧ SqT K H a xs ∧ DtAll K (rm M H) xs ds := by
  rcases h with h | ⟨_, _, _, _, q, _⟩
  · obtain ⟨a, xs, h1, h2, h3⟩ := Dt.isTup h
    exact ⟨a, xs, h1, same_t rm_le h2, h3⟩
  · cases q
theorem RV.isLst {M : List Addr} {H : Hp} {v : V} {ds : List PyData} (h : RV K M H v (.list ds)) : ∃ a xs, v = .ref a ∧ H a = some (.lst xs) ∧ DtAll K (rm M H) xs ds := by
  rcases h with h | ⟨l, xs, ds', rfl, q, h1, h2⟩
  · obtain ⟨a, xs, h1, h2, h3⟩ := Dt.isLst h
    exact ⟨a, xs, h1, rm_le _ _ h2, h3⟩
  · injection q with q
    subst q
    exact ⟨l, xs, rfl, h1, h2⟩
theorem RV.dp {M : List Addr} {H : Hp} {v : V} {d : PyData} (h : RV K M H v d) (hc : d.canLay0 = true) : Dp K H v d := by
  rcases h with h | ⟨l, xs, ds', rfl, rfl, h1, h2⟩
  · exact (Dt.up rm_le h).dp hc
  · exact .lst (.inl (.inl h1)) ((DtAll.up rm_le h2).dp hc)
end Pm
namespace Pm
open PySem PySem.Spec PyProof.Rows L2
variable {ι : Type} {X : ι → Cx} {K : Fr} {a b e : Expr} {es : List Expr} {wa wb we : WE} {pos : Pos}
abbrev F2 := PyData → PyData → (PyData → Prop) → Prop
/-! ### + -/
def fAdd : F2
  | .int i, .int j, P => P (.int (i + j))
  | .str x, .str y, P => x.length + y.length ≤ sizeLine ∧ P (.str (x ++ y))
  | .list xs, .list ys, P => xs.length + ys.length ≤ sizeLine ∧ P (.list (xs ++ ys))
  | .tuple xs, .tuple ys, P => xs.length + ys.length ≤ sizeLine ∧ P (.tuple (xs ++ ys))
  | _, _, _ => False
def rAddStr : R2 := fun x y H Q => ∃ i j, x = .str i ∧ y = .str j ∧ i.length + j.length ≤ sizeLine ∧ Q (.str (i ++ j)) H
def rAddAny (K : Fr) : R2 := fun x y H Q => rI0 (fun i j => .int (i + j)) x y H Q ∨ rAddStr x y H Q ∨ rCat x y H Q ∨ rCatA K x y H Q
theorem op_addAny {Y : Cx} : OpR Y (binaryOp .Add) (rAddAny Y.K) := op_orR op_add (op_orR op_add_str (op_orR op_cat op_catA))
theorem od_add : OpD K (rAddAny K) fAdd := by
  intro M H x y v u P Q dom rx ry f k
  cases x with
  | int i =>
    cases y with
    | int j => rw [RV.isInt rx, RV.isInt ry]; exact .inl ⟨i, j, rfl, rfl, k _ _ H f (Same.refl _) (.int _)⟩
    | _ => exact f.elim
  | str i =>
    cases y with
    | str j => rw [RV.isStr rx, RV.isStr ry]; exact .inr (.inl ⟨i, j, rfl, rfl, f.1, k _ _ H f.2 (Same.refl _) (.str _)⟩)
    | _ => exact f.elim
  | list xs =>
    cases y with
    | list ys =>
      obtain ⟨a, vs, rfl, h1, h2⟩ := RV.isLst rx
      obtain ⟨b, us, rfl, h3, h4⟩ := RV.isLst ry
      refine .inr (.inr (.inl ⟨a, b, vs, us, rfl, rfl, h1, h3, by rw [DtAll.len h2, DtAll.len h4]; exact f.1, fun p np => ?_⟩))
      refine k _ _ _ f.2 (same_new np) ?_
      have hp : p ∉ M := fun c => dom p c np
      refine .lst (rm_of hp upd_same) (DtAll.up (fun a o e => ?_) (DtAll.app h2 h4))
      obtain ⟨z1, z2⟩ := rm_to e
      exact rm_of z1 (same_new np _ _ z2)
    | _ => exact f.elim
  | tuple xs =>
    cases y with
    | tuple ys =>
      obtain ⟨a, vs, rfl, h1, h2⟩ := RV.isTup rx
      obtain ⟨b, us, rfl, h3, h4⟩ := RV.isTup ry
      have r1 : Dt K (rm M H) (.ref a) (.tuple xs) := by rcases rx with r | ⟨_, _, _, _, q, _⟩ <;> first | exact r | cases q
      have r2 : Dt K (rm M H) (.ref b) (.tuple ys) := by rcases ry with r | ⟨_, _, _, _, q, _⟩ <;> first | exact r | cases q
      refine .inr (.inr (.inr ⟨a, b, vs, us, rfl, rfl, h1, h3, by rw [DtAll.len h2, DtAll.len h4]; exact f.1, fun e => ?_, fun e1 e2 => ?_, fun e1 e2 p np => ?_⟩))
      · refine k _ _ _ f.2 (Same.refl _) ?_
        subst e
        cases h2
        exact r2
      · refine k _ _ _ f.2 (Same.refl _) ?_
        subst e2
        cases h4
        rw [List.append_nil]
        exact r1
      · refine k _ _ _ f.2 (same_new np) ?_
        have hp : p ∉ M := fun c => dom p c np
        refine .tup (.inl (.inl (rm_of hp upd_same))) (DtAll.up (fun a o e => ?_) (DtAll.app h2 h4))
        obtain ⟨z1, z2⟩ := rm_to e
        exact rm_of z1 (same_new np _ _ z2)
    | _ => exact f.elim
  | _ => exact f.elim
theorem de_add (ha : DE X K a wa) (hb : DV X K b wb) (hK : ∀ i, (X i).K = K := by intro i; rfl) : DE X K (.BinOp a .Add b pos) (wOp fAdd wa wb) :=
  de_op (fun i ta tb h1 h2 => pe_op (by rw [← hK i]; exact op_addAny) h1 h2) od_add ha hb
/-- ints alone -/
def fI (C : Int → Int → Prop) (g : Int → Int → PyData) : F2
  | .int i, .int j, P => C i j ∧ P (g i j)
  | _, _, _ => False
theorem od_I {C : Int → Int → Prop} {g : Int → Int → V} {g' : Int → Int → PyData} (h : ∀ H i j, Dt K H (g i j) (g' i j)) : OpD K (rI C g) (fI C g') := by
  intro M H x y v u P Q dom rx ry f k
  cases x with
  | int i =>
    cases y with
    | int j => rw [RV.isInt rx, RV.isInt ry]; exact ⟨i, j, rfl, rfl, f.1, k _ _ H f.2 (Same.refl _) (h _ i j)⟩
    | _ => exact f.elim
  | _ => exact f.elim
def fI0 (g : Int → Int → PyData) : F2
  | .int i, .int j, P => P (g i j)
  | _, _, _ => False
theorem od_I0 {g : Int → Int → V} {g' : Int → Int → PyData} (h : ∀ H i j, Dt K H (g i j) (g' i j)) : OpD K (rI0 g) (fI0 g') := by
  intro M H x y v u P Q dom rx ry f k
  cases x with
  | int i =>
    cases y with
    | int j => rw [RV.isInt rx, RV.isInt ry]; exact ⟨i, j, rfl, rfl, k _ _ H f (Same.refl _) (h _ i j)⟩
    | _ => exact f.elim
  | _ => exact f.elim
abbrev fSub : F2 := fI0 fun i j => .int (i - j)
abbrev fMod : F2 := fI (fun _ j => 0 < j) fun i j => .int (i % j)
abbrev fDiv : F2 := fI CDivW fun i j => .int (i / j)
abbrev fPow : F2 := fI CPow fun i j => .int (i ^ j.toNat)
abbrev fLt : F2 := fI0 fun i j => .bool (decide (i < j))
abbrev fLe : F2 := fI0 fun i j => .bool (decide (i ≤ j))
abbrev fGt : F2 := fI0 fun i j => .bool (decide (j < i))
abbrev fGe : F2 := fI0 fun i j => .bool (decide (j ≤ i))
theorem de_sub (ha : DE X K a wa) (hb : DE X K b wb) : DE X K (.BinOp a .Sub b pos) (wOp fSub wa wb) := de_op (fun i ta tb h1 h2 => pe_op op_sub h1 h2) (od_I0 fun _ _ _ => .int _) ha hb.v
theorem de_mod (ha : DE X K a wa) (hb : DE X K b wb) : DE X K (.BinOp a .Mod b pos) (wOp fMod wa wb) := de_op (fun i ta tb h1 h2 => pe_op op_mod h1 h2) (od_I fun _ _ _ => .int _) ha hb.v
theorem de_div (ha : DE X K a wa) (hb : DE X K b wb) : DE X K (.BinOp a .FloorDiv b pos) (wOp fDiv wa wb) := de_op (fun i ta tb h1 h2 => pe_op op_fdivW h1 h2) (od_I fun _ _ _ => .int _) ha hb.v
theorem de_pow (ha : DE X K a wa) (hb : DE X K b wb) : DE X K (.BinOp a .Pow b pos) (wOp fPow wa wb) := de_op (fun i ta tb h1 h2 => pe_op op_pow h1 h2) (od_I fun _ _ _ => .int _) ha hb.v
theorem de_lt (ha : DE X K a wa) (hb : DE X K b wb) : DE X K (.Compare a [.Lt] [b] pos) (wOp fLt wa wb) := de_op (fun i ta tb h1 h2 => pe_cmpR op_lt h1 h2 (nomark _)) (od_I0 fun _ _ _ => .bl _) ha hb.v
theorem de_le (ha : DE X K a wa) (hb : DE X K b wb) : DE X K (.Compare a [.LtE] [b] pos) (wOp fLe wa wb) := de_op (fun i ta tb h1 h2 => pe_cmpR op_le h1 h2 (nomark _)) (od_I0 fun _ _ _ => .bl _) ha hb.v
theorem de_gt (ha : DE X K a wa) (hb : DE X K b wb) : DE X K (.Compare a [.Gt] [b] pos) (wOp fGt wa wb) := de_op (fun i ta tb h1 h2 => pe_cmpR op_gt h1 h2 (nomark _)) (od_I0 fun _ _ _ => .bl _) ha hb.v
theorem de_ge (ha : DE X K a wa) (hb : DE X K b wb) : DE X K (.Compare a [.GtE] [b] pos) (wOp fGe wa wb) := de_op (fun i ta tb h1 h2 => pe_cmpR op_ge h1 h2 (nomark _)) (od_I0 fun _ _ _ => .bl _) ha hb.v
/-! ### * -/
def repS (x : Str) (n : Nat) : Str := ⟨(List.replicate n x.cps.toList).flatten.toArray⟩
theorem foldl_app (n : Nat) (x : Array Nat) : ∀ z : Array Nat, (List.replicate n x).foldl (· ++ ·) z = z ++ (List.replicate n x.toList).flatten.toArray := by
  induction n with
  | zero => intro z; simp
  | succ n ih => intro z; rw [List.replicate_succ, List.foldl_cons, ih, List.replicate_succ, List.flatten_cons]; obtain ⟨z⟩ := z; obtain ⟨x⟩ := x; simp
theorem mul_rep (x : Str) (n : Int) : Txt.mul x n = repS x n.toNat := by
  unfold Txt.mul repS
  by_cases h : n < 1
  · have e : n.toNat = 0 := by omega
    rw [if_pos h, e]; rfl
  · rw [if_neg h]
    by_cases h2 : (n == 1 || x.length == 0) = true
    · rw [if_pos h2]
      rcases Bool.or_eq_true _ _ |>.mp h2 with h3 | h3
      · have e : n = 1 := by simpa using h3
        subst e
        simp
      · have e : x.cps = #[] := by
          have z : x.cps.size = 0 := by simpa [Str.length] using h3
          exact Array.eq_empty_of_size_eq_zero z
        obtain ⟨c⟩ := x
        subst e
        simp
    · rw [if_neg h2, foldl_app]
      simp
def rRepS : R2 := fun x y H Q => ∃ z n, x = .str z ∧ y = .int n ∧ -(2 ^ 63) ≤ n ∧ n < 2 ^ 63 ∧ z.length * n.toNat ≤ sizeLine ∧ Q (.str (repS z n.toNat)) H
theorem op_repS {Y : Cx} : OpR Y (binaryOp .Mult) rRepS := by
  intro pins s σ H x y v u Q I rx ry h
  obtain ⟨z, n, rfl, rfl, h1, h2, h3, q⟩ := h
  obtain ⟨t, rfl⟩ := rx
  obtain ⟨t', rfl⟩ := ry
  refine SB.mul (n := n) ⟨?_, fun hn hz => ?_, fun hn hz => ?_⟩ fun t' k => ?_
  · have e1 : decide (n < -(2 ^ 63 : Int)) = false := decide_eq_false (by omega)
    have e2 : decide (n ≥ 2 ^ 63) = false := decide_eq_false (by omega)
    rw [e1, e2]; rfl
  · have hn1 : (1 : Int) ≤ n := by omega
    rw [sizeLine_eq] at h3
    have e : ((z.length * n.toNat : Nat) : Int) = (z.length : Int) * n := by
      rw [Int.natCast_mul, Int.toNat_of_nonneg (by omega)]
    have h4 : (z.length : Int) * n ≤ 16777216 := by rw [← e]; exact Int.ofNat_le.mpr h3
    intro hgt
    have : (z.length : Int) ≤ (2 ^ 63 - 1) / n := by
      rw [Int.le_ediv_iff_mul_le (by omega)]
      omega
    omega
  · unfold Builtin.Str.tooLong
    exact decide_eq_false (by omega)
  · rw [mul_rep]
    exact ⟨.str _, H, I.tok _, ⟨_, rfl⟩, q⟩
def repD (xs : List PyData) (n : Nat) : List PyData := (List.replicate n xs).flatten
theorem DtAll.rep {H : Hp} {vs : List V} {ds : List PyData} (h : DtAll K H vs ds) : ∀ n : Nat, DtAll K H (List.replicate n vs).flatten (repD ds n)
  | 0 => .nil
  | n + 1 => by
    show DtAll K H (vs ++ (List.replicate n vs).flatten) (ds ++ (List.replicate n ds).flatten)
    exact DtAll.app h (DtAll.rep h n)
def fMul : F2
  | .int i, .int j, P => CMul i j ∧ P (.int (i * j))
  | .str x, .int n, P => -(2 ^ 63) ≤ n ∧ n < 2 ^ 63 ∧ x.length * n.toNat ≤ sizeLine ∧ P (.str (repS x n.toNat))
  | .list xs, .int n, P => -(2 ^ 63) ≤ n ∧ n < 2 ^ 63 ∧ xs.length * n.toNat ≤ sizeLine ∧ P (.list (repD xs n.toNat))
  | _, _, _ => False
def rMulAny : R2 := fun x y H Q => rI CMul (fun i j => .int (i * j)) x y H Q ∨ rRepS x y H Q ∨ rRep x y H Q
theorem od_mul : OpD K rMulAny fMul := by
  intro M H x y v u P Q dom rx ry f k
  cases x with
  | int i =>
    cases y with
    | int j => rw [RV.isInt rx, RV.isInt ry]; exact .inl ⟨i, j, rfl, rfl, f.1, k _ _ H f.2 (Same.refl _) (.int _)⟩
    | _ => exact f.elim
  | str i =>
    cases y with
    | int j => rw [RV.isStr rx, RV.isInt ry]; exact .inr (.inl ⟨i, j, rfl, rfl, f.1, f.2.1, f.2.2.1, k _ _ H f.2.2.2 (Same.refl _) (.str _)⟩)
    | _ => exact f.elim
  | list xs =>
    cases y with
    | int j =>
      rw [RV.isInt ry]
      obtain ⟨a, vs, rfl, h1, h2⟩ := RV.isLst rx
      refine .inr (.inr ⟨a, j, vs, rfl, rfl, h1, f.1, f.2.1, by rw [DtAll.len h2]; exact f.2.2.1, fun p np => ?_⟩)
      refine k _ _ _ f.2.2.2 (same_new np) ?_
      have hp : p ∉ M := fun c => dom p c np
      refine .lst (rm_of hp upd_same) (DtAll.up (fun a o e => ?_) (DtAll.rep h2 _))
      obtain ⟨z1, z2⟩ := rm_to e
      exact rm_of z1 (same_new np _ _ z2)
    | _ => exact f.elim
  | _ => exact f.elim
theorem de_mul (ha : DE X K a wa) (hb : DE X K b wb) : DE X K (.BinOp a .Mult b pos) (wOp fMul wa wb) := de_op (fun i ta tb h1 h2 => pe_op (op_orR op_mul (op_orR op_repS op_rep)) h1 h2) od_mul ha hb.v
end Pm
namespace Pm
open PySem PySem.Spec PyProof.Rows L2
variable {ι : Type} {X : ι → Cx} {K : Fr} {a b e : Expr} {es : List Expr} {wa wb we : WE} {pos : Pos}
/-! ### ==, != -/
/-- two data that can be compared: as deep as there is room -/
def eqOk (x y : PyData) : Bool := x.canLay0 && y.canLay0 && decide (min x.depth y.depth ≤ 64)
theorem eqOk_of {x y : PyData} (h1 : SeqAt.shaped x = true) (h2 : SeqAt.shaped y = true) : eqOk x y = true := by
  unfold eqOk
  rw [SeqAt.canLay_of_shaped h1, SeqAt.canLay_of_shaped h2]
  have := SeqAt.depth_of_shaped h1
  exact decide_eq_true (by omega)
theorem eqOk_l {x y : PyData} (h : eqOk x y = true) : x.canLay0 = true := (Bool.and_eq_true_iff.mp (Bool.and_eq_true_iff.mp h).1).1
theorem eqOk_r {x y : PyData} (h : eqOk x y = true) : y.canLay0 = true := (Bool.and_eq_true_iff.mp (Bool.and_eq_true_iff.mp h).1).2
theorem eqOk_d {x y : PyData} (h : eqOk x y = true) : min x.depth y.depth ≤ 64 := of_decide_eq_true (Bool.and_eq_true_iff.mp h).2
def fEq (neg : Bool) : F2
  | .int i, .int j, P => P (.bool (neg ^^ decide (i = j)))
  | .str i, .str j, P => P (.bool (neg ^^ decide (i = j)))
  | .bool i, .bool j, P => P (.bool (neg ^^ decide (i = j)))
  | x, y, P => eqOk x y = true ∧ P (.bool (neg ^^ PyData.eqv x y))
def rEqAny (K : Fr) (neg : Bool) : R2 := fun x y H Q => (scal x y = true ∧ Q (.bl (neg ^^ decide (x = y))) H) ∨ ∃ d e, Dp K H x d ∧ Dp K H y e ∧ eqOk d e = true ∧ Q (.bl (neg ^^ PyData.eqv d e)) H
theorem op_eqAny {Y : Cx} (hu : Y.A.units + 64 < cLine) : OpR Y (compareOp .Eq) (rEqAny Y.K false) := by
  intro pins s σ H x y v u Q I rx ry h
  rcases h with ⟨h1, h2⟩ | ⟨d, e, h1, h2, h3, h5⟩
  · exact op_eq pins s σ H x y v u Q I rx ry ⟨h1, by simpa using h2⟩
  · obtain ⟨as, r1⟩ := Dp.reads I d x v h1 rx
    obtain ⟨bs, r2⟩ := Dp.reads I e y u h2 ry
    have hd := eqOk_d h3
    exact SeqAt.compareEq_reads r1 r2 (eqOk_l h3) (eqOk_r h3) (by omega) ⟨.bl _, H, I, rfl, by simpa using h5⟩
theorem op_neAny {Y : Cx} (hu : Y.A.units + 64 < cLine) : OpR Y (compareOp .NotEq) (rEqAny Y.K true) := by
  intro pins s σ H x y v u Q I rx ry h
  rcases h with ⟨h1, h2⟩ | ⟨d, e, h1, h2, h3, h5⟩
  · exact op_ne pins s σ H x y v u Q I rx ry ⟨h1, by simpa using h2⟩
  · obtain ⟨as, r1⟩ := Dp.reads I d x v h1 rx
    obtain ⟨bs, r2⟩ := Dp.reads I e y u h2 ry
    have hd := eqOk_d h3
    exact SeqAt.compareNe_reads r1 r2 (eqOk_l h3) (eqOk_r h3) (by omega) ⟨.bl _, H, I, rfl, by simpa using h5⟩
theorem decV_int {i j : Int} : decide (V.int i = V.int j) = decide (i = j) := by simp
theorem decV_str {i j : Str} : decide (V.str i = V.str j) = decide (i = j) := by simp
theorem decV_bl {i j : Bool} : decide (V.bl i = V.bl j) = decide (i = j) := by simp
theorem od_eq {neg : Bool} : OpD K (rEqAny K neg) (fEq neg) := by
  intro M H x y v u P Q dom rx ry f k
  have gen : eqOk x y = true ∧ P (.bool (neg ^^ PyData.eqv x y)) → rEqAny K neg v u H Q := fun f => .inr ⟨x, y, rx.dp (eqOk_l f.1), ry.dp (eqOk_r f.1), f.1, k _ _ H f.2 (Same.refl _) (.bl _)⟩
  cases x with
  | int i =>
    cases y with
    | int j => rw [RV.isInt rx, RV.isInt ry]; exact .inl ⟨rfl, by rw [decV_int]; exact k _ _ H f (Same.refl _) (.bl _)⟩
    | _ => exact gen f
  | str i =>
    cases y with
    | str j => rw [RV.isStr rx, RV.isStr ry]; exact .inl ⟨rfl, by rw [decV_str]; exact k _ _ H f (Same.refl _) (.bl _)⟩
    | _ => exact gen f
  | bool i =>
    cases y with
    | bool j => rw [RV.isBl rx, RV.isBl ry]; exact .inl ⟨rfl, by rw [decV_bl]; exact k _ _ H f (Same.refl _) (.bl _)⟩
    | _ => exact gen f
  | _ => exact gen f
theorem de_eq (hu : ∀ i, (X i).A.units + 64 < cLine) (ha : DE X K a wa) (hb : DV X K b wb) (hK : ∀ i, (X i).K = K := by intro i; rfl) : DE X K (.Compare a [.Eq] [b] pos) (wOp (fEq false) wa wb) :=
  de_op (fun i ta tb h1 h2 => pe_cmpR (by rw [← hK i]; exact op_eqAny (hu i)) h1 h2 (nomark _)) od_eq ha hb
theorem de_ne (hu : ∀ i, (X i).A.units + 64 < cLine) (ha : DE X K a wa) (hb : DV X K b wb) (hK : ∀ i, (X i).K = K := by intro i; rfl) : DE X K (.Compare a [.NotEq] [b] pos) (wOp (fEq true) wa wb) :=
  de_op (fun i ta tb h1 h2 => pe_cmpR (by rw [← hK i]; exact op_neAny (hu i)) h1 h2 (nomark _)) od_eq ha hb
theorem de_eqo (j : Nat) (hu : ∀ i, (X i).A.units + 64 < cLine) (hb : DV X K b wb) (h : ∀ i, PE (X i) a (tVar j) := by intro i; exact pv _) (hK : ∀ i, (X i).K = K := by intro i; rfl) : DE X K (.Compare a [.Eq] [b] pos) (wOpO (fEq false) j wb) :=
  de_opo j (fun i ta tb h1 h2 => pe_cmpR (by rw [← hK i]; exact op_eqAny (hu i)) h1 h2 (nomark _)) od_eq hb h
theorem de_neo (j : Nat) (hu : ∀ i, (X i).A.units + 64 < cLine) (hb : DV X K b wb) (h : ∀ i, PE (X i) a (tVar j) := by intro i; exact pv _) (hK : ∀ i, (X i).K = K := by intro i; rfl) : DE X K (.Compare a [.NotEq] [b] pos) (wOpO (fEq true) j wb) :=
  de_opo j (fun i ta tb h1 h2 => pe_cmpR (by rw [← hK i]; exact op_neAny (hu i)) h1 h2 (nomark _)) od_eq hb h
/-! ### is None, is not None -/
def isN : PyData → Bool
  | .none => true
  | _ => false
def fIs (neg : Bool) : F2 := fun x y P => y = .none ∧ P (.bool (neg ^^ isN x))
theorem rv_isN {M : List Addr} {H : Hp} {v : V} {d : PyData} (r : RV K M H v d) : decide (v = .non) = isN d := by
  rcases r with r | ⟨_, _, _, rfl, rfl, _⟩
  · cases r <;> simp [isN]
  · simp [isN]
theorem od_is : OpD K (fun x y H Q => y = .non ∧ Q (.bl (decide (x = .non))) H) (fIs false) := by
  intro M H x y v u P Q dom rx ry f k
  obtain ⟨rfl, f⟩ := f
  exact ⟨RV.isNon ry, by rw [rv_isN rx]; exact k _ _ H f (Same.refl _) (by simpa using Dt.bl _)⟩
theorem od_isnot : OpD K (fun x y H Q => y = .non ∧ Q (.bl (!decide (x = .non))) H) (fIs true) := by
  intro M H x y v u P Q dom rx ry f k
  obtain ⟨rfl, f⟩ := f
  exact ⟨RV.isNon ry, by rw [rv_isN rx]; exact k _ _ H f (Same.refl _) (by simpa using Dt.bl _)⟩
theorem de_is (ha : DE X K a wa) (hb : DE X K b wb) : DE X K (.Compare a [.Is] [b] pos) (wOp (fIs false) wa wb) := de_op (fun i ta tb h1 h2 => pe_cmpR op_isN h1 h2 (nomark _)) od_is ha hb.v
theorem de_isnot (ha : DE X K a wa) (hb : DE X K b wb) : DE X K (.Compare a [.IsNot] [b] pos) (wOp (fIs true) wa wb) := de_op (fun i ta tb h1 h2 => pe_cmpR op_notN h1 h2 (nomark _)) od_isnot ha hb.v
/-! ### in, not in -/
def inS (x z : Str) : Bool := match x.cps.toList with
  | [c] => decide (c ∈ z.cps.toList)
  | _ => !(Builtin.Str.occurrences z x 0 z.length 1).isEmpty
def flatD : PyData → Bool
  | .none => true
  | .bool _ => true
  | .int _ => true
  | .str _ => true
  | _ => false
def fIn (neg : Bool) : F2
  | .str x, .str z, P => P (.bool (neg ^^ inS x z))
  | x, .list ys, P => flatD x = true ∧ ys.all flatD = true ∧ P (.bool (neg ^^ ys.any fun y => PyData.eqv y x))
  | x, .tuple ys, P => flatD x = true ∧ ys.all flatD = true ∧ P (.bool (neg ^^ ys.any fun y => PyData.eqv y x))
  | _, _, _ => False
def rInS (neg : Bool) : R2 := fun x y H Q => ∃ i j, x = .str i ∧ y = .str j ∧ Q (.bl (neg ^^ inS i j)) H
theorem op_inS' {Y : Cx} : OpR Y (compareOp .In) (rInS false) := by
  intro pins s σ H x y v u Q I rx ry h
  obtain ⟨i, j, rfl, rfl, q⟩ := h
  unfold inS at q
  split at q
  · rename_i c hc
    have e : i = ⟨#[c]⟩ := by obtain ⟨⟨i⟩⟩ := i; simpa using hc
    subst e
    exact op_in_sign pins s σ H _ _ v u Q I rx ry ⟨c, j, rfl, rfl, by simpa using q⟩
  · exact op_in_str pins s σ H _ _ v u Q I rx ry ⟨i, j, rfl, rfl, by simpa using q⟩
theorem op_notinS' {Y : Cx} : OpR Y (compareOp .NotIn) (rInS true) := by
  intro pins s σ H x y v u Q I rx ry h
  obtain ⟨i, j, rfl, rfl, q⟩ := h
  unfold inS at q
  split at q
  · rename_i c hc
    have e : i = ⟨#[c]⟩ := by obtain ⟨⟨i⟩⟩ := i; simpa using hc
    subst e
    exact op_notIn_sign pins s σ H _ _ v u Q I rx ry ⟨c, j, rfl, rfl, by simpa using q⟩
  · exact op_notIn_str pins s σ H _ _ v u Q I rx ry ⟨i, j, rfl, rfl, by simpa using q⟩
theorem flat_dt {H : Hp} {v : V} {d : PyData} (r : Dt K H v d) : flatV v = flatD d := by cases r <;> rfl
theorem flat_all {H : Hp} : ∀ {vs : List V} {ds : List PyData}, DtAll K H vs ds → vs.all flatV = ds.all flatD
  | _, _, .nil => rfl
  | _, _, .cons h r => by rw [List.all_cons, List.all_cons, flat_dt h, flat_all r]
theorem eq_flat {H : Hp} {v u : V} {d e : PyData} (r : Dt K H v d) (q : Dt K H u e) (f1 : flatD d = true) (f2 : flatD e = true) : eqV v u = PyData.eqv d e := by
  cases r <;> cases q <;> first | rfl | exact absurd f1 Bool.false_ne_true | exact absurd f2 Bool.false_ne_true
theorem in_flat {H : Hp} {u : V} {e : PyData} (q : Dt K H u e) (f2 : flatD e = true) : ∀ {vs : List V} {ds : List PyData}, DtAll K H vs ds → ds.all flatD = true → inV u vs = ds.any fun y => PyData.eqv y e
  | _, _, .nil, _ => rfl
  | _, _, .cons h r, f => by
    rw [List.all_cons, Bool.and_eq_true] at f
    have ih := in_flat q f2 r f.2
    unfold inV at ih ⊢
    rw [List.any_cons, List.any_cons, ih, eq_flat h q f.1 f2]
def rInAny (K : Fr) (neg : Bool) : R2 := fun x y H Q => rInS neg x y H Q ∨ rIn K neg x y H Q
theorem od_in {neg : Bool} : OpD K (rInAny K neg) (fIn neg) := by
  intro M H x y v u P Q dom rx ry f k
  have xx : ∀ b : Bool, (if neg = true then !b else b) = (neg ^^ b) := by intro b; cases neg <;> cases b <;> rfl
  have seq : ∀ (p : Addr) (vs : List V) (ds : List PyData), (SqL K H p vs ∨ SqT K H p vs) → DtAll K (rm M H) vs ds → u = .ref p → flatD x = true ∧ ds.all flatD = true ∧ P (.bool (neg ^^ ds.any fun y => PyData.eqv y x)) → rInAny K neg v u H Q := fun p vs ds hs hd hu f => by
    have r1 : Dt K (rm M H) v x := by
      rcases rx with r | ⟨_, _, _, _, rfl, _⟩
      · exact r
      · exact absurd f.1 (by simp [flatD])
    refine .inr ⟨p, vs, hu, hs, by rw [flat_dt r1]; exact f.1, by rw [flat_all hd]; exact f.2.1, ?_⟩
    rw [xx, in_flat r1 f.1 hd f.2.1]
    exact k _ _ H f.2.2 (Same.refl _) (.bl _)
  cases y with
  | str z =>
    cases x with
    | str x => rw [RV.isStr rx, RV.isStr ry]; exact .inl ⟨x, z, rfl, rfl, k _ _ H f (Same.refl _) (.bl _)⟩
    | _ => exact f.elim
  | list ds =>
    obtain ⟨p, vs, rfl, h1, h2⟩ := RV.isLst ry
    exact seq p vs ds (.inl (.inl (.inl h1))) h2 rfl (by cases x <;> exact f)
  | tuple ds =>
    obtain ⟨p, vs, rfl, h1, h2⟩ := RV.isTup ry
    exact seq p vs ds (.inr h1) h2 rfl (by cases x <;> exact f)
  | _ => cases x <;> exact f.elim
theorem de_in (ha : DE X K a wa) (hb : DV X K b wb) (hm : behindInMarks .In b = false := by rfl) (hK : ∀ i, (X i).K = K := by intro i; rfl) : DE X K (.Compare a [.In] [b] pos) (wOp (fIn false) wa wb) :=
  de_op (fun i ta tb h1 h2 => pe_cmpR (by rw [← hK i]; exact op_orR op_inS' op_in_seq) h1 h2 hm) od_in ha hb
theorem de_notin (ha : DE X K a wa) (hb : DV X K b wb) (hm : behindInMarks .NotIn b = false := by rfl) (hK : ∀ i, (X i).K = K := by intro i; rfl) : DE X K (.Compare a [.NotIn] [b] pos) (wOp (fIn true) wa wb) :=
  de_op (fun i ta tb h1 h2 => pe_cmpR (by rw [← hK i]; exact op_orR op_notinS' op_notIn_seq) h1 h2 hm) od_in ha hb
/-! ### x[i] -/
def fIx : F2
  | .list xs, .int i, P => ∃ d, atI xs i = some d ∧ P d
  | .tuple xs, .int i, P => ∃ d, atI xs i = some d ∧ P d
  | .str z, .int i, P => z.length ≤ sizeLine ∧ ∃ c, atI z.cps.toList i = some c ∧ P (.str ⟨#[c]⟩)
  | _, _, _ => False
theorem at_dt {H : Hp} {vs : List V} {ds : List PyData} {i : Int} {d : PyData} (r : DtAll K H vs ds) (h : atI ds i = some d) : ∃ v, atI vs i = some v ∧ Dt K H v d := by
  unfold atI at h ⊢
  rw [DtAll.len r]
  cases hn : ixN ds.length i with
  | none => rw [hn] at h; cases h
  | some j =>
    rw [hn] at h
    obtain ⟨v, h1, h2⟩ := DtAll.getd r (show ds[j]? = some d from h)
    exact ⟨v, h1, h2⟩
theorem od_ix : OpD K (rIx K) fIx := by
  intro M H x y v u P Q dom rx ry f k
  cases y with
  | int i =>
    rw [RV.isInt ry]
    cases x with
    | list ds =>
      obtain ⟨p, vs, rfl, h1, h2⟩ := RV.isLst rx
      obtain ⟨d, h3, f⟩ := f
      obtain ⟨w, h4, h5⟩ := at_dt h2 h3
      exact .inl ⟨p, vs, i, w, rfl, rfl, SqL.of h1, h4, k _ _ H f (Same.refl _) h5⟩
    | tuple ds =>
      obtain ⟨p, vs, rfl, h1, h2⟩ := RV.isTup rx
      obtain ⟨d, h3, f⟩ := f
      obtain ⟨w, h4, h5⟩ := at_dt h2 h3
      exact .inr (.inl ⟨p, vs, i, w, rfl, rfl, h1, h4, k _ _ H f (Same.refl _) h5⟩)
    | str z =>
      rw [RV.isStr rx]
      obtain ⟨h1, c, h2, f⟩ := f
      exact .inr (.inr ⟨z, i, c, rfl, rfl, h1, h2, k _ _ H f (Same.refl _) (.str _)⟩)
    | _ => exact f.elim
  | _ => cases x <;> exact f.elim
theorem de_ix (ha : DE X K a wa) (hb : DE X K b wb) (hs : PlainIx b := by exact fun _ _ => rfl) (hK : ∀ i, (X i).K = K := by intro i; rfl) : DE X K (.Subscript a b pos) (wOp fIx wa wb) :=
  de_op (fun i ta tb h1 h2 => by rw [← hK i]; exact pe_ix ix_seq h1 h2 hs) od_ix ha hb.v
theorem de_ixo (j : Nat) (hb : DE X K b wb) (hs : PlainIx b := by exact fun _ _ => rfl) (h : ∀ i, PE (X i) a (tVar j) := by intro i; exact pv _) (hK : ∀ i, (X i).K = K := by intro i; rfl) : DE X K (.Subscript a b pos) (wOpO fIx j wb) :=
  de_opo j (fun i ta tb h1 h2 => by rw [← hK i]; exact pe_ix ix_seq h1 h2 hs) od_ix hb.v h
/-! ### x[lo:hi] -/
abbrev WO := Env → (Env → Option Int → Prop) → Prop
def DO (X : ι → Cx) (K : Fr) (e : Option Expr) (w : WO) : Prop := ∃ t : TO, (∀ i, PO (X i) e t) ∧ ∀ (M0 M B : List Addr) (σ : L2.St) (H : Hp) (ρ : Env) (P : Env → Option Int → Prop) (Q : Option Int → Hp → Prop), EnvOk K M0 M B H σ ρ → w ρ P →
  (∀ ρ' o H', P ρ' o → Ext M B H M B H' → EnvOk K M0 M B H' σ ρ' → Q o H') → t σ H Q
def wNo : WO := fun ρ P => P ρ none
def wSo (we : WE) : WO := fun ρ P => we ρ fun ρ1 d => ∃ i, d = .int i ∧ P ρ1 (some i)
theorem do_no : DO X K none wNo := ⟨tNoPart, fun i => po_none, fun M0 M B σ H ρ P Q E w k => k ρ none H w (Ext.refl ..) E⟩
theorem do_so (h : DE X K e we) : DO X K (some e) (wSo we) := by
  obtain ⟨t, a1, a2⟩ := h
  refine ⟨tPart t, fun i => po_some (a1 i), fun M0 M B σ H ρ P Q E w k => ?_⟩
  refine a2 M0 M B σ H ρ _ _ E w fun ρ1 d v H1 w1 x1 E1 r1 => ?_
  obtain ⟨i, rfl, p⟩ := w1
  exact ⟨i, Dt.isInt r1, k ρ1 _ H1 p x1 E1⟩
def cutD {α : Type} (xs : List α) (lo hi : Option Int) : List α := (xs.drop (HT.sIx xs.length 0 lo)).take (HT.sIx xs.length xs.length hi - HT.sIx xs.length 0 lo)
theorem DtAll.cut {H : Hp} {vs : List V} {ds : List PyData} (r : DtAll K H vs ds) (lo hi : Option Int) : DtAll K H (cutV vs lo hi) (cutD ds lo hi) := by
  unfold cutV cutD
  rw [DtAll.len r]
  exact DtAll.take _ (DtAll.drop _ r)
def fSl : PyData → Option Int → Option Int → (PyData → Prop) → Prop
  | .str z, lo, hi, P => z.length ≤ sizeLine ∧ P (.str (cutS z lo hi))
  | .list xs, lo, hi, P => P (.list (cutD xs lo hi))
  | .tuple xs, lo, hi, P => P (.tuple (cutD xs lo hi))
  | _, _, _, _ => False
def rSlAny (K : Fr) : V → Option Int → Option Int → Hp → VK → Prop := fun x lo hi H Q => rSlS x lo hi H Q ∨ rSlL K x lo hi H Q ∨ rSlA K x lo hi H Q
theorem sl_any {Y : Cx} : SlR Y (rSlAny Y.K) := sl_str.or (sl_list.or sl_tupA)
theorem sl_d {M : List Addr} {H : Hp} {x : PyData} {v : V} {lo hi : Option Int} {P : PyData → Prop} {Q : VK} (dom : ∀ a, a ∈ M → H a ≠ none) (rx : RV K M H v x) (f : fSl x lo hi P) (k : ∀ d z H', P d → Same H H' → Dt K (rm M H') z d → Q z H') : rSlAny K v lo hi H Q := by
  have up : ∀ {p : Addr} {o : HO}, H p = none → Same (rm M H) (rm M (upd H p o)) := fun np a o e => by
    obtain ⟨z1, z2⟩ := rm_to e
    exact rm_of z1 (same_new np _ _ z2)
  cases x with
  | str z => rw [RV.isStr rx]; exact .inl ⟨z, rfl, f.1, k _ _ H f.2 (Same.refl _) (.str _)⟩
  | list ds =>
    obtain ⟨p, vs, rfl, h1, h2⟩ := RV.isLst rx
    exact .inr (.inl ⟨p, vs, rfl, SqL.of h1, fun q nq => k _ _ _ f (same_new nq) (.lst (rm_of (fun c => dom q c nq) upd_same) (DtAll.up (up nq) (DtAll.cut h2 lo hi)))⟩)
  | tuple ds =>
    have r1 : Dt K (rm M H) v (.tuple ds) := by rcases rx with r | ⟨_, _, _, _, q, _⟩ <;> first | exact r | cases q
    obtain ⟨p, vs, rfl, h1, h2⟩ := RV.isTup rx
    refine .inr (.inr ⟨p, vs, rfl, h1, fun ⟨c1, c2⟩ => ?_, fun _ q nq => k _ _ _ f (same_new nq) (.tup (.inl (.inl (rm_of (fun c => dom q c nq) upd_same))) (DtAll.up (up nq) (DtAll.cut h2 lo hi)))⟩)
    refine k _ _ H f (Same.refl _) ?_
    have e : cutD ds lo hi = ds := by
      unfold cutD
      rw [← DtAll.len h2, c1, c2]
      simp [DtAll.len h2]
    rw [e]
    exact r1
  | _ => exact f.elim
def wSl (we : WE) (wl wh : WO) : WE := fun ρ P => we ρ fun ρ1 x => wl ρ1 fun ρ2 lo => wh ρ2 fun ρ3 hi => fSl x lo hi fun d => P ρ3 d
def wSlO (j : Nat) (wl wh : WO) : WE := fun ρ P => (∃ ds0, (ρ.at j).items = some ds0) ∧ wl ρ fun ρ2 lo => wh ρ2 fun ρ3 hi => ∃ ds, (ρ3.at j).items = some ds ∧ P ρ3 (.list (cutD ds lo hi))
theorem de_sl {wl wh : WO} {lo hi : Option Expr} {p2 : Pos} (ha : DE X K a wa) (hl : DO X K lo wl) (hh : DO X K hi wh) (hK : ∀ i, (X i).K = K := by intro i; rfl) : DE X K (.Subscript a (.Slice lo hi none p2) pos) (wSl wa wl wh) := by
  obtain ⟨t, a1, a2⟩ := ha
  obtain ⟨tl, l1, l2⟩ := hl
  obtain ⟨th, h1, h2⟩ := hh
  refine ⟨tSl (rSlAny K) t tl th, fun i => by rw [← hK i]; exact pe_slice sl_any (a1 i) (l1 i) (h1 i), fun M0 M B σ H ρ P Q E w k => ?_⟩
  refine a2 M0 M B σ H ρ _ _ E w fun ρ1 d v H1 w1 x1 E1 r1 => ?_
  refine l2 M0 M B σ H1 ρ1 _ _ E1 w1 fun ρ2 lo H2 w2 x2 E2 => ?_
  refine h2 M0 M B σ H2 ρ2 _ _ E2 w2 fun ρ3 hi H3 w3 x3 E3 => ?_
  refine sl_d E3.dom (.inl (E1.up (x2.trans x3) r1)) w3 fun d z H4 p e4 r4 => ?_
  exact k ρ3 d z H4 p ((x1.trans (x2.trans x3)).trans (Ext.same e4)) (E3.same e4) r4
theorem de_slo (j : Nat) {wl wh : WO} {lo hi : Option Expr} {p2 : Pos} (hl : DO X K lo wl) (hh : DO X K hi wh) (h : ∀ i, PE (X i) a (tVar j) := by intro i; exact pv _) (hK : ∀ i, (X i).K = K := by intro i; rfl) : DE X K (.Subscript a (.Slice lo hi none p2) pos) (wSlO j wl wh) := by
  obtain ⟨tl, l1, l2⟩ := hl
  obtain ⟨th, h1, h2⟩ := hh
  refine ⟨tSl (rSlAny K) (tVar j) tl th, fun i => by rw [← hK i]; exact pe_slice sl_any (h i) (l1 i) (h1 i), fun M0 M B σ H ρ P Q E w k => ?_⟩
  obtain ⟨⟨ds0, h0⟩, w⟩ := w
  obtain ⟨l0, xs0, _, _, hl0, _⟩ := E.lst h0
  refine ⟨_, hl0, ?_⟩
  refine l2 M0 M B σ H ρ _ _ E w fun ρ2 lo H2 w2 x2 E2 => ?_
  refine h2 M0 M B σ H2 ρ2 _ _ E2 w2 fun ρ3 hi H3 w3 x3 E3 => ?_
  obtain ⟨ds, h1, w4⟩ := w3
  obtain ⟨l, xs, _, _, hl, _, h4, h5, _⟩ := E3.lst h1
  rw [hl0] at hl
  injection hl with hl; injection hl with hl; injection hl with hl
  subst hl
  refine sl_d (x := .list ds) (P := fun d => P ρ3 d) E3.dom (.inr ⟨l0, xs, ds, rfl, rfl, h4, h5⟩) w4 fun d z H4 p e4 r4 => ?_
  exact k ρ3 d z H4 p ((x2.trans x3).trans (Ext.same e4)) (E3.same e4) r4
end Pm
namespace Pm
open PySem PySem.Spec PyProof.Rows L2
variable {ι : Type} {X : ι → Cx} {K : Fr} {a b e : Expr} {es : List Expr} {wa wb we : WE} {pos : Pos}
/-! ### built-ins of one argument -/
abbrev F1 := PyData → (PyData → Prop) → Prop
def CallD (K : Fr) (r : List V → Hp → VK → Prop) (f : F1) : Prop := ∀ (M : List Addr) (H : Hp) (x : PyData) (v : V) (P : PyData → Prop) (Q : VK), (∀ a, a ∈ M → H a ≠ none) → RV K M H v x → f x P →
  (∀ d z H', P d → Same H H' → Dt K (rm M H') z d → Q z H') → r [v] H Q
def wU (f : F1) (we : WE) : WE := fun ρ P => we ρ fun ρ1 d => f d fun z => P ρ1 z
theorem de_u {c : Expr} {r : List V → Hp → VK → Prop} {f : F1} (hp : ∀ i t, PE (X i) e t → PE (X i) c (tCB r (tCons t tNil))) (cd : CallD K r f) (h : DV X K e we) : DE X K c (wU f we) := by
  obtain ⟨t, a1, a2⟩ := h
  refine ⟨tCB r (tCons t tNil), fun i => hp i t (a1 i), fun M0 M B σ H ρ P Q E w k => ?_⟩
  refine a2 M0 M B σ H ρ _ _ E w fun ρ1 d v H1 w1 x1 E1 r1 => ?_
  exact cd M H1 d v _ Q E1.dom r1 w1 fun d z H2 p e2 r2 => k ρ1 d z H2 p (x1.trans (Ext.same e2)) (E1.same e2) r2
theorem up_new {M : List Addr} {H : Hp} {p : Addr} {o : HO} (np : H p = none) : Same (rm M H) (rm M (upd H p o)) := fun a o e => by
  obtain ⟨z1, z2⟩ := rm_to e
  exact rm_of z1 (same_new np _ _ z2)
def fLen : F1
  | .str x, P => x.length ≤ sizeLine ∧ P (.int x.length)
  | .list xs, P => P (.int xs.length)
  | .tuple xs, P => P (.int xs.length)
  | _, _ => False
theorem cd_len : CallD K (fun xs H Q => ∃ x n, xs = [x] ∧ LenV K x H n ∧ Q (.int n) H) fLen := by
  intro M H x v P Q dom r f k
  cases x with
  | str z => rw [RV.isStr r]; exact ⟨_, _, rfl, ⟨f.1, rfl⟩, k _ _ H f.2 (Same.refl _) (.int _)⟩
  | list ds =>
    obtain ⟨p, vs, rfl, h1, h2⟩ := RV.isLst r
    exact ⟨_, _, rfl, .inl ⟨vs, SqL.of h1, rfl⟩, by rw [DtAll.len h2]; exact k _ _ H f (Same.refl _) (.int _)⟩
  | tuple ds =>
    obtain ⟨p, vs, rfl, h1, h2⟩ := RV.isTup r
    exact ⟨_, _, rfl, .inr ⟨vs, h1, rfl⟩, by rw [DtAll.len h2]; exact k _ _ H f (Same.refl _) (.int _)⟩
  | _ => exact f.elim
theorem de_len {p : Pos} (hm : ∀ i, (X i).mg "len" = none) (h : DV X K e we) (hK : ∀ i, (X i).K = K := by intro i; rfl) (hg : ∀ i, Gl (X i) "len" := by intro i; rfl)
    (he : ∀ i, starEach (e :: []) (X i).env = (false, eval e (X i).env) :: starEach [] (X i).env := by intro i; rfl) : DE X K (.Call (.Name "len" p) [e] [] pos) (wU fLen we) :=
  de_u (fun i t h => by rw [← hK i]; exact pe_callB call_len (hg i) (hm i) PySem.boot_len (pa_cons h pa_nil (he i)) (by decide) (by decide) (he i) rfl) cd_len h
def fInt : F1
  | .int i, P => P (.int i)
  | .bool b, P => P (.int (if b then 1 else 0))
  | _, _ => False
theorem cd_int : CallD K (fun xs H Q => (∃ i, xs = [.int i] ∧ Q (.int i) H) ∨ ∃ k, xs = [.bl k] ∧ Q (.int (if k then 1 else 0)) H) fInt := by
  intro M H x v P Q dom r f k
  cases x with
  | int i => rw [RV.isInt r]; exact .inl ⟨i, rfl, k _ _ H f (Same.refl _) (.int _)⟩
  | bool i => rw [RV.isBl r]; exact .inr ⟨i, rfl, k _ _ H f (Same.refl _) (.int _)⟩
  | _ => exact f.elim
theorem de_toInt {p : Pos} (hm : ∀ i, (X i).mg "int" = none) (h : DE X K e we) (hg : ∀ i, Gl (X i) "int" := by intro i; rfl)
    (he : ∀ i, starEach (e :: []) (X i).env = (false, eval e (X i).env) :: starEach [] (X i).env := by intro i; rfl) : DE X K (.Call (.Name "int" p) [e] [] pos) (wU fInt we) :=
  de_u (fun i t h => pe_callTy call_int1 (hg i) (hm i) (by decide +kernel) (pa_cons h pa_nil (he i)) (by decide) (by decide) (he i) rfl) cd_int h.v
def fTuple : F1
  | .list xs, P => P (.tuple xs)
  | .tuple xs, P => P (.tuple xs)
  | _, _ => False
theorem cd_tuple : CallD K (fun xs H Q => ∃ p ys, xs = [.ref p] ∧ ((SqL K H p ys ∧ ∀ l, H l = none → Q (.ref l) (upd H l (.tup ys))) ∨ (SqT K H p ys ∧ Q (.ref p) H))) fTuple := by
  intro M H x v P Q dom r f k
  cases x with
  | list ds =>
    obtain ⟨p, vs, rfl, h1, h2⟩ := RV.isLst r
    exact ⟨p, vs, rfl, .inl ⟨SqL.of h1, fun l nl => k _ _ _ f (same_new nl) (.tup (.inl (.inl (rm_of (fun c => dom l c nl) upd_same))) (DtAll.up (up_new nl) h2))⟩⟩
  | tuple ds =>
    have r1 : Dt K (rm M H) v (.tuple ds) := by rcases r with r | ⟨_, _, _, _, q, _⟩ <;> first | exact r | cases q
    obtain ⟨p, vs, rfl, h1, h2⟩ := RV.isTup r
    exact ⟨p, vs, rfl, .inr ⟨h1, k _ _ H f (Same.refl _) r1⟩⟩
  | _ => exact f.elim
theorem de_tuple {p : Pos} (hm : ∀ i, (X i).mg "tuple" = none) (h : DV X K e we) (hK : ∀ i, (X i).K = K := by intro i; rfl) (hg : ∀ i, Gl (X i) "tuple" := by intro i; rfl)
    (he : ∀ i, starEach (e :: []) (X i).env = (false, eval e (X i).env) :: starEach [] (X i).env := by intro i; rfl) : DE X K (.Call (.Name "tuple" p) [e] [] pos) (wU fTuple we) :=
  de_u (fun i t h => by rw [← hK i]; exact pe_callTy call_tuple_of (hg i) (hm i) (by decide +kernel) (pa_cons h pa_nil (he i)) (by decide) (by decide) (he i) rfl) cd_tuple h
def fList : F1
  | .list xs, P => P (.list xs)
  | .tuple xs, P => P (.list xs)
  | _, _ => False
theorem cd_list : CallD K (fun xs H Q => ∃ p ys, xs = [.ref p] ∧ (SqL K H p ys ∨ SqT K H p ys) ∧ ∀ l, H l = none → Q (.ref l) (upd H l (.lst ys))) fList := by
  intro M H x v P Q dom r f k
  cases x with
  | list ds =>
    obtain ⟨p, vs, rfl, h1, h2⟩ := RV.isLst r
    exact ⟨p, vs, rfl, .inl (SqL.of h1), fun l nl => k _ _ _ f (same_new nl) (.lst (rm_of (fun c => dom l c nl) upd_same) (DtAll.up (up_new nl) h2))⟩
  | tuple ds =>
    obtain ⟨p, vs, rfl, h1, h2⟩ := RV.isTup r
    exact ⟨p, vs, rfl, .inr h1, fun l nl => k _ _ _ f (same_new nl) (.lst (rm_of (fun c => dom l c nl) upd_same) (DtAll.up (up_new nl) h2))⟩
  | _ => exact f.elim
theorem de_list {p : Pos} (hm : ∀ i, (X i).mg "list" = none) (h : DV X K e we) (hK : ∀ i, (X i).K = K := by intro i; rfl) (hg : ∀ i, Gl (X i) "list" := by intro i; rfl)
    (he : ∀ i, starEach (e :: []) (X i).env = (false, eval e (X i).env) :: starEach [] (X i).env := by intro i; rfl) : DE X K (.Call (.Name "list" p) [e] [] pos) (wU fList we) :=
  de_u (fun i t h => by rw [← hK i]; exact pe_callTy call_list_of (hg i) (hm i) (by decide +kernel) (pa_cons h pa_nil (he i)) (by decide) (by decide) (he i) rfl) cd_list h
/-- any, all of a list of truth values -/
def fBools (g : List Bool → Bool) : F1 := fun d P => ∃ bs : List Bool, d = .list (bs.map .bool) ∧ P (.bool (g bs))
theorem dt_bools {H : Hp} : ∀ {vs : List V} {bs : List Bool}, DtAll K H vs (bs.map .bool) → vs = bs.map V.bl
  | _, [], .nil => rfl
  | _, b :: bs, .cons h r => by rw [List.map_cons, Dt.isBl h, dt_bools r]
theorem cd_any : CallD K (rAny K) (fBools fun bs => bs.any id) := by
  intro M H x v P Q dom r f k
  obtain ⟨bs, rfl, f⟩ := f
  obtain ⟨p, vs, rfl, h1, h2⟩ := RV.isLst r
  exact ⟨p, bs, rfl, SqL.of (by rw [← dt_bools h2]; exact h1), k _ _ H f (Same.refl _) (.bl _)⟩
theorem cd_all : CallD K (rAll K) (fBools fun bs => bs.all id) := by
  intro M H x v P Q dom r f k
  obtain ⟨bs, rfl, f⟩ := f
  obtain ⟨p, vs, rfl, h1, h2⟩ := RV.isLst r
  exact ⟨p, bs, rfl, SqL.of (by rw [← dt_bools h2]; exact h1), k _ _ H f (Same.refl _) (.bl _)⟩
theorem de_any {p : Pos} (hm : ∀ i, (X i).mg "any" = none) (h : DV X K e we) (hK : ∀ i, (X i).K = K := by intro i; rfl) (hg : ∀ i, Gl (X i) "any" := by intro i; rfl) (hc : ∀ i, (X i).calm = true := by intro i; rfl)
    (he : ∀ i, starEach (e :: []) (X i).env = (false, eval e (X i).env) :: starEach [] (X i).env := by intro i; rfl) : DE X K (.Call (.Name "any" p) [e] [] pos) (wU (fBools fun bs => bs.any id) we) :=
  de_u (fun i t h => by rw [← hK i]; exact pe_callB (cr_any (hc i)) (hg i) (hm i) (by decide +kernel) (pa_cons h pa_nil (he i)) (by decide) (by decide) (he i) rfl) cd_any h
theorem de_all {p : Pos} (hm : ∀ i, (X i).mg "all" = none) (h : DV X K e we) (hK : ∀ i, (X i).K = K := by intro i; rfl) (hg : ∀ i, Gl (X i) "all" := by intro i; rfl) (hc : ∀ i, (X i).calm = true := by intro i; rfl)
    (he : ∀ i, starEach (e :: []) (X i).env = (false, eval e (X i).env) :: starEach [] (X i).env := by intro i; rfl) : DE X K (.Call (.Name "all" p) [e] [] pos) (wU (fBools fun bs => bs.all id) we) :=
  de_u (fun i t h => by rw [← hK i]; exact pe_callB (cr_all (hc i)) (hg i) (hm i) (by decide +kernel) (pa_cons h pa_nil (he i)) (by decide) (by decide) (he i) rfl) cd_all h
/-! ### methods of texts -/
abbrev FM := Str → List PyData → (PyData → Prop) → Prop
def MtD (K : Fr) (r : V → List V → Hp → VK → Prop) (f : FM) : Prop := ∀ (M : List Addr) (H : Hp) (x : Str) (ds : List PyData) (vs : List V) (P : PyData → Prop) (Q : VK), (∀ a, a ∈ M → H a ≠ none) → DtAll K (rm M H) vs ds → f x ds P →
  (∀ d z H', P d → Same H H' → Dt K (rm M H') z d → Q z H') → r (.str x) vs H Q
def wM (f : FM) (wo : WE) (wa : WA) : WE := fun ρ P => wo ρ fun ρ1 x => ∃ s, x = .str s ∧ wa ρ1 fun ρ2 ds => f s ds fun d => P ρ2 d
theorem de_m {c : Expr} {r : V → List V → Hp → VK → Prop} {f : FM} {wo : WE} {wa : WA} (hp : ∀ i t u, PE (X i) a t → PA (X i) es u → PE (X i) c (tBM K "str" r t u)) (md : MtD K r f) (h : DE X K a wo) (ha : DA X K es wa) : DE X K c (wM f wo wa) := by
  obtain ⟨t, a1, a2⟩ := h
  obtain ⟨u, b1, b2⟩ := ha
  refine ⟨_, fun i => hp i t u (a1 i) (b1 i), fun M0 M B σ H ρ P Q E w k => ?_⟩
  refine a2 M0 M B σ H ρ _ _ E w fun ρ1 d v H1 w1 x1 E1 r1 => ?_
  obtain ⟨s, rfl, w1⟩ := w1
  rw [Dt.isStr r1]
  refine ⟨rfl, b2 M0 M B σ H1 ρ1 _ _ E1 w1 fun ρ2 ds vs H2 w2 x2 E2 r2 => ?_⟩
  exact md M H2 s ds vs _ Q E2.dom r2 w2 fun d z H3 p e3 r3 => k ρ2 d z H3 p ((x1.trans x2).trans (Ext.same e3)) (E2.same e3) r3
/-- sep.join(x), x a list or a tuple of texts -/
def fJoin (s : Str) : F1 := fun d P => ∃ ys : List Str, (d = .list (ys.map .str) ∨ d = .tuple (ys.map .str)) ∧ (ys.map (·.length)).sum + ys.length * s.length ≤ 16777216 ∧ P (.str (Txt.join s ys))
theorem dt_strs {H : Hp} : ∀ {vs : List V} {bs : List Str}, DtAll K H vs (bs.map .str) → vs = bs.map V.str
  | _, [], .nil => rfl
  | _, b :: bs, .cons h r => by rw [List.map_cons, Dt.isStr h, dt_strs r]
def wJoin (wo we : WE) : WE := fun ρ P => wo ρ fun ρ1 x => ∃ s, x = .str s ∧ we ρ1 fun ρ2 d => fJoin s d fun z => P ρ2 z
theorem de_join {wo : WE} {apos cpos : Pos} (h : DE X K a wo) (ha : DV X K e we) (hK : ∀ i, (X i).K = K := by intro i; rfl) (he : ∀ i, starEach (e :: []) (X i).env = (false, eval e (X i).env) :: starEach [] (X i).env := by intro i; rfl)
    (hp : ∀ i t u, PE (X i) a t → PA (X i) [e] u → PE (X i) (.Call (.Attribute a "join" apos) [e] [] cpos) (tBM (X i).K "str" (fun x xs H Q => ∃ a p, ∃ ys : List Str, x = .str a ∧ xs = [.ref p] ∧ (SqL (X i).K H p (ys.map V.str) ∨ SqT (X i).K H p (ys.map V.str)) ∧ (ys.map (·.length)).sum + ys.length * a.length ≤ 16777216 ∧ Q (.str (Txt.join a ys)) H) t u) := by intro i t u h1 h2; exact pe_bm PySem.F.plainAttrs_str PySem.F.slot_str_join PySem.F.type_str_join mt_join h1 h2) :
    DE X K (.Call (.Attribute a "join" apos) [e] [] cpos) (wJoin wo we) := by
  obtain ⟨t, a1, a2⟩ := h
  obtain ⟨u, b1, b2⟩ := ha
  refine ⟨tBM K "str" (fun x xs H Q => ∃ a p, ∃ ys : List Str, x = .str a ∧ xs = [.ref p] ∧ (SqL K H p (ys.map V.str) ∨ SqT K H p (ys.map V.str)) ∧ (ys.map (·.length)).sum + ys.length * a.length ≤ 16777216 ∧ Q (.str (Txt.join a ys)) H) t (tCons u tNil), fun i => by rw [← hK i]; exact hp i t _ (a1 i) (pa_cons (b1 i) pa_nil (he i)), fun M0 M B σ H ρ P Q E w k => ?_⟩
  refine a2 M0 M B σ H ρ _ _ E w fun ρ1 d v H1 w1 x1 E1 r1 => ?_
  obtain ⟨s, rfl, w1⟩ := w1
  rw [Dt.isStr r1]
  refine ⟨rfl, b2 M0 M B σ H1 ρ1 _ _ E1 w1 fun ρ2 d v H2 w2 x2 E2 r2 => ?_⟩
  obtain ⟨ys, hd, hz, w2⟩ := w2
  rcases hd with rfl | rfl
  · obtain ⟨p, vs, rfl, h1, h2⟩ := RV.isLst r2
    exact ⟨s, p, ys, rfl, rfl, .inl (SqL.of (by rw [← dt_strs h2]; exact h1)), hz, k ρ2 _ _ H2 w2 (x1.trans x2) E2 (.str _)⟩
  · obtain ⟨p, vs, rfl, h1, h2⟩ := RV.isTup r2
    exact ⟨s, p, ys, rfl, rfl, .inr (by rw [← dt_strs h2]; exact h1), hz, k ρ2 _ _ H2 w2 (x1.trans x2) E2 (.str _)⟩
/-- x.split(sep) -/
def fSplit : FM
  | x, [.str y], P => (y.length == 0) = false ∧ x.length + 2 ≤ sizeLine ∧ P (.list ((Txt.split x y).map .str))
  | _, _, _ => False
theorem dt_ofstrs {H : Hp} : ∀ {bs : List Str}, DtAll K H (bs.map V.str) (bs.map .str)
  | [] => .nil
  | b :: bs => .cons (.str b) dt_ofstrs
theorem md_split : MtD K (fun x xs H Q => ∃ a b, x = .str a ∧ xs = [.str b] ∧ (b.length == 0) = false ∧ a.length + 2 ≤ sizeLine ∧ rNewStrs (Txt.split a b) H Q) fSplit := by
  intro M H x ds vs P Q dom r f k
  match ds, f with
  | [.str y], f =>
    cases r with
    | cons r1 r2 =>
      cases r2
      rw [Dt.isStr r1]
      exact ⟨x, y, rfl, rfl, f.1, f.2.1, fun p np => k _ _ _ f.2.2 (same_new np) (.lst (rm_of (fun c => dom p c np) upd_same) dt_ofstrs)⟩
theorem de_split {wo : WE} {wa : WA} {apos cpos : Pos} (h : DE X K a wo) (ha : DA X K [e] wa) (hK : ∀ i, (X i).K = K := by intro i; rfl)
    (hp : ∀ i t u, PE (X i) a t → PA (X i) [e] u → PE (X i) (.Call (.Attribute a "split" apos) [e] [] cpos) (tBM (X i).K "str" (fun x xs H Q => ∃ a b, x = .str a ∧ xs = [.str b] ∧ (b.length == 0) = false ∧ a.length + 2 ≤ sizeLine ∧ rNewStrs (Txt.split a b) H Q) t u) := by intro i t u h1 h2; exact pe_bm PySem.F.plainAttrs_str PySem.F.slot_str_split PySem.F.type_str_split mt_split h1 h2) :
    DE X K (.Call (.Attribute a "split" apos) [e] [] cpos) (wM fSplit wo wa) :=
  de_m (fun i t u h1 h2 => by rw [← hK i]; exact hp i t u h1 h2) md_split h ha
end Pm
namespace Pm
open PySem PySem.Spec PyProof.Rows L2
variable {ι : Type} {X : ι → Cx} {K : Fr} {a b e tg : Expr} {es : List Expr} {wa wb we : WE} {pos : Pos}
/-! ### what is walked -/
abbrev WI := Env → (Env → List PyData → Prop) → Prop
def IterOk (K : Fr) (M : List Addr) (H1 : Hp) (J : It) (items : List PyData) : Prop := ∀ (M' : List Addr) (H' : Hp), Same (rm M H1) (rm M' H') → (∀ a, a ∈ M' → H' a ≠ none) →
  (∀ (i : Nat) (d : PyData), items[i]? = some d → J.go i H' ∧ ∀ x H'', J.yld i H' x H'' → Same H' H'' ∧ Dt K (rm M' H'') x d) ∧ J.stop items.length H'
def DI (X : ι → Cx) (K : Fr) (tg iter : Expr) (w : WI) : Prop := ∃ t : TI, (∀ i, PI (X i) tg iter t) ∧ ∀ (M0 M B : List Addr) (σ : L2.St) (H : Hp) (ρ : Env) (P : Env → List PyData → Prop) (R : It → Hp → Prop), EnvOk K M0 M B H σ ρ → w ρ P →
  (∀ ρ' items J H', P ρ' items → Ext M B H M B H' → EnvOk K M0 M B H' σ ρ' → IterOk K M H' J items → R J H') → t σ H R
theorem pi_or {Y : Cx} {iter : Expr} {w1 w2 : TI} (h1 : PI Y tg iter w1) (h2 : PI Y tg iter w2) : PI Y tg iter (fun σ H R => w1 σ H R ∨ w2 σ H R) := by
  refine ⟨fun pins s σ H R I h => ?_⟩
  rcases h with h | h
  · exact h1.run pins s σ H R I h
  · exact h2.run pins s σ H R I h
def signsD (z : Str) : List PyData := z.cps.toList.map fun c => .str ⟨#[c]⟩
def fSeq (d : PyData) (P : List PyData → Prop) : Prop := match d with
  | .list ds => P ds
  | .tuple ds => P ds
  | .str z => P (signsD z)
  | _ => False
def wSeqI (we : WE) : WI := fun ρ P => we ρ fun ρ1 d => fSeq d fun ds => P ρ1 ds
def iAny (K : Fr) (tl : TE) : TI := fun σ H R => tl σ H fun x H1 => (∃ a, x = .ref a ∧ (∃ xs, SqL K H1 a xs) ∧ R (Itl K a) H1) ∨ (∃ a, x = .ref a ∧ (∃ xs, SqT K H1 a xs) ∧ R (Itt K a) H1) ∨ ∃ x', x = .str x' ∧ R (Its x') H1
theorem pi_any {Y : Cx} {l : Expr} {tl : TE} (hl : PE Y l tl) : PI Y tg l (iAny Y.K tl) := by
  refine ⟨fun pins s σ H R I h => ?_⟩
  refine thn (hl.run pins s σ H _ I h) fun v s1 ⟨x, H1, I1, r1, q1⟩ => ?_
  rcases q1 with ⟨a, e, ⟨xs, hq⟩, q⟩ | ⟨a, e, ⟨xs, hq⟩, q⟩ | ⟨x', e, q⟩
  · subst e
    cases r1
    obtain ⟨its, rv, p, hz⟩ := I1.list hq
    refine wpAny_pyIter_list p.isList ?_
    refine ⟨s1.heap.objs.size, [s1.heap.objs.size], _, _, H1, rfl, I1.kept (t' := s1.toks) fun b o e => Heap.get?_push_of_some _ e, turn_list a _, ⟨_, Heap.get?_push_size _ rfl, rfl, rfl⟩, fun b hb => ?_, q⟩
    have e : b = s1.heap.objs.size := by simpa using hb
    subst e
    exact I1.fpOk (Nat.le_refl _) (I1.hok.fresh (Nat.le_refl _))
  · subst e
    cases r1
    obtain ⟨its, rv, p, hz⟩ := I1.tuple hq
    refine wpAny_pyIter_tuple (show s1.heap.IsTuple a its.toArray from p) ?_
    refine ⟨s1.heap.objs.size, [s1.heap.objs.size], _, _, H1, rfl, I1.kept (t' := s1.toks) fun b o e => Heap.get?_push_of_some _ e, turn_tuple a _, ⟨_, Heap.get?_push_size _ rfl, rfl, rfl⟩, fun b hb => ?_, q⟩
    have e : b = s1.heap.objs.size := by simpa using hb
    subst e
    exact I1.fpOk (Nat.le_refl _) (I1.hok.fresh (Nat.le_refl _))
  · subst e
    obtain ⟨t, rfl⟩ := r1
    cases ha : x'.cps.all (· < 128)
    · exact wpAny_pyIter_wide ha (pi_one (tk := s1.toks) I1 _ (turn_str _ x' t "str_iterator" (.inr rfl)) ⟨_, Heap.get?_push_size _ rfl, rfl, rfl⟩ q)
    · exact wpAny_pyIter_ascii ha (pi_one (tk := s1.toks) I1 _ (turn_str _ x' t "str_ascii_iterator" (.inl rfl)) ⟨_, Heap.get?_push_size _ rfl, rfl, rfl⟩ q)
theorem it_list {M : List Addr} {H : Hp} {a : Addr} {xs : List V} {ds : List PyData} (h : rm M H a = some (.lst xs)) (r : DtAll K (rm M H) xs ds) : IterOk K M H (Itl K a) ds := fun M' H' s dom => by
  have h' : H' a = some (.lst xs) := (rm_to (s _ _ h)).2
  refine ⟨fun i d hd => ?_, ⟨xs, SqL.of h', by rw [DtAll.len r]; exact Nat.le_refl _⟩⟩
  obtain ⟨v, hv, rv⟩ := DtAll.getd r hd
  refine ⟨⟨xs, v, SqL.of h', hv⟩, fun x H'' y => ?_⟩
  obtain ⟨rfl, hy⟩ := y
  have e := hy xs (SqL.of h')
  rw [hv] at e
  cases e
  exact ⟨Same.refl _, Dt.up s rv⟩
theorem it_tup {M : List Addr} {H : Hp} {a : Addr} {xs : List V} {ds : List PyData} (h : SqT K (rm M H) a xs) (r : DtAll K (rm M H) xs ds) : IterOk K M H (Itt K a) ds := fun M' H' s dom => by
  have h' : SqT K H' a xs := same_t rm_le (same_t s h)
  refine ⟨fun i d hd => ?_, ⟨xs, h', by rw [DtAll.len r]; exact Nat.le_refl _⟩⟩
  obtain ⟨v, hv, rv⟩ := DtAll.getd r hd
  refine ⟨⟨xs, v, h', hv⟩, fun x H'' y => ?_⟩
  obtain ⟨rfl, hy⟩ := y
  have e := hy xs h'
  rw [hv] at e
  cases e
  exact ⟨Same.refl _, Dt.up s rv⟩
theorem signs_get {z : Str} {i : Nat} {d : PyData} (h : (signsD z)[i]? = some d) : ∃ c, z.cps[i]? = some c ∧ d = .str ⟨#[c]⟩ := by
  unfold signsD at h
  rw [List.getElem?_map] at h
  cases e : z.cps.toList[i]? with
  | none => rw [e] at h; cases h
  | some c =>
    rw [e] at h
    exact ⟨c, by simpa using e, (Option.some.inj h).symm⟩
theorem signs_len {z : Str} : (signsD z).length = z.cps.size := by simp [signsD]
theorem it_str {M : List Addr} {H : Hp} {z : Str} : IterOk K M H (Its z) (signsD z) := fun M' H' s dom => by
  refine ⟨fun i d hd => ?_, by rw [signs_len]; exact Nat.le_refl _⟩
  obtain ⟨c, hc, rfl⟩ := signs_get hd
  refine ⟨(Array.getElem?_eq_some_iff.mp hc).1, fun x H'' y => ?_⟩
  obtain ⟨rfl, c', hc', rfl⟩ := y
  rw [hc] at hc'
  cases hc'
  exact ⟨Same.refl _, .str _⟩
theorem di_seq (h : DE X K e we) (hK : ∀ i, (X i).K = K := by intro i; rfl) : DI X K tg e (wSeqI we) := by
  obtain ⟨t, a1, a2⟩ := h
  refine ⟨iAny K t, fun i => by rw [← hK i]; exact pi_any (a1 i), fun M0 M B σ H ρ P R E w k => ?_⟩
  refine a2 M0 M B σ H ρ _ _ E w fun ρ1 d v H1 w1 x1 E1 r1 => ?_
  cases d with
  | list ds =>
    obtain ⟨p, vs, rfl, h1, h2⟩ := Dt.isLst r1
    exact .inl ⟨p, rfl, ⟨vs, SqL.of (rm_le _ _ h1)⟩, k ρ1 ds _ H1 w1 x1 E1 (it_list h1 h2)⟩
  | tuple ds =>
    obtain ⟨p, vs, rfl, h1, h2⟩ := Dt.isTup r1
    exact .inr (.inl ⟨p, rfl, ⟨vs, same_t rm_le h1⟩, k ρ1 ds _ H1 w1 x1 E1 (it_tup h1 h2)⟩)
  | str z =>
    rw [Dt.isStr r1]
    exact .inr (.inr ⟨z, rfl, k ρ1 _ _ H1 w1 x1 E1 it_str⟩)
  | _ => exact w1.elim
/-! ### ranges -/
def rangeD (lo : Int) (n : Nat) : List PyData := (List.range n).map fun (k : Nat) => .int (lo + (k : Int))
theorem rangeD_get {lo : Int} {n i : Nat} {d : PyData} (h : (rangeD lo n)[i]? = some d) : i < n ∧ d = .int (lo + (i : Int)) := by
  unfold rangeD at h
  rw [List.getElem?_map] at h
  by_cases c : i < n
  · rw [List.getElem?_range c] at h
    exact ⟨c, (Option.some.inj h).symm⟩
  · rw [List.getElem?_eq_none (by simpa using Nat.le_of_not_lt c)] at h
    cases h
theorem rangeD_len {lo : Int} {n : Nat} : (rangeD lo n).length = n := by simp [rangeD]
theorem it_range {M : List Addr} {H : Hp} {lo : Int} {n : Nat} : IterOk K M H (Itr lo n) (rangeD lo n) := fun M' H' s dom => by
  refine ⟨fun i d hd => ?_, by rw [rangeD_len]; exact Nat.le_refl _⟩
  obtain ⟨h1, rfl⟩ := rangeD_get hd
  refine ⟨h1, fun x H'' y => ?_⟩
  obtain ⟨rfl, rfl⟩ := y
  exact ⟨Same.refl _, .int _⟩
def wRange1 (wa : WA) : WI := fun ρ P => wa ρ fun ρ1 ds => ∃ j : Int, ds = [.int j] ∧ -(2 ^ 62) ≤ j ∧ j < 2 ^ 62 ∧ P ρ1 (rangeD 0 j.toNat)
def wRange2 (wa : WA) : WI := fun ρ P => wa ρ fun ρ1 ds => ∃ i j : Int, ds = [.int i, .int j] ∧ (-(2 ^ 62) ≤ i ∧ i < 2 ^ 62 ∧ -(2 ^ 62) ≤ j ∧ j < 2 ^ 62) ∧ P ρ1 (rangeD i (j - i).toNat)
theorem di_range1 {w : WA} {p : Pos} (hm : ∀ i, (X i).mg "range" = none) (h : DA X K [a] w) (hg : ∀ i, Gl (X i) "range" := by intro i; rfl) (hs : ∀ i, starEach [a] (X i).env = [(false, eval a (X i).env)] := by intro i; rfl) : DI X K tg (.Call (.Name "range" p) [a] [] pos) (wRange1 w) := by
  obtain ⟨t, a1, a2⟩ := h
  refine ⟨iRng1 t, fun i => pi_range1 (hg i) (hm i) (a1 i) (hs i), fun M0 M B σ H ρ P R E w k => ?_⟩
  refine a2 M0 M B σ H ρ _ _ E w fun ρ1 ds vs H1 w1 x1 E1 r1 => ?_
  obtain ⟨j, rfl, h1, h2, w1⟩ := w1
  cases r1 with
  | cons q1 q2 =>
    cases q2
    rw [Dt.isInt q1]
    exact ⟨j, rfl, h1, h2, k ρ1 _ _ H1 w1 x1 E1 it_range⟩
theorem di_range2 {w : WA} {p : Pos} (hm : ∀ i, (X i).mg "range" = none) (h : DA X K [a, b] w) (hg : ∀ i, Gl (X i) "range" := by intro i; rfl) (hs : ∀ i, starEach [a, b] (X i).env = [(false, eval a (X i).env), (false, eval b (X i).env)] := by intro i; rfl) (hs2 : ∀ i, starEach [b] (X i).env = [(false, eval b (X i).env)] := by intro i; rfl) : DI X K tg (.Call (.Name "range" p) [a, b] [] pos) (wRange2 w) := by
  obtain ⟨t, a1, a2⟩ := h
  refine ⟨iRng2 t, fun i => pi_range2 (hg i) (hm i) (a1 i) (hs i) (hs2 i), fun M0 M B σ H ρ P R E w k => ?_⟩
  refine a2 M0 M B σ H ρ _ _ E w fun ρ1 ds vs H1 w1 x1 E1 r1 => ?_
  obtain ⟨i, j, rfl, hb, w1⟩ := w1
  cases r1 with
  | cons q1 q2 =>
    cases q2 with
    | cons q2 q3 =>
      cases q3
      rw [Dt.isInt q1, Dt.isInt q2]
      exact ⟨i, j, rfl, hb, k ρ1 _ _ H1 w1 x1 E1 it_range⟩
/-- i, i - 1, .. down to j + 1 -/
def downD (i : Int) (n : Nat) : List PyData := (List.range n).map fun (k : Nat) => .int (i + (k : Int) * (-1))
theorem downD_get {lo : Int} {n i : Nat} {d : PyData} (h : (downD lo n)[i]? = some d) : i < n ∧ d = .int (lo + (i : Int) * (-1)) := by
  unfold downD at h
  rw [List.getElem?_map] at h
  by_cases c : i < n
  · rw [List.getElem?_range c] at h
    exact ⟨c, (Option.some.inj h).symm⟩
  · rw [List.getElem?_eq_none (by simpa using Nat.le_of_not_lt c)] at h
    cases h
theorem downD_len {lo : Int} {n : Nat} : (downD lo n).length = n := by simp [downD]
theorem it_down {M : List Addr} {H : Hp} {lo : Int} {n : Nat} : IterOk K M H (Itc lo (-1) n) (downD lo n) := fun M' H' s dom => by
  refine ⟨fun i d hd => ?_, by rw [downD_len]; exact Nat.le_refl _⟩
  obtain ⟨h1, rfl⟩ := downD_get hd
  refine ⟨h1, fun x H'' y => ?_⟩
  obtain ⟨rfl, rfl⟩ := y
  exact ⟨Same.refl _, .int _⟩
def wDown (wa : WA) : WI := fun ρ P => wa ρ fun ρ1 ds => ∃ i j : Int, ds = [.int i, .int j, .int (-1)] ∧ (-(2 ^ 62) ≤ i ∧ i < 2 ^ 62 ∧ -(2 ^ 62) ≤ j ∧ j < 2 ^ 62) ∧ P ρ1 (downD i (i - j).toNat)
theorem di_down {c : Expr} {w : WA} {p : Pos} (hm : ∀ i, (X i).mg "range" = none) (h : DA X K [a, b, c] w) (hg : ∀ i, Gl (X i) "range" := by intro i; rfl) (hs : ∀ i, starEach [a, b, c] (X i).env = (false, eval a (X i).env) :: starEach [b, c] (X i).env := by intro i; rfl)
    (hpl : ∀ i, (backTo pos (starEach [b, c] (X i).env)).any (·.1) = false := by intro i; rfl) : DI X K tg (.Call (.Name "range" p) [a, b, c] [] pos) (wDown w) := by
  obtain ⟨t, a1, a2⟩ := h
  refine ⟨iRng3 t, fun i => pi_range3 (hg i) (hm i) (a1 i) (hs i) (hpl i), fun M0 M B σ H ρ P R E w k => ?_⟩
  refine a2 M0 M B σ H ρ _ _ E w fun ρ1 ds vs H1 w1 x1 E1 r1 => ?_
  obtain ⟨i, j, rfl, hb, w1⟩ := w1
  cases r1 with
  | cons q1 q2 =>
    cases q2 with
    | cons q2 q3 =>
      cases q3 with
      | cons q3 q4 =>
        cases q4
        rw [Dt.isInt q1, Dt.isInt q2, Dt.isInt q3]
        exact ⟨i, j, -1, _, rfl, RgC.neg hb.1 hb.2.1 hb.2.2.1 hb.2.2.2, k ρ1 _ _ H1 w1 x1 E1 it_down⟩
/-! ### enumerate -/
def enumD (ds : List PyData) : List PyData := ds.zipIdx.map fun p => .tuple [.int (p.2 : Nat), p.1]
theorem enumD_get {ds : List PyData} {i : Nat} {d : PyData} (h : (enumD ds)[i]? = some d) : ∃ x, ds[i]? = some x ∧ d = .tuple [.int (i : Nat), x] := by
  unfold enumD at h
  rw [List.getElem?_map, List.getElem?_zipIdx] at h
  cases e : ds[i]? with
  | none => rw [e] at h; cases h
  | some x =>
    rw [e] at h
    refine ⟨x, rfl, ?_⟩
    have := (Option.some.inj h).symm
    simpa using this
theorem enumD_len {ds : List PyData} : (enumD ds).length = ds.length := by simp [enumD]
theorem it_enumS {M : List Addr} {H : Hp} {z : Str} : IterOk K M H (IteS z) (enumD (signsD z)) := fun M' H' s dom => by
  refine ⟨fun i d hd => ?_, by rw [enumD_len, signs_len]; exact Nat.le_refl _⟩
  obtain ⟨x, hx, rfl⟩ := enumD_get hd
  obtain ⟨c, hc, rfl⟩ := signs_get hx
  refine ⟨(Array.getElem?_eq_some_iff.mp hc).1, fun x H'' y => ?_⟩
  obtain ⟨T, c', rfl, nT, hc', rfl⟩ := y
  rw [hc] at hc'
  cases hc'
  exact ⟨same_new nT, .tup (.inl (.inl (rm_of (fun q => dom T q nT) upd_same))) (.cons (.int _) (.cons (.str _) .nil))⟩
theorem it_enumL {M : List Addr} {H : Hp} {a : Addr} {xs : List V} {ds : List PyData} (h : rm M H a = some (.lst xs)) (r : DtAll K (rm M H) xs ds) : IterOk K M H (Ite K a) (enumD ds) := fun M' H' s dom => by
  have h' : H' a = some (.lst xs) := (rm_to (s _ _ h)).2
  refine ⟨fun i d hd => ?_, ⟨xs, SqL.of h', by rw [enumD_len, DtAll.len r]; exact Nat.le_refl _⟩⟩
  obtain ⟨x, hx, rfl⟩ := enumD_get hd
  obtain ⟨v, hv, rv⟩ := DtAll.getd r hx
  refine ⟨⟨xs, v, SqL.of h', hv⟩, fun x H'' y => ?_⟩
  obtain ⟨T, x', rfl, nT, rfl, hy⟩ := y
  have e := hy xs (SqL.of h')
  rw [hv] at e
  cases e
  exact ⟨same_new nT, .tup (.inl (.inl (rm_of (fun q => dom T q nT) upd_same))) (.cons (.int _) (.cons (Dt.up (up_new nT) (Dt.up s rv)) .nil))⟩
def wEnum (we : WE) : WI := fun ρ P => we ρ fun ρ1 d => match d with
  | .list ds => P ρ1 (enumD ds)
  | .str z => P ρ1 (enumD (signsD z))
  | _ => False
def iEnumA (K : Fr) (ta : TA) : TI := fun σ H R => ta σ H fun vs H1 => (∃ a xs, vs = [.ref a] ∧ SqL K H1 a xs ∧ R (Ite K a) H1) ∨ ∃ x, vs = [.str x] ∧ R (IteS x) H1
theorem pi_enumA {Y : Cx} {ta : TA} {p pos tpos : Pos} {elts : List Expr} {kk : Nat} (hg : Gl Y "enumerate") (hm : Y.mg "enumerate" = none) (ha : PA Y [e] ta) (hs : starEach [e] Y.env = [(false, eval e Y.env)] := by rfl) :
    PI Y (.Tuple elts kk tpos) (.Call (.Name "enumerate" p) [e] [] pos) (iEnumA Y.K ta) := by
  refine ⟨fun pins s σ H R I h => ?_⟩
  refine Call_ (ld_blt I hg hm boot_enumerate (PyProof.Rows.callWith_type1 (thn (ha.run pos pins s σ H _ I h) fun us s1 ⟨vs, H1, I1, r1, q1⟩ => ?_) hs rfl))
  rcases q1 with ⟨a, xs, ex, hq, q⟩ | ⟨x, ex, q⟩
  · subst ex
    cases r1 with
    | cons r rr =>
      cases rr
      cases r
      obtain ⟨its, rv, p', hz⟩ := I1.list hq
      refine call_enumerate_list p'.isList fun h' he hit hsz hk => wpAny_pyIter_enum he ?_
      have I2 : Inv Y pins σ H1 { s1 with heap := h' } := I1.kept (t' := s1.toks) hk
      refine ⟨s1.heap.objs.size + 1, [s1.heap.objs.size + 1, s1.heap.objs.size], _, _, H1, rfl, I2, turn_enum a (s1.heap.objs.size + 1) s1.heap.objs.size, ⟨⟨.none, he⟩, hit, Nat.succ_ne_self _⟩, fun b hb => ?_, q⟩
      have e' : b = s1.heap.objs.size + 1 ∨ b = s1.heap.objs.size := by simpa using hb
      have hle : s1.heap.objs.size ≤ b := by
        rcases e' with z | z
        · rw [z]; exact Nat.le_add_right _ _
        · rw [z]; exact Nat.le_refl _
      exact I1.fpOk hle (I1.hok.fresh hle)
  · subst ex
    cases r1 with
    | cons r rr =>
      cases rr
      obtain ⟨t, rfl⟩ := r
      refine call_enumerate_str fun h' he hit hsz hk => wpAny_pyIter_enum he ?_
      have I2 : Inv Y pins σ H1 { s1 with heap := h' } := I1.kept (t' := s1.toks) hk
      refine ⟨s1.heap.objs.size + 1, [s1.heap.objs.size + 1, s1.heap.objs.size], _, _, H1, rfl, I2, turn_enumS x t (s1.heap.objs.size + 1) s1.heap.objs.size, ⟨⟨.none, he⟩, hit, Nat.succ_ne_self _, Nat.zero_le _⟩, fun b hb => ?_, q⟩
      have e' : b = s1.heap.objs.size + 1 ∨ b = s1.heap.objs.size := by simpa using hb
      have hle : s1.heap.objs.size ≤ b := by
        rcases e' with z | z
        · rw [z]; exact Nat.le_add_right _ _
        · rw [z]; exact Nat.le_refl _
      exact I1.fpOk hle (I1.hok.fresh hle)
theorem di_enum {p tpos : Pos} {elts : List Expr} {kk : Nat} (hm : ∀ i, (X i).mg "enumerate" = none) (h : DE X K e we) (hK : ∀ i, (X i).K = K := by intro i; rfl) (hg : ∀ i, Gl (X i) "enumerate" := by intro i; rfl) (hs : ∀ i, starEach [e] (X i).env = [(false, eval e (X i).env)] := by intro i; rfl) :
    DI X K (.Tuple elts kk tpos) (.Call (.Name "enumerate" p) [e] [] pos) (wEnum we) := by
  obtain ⟨t, a1, a2⟩ := h
  refine ⟨iEnumA K (tCons t tNil), fun i => by rw [← hK i]; exact pi_enumA (hg i) (hm i) (pa_cons (a1 i) pa_nil (hs i)) (hs i), fun M0 M B σ H ρ P R E w k => ?_⟩
  refine a2 M0 M B σ H ρ _ _ E w fun ρ1 d v H1 w1 x1 E1 r1 => ?_
  cases d with
  | list ds =>
    obtain ⟨p, vs, rfl, h1, h2⟩ := Dt.isLst r1
    exact .inl ⟨p, vs, rfl, SqL.of (rm_le _ _ h1), k ρ1 _ _ H1 w1 x1 E1 (it_enumL h1 h2)⟩
  | str z =>
    rw [Dt.isStr r1]
    exact .inr ⟨z, rfl, k ρ1 _ _ H1 w1 x1 E1 it_enumS⟩
  | _ => exact w1.elim
end Pm
namespace Pm
open PySem PySem.Spec PyProof.Rows L2
variable {ι : Type} {X : ι → Cx} {K : Fr} {a b e tg : Expr} {es : List Expr} {wa wb we : WE} {pos : Pos}
/-! ### list comprehensions, one name -/
/-- the contexts of a comprehension's block -/
abbrev Blk (ι : Type) : Type := ι × Shared × Hp × Addr × List (Str × Addr) × List Addr
abbrev blkX (X : ι → Cx) (scope : Scope) : Blk ι → Cx := fun p => (X p.1).blk p.2.1 p.2.2.1 scope (compEnvC scope p.2.2.2.2.1 p.2.2.2.1 (X p.1).env) p.2.2.2.2.2
def lcD (i : Nat) (wt : WT) (we : WE) : List PyData → Env → List PyData → (Env → List PyData → Prop) → Prop
  | [], ρ, acc, P => P ρ acc
  | d :: ds, ρ, acc, P => wt (ρ.set i (.dat d)) fun ρ1 c => (c = true → we ρ1 fun ρ2 y => acc.length < sizeLine ∧ lcD i wt we ds (ρ2.set i .un) (acc ++ [y]) P) ∧ (c = false → lcD i wt we ds (ρ1.set i .un) acc P)
def wLc (i : Nat) (wi : WI) (wt : WT) (we : WE) : WE := fun ρ P => wi ρ fun ρ1 items => lcD i wt we items (ρ1.set i .un) [] fun ρ2 ds => P ρ2 (.list ds)
/-- the slots but i are the same -/
theorem EnvOk.swap {M0 M B : List Addr} {H : Hp} {σ τ : L2.St} {ρ : Env} {i : Nat} (E : EnvOk K M0 M B H τ ρ) (hl : σ.length = τ.length) (h : ∀ j, j ≠ i → σ[j]? = τ[j]?) : EnvOk K M0 M B H σ (ρ.set i .un) where
  len := by rw [List.length_set, hl]; exact E.len
  sub := E.sub
  dom := E.dom
  m0 := E.m0
  slot := fun j s hj => by
    rcases get_set_some hj with ⟨rfl, rfl, _⟩ | ⟨n, hj'⟩
    · trivial
    · rw [h j (Ne.symm n)]; exact E.slot j s hj'
  sep := fun j k s s' l n h1 h2 l1 l2 s1 s2 => by
    rcases get_set_some h1 with ⟨rfl, rfl, _⟩ | ⟨n1, h1'⟩
    · cases l1
    · rcases get_set_some h2 with ⟨rfl, rfl, _⟩ | ⟨n2, h2'⟩
      · cases l2
      · rw [h j (Ne.symm n1)] at s1
        rw [h k (Ne.symm n2)] at s2
        exact E.sep j k s s' l n h1' h2' l1 l2 s1 s2
/-- one more address put away / taken back -/
theorem EnvOk.less {M0 M B : List Addr} {H : Hp} {σ : L2.St} {ρ : Env} {p : Addr} (E : EnvOk K M0 (p :: M) B H σ ρ) (h0 : ∀ a, a ∈ M0 → a ∈ M) (hs : ∀ a, a ∈ B → a ∈ M) : EnvOk K M0 M B H σ ρ where
  len := E.len
  sub := hs
  dom := fun a h => E.dom a (List.mem_cons_of_mem _ h)
  m0 := h0
  slot := fun i s h => by
    have r : Same (rm (p :: M) H) (rm M H) := fun a o e => by
      obtain ⟨z1, z2⟩ := rm_to e
      exact rm_of (fun c => z1 (List.mem_cons_of_mem _ c)) z2
    have z := E.slot i s h
    cases s with
    | un => trivial
    | dat d => obtain ⟨v, h1, h2⟩ := z; exact ⟨v, h1, Dt.up r h2⟩
    | scr ns => obtain ⟨v, h1, h2⟩ := z; exact ⟨v, h1, same_l r h2⟩
    | own ds => obtain ⟨l, xs, h1, h2, h3, h4, h5⟩ := z; exact ⟨l, xs, h1, h2, h3, h4, DtAll.up r h5⟩
    | bor l ds => obtain ⟨xs, h1, h2, h3, h4, h5⟩ := z; exact ⟨xs, h1, h2, h3, h4, DtAll.up r h5⟩
  sep := E.sep
theorem EnvOk.more {M0 M B : List Addr} {H H' : Hp} {σ : L2.St} {ρ : Env} {p : Addr} {o : HO} (E : EnvOk K M0 M B H σ ρ) (np : H p = none) (hp : H' p = some o) (sm : ∀ a u, a ≠ p → H a = some u → H' a = some u) : EnvOk K M0 (p :: M) B H' σ ρ := by
  have r : Same (rm M H) (rm (p :: M) H') := fun a u e => by
    obtain ⟨z1, z2⟩ := rm_to e
    have n : a ≠ p := fun q => by rw [q, np] at z2; cases z2
    refine rm_of (fun c => ?_) (sm a u n z2)
    rcases List.mem_cons.mp c with q | q
    · exact n q
    · exact z1 q
  refine ⟨E.len, fun a h => List.mem_cons_of_mem _ (E.sub a h), fun a h q => ?_, fun a h => List.mem_cons_of_mem _ (E.m0 a h), fun i s h => ?_, E.sep⟩
  · rcases List.mem_cons.mp h with c | c
    · rw [c, hp] at q; cases q
    · cases hz : H a with
      | none => exact E.dom a c hz
      | some u => rw [sm a u (fun q2 => by rw [q2, np] at hz; cases hz) hz] at q; cases q
  · have z := E.slot i s h
    have keepL : ∀ (l : Addr) (xs : List V), H l = some (.lst xs) → H' l = some (.lst xs) := fun l xs hl => sm l _ (fun q => by rw [q, np] at hl; cases hl) hl
    cases s with
    | un => trivial
    | dat d => obtain ⟨v, h1, h2⟩ := z; exact ⟨v, h1, Dt.up r h2⟩
    | scr ns => obtain ⟨v, h1, h2⟩ := z; exact ⟨v, h1, same_l r h2⟩
    | own ds => obtain ⟨l, xs, h1, h2, h3, h4, h5⟩ := z; exact ⟨l, xs, h1, h2, h3, keepL _ _ h4, DtAll.up r h5⟩
    | bor l ds => obtain ⟨xs, h1, h2, h3, h4, h5⟩ := z; exact ⟨xs, h1, h2, h3, keepL _ _ h4, DtAll.up r h5⟩
/-- the reading of a comprehension -/
theorem lc_read {i : Nat} {ti : TI} {tt : TT} {te : TE} {wi : WI} {wt : WT}
    (hi : ∀ (M0 M B : List Addr) (σ : L2.St) (H : Hp) (ρ : Env) (P : Env → List PyData → Prop) (R : It → Hp → Prop), EnvOk K M0 M B H σ ρ → wi ρ P → (∀ ρ' items J H', P ρ' items → Ext M B H M B H' → EnvOk K M0 M B H' σ ρ' → IterOk K M H' J items → R J H') → ti σ H R)
    (ht : ∀ (M0 M B : List Addr) (σ : L2.St) (H : Hp) (ρ : Env) (P : Env → Bool → Prop) (Q : Bool → Hp → Prop), EnvOk K M0 M B H σ ρ → wt ρ P → (∀ ρ' b H', P ρ' b → Ext M B H M B H' → EnvOk K M0 M B H' σ ρ' → Q b H') → tt σ H Q)
    (he : ∀ (M0 M B : List Addr) (σ : L2.St) (H : Hp) (ρ : Env) (P : Env → PyData → Prop) (Q : VK), EnvOk K M0 M B H σ ρ → we ρ P → (∀ ρ' d v H', P ρ' d → Ext M B H M B H' → EnvOk K M0 M B H' σ ρ' → Dt K (rm M H') v d → Q v H') → te σ H Q) :
    ∀ (M0 M B : List Addr) (σ : L2.St) (H : Hp) (ρ : Env) (P : Env → PyData → Prop) (Q : VK), EnvOk K M0 M B H σ ρ → wLc i wi wt we ρ P → (∀ ρ' d v H', P ρ' d → Ext M B H M B H' → EnvOk K M0 M B H' σ ρ' → Dt K (rm M H') v d → Q v H') → tLc ti (gName i) tt te [i] σ H Q := by
  intro M0 M B σ H ρ P Q E w k
  refine hi M0 M B σ H ρ _ _ E w fun ρ1 items J H1 w1 x1 E1 it => ?_
  intro D nD
  have hDM : D ∉ M := fun c => E1.dom D c nD
  have hDB : D ∉ B := fun c => hDM (E1.sub D c)
  -- W: the list so far
  refine ⟨fun n m H2 => m = items.length - n ∧ ∃ (ρ2 : Env) (acc : List V) (ds : List PyData), n ≤ items.length ∧ lcD i wt we (items.drop n) ρ2 ds (fun ρ2 ds => P ρ2 (.list ds)) ∧ H2 D = some (.lst acc) ∧ DtAll K (rm (D :: M) H2) acc ds ∧ EnvOk K M0 (D :: M) B H2 σ ρ2 ∧
      (∀ a o, a ∉ B → a ≠ D → H1 a = some o → H2 a = some o) ∧ (∀ a, H2 a = none → H1 a = none), ⟨_, rfl, ρ1.set i .un, [], [], Nat.zero_le _, w1, upd_same, .nil, ?_, fun a o _ n e => by rw [upd_ne n]; exact e, fun a e => (same_new nD).free e⟩, ?_⟩
  · have E2 : EnvOk K M0 (D :: M) B (upd H1 D (.lst [])) σ ρ1 := E1.more nD upd_same fun a u n e => by rw [upd_ne n]; exact e
    exact E2.swap rfl fun _ _ => rfl
  · rintro n m H2 ⟨rfl, ρ2, acc, ds, hn, w2, hD, hA, E2, fr, lv⟩
    have hEx : Ext M B H1 M B H2 := ⟨fun _ h => h, fun _ h => .inl h, fun _ h => h, fun _ h => .inl h, fun a o nb e => fr a o nb (fun q => by rw [q, nD] at e; cases e) e, lv⟩
    have hsm : Same (rm M H1) (rm (D :: M) H2) := fun a o e => by
      obtain ⟨z1, z2⟩ := rm_to e
      have nn : a ≠ D := fun q => by rw [q, nD] at z2; cases z2
      refine rm_of (fun c => ?_) (fr a o (fun c => z1 (E1.sub a c)) nn z2)
      rcases List.mem_cons.mp c with q | q
      · exact nn q
      · exact z1 q
    obtain ⟨hgo, hst⟩ := it (D :: M) H2 hsm E2.dom
    by_cases hlt : n < items.length
    · right
      have hnd : items[n]? = some items[n] := List.getElem?_eq_getElem hlt
      obtain ⟨g1, g2⟩ := hgo n _ hnd
      rw [List.drop_eq_getElem_cons hlt] at w2
      refine ⟨g1, fun H' => ∃ m', m' < items.length - n ∧ (m' = items.length - (n + 1) ∧ ∃ (ρ2 : Env) (acc : List V) (ds : List PyData), n + 1 ≤ items.length ∧ lcD i wt we (items.drop (n + 1)) ρ2 ds (fun ρ2 ds => P ρ2 (.list ds)) ∧ H' D = some (.lst acc) ∧ DtAll K (rm (D :: M) H') acc ds ∧ EnvOk K M0 (D :: M) B H' σ ρ2 ∧
        (∀ a o, a ∉ B → a ≠ D → H1 a = some o → H' a = some o) ∧ (∀ a, H' a = none → H1 a = none)), fun H' h => h, fun x H3 hy => ?_⟩
      obtain ⟨s3, rx⟩ := g2 x H3 hy
      have E3 : EnvOk K M0 (D :: M) B H3 σ ρ2 := E2.same s3
      -- the block's slots
      have E4 : EnvOk K M0 (D :: M) B H3 ((wipe σ [i]).set i (some x)) (ρ2.set i (.dat items[n])) := by
        have q : EnvOk K M0 (D :: M) B H3 (wipe σ [i]) (ρ2.set i .un) := E3.forget i none
        have q2 := q.set i rx
        rw [List.set_set] at q2
        exact q2
      have hsl : ∀ j, j ≠ i → σ[j]? = ((wipe σ [i]).set i (some x))[j]? := fun j n => by
        rw [get_set_ne (Ne.symm n)]
        show σ[j]? = (σ.set i none)[j]?
        rw [get_set_ne (Ne.symm n)]
      have hln : σ.length = ((wipe σ [i]).set i (some x)).length := by
        show σ.length = ((σ.set i none).set i (some x)).length
        rw [List.length_set, List.length_set]
      refine ⟨?_, ?_⟩
      · show (((σ.set i none).set i (some x)).set i none) = σ.set i none
        rw [List.set_set, List.set_set]
      · refine ht M0 (D :: M) B _ H3 _ _ _ E4 w2 fun ρ4 c H4 w4 x4 E5 => ?_
        have hD4 : H4 D = some (.lst acc) := x4.keep D _ hDB (s3 _ _ hD)
        have up4 : Same (rm (D :: M) H2) (rm (D :: M) H4) := ((Ext.same (M := D :: M) (B := B) s3).trans x4).rm E2.sub
        have fr4 : ∀ a o, a ∉ B → a ≠ D → H1 a = some o → H4 a = some o := fun a o nb nn e => x4.keep a o nb (s3 _ _ (fr a o nb nn e))
        have lv4 : ∀ a, H4 a = none → H1 a = none := fun a e => lv a (s3.free (x4.live a e))
        refine ite_of (fun ec => ?_) (fun ec => ?_)
        · refine he M0 (D :: M) B _ H4 _ _ _ E5 (w4.1 ec) fun ρ5 y v H5 w5 x5 E6 r5 => ?_
          obtain ⟨hz, w5⟩ := w5
          have hD5 : H5 D = some (.lst acc) := x5.keep D _ hDB hD4
          refine ⟨acc, hD5, by rw [DtAll.len hA]; exact hz, items.length - (n + 1), by omega, rfl, ρ5.set i .un, acc ++ [v], ds ++ [y], hlt, w5, upd_same, ?_, ?_, fun a o nb nn e => by rw [upd_ne nn]; exact x5.keep a o nb (fr4 a o nb nn e), fun a e => ?_⟩
          · rw [rm_upd (List.mem_cons_self ..)]
            exact DtAll.app (DtAll.up (x5.rm E5.sub) (DtAll.up up4 hA)) (.cons r5 .nil)
          · have q := E6.swap (σ := σ) (i := i) hln hsl
            have q2 : EnvOk K M0 (D :: M) B (upd H5 D (.lst (acc ++ [v]))) σ (ρ5.set i .un) := by
              refine ⟨q.len, q.sub, fun a h z => ?_, q.m0, fun j s hj => ?_, q.sep⟩
              · by_cases c : a = D
                · rw [c, upd_same] at z; cases z
                · rw [upd_ne c] at z; exact q.dom a h z
              · have z := q.slot j s hj
                have nl : ∀ l, l ∈ B → l ≠ D := fun l hl q => hDB (q ▸ hl)
                cases s with
                | un => trivial
                | dat d => obtain ⟨v, h1, h2⟩ := z; exact ⟨v, h1, by rw [rm_upd (List.mem_cons_self ..)]; exact h2⟩
                | scr d => obtain ⟨v, h1, h2⟩ := z; exact ⟨v, h1, by rw [rm_upd (List.mem_cons_self ..)]; exact h2⟩
                | own ds => obtain ⟨l, xs, h1, h2, h3, h4, h5⟩ := z; exact ⟨l, xs, h1, h2, h3, by rw [upd_ne (nl l h2)]; exact h4, by rw [rm_upd (List.mem_cons_self ..)]; exact h5⟩
                | bor l ds => obtain ⟨xs, h1, h2, h3, h4, h5⟩ := z; exact ⟨xs, h1, h2, h3, by rw [upd_ne (nl l h2)]; exact h4, by rw [rm_upd (List.mem_cons_self ..)]; exact h5⟩
            exact q2
          · by_cases c : a = D
            · rw [c, upd_same] at e; cases e
            · rw [upd_ne c] at e; exact lv4 a (x5.live a e)
        · exact ⟨items.length - (n + 1), by omega, rfl, ρ4.set i .un, acc, ds, hlt, w4.2 ec, hD4, DtAll.up up4 hA, E5.swap (σ := σ) (i := i) hln hsl, fr4, lv4⟩
    · left
      have en : n = items.length := by omega
      rw [en] at w2 ⊢
      rw [List.drop_length] at w2
      refine ⟨hst, k ρ2 _ _ H2 w2 (x1.trans hEx) (E2.less E1.m0 E1.sub) (.lst (rm_of hDM hD) (DtAll.up (fun a o e => ?_) hA))⟩
      obtain ⟨z1, z2⟩ := rm_to e
      exact rm_of (fun c => z1 (List.mem_cons_of_mem _ c)) z2
def wYes : WT := fun ρ P => P ρ true
/-- [elt for x in iter if t] -/
theorem de_lcif (i : Nat) {elt iter c : Expr} {x : Str} {px pos : Pos} {scope : Scope} {wi : WI} {wt : WT} (hN : ∀ j, (X j).N.Nodup) (hi : DI X K (.Name x px) iter wi) (ht : DT (blkX X scope) K c wt) (he : DE (blkX X scope) K elt we)
    (ok : ∀ j, blkC (X j).N (X j).env.scope scope [(x, i)] = true := by intro j; decide +kernel) (hg : ∀ p, PG (blkX X scope p) (.Name x px) (gName i) := by intro p; exact pg_name (by assumption) rfl (Or.inl rfl))
    (hc : ∀ j, (X j).calm = true := by intro j; rfl) (hs : ∀ j x, foldedSetIterable iter (X j).env x = pure x := by intro _ _; rfl) : DE X K (.ListComp elt [⟨.Name x px, iter, [c], 0⟩] scope pos) (wLc i wi wt we) := by
  obtain ⟨ti, i1, i2⟩ := hi
  obtain ⟨tt, t1, t2⟩ := ht
  obtain ⟨te, e1, e2⟩ := he
  exact ⟨tLc ti (gName i) tt te [i], fun j => pe_lc (own := [(x, i)]) (hc j) (hN j) (i1 j) (blkOk_by (ok j)) (fun s H C cl fp => hg (j, s, H, C, cl, fp)) (fun s H C cl fp => pts_one (t1 (j, s, H, C, cl, fp))) (fun s H C cl fp => e1 (j, s, H, C, cl, fp)) (hs j), lc_read i2 t2 e2⟩
theorem de_lc (i : Nat) {elt iter : Expr} {x : Str} {px pos : Pos} {scope : Scope} {wi : WI} (hN : ∀ j, (X j).N.Nodup) (hi : DI X K (.Name x px) iter wi) (he : DE (blkX X scope) K elt we)
    (ok : ∀ j, blkC (X j).N (X j).env.scope scope [(x, i)] = true := by intro j; decide +kernel) (hg : ∀ p, PG (blkX X scope p) (.Name x px) (gName i) := by intro p; exact pg_name (by assumption) rfl (Or.inl rfl))
    (hc : ∀ j, (X j).calm = true := by intro j; rfl) (hs : ∀ j x, foldedSetIterable iter (X j).env x = pure x := by intro _ _; rfl) : DE X K (.ListComp elt [⟨.Name x px, iter, [], 0⟩] scope pos) (wLc i wi wYes we) := by
  obtain ⟨ti, i1, i2⟩ := hi
  obtain ⟨te, e1, e2⟩ := he
  exact ⟨tLc ti (gName i) tYes te [i], fun j => pe_lc (own := [(x, i)]) (hc j) (hN j) (i1 j) (blkOk_by (ok j)) (fun s H C cl fp => hg (j, s, H, C, cl, fp)) (fun s H C cl fp => pts_nil) (fun s H C cl fp => e1 (j, s, H, C, cl, fp)) (hs j),
    lc_read i2 (fun M0 M B σ H ρ P Q E w k => k ρ true H w (Ext.refl ..) E) e2⟩
end Pm
/-! Room for deep recursions: one frame a level (the hand layer's own Room takes three). -/
namespace Pm
open PySem PySem.Spec PyProof.Rows L2
structure Room (k : Nat) (A : Around) : Prop where
  hd : A.handled = none
  dp : A.depth + (k + 8) < recursionLimit
  un : A.units + (4 * k + 400) < cLine
  gd : A.guards = some []
theorem Room.mono {j k : Nat} {A : Around} (r : Room k A) (h : j ≤ k) : Room j A := ⟨r.hd, by have a := r.dp; omega, by have a := r.un; omega, r.gd⟩
theorem Room.deeper {k : Nat} {A : Around} (r : Room (k + 1) A) (z : PySem.Env) : Room k (A.deeper z) where
  hd := r.hd
  dp := by
    have a := r.dp
    show (A.depth + 1) + (k + 8) < _
    omega
  un := by
    have a := r.un
    show (A.units + 3) + (4 * k + 400) < _
    omega
  gd := r.gd
theorem Room.units {k : Nat} {A : Around} (r : Room k A) : A.units + 64 < cLine := by
  have a := r.un
  omega
theorem Room.depth {k : Nat} {A : Around} (r : Room k A) : A.depth < recursionLimit := by
  have a := r.dp
  omega
section
variable {P : Program} {w : World} {K : Fr} {mg : Str → Option Value} {base : Heap} {CX : CXT} {k j : Nat} {f : Addr} {fd : FuncData} {ps : List Str} {sp : Sp}
/-- the run of a def, where there is room for k levels -/
structure FnOk (P : Program) (w : World) (K : Fr) (mg : Str → Option Value) (base : Heap) (CX : CXT) (k : Nat) (f : Addr) (fd : FuncData) (ps : List Str) (sp : Sp) : Prop where
  len : ∀ vs H Q E, sp vs H Q E → vs.length = ps.length
  run : ∀ (A : Around), Room k A → ∀ (fr : List PySem.Env) (s : Shared) (H : Hp) (as : Args) (us : List Value) (vs : List V) (Q : VK) (E : XK),
    Env0 P w K mg base A fr s H → BindsTo s fd as (ps.zip us) → Vals vs us → sp vs H Q E → codeAny (model P w) A (.call (.ref f) as) (CR CX fr P w H s Q E) s
end
section
variable {X : Cx} {CX : CXT} {k : Nat} {f : Addr} {fd : FuncData} {ps : List Str} {sp : Sp} {ds : List Value} {dvs : List V} {E : XK} {x : Str} {p pos : Pos} {e : Expr} {es : List Expr} {t : TA}
/-- the end of a call, as the caller goes on -/
theorem back_of {pins : List (Addr × Obj)} {σ : L2.St} {H : Hp} {s : Shared} {Q : VK} (I : Inv X pins σ H s) (hx : Passes CX X E) : ∀ (r : Result) (s' : Shared), CR CX X.stack X.prog X.w H s Q E r s' → (match r with
    | .ok (.ret u) => EP X pins σ Q u s'
    | .ok _ => False
    | .error u => X.xe u s')
  | .error _, _, q => hx _ _ _ _ _ _ I q
  | .ok (.ret _), _, q => I.after q
  | .ok .next, _, q => q.elim
  | .ok .brk, _, q => q.elim
  | .ok .cont, _, q => q.elim
theorem runF {pins : List (Addr × Obj)} {σ : L2.St} {H : Hp} {s : Shared} {Q : VK} {us : List Value} {vs : List V} (F : FnOk X.prog X.w X.K X.mg X.base CX k f fd ps sp) (room : Room k X.A) (bind : Binds X.K fd ps ds) (hd : Vals dvs ds)
    (hx : Passes CX X E) (I : Inv X pins σ H s) (rl : Vals vs us) (want : sp (vs ++ dvs) H Q E) : wpAny (model X.prog X.w) X.A (call (.ref f) us) (EP X pins σ Q) X.xe s := by
  have both := rl.append hd
  have len : (us ++ ds).length = ps.length := both.length ▸ F.len _ _ _ _ want
  have go := F.run X.A room X.stack s H ⟨us, []⟩ _ _ Q E I.env0 (bind s us I.kIn len) both want
  exact wpAny_call (codeAny_mono go fun r s' q => by
    have z := back_of I hx r s' q
    match r, z with
    | .error _, z => exact z
    | .ok (.ret _), z => exact z)
theorem pe_call (F : FnOk X.prog X.w X.K X.mg X.base CX k f fd ps sp) (room : Room k X.A) (hg : Gl X x) (hm : X.mg x = some (.ref f)) (keep : PySem.W.keepIn X.K (.ref f) = true) (bind : Binds X.K fd ps ds) (hd : Vals dvs ds) (hx : Passes CX X E) (ha : PA X (e :: es) t)
    (hdb : (x == ("__debug__" : Str)) = false := by decide) (st : starEach (e :: es) X.env = (false, eval e X.env) :: starEach es X.env := by rfl) (pl : (backTo pos (starEach es X.env)).any (·.1) = false := by rfl) : PE X (.Call (.Name x p) (e :: es) [] pos) (tCall sp dvs E t) :=
  ⟨fun pins s σ H Q I want => wpAny_Call_Name_kw (ld_glob I hg hm (PySem.W.callWith_K (h₀ := X.base) I.ok.mod.kin keep (thn (ha.run pos pins s σ H _ I want) fun us s1 o => by
    obtain ⟨vs, H1, J, rl, q⟩ := o
    exact ⟨J.kIn, runF F room bind hd hx J rl q⟩) st pl) hdb)⟩
theorem pe_call0 (F : FnOk X.prog X.w X.K X.mg X.base CX k f fd ps sp) (room : Room k X.A) (hg : Gl X x) (hm : X.mg x = some (.ref f)) (keep : PySem.W.keepIn X.K (.ref f) = true) (bind : Binds X.K fd ps ds) (hd : Vals dvs ds) (hx : Passes CX X E)
    (hdb : (x == ("__debug__" : Str)) = false := by decide) : PE X (.Call (.Name x p) [] [] pos) (tCall sp dvs E tNil) :=
  ⟨fun pins s σ H Q I want => wpAny_Call_Name_kw (ld_glob I hg hm (PySem.W.callWith_K0 I.kIn keep (runF (us := []) F room bind hd hx I .nil want)) hdb)⟩
end
/-- a def of the text by its body -/
theorem Fun_ok {P : Program} {w : World} {K : Fr} {mg : Str → Option Value} {base : Heap} {x qual : Str} {st : Stmt} {f : Addr} {fd : FuncData} {N ps : List Str} {k : Nat} {sp : Sp} (F : Fun K x qual st f fd) (sc : FnScope N ps (defScope st)) (len : ∀ vs H Q E, sp vs H Q E → vs.length = ps.length)
    (body : ∀ (cdv : Value) (A : Around) (outer : List PySem.Env) (s : Shared) (H : Hp) (vs : List V) (Q : VK) (E : XK), Room k (A.deeper (envOfC qual (defScope st) s.heap.objs.size f cdv)) → sp vs H Q E →
      ∃ t, PSs (cxOf CX0 P w K mg base N qual (defScope st) f cdv A outer s H E).nox (defBody st) t ∧ t { nx := fun _ H' => Q .non H', rt := Q } (L2.start N vs) H) : FnOk P w K mg base CX0 (k + 1) f fd ps sp where
  len := len
  run := fun A room outer s H as us vs Q E st0 bnd rl want => by
    obtain ⟨oc, od, kV, doc, pm, an, cdv, ct, osl, rfl, look, code⟩ := F.ex
    have keeps : ∀ b o, base.get? b = some o → s.heap.get? b = some o := fun b o q => (st0.bs b o q).1
    have kin := st0.mod.kin.keeps keeps
    have kinds : ∀ y ∈ ps.zip us, (defScope st).names.lookup y.1 = some .local ∨ ((defScope st).names.lookup y.1 = some .cell ∧ ((cellsFrom (s.heap.objs.size + 1) (defScope st).names []).lookup y.1).isSome = true) := by
      rintro ⟨n, v⟩ hy
      exact (sc.par n (List.of_mem_zip hy).1).imp id fun q => ⟨q, PySem.W.cellsFrom_some _ _ _ (.inl q)⟩
    refine codeAny_call_function room.depth (kin _ _ look) rfl sc.co sc.gen rfl (PySem.W.codeRec_of kin code) (bnd _ _ _ _ ?_)
    refine wpAny_newFunctionEnv_cells sc.kind kinds fun env he s1 x => ?_
    subst he
    refine ⟨(st0.mod.nolimit.keeps keeps).keeps x.toInCall.keep, codeAny_func ?_⟩
    obtain ⟨t, ht, hq⟩ := body cdv A outer s H vs Q E (room.deeper _) want
    have I := inv_start (CX := CX0) (E := E) sc room.hd st0 (len _ _ _ _ want) rl x
    refine wpAny_mono (ht.nox.run [] s1 _ H _ I hq) (fun fl s' o => ?_) fun _ _ o => o
    match fl, o with
    | .ret u, ⟨v, _, H', J, rv, q⟩ => exact ⟨v, H', J.os, J.bare, J.base, J.hok, rv, q⟩
    | .next, ⟨_, H', J, q⟩ => exact ⟨.non, H', J.os, J.bare, J.base, J.hok, rfl, q⟩
    | .brk, ⟨_, _, _, q⟩ => exact q.elim
    | .cont, ⟨_, _, _, q⟩ => exact q.elim
end Pm
namespace Pm
open PySem PySem.Spec PyProof.Rows L2
variable {ι : Type} {X : ι → Cx} {K : Fr} {a b e tg : Expr} {es : List Expr} {wa wb we : WE} {pos : Pos}
/-! ### a def by data: what its call asks (S: arguments, what is wanted of the answer) -/
abbrev SpD := List PyData → (PyData → Prop) → Prop
def spP (K : Fr) (S : SpD) : Sp := fun vs H Q _ => ∃ (M : List Addr) (ds : List PyData) (P : PyData → Prop), (∀ a, a ∈ M → H a ≠ none) ∧ DtAll K (rm M H) vs ds ∧ S ds P ∧ ∀ d v H', P d → Same H H' → Dt K (rm M H') v d → Q v H'
/-- .. the first argument a list that the def may change -/
abbrev SpW := List PyData → List PyData → (List PyData → PyData → Prop) → Prop
def spW (K : Fr) (S : SpW) : Sp := fun vs H Q _ => ∃ (M : List Addr) (l : Addr) (us xs : List V) (ws ds : List PyData) (P : List PyData → PyData → Prop), vs = .ref l :: us ∧ (∀ a, a ∈ M → H a ≠ none) ∧ l ∈ M ∧ H l = some (.lst xs) ∧ DtAll K (rm M H) xs ws ∧ DtAll K (rm M H) us ds ∧ S ws ds P ∧
  ∀ ws' d v H' xs', P ws' d → (∀ a o, a ≠ l → H a = some o → H' a = some o) → H' l = some (.lst xs') → DtAll K (rm M H') xs' ws' → Dt K (rm M H') v d → Q v H'
/-- what stands behind a name of the module: a def with its promise -/
def CallOk (Y : Cx) (x : Str) (sp : Sp) : Prop := ∃ (k : Nat) (f : Addr) (fd : FuncData) (ps : List Str), FnOk Y.prog Y.w Y.K Y.mg Y.base CX0 k f fd ps sp ∧ Room k Y.A ∧ Y.mg x = some (.ref f) ∧ PySem.W.keepIn Y.K (.ref f) = true ∧ Binds Y.K fd ps []
def wCall (S : SpD) (wa : WA) : WE := fun ρ P => wa ρ fun ρ1 ds => S ds fun d => P ρ1 d
theorem de_call {x : Str} {S : SpD} {w : WA} {p : Pos} (c : ∀ i, CallOk (X i) x (spP K S)) (h : DA X K (e :: es) w) (hg : ∀ i, Gl (X i) x := by intro i; rfl) (hdb : (x == ("__debug__" : Str)) = false := by decide)
    (he : ∀ i, starEach (e :: es) (X i).env = (false, eval e (X i).env) :: starEach es (X i).env := by intro i; rfl) (hpl : ∀ i, (backTo pos (starEach es (X i).env)).any (·.1) = false := by intro i; rfl) : DE X K (.Call (.Name x p) (e :: es) [] pos) (wCall S w) := by
  obtain ⟨t, a1, a2⟩ := h
  refine ⟨tCall (spP K S) [] E0 t, fun i => ?_, fun M0 M B σ H ρ P Q E w k => ?_⟩
  · obtain ⟨k, f, fd, ps, F, hr, hm, hk, hb⟩ := c i
    exact pe_call F hr (hg i) hm hk hb .nil pass0 (a1 i) hdb (he i) (hpl i)
  · refine a2 M0 M B σ H ρ _ _ E w fun ρ1 ds vs H1 w1 x1 E1 r1 => ?_
    refine ⟨M, ds, _, E1.dom, by rw [List.append_nil]; exact r1, w1, fun d v H2 p e2 r2 => ?_⟩
    exact k ρ1 d v H2 p (x1.trans (Ext.same e2)) (E1.same e2) r2
/-- .. without arguments -/
theorem de_call0 {x : Str} {S : SpD} {p : Pos} (c : ∀ i, CallOk (X i) x (spP K S)) (hg : ∀ i, Gl (X i) x := by intro i; rfl) (hdb : (x == ("__debug__" : Str)) = false := by decide) : DE X K (.Call (.Name x p) [] [] pos) (wCall S wNil) := by
  refine ⟨tCall (spP K S) [] E0 tNil, fun i => ?_, fun M0 M B σ H ρ P Q E w k => ?_⟩
  · obtain ⟨k, f, fd, ps, F, hr, hm, hk, hb⟩ := c i
    exact pe_call0 F hr (hg i) hm hk hb .nil pass0 hdb
  · exact ⟨M, [], _, E.dom, .nil, w, fun d v H2 p e2 r2 => k ρ d v H2 p (Ext.same e2) (E.same e2) r2⟩
/-- a def whose first argument is a list that is put away, here the name in slot j -/
def wCallW (S : SpW) (j : Nat) (wa : WA) : WE := fun ρ P => (∃ ds0, (ρ.at j).items = some ds0) ∧ wa ρ fun ρ1 ds => ∃ ws, (ρ1.at j).items = some ws ∧ S ws ds fun ws' d => P (ρ1.set j ((ρ1.at j).put ws')) d
theorem de_callW (j : Nat) {x : Str} {S : SpW} {w : WA} {p : Pos} (c : ∀ i, CallOk (X i) x (spW K S)) (h : DA X K es w) (hv : ∀ i, PE (X i) a (tVar j) := by intro i; exact pv _) (hg : ∀ i, Gl (X i) x := by intro i; rfl) (hdb : (x == ("__debug__" : Str)) = false := by decide)
    (he : ∀ i, starEach (a :: es) (X i).env = (false, eval a (X i).env) :: starEach es (X i).env := by intro i; rfl) (hpl : ∀ i, (backTo pos (starEach es (X i).env)).any (·.1) = false := by intro i; rfl) : DE X K (.Call (.Name x p) (a :: es) [] pos) (wCallW S j w) := by
  obtain ⟨t, a1, a2⟩ := h
  refine ⟨tCall (spW K S) [] E0 (tCons (tVar j) t), fun i => ?_, fun M0 M B σ H ρ P Q E w k => ?_⟩
  · obtain ⟨k, f, fd, ps, F, hr, hm, hk, hb⟩ := c i
    exact pe_call F hr (hg i) hm hk hb .nil pass0 (pa_cons (hv i) (a1 i) (he i)) hdb (he i) (hpl i)
  · obtain ⟨⟨ds0, h0⟩, w⟩ := w
    obtain ⟨l0, xs0, _, _, hl0, _⟩ := E.lst h0
    refine ⟨_, hl0, ?_⟩
    refine a2 M0 M B σ H ρ _ _ E w fun ρ1 ds vs H1 w1 x1 E1 r1 => ?_
    obtain ⟨ws, h1, w1⟩ := w1
    obtain ⟨l, xs, hs, hL, hl, hlB, h4, h5, h6⟩ := E1.lst h1
    rw [hl0] at hl
    injection hl with hl; injection hl with hl; injection hl with hl
    subst hl
    refine ⟨M, l0, vs, xs, ws, ds, _, by rw [List.append_nil], E1.dom, E1.sub _ hlB, h4, h5, r1, w1, fun ws' d v H2 xs' p kp h7 h8 r2 => ?_⟩
    have ext : Ext M B H1 M B H2 := ⟨fun _ h => h, fun _ h => .inl h, fun _ h => h, fun _ h => .inl h, fun a o nb e => kp a o (fun q => nb (q ▸ hlB)) e, fun a e => by
      cases hz : H1 a with
      | none => rfl
      | some o =>
        by_cases c : a = l0
        · rw [c, h7] at e; cases e
        · rw [kp a o c hz] at e; cases e⟩
    refine k _ d v H2 p (x1.trans ext) (E1.put hs hL hl0 h7 h8 kp ?_) r2
    rcases h6 with ⟨es, h6⟩ | ⟨es, h6⟩
    · exact .inl ⟨es, h6, by rw [h6]; rfl⟩
    · exact .inr ⟨es, h6, by rw [h6]; rfl⟩
/-! ### statements -/
structure DEnds where
  nx : Env → Prop
  rt : Env → PyData → Prop
  bk : Env → Prop := fun _ => False
  ct : Env → Prop := fun _ => False
abbrev WS := DEnds → Env → Prop
structure Fits (K : Fr) (M0 M B : List Addr) (H : Hp) (E : DEnds) (D : Ends) : Prop where
  nx : ∀ ρ' M' B' σ' H', E.nx ρ' → Ext M B H M' B' H' → EnvOk K M0 M' B' H' σ' ρ' → D.nx σ' H'
  bk : ∀ ρ' M' B' σ' H', E.bk ρ' → Ext M B H M' B' H' → EnvOk K M0 M' B' H' σ' ρ' → D.bk σ' H'
  ct : ∀ ρ' M' B' σ' H', E.ct ρ' → Ext M B H M' B' H' → EnvOk K M0 M' B' H' σ' ρ' → D.ct σ' H'
  rt : ∀ ρ' d v M' B' σ' H', E.rt ρ' d → Ext M B H M' B' H' → EnvOk K M0 M' B' H' σ' ρ' → Dt K (rm M0 H') v d → D.rt v H'
theorem Fits.go {M0 M B M' B' : List Addr} {H H' : Hp} {E : DEnds} {D : Ends} (F : Fits K M0 M B H E D) (x : Ext M B H M' B' H') : Fits K M0 M' B' H' E D :=
  ⟨fun ρ' M2 B2 σ' H2 h y => F.nx ρ' M2 B2 σ' H2 h (x.trans y), fun ρ' M2 B2 σ' H2 h y => F.bk ρ' M2 B2 σ' H2 h (x.trans y), fun ρ' M2 B2 σ' H2 h y => F.ct ρ' M2 B2 σ' H2 h (x.trans y), fun ρ' d v M2 B2 σ' H2 h y => F.rt ρ' d v M2 B2 σ' H2 h (x.trans y)⟩
def DS (Y : Cx) (K : Fr) (st : Stmt) (w : WS) : Prop := ∃ t : TS, PS Y st t ∧ ∀ (M0 M B : List Addr) (σ : L2.St) (H : Hp) (ρ : Env) (E : DEnds) (D : Ends), EnvOk K M0 M B H σ ρ → w E ρ → Fits K M0 M B H E D → t D σ H
def DSs (Y : Cx) (K : Fr) (st : List Stmt) (w : WS) : Prop := ∃ t : TS, PSs Y st t ∧ ∀ (M0 M B : List Addr) (σ : L2.St) (H : Hp) (ρ : Env) (E : DEnds) (D : Ends), EnvOk K M0 M B H σ ρ → w E ρ → Fits K M0 M B H E D → t D σ H
/-- one context -/
abbrev one (Y : Cx) : Unit → Cx := fun _ => Y
section
variable {Y : Cx} {st : Stmt} {rest : List Stmt} {w u : WS}
def wSeq (w u : WS) : WS := fun E ρ => w { E with nx := u E } ρ
theorem dss_cons (h1 : DS Y K st w) (h2 : DSs Y K rest u) : DSs Y K (st :: rest) (wSeq w u) := by
  obtain ⟨t, a1, a2⟩ := h1
  obtain ⟨s, b1, b2⟩ := h2
  refine ⟨tSeq t s, pss_cons a1 b1, fun M0 M B σ H ρ E D Ev h F => ?_⟩
  refine a2 M0 M B σ H ρ _ _ Ev h ⟨fun ρ' M' B' σ' H' p x E' => ?_, F.bk, F.ct, F.rt⟩
  exact b2 M0 M' B' σ' H' ρ' E D E' p (F.go x)
theorem dss_one (h1 : DS Y K st w) : DSs Y K [st] w := by
  obtain ⟨t, a1, a2⟩ := h1
  exact ⟨t, pss_one a1, a2⟩
def wSkip : WS := fun E ρ => E.nx ρ
theorem dss_nil : DSs Y K [] wSkip := ⟨tNext, pss_nil, fun M0 M B σ H ρ E D Ev h F => F.nx ρ M B σ H h (Ext.refl ..) Ev⟩
def wBreak : WS := fun E ρ => E.bk ρ
def wCont : WS := fun E ρ => E.ct ρ
theorem ds_pass {p : Pos} : DS Y K (.Pass p) wSkip := ⟨_, ps_pass, fun M0 M B σ H ρ E D Ev h F => F.nx ρ M B σ H h (Ext.refl ..) Ev⟩
theorem ds_break {p : Pos} : DS Y K (.Break p) wBreak := ⟨_, ps_break, fun M0 M B σ H ρ E D Ev h F => F.bk ρ M B σ H h (Ext.refl ..) Ev⟩
theorem ds_continue {p : Pos} : DS Y K (.Continue p) wCont := ⟨_, ps_continue, fun M0 M B σ H ρ E D Ev h F => F.ct ρ M B σ H h (Ext.refl ..) Ev⟩
def wRet (we : WE) : WS := fun E ρ => we ρ fun ρ1 d => E.rt ρ1 d
theorem rm_sub {M0 M : List Addr} {H : Hp} (h : ∀ a, a ∈ M0 → a ∈ M) : Same (rm M H) (rm M0 H) := fun a o e => by
  obtain ⟨z1, z2⟩ := rm_to e
  exact rm_of (fun c => z1 (h a c)) z2
theorem ds_ret (h : DE (one Y) K e we) : DS Y K (.Return (some e) pos) (wRet we) := by
  obtain ⟨t, a1, a2⟩ := h
  refine ⟨tRet t, ps_ret (a1 ()), fun M0 M B σ H ρ E D Ev h F => ?_⟩
  exact a2 M0 M B σ H ρ _ _ Ev h fun ρ1 d v H1 w1 x1 E1 r1 => F.rt ρ1 d v M B σ H1 w1 x1 E1 (Dt.up (rm_sub Ev.m0) r1)
def wRetN : WS := fun E ρ => E.rt ρ .none
theorem ds_retN : DS Y K (.Return none pos) wRetN := ⟨tRetN, ps_retN, fun M0 M B σ H ρ E D Ev h F => F.rt ρ .none .non M B σ H h (Ext.refl ..) Ev .non⟩
/-- return x, x a list of the def's own -/
def wRetO (j : Nat) : WS := fun E ρ => ∃ ds, ρ.at j = .own ds ∧ E.rt ρ (.list ds)
theorem ds_retO (j : Nat) (hv : PE Y e (tVar j) := by exact pv _) : DS Y K (.Return (some e) pos) (wRetO j) := by
  refine ⟨tRet (tVar j), ps_ret hv, fun M0 M B σ H ρ E D Ev h F => ?_⟩
  obtain ⟨ds, h1, h⟩ := h
  obtain ⟨l, xs, h2, h3, h4, h5, h6⟩ := Ev.slot j _ (Env.at_get h1 (by intro z; cases z))
  exact ⟨_, h2, F.rt ρ _ _ M B σ H h (Ext.refl ..) Ev (.lst (rm_of h4 h5) (DtAll.up (rm_sub Ev.m0) h6))⟩
def wIf (t : WT) (w u : WS) : WS := fun E ρ => t ρ fun ρ1 c => (c = true → w E ρ1) ∧ (c = false → u E ρ1)
theorem ds_if {c : Expr} {x y : List Stmt} {t : WT} (hc : DT (one Y) K c t) (h1 : DSs Y K x w) (h2 : DSs Y K y u) : DS Y K (.If c x y pos) (wIf t w u) := by
  obtain ⟨t, c1, c2⟩ := hc
  obtain ⟨s1, a1, a2⟩ := h1
  obtain ⟨s2, b1, b2⟩ := h2
  refine ⟨tIfS t s1 s2, ps_if (c1 ()) a1 b1, fun M0 M B σ H ρ E D Ev h F => ?_⟩
  refine c2 M0 M B σ H ρ _ _ Ev h fun ρ1 c H1 w1 x1 E1 => ite_of (fun e => ?_) (fun e => ?_)
  · exact a2 M0 M B σ H1 ρ1 E D E1 (w1.1 e) (F.go x1)
  · exact b2 M0 M B σ H1 ρ1 E D E1 (w1.2 e) (F.go x1)
/-- x = e -/
def wSet (i : Nat) (we : WE) : WS := fun E ρ => we ρ fun ρ1 d => E.nx (ρ1.set i (.dat d))
theorem ds_set (i : Nat) {x : Str} {px : Pos} (nd : Y.N.Nodup) (h : DE (one Y) K e we) (hp : Y.N.Nodup → ∀ t, PE Y e t → PS Y (.Assign [.Name x px] e pos) (tAsg t (gName i)) := by intro nd t h; exact ps_set nd rfl (by first | exact Or.inl rfl | exact Or.inr rfl) h) : DS Y K (.Assign [.Name x px] e pos) (wSet i we) := by
  obtain ⟨t, a1, a2⟩ := h
  refine ⟨tAsg t (gName i), hp nd t (a1 ()), fun M0 M B σ H ρ E D Ev h F => ?_⟩
  exact a2 M0 M B σ H ρ _ _ Ev h fun ρ1 d v H1 w1 x1 E1 r1 => F.nx _ M B _ H1 w1 x1 (E1.set i r1)
/-- x = [] -/
def wNew (i : Nat) : WS := fun E ρ => E.nx (ρ.set i (.own []))
theorem ds_new (i : Nat) {x : Str} {px pl : Pos} (nd : Y.N.Nodup) (hp : Y.N.Nodup → PS Y (.Assign [.Name x px] (.List [] pl) pos) (tAsg (tLst tNil) (gName i)) := by intro nd; exact ps_set nd rfl (by first | exact Or.inl rfl | exact Or.inr rfl) (pe_lst pa_nil)) : DS Y K (.Assign [.Name x px] (.List [] pl) pos) (wNew i) := by
  refine ⟨_, hp nd, fun M0 M B σ H ρ E D Ev h F => ?_⟩
  refine ⟨Nat.zero_le _, fun p np => ?_⟩
  have hpM : p ∉ M := fun c => Ev.dom p c np
  have nd : Same (rm M H) (rm (p :: M) (upd H p (.lst []))) := fun a o e => by
    obtain ⟨z1, z2⟩ := rm_to e
    have n : a ≠ p := fun q => by rw [q, np] at z2; cases z2
    refine rm_of (fun c => ?_) (by rw [upd_ne n]; exact z2)
    rcases List.mem_cons.mp c with q | q
    · exact n q
    · exact z1 q
  have nd2 : Same (rm M (upd H p (.lst []))) (rm (p :: M) (upd H p (.lst []))) → True := fun _ => trivial
  have E1 : EnvOk K M0 (p :: M) B (upd H p (.lst [])) σ ρ := Ev.more np upd_same fun a u n e => by rw [upd_ne n]; exact e
  refine F.nx _ (p :: M) (p :: B) _ _ h ⟨fun a h => List.mem_cons_of_mem _ h, fun a h => ?_, fun a h => List.mem_cons_of_mem _ h, fun a h => ?_, fun a o _ e => same_new np a o e, fun a e => (same_new np).free e⟩ ?_
  · rcases List.mem_cons.mp h with q | q
    · rw [q]; exact .inr np
    · exact .inl q
  · rcases List.mem_cons.mp h with q | q
    · rw [q]; exact .inr np
    · exact .inl q
  · -- the slot
    refine ⟨by rw [List.length_set, List.length_set]; exact E1.len, fun a h => ?_, E1.dom, E1.m0, fun j s hj => ?_, fun j k s s' l' n h1 h2 l1 l2 s1 s2 => ?_⟩
    · rcases List.mem_cons.mp h with q | q
      · rw [q]; exact List.mem_cons_self ..
      · exact E1.sub a q
    · rcases get_set_some hj with ⟨rfl, rfl, hl⟩ | ⟨n, hj'⟩
      · exact ⟨p, [], get_set_eq (by rw [E1.len]; exact hl), List.mem_cons_self .., fun c => hpM (Ev.m0 _ c), upd_same, .nil⟩
      · rw [get_set_ne n]
        have z := E1.slot j s hj'
        cases s with
        | un => trivial
        | dat d => exact z
        | scr d => exact z
        | own ds => obtain ⟨l, xs, h1, h2, h3⟩ := z; exact ⟨l, xs, h1, List.mem_cons_of_mem _ h2, h3⟩
        | bor l ds => obtain ⟨xs, h1, h2, h3⟩ := z; exact ⟨xs, h1, List.mem_cons_of_mem _ h2, h3⟩
    · have old : ∀ (j : Nat) (s : SV), ρ[j]? = some s → s.isL = true → σ[j]? = some (some (.ref p)) → False := fun j s hj hs e => by
        have z := Ev.slot j s hj
        cases s with
        | un => cases hs
        | dat d => cases hs
        | scr d => cases hs
        | own ds =>
          obtain ⟨l2, xs, h1, h2, _⟩ := z
          rw [h1] at e
          injection e with e; injection e with e; injection e with e
          exact hpM (e ▸ Ev.sub _ h2)
        | bor l2 ds =>
          obtain ⟨xs, h1, h2, _⟩ := z
          rw [h1] at e
          injection e with e; injection e with e; injection e with e
          exact hpM (e ▸ Ev.sub _ h2)
      rcases get_set_some h1 with ⟨rfl, rfl, hl1⟩ | ⟨n1, h1'⟩
      · rw [get_set_eq (by rw [Ev.len]; exact hl1)] at s1
        injection s1 with s1; injection s1 with s1; injection s1 with s1
        rcases get_set_some h2 with ⟨rfl, rfl, _⟩ | ⟨n2, h2'⟩
        · exact n rfl
        · rw [get_set_ne n2] at s2
          rw [← s1] at s2
          exact old k s' h2' l2 s2
      · rw [get_set_ne n1] at s1
        rcases get_set_some h2 with ⟨rfl, rfl, hl2⟩ | ⟨n2, h2'⟩
        · rw [get_set_eq (by rw [Ev.len]; exact hl2)] at s2
          injection s2 with s2; injection s2 with s2; injection s2 with s2
          rw [← s2] at s1
          exact old j s h1' l1 s1
        · rw [get_set_ne n2] at s2
          exact Ev.sep j k s s' l' n h1' h2' l1 l2 s1 s2
theorem put_or {ρ : Env} {j : Nat} {l : Addr} {ds : List PyData} (h : (∃ es, ρ.at j = .own es) ∨ ∃ es, ρ.at j = .bor l es) : (∃ es, ρ.at j = .own es ∧ (ρ.at j).put ds = .own ds) ∨ ∃ es, ρ.at j = .bor l es ∧ (ρ.at j).put ds = .bor l ds := by
  rcases h with ⟨es, h⟩ | ⟨es, h⟩
  · exact .inl ⟨es, h, by rw [h]; rfl⟩
  · exact .inr ⟨es, h, by rw [h]; rfl⟩
theorem ext_at {M B : List Addr} {H : Hp} {l : Addr} {o : HO} (hl : l ∈ B) : Ext M B H M B (upd H l o) :=
  ⟨fun _ h => h, fun _ h => .inl h, fun _ h => h, fun _ h => .inl h, fun a o nb e => by rw [upd_ne (fun q => nb (by rw [q]; exact hl))]; exact e, fun a e => by
    by_cases c : a = l
    · rw [c, upd_same] at e; cases e
    · rw [upd_ne c] at e; exact e⟩
/-- x.append(e) -/
def wApp (j : Nat) (we : WE) : WS := fun E ρ => (∃ ds0, (ρ.at j).items = some ds0) ∧ we ρ fun ρ1 d => ∃ ds, (ρ1.at j).items = some ds ∧ ds.length < sizeLine ∧ E.nx (ρ1.set j ((ρ1.at j).put (ds ++ [d])))
theorem ds_app (j : Nat) {o : Expr} {apos cpos : Pos} (h : DE (one Y) K e we) (hv : PE Y o (tVar j) := by exact pv _) (hK : Y.K = K := by rfl) (he : starEach (e :: []) Y.env = (false, eval e Y.env) :: starEach [] Y.env := by rfl)
    (hp : ∀ t, PE Y o (tVar j) → PA Y [e] t → PS Y (.Expr (.Call (.Attribute o "append" apos) [e] [] cpos) pos) (tDrop (tBM Y.K "list" rAppend (tVar j) t)) := by intro t h1 h2; exact ps_expr (pe_bm PySem.F.plainAttrs_list PySem.F.slot_list_append PySem.F.type_list_append mt_append h1 h2)) :
    DS Y K (.Expr (.Call (.Attribute o "append" apos) [e] [] cpos) pos) (wApp j we) := by
  obtain ⟨t, a1, a2⟩ := h
  refine ⟨_, hp _ hv (pa_cons (a1 ()) pa_nil he), fun M0 M B σ H ρ E D Ev h F => ?_⟩
  obtain ⟨⟨ds0, h0⟩, h⟩ := h
  obtain ⟨l0, xs0, _, _, hl0, _, h40, _⟩ := Ev.lst h0
  refine ⟨_, hl0, .inl ⟨rfl, xs0, SqL.of h40⟩, ?_⟩
  refine a2 M0 M B σ H ρ _ _ Ev h fun ρ1 d v H1 w1 x1 E1 r1 => ?_
  obtain ⟨ds, h1, hz, w1⟩ := w1
  obtain ⟨l, xs, hs, hL, hl, hlB, h4, h5, h6⟩ := E1.lst h1
  rw [hl0] at hl
  injection hl with hl; injection hl with hl; injection hl with hl
  subst hl
  refine ⟨l0, xs, v, rfl, rfl, h4, by rw [DtAll.len h5]; exact hz, ?_⟩
  refine F.nx _ M B σ _ w1 (x1.trans (ext_at hlB)) (E1.put hs hL hl0 upd_same (by rw [rm_upd (E1.sub _ hlB)]; exact DtAll.app h5 (.cons r1 .nil)) (fun a o n e => by rw [upd_ne n]; exact e) (put_or h6))
/-- x[k] = e -/
def wPut (j : Nat) (we wk : WE) : WS := fun E ρ => we ρ fun ρ1 d => (∃ ds0, (ρ1.at j).items = some ds0) ∧ wk ρ1 fun ρ2 k => ∃ ds, (ρ2.at j).items = some ds ∧ ∃ n, k = .int n ∧ ∃ m, ixN ds.length n = some m ∧ E.nx (ρ2.set j ((ρ2.at j).put (ds.set m d)))
theorem ds_put (j : Nat) {o k : Expr} {wk : WE} {tp : Pos} (h : DE (one Y) K e we) (hk : DE (one Y) K k wk) (hv : PE Y o (tVar j) := by exact pv _)
    (hp : ∀ t u, PE Y e t → PE Y o (tVar j) → PE Y k u → PS Y (.Assign [.Subscript o k tp] e pos) (tAsg t (gSub (tVar j) u rSetL)) := by intro t u h1 h2 h3; exact ps_asg h1 (pg_sub h2 h3 set_list)) : DS Y K (.Assign [.Subscript o k tp] e pos) (wPut j we wk) := by
  obtain ⟨t, a1, a2⟩ := h
  obtain ⟨u, b1, b2⟩ := hk
  refine ⟨_, hp t u (a1 ()) hv (b1 ()), fun M0 M B σ H ρ E D Ev h F => ?_⟩
  refine a2 M0 M B σ H ρ _ _ Ev h fun ρ1 d v H1 w1 x1 E1 r1 => ?_
  obtain ⟨⟨ds0, h0⟩, w1⟩ := w1
  obtain ⟨l0, xs0, _, _, hl0, _⟩ := E1.lst h0
  refine ⟨_, hl0, ?_⟩
  refine b2 M0 M B σ H1 ρ1 _ _ E1 w1 fun ρ2 d2 v2 H2 w2 x2 E2 r2 => ?_
  obtain ⟨ds, h1, n, rfl, m, hm, w2⟩ := w2
  obtain ⟨l, xs, hs, hL, hl, hlB, h4, h5, h6⟩ := E2.lst h1
  rw [hl0] at hl
  injection hl with hl; injection hl with hl; injection hl with hl
  subst hl
  rw [Dt.isInt r2]
  refine ⟨l0, xs, n, m, rfl, rfl, h4, by rw [DtAll.len h5]; exact hm, ?_⟩
  refine F.nx _ M B σ _ w2 ((x1.trans x2).trans (ext_at hlB)) (E2.put hs hL hl0 upd_same (by rw [rm_upd (E2.sub _ hlB)]; exact DtAll.setAt (E1.up x2 r1) m h5) (fun a o n e => by rw [upd_ne n]; exact e) (put_or h6))
/-! ### targets -/
abbrev WG := PyData → Env → (Env → Prop) → Prop
def DG (Y : Cx) (K : Fr) (tg : Expr) (w : WG) : Prop := ∃ g : TG, PG Y tg g ∧ ∀ (M0 M B : List Addr) (σ : L2.St) (H : Hp) (ρ : Env) (d : PyData) (v : V) (P : Env → Prop) (Q : L2.St → Hp → Prop), EnvOk K M0 M B H σ ρ → Dt K (rm M H) v d → w d ρ P → (∀ ρ' σ', P ρ' → EnvOk K M0 M B H σ' ρ' → Q σ' H) → g v σ H Q
def gN (i : Nat) : WG := fun d ρ P => P (ρ.set i (.dat d))
theorem dg_name (i : Nat) {x : Str} {px : Pos} (nd : Y.N.Nodup) (hp : Y.N.Nodup → PG Y (.Name x px) (gName i) := by intro nd; exact pg_name nd rfl (by first | exact Or.inl rfl | exact Or.inr rfl)) : DG Y K (.Name x px) (gN i) :=
  ⟨gName i, hp nd, fun M0 M B σ H ρ d v P Q E r p k => k _ _ p (E.set i r)⟩
def DGs (Y : Cx) (K : Fr) (tg : List Expr) (w : List PyData → Env → (Env → Prop) → Prop) : Prop := ∃ g : TGs, PGs Y tg g ∧ ∀ (M0 M B : List Addr) (σ : L2.St) (H : Hp) (ρ : Env) (ds : List PyData) (vs : List V) (P : Env → Prop) (Q : L2.St → Hp → Prop), EnvOk K M0 M B H σ ρ → DtAll K (rm M H) vs ds → w ds ρ P → (∀ ρ' σ', P ρ' → EnvOk K M0 M B H σ' ρ' → Q σ' H) → g vs σ H Q
def gNil' : List PyData → Env → (Env → Prop) → Prop := fun ds ρ P => ds = [] ∧ P ρ
def gCons' (w : WG) (u : List PyData → Env → (Env → Prop) → Prop) : List PyData → Env → (Env → Prop) → Prop := fun ds ρ P => ∃ d r, ds = d :: r ∧ w d ρ fun ρ1 => u r ρ1 P
theorem dgs_nil : DGs Y K [] gNil' := ⟨gNil, pgs_nil, fun M0 M B σ H ρ ds vs P Q E r p k => by
  obtain ⟨rfl, p⟩ := p
  cases r
  exact ⟨rfl, k _ _ p E⟩⟩
theorem dgs_cons {w : WG} {u : List PyData → Env → (Env → Prop) → Prop} (h1 : DG Y K e w) (h2 : DGs Y K es u) (hs : (assignEach (e :: es) Y.env).map (·.2) = assign e Y.env :: (assignEach es Y.env).map (·.2) := by rfl) : DGs Y K (e :: es) (gCons' w u) := by
  obtain ⟨g, a1, a2⟩ := h1
  obtain ⟨gs, b1, b2⟩ := h2
  refine ⟨gCons g gs, pgs_cons a1 b1 hs, fun M0 M B σ H ρ ds vs P Q E r p k => ?_⟩
  obtain ⟨d, rr, rfl, p⟩ := p
  cases r with
  | cons r1 r2 => exact ⟨_, _, rfl, a2 M0 M B σ H ρ _ _ _ _ E r1 p fun ρ1 σ1 p1 E1 => b2 M0 M B σ1 H ρ1 _ _ _ _ E1 r2 p1 k⟩
def gT (n : Nat) (u : List PyData → Env → (Env → Prop) → Prop) : WG := fun d ρ P => ∃ ds, d = .tuple ds ∧ ds.length = n ∧ u ds ρ P
theorem dg_tup {n c : Nat} {u : List PyData → Env → (Env → Prop) → Prop} (h : DGs Y K es u) (hK : Y.K = K := by rfl) (hc : Y.calm = true := by rfl) (hn : (assignEach es Y.env).length = n := by rfl) (hst : (assignEach es Y.env).findIdx? (·.1) = none := by rfl) : DG Y K (.Tuple es c pos) (gT n u) := by
  obtain ⟨g, a1, a2⟩ := h
  refine ⟨gTup K n g, by rw [← hK]; exact pg_tup hc a1 hn hst, fun M0 M B σ H ρ d v P Q E r p k => ?_⟩
  obtain ⟨ds, rfl, hl, p⟩ := p
  obtain ⟨a, xs, rfl, h1, h2⟩ := Dt.isTup r
  exact ⟨a, xs, rfl, same_t rm_le h1, by rw [DtAll.len h2]; exact hl, a2 M0 M B σ H ρ _ _ _ _ E h2 p k⟩
/-- target = e -/
def wAsg (we : WE) (wg : WG) : WS := fun E ρ => we ρ fun ρ1 d => wg d ρ1 E.nx
theorem ds_asg {wg : WG} (h : DE (one Y) K e we) (hg : DG Y K tg wg) (hp : ∀ t g, PE Y e t → PG Y tg g → PS Y (.Assign [tg] e pos) (tAsg t g) := by intro t g h1 h2; exact ps_asg h1 h2) : DS Y K (.Assign [tg] e pos) (wAsg we wg) := by
  obtain ⟨t, a1, a2⟩ := h
  obtain ⟨g, b1, b2⟩ := hg
  refine ⟨tAsg t g, hp t g (a1 ()) b1, fun M0 M B σ H ρ E D Ev h F => ?_⟩
  refine a2 M0 M B σ H ρ _ _ Ev h fun ρ1 d v H1 w1 x1 E1 r1 => ?_
  exact b2 M0 M B σ H1 ρ1 d v _ _ E1 r1 w1 fun ρ2 σ2 p2 E2 => F.nx ρ2 M B σ2 H1 p2 x1 E2
/-- a, b = e1, e2 -/
def wPar (i j : Nat) (wa : WA) : WS := fun E ρ => wa ρ fun ρ1 ds => ∃ x y, ds = [x, y] ∧ E.nx ((ρ1.set i (.dat x)).set j (.dat y))
theorem ds_par (i j : Nat) {x y : Str} {px py pt pt2 : Pos} {kt k2 : Nat} {w : WA} (nd : Y.N.Nodup) (h : DA (one Y) K [a, b] w)
    (hp : Y.N.Nodup → ∀ t, PA Y [a, b] t → PS Y (.Assign [.Tuple [.Name x px, .Name y py] kt pt] (.Tuple [a, b] k2 pt2) pos) (tPar i j t) := by intro nd t h; exact ps_par (by rfl) nd rfl rfl (by decide) rfl rfl h (by rfl)) :
    DS Y K (.Assign [.Tuple [.Name x px, .Name y py] kt pt] (.Tuple [a, b] k2 pt2) pos) (wPar i j w) := by
  obtain ⟨t, a1, a2⟩ := h
  refine ⟨tPar i j t, hp nd t (a1 ()), fun M0 M B σ H ρ E D Ev h F => ?_⟩
  refine a2 M0 M B σ H ρ _ _ Ev h fun ρ1 ds vs H1 w1 x1 E1 r1 => ?_
  obtain ⟨x, y, rfl, w1⟩ := w1
  cases r1 with
  | cons q1 q2 =>
    cases q2 with
    | cons q2 q3 =>
      cases q3
      exact ⟨_, _, rfl, F.nx _ M B _ H1 w1 x1 ((E1.set i q1).set j q2)⟩
/-- x += e -/
def wAug (i : Nat) (f : F2) (we : WE) : WS := fun E ρ => ∃ x, ρ.at i = .dat x ∧ we ρ fun ρ1 y => f x y fun z => E.nx (ρ1.set i (.dat z))
theorem ds_augI (i : Nat) {x : Str} {px : Pos} (nd : Y.N.Nodup) (h : DE (one Y) K e we) (hp : Y.N.Nodup → ∀ t, PE Y e t → PS Y (.AugAssign (.Name x px) .Add e pos) (tAug i t (ipI fun i j => i + j)) := by intro nd t h; exact ps_aug nd rfl (by first | exact Or.inl rfl | exact Or.inr rfl) h ip_add) : DS Y K (.AugAssign (.Name x px) .Add e pos) (wAug i (fI0 fun i j => .int (i + j)) we) := by
  obtain ⟨t, a1, a2⟩ := h
  refine ⟨_, hp nd t (a1 ()), fun M0 M B σ H ρ E D Ev h F => ?_⟩
  obtain ⟨x, hx, h⟩ := h
  obtain ⟨v, h2, r⟩ := Ev.slot i _ (Env.at_get hx (by intro z; cases z))
  refine ⟨v, h2, a2 M0 M B σ H ρ _ _ Ev h fun ρ1 d u H1 w1 x1 E1 r1 => ?_⟩
  cases x with
  | int n =>
    cases d with
    | int m =>
      rw [Dt.isInt r, Dt.isInt r1]
      exact ⟨n, m, rfl, rfl, F.nx _ M B _ H1 w1 x1 (E1.set i (.int _))⟩
    | _ => exact w1.elim
  | _ => exact w1.elim
/-! ### loops -/
def forD (wg : WG) (w : WS) (E : DEnds) : List PyData → Env → Prop
  | [], ρ => E.nx ρ
  | d :: ds, ρ => wg d ρ fun ρ1 => w { nx := forD wg w E ds, ct := forD wg w E ds, bk := E.nx, rt := E.rt } ρ1
def wFor (wi : WI) (wg : WG) (w : WS) : WS := fun E ρ => wi ρ fun ρ1 items => forD wg w E items ρ1
theorem ds_for {iter : Expr} {body : List Stmt} {wi : WI} {wg : WG} (hi : DI (one Y) K tg iter wi) (hg : DG Y K tg wg) (hb : DSs Y K body w)
    (hp : ∀ ti g tb, PI Y tg iter ti → PG Y tg g → PSs Y body tb → PS Y (.For tg iter body [] pos) (tFor ti g tb) := by intro ti g tb h1 h2 h3; exact ps_for PassesOwn.never rfl h1 h2 h3) : DS Y K (.For tg iter body [] pos) (wFor wi wg w) := by
  obtain ⟨ti, i1, i2⟩ := hi
  obtain ⟨g, g1, g2⟩ := hg
  obtain ⟨tb, b1, b2⟩ := hb
  refine ⟨tFor ti g tb, hp ti g tb (i1 ()) g1 b1, fun M0 M B σ H ρ E D Ev h F => ?_⟩
  refine i2 M0 M B σ H ρ _ _ Ev h fun ρ1 items J H1 w1 x1 E1 it => ?_
  have F1 := F.go x1
  refine ⟨fun n m σ2 H2 => m = items.length - n ∧ ∃ (ρ2 : Env) (M2 B2 : List Addr), n ≤ items.length ∧ forD wg w E (items.drop n) ρ2 ∧ Ext M B H1 M2 B2 H2 ∧ EnvOk K M0 M2 B2 H2 σ2 ρ2, ⟨_, rfl, ρ1, M, B, Nat.zero_le _, w1, Ext.refl .., E1⟩, ?_⟩
  rintro n m σ2 H2 ⟨rfl, ρ2, M2, B2, hn, w2, x2, E2⟩
  obtain ⟨hgo, hst⟩ := it M2 H2 (x2.rm E1.sub) E2.dom
  by_cases hlt : n < items.length
  · right
    have hnd : items[n]? = some items[n] := List.getElem?_eq_getElem hlt
    obtain ⟨q1, q2⟩ := hgo n _ hnd
    rw [List.drop_eq_getElem_cons hlt] at w2
    refine ⟨q1, fun σ' H' => ∃ (ρ3 : Env) (M3 B3 : List Addr), forD wg w E (items.drop (n + 1)) ρ3 ∧ Ext M B H1 M3 B3 H' ∧ EnvOk K M0 M3 B3 H' σ' ρ3, fun σ' H' ⟨ρ3, M3, B3, p1, p2, p3⟩ => ⟨items.length - (n + 1), by omega, rfl, ρ3, M3, B3, hlt, p1, p2, p3⟩, fun x H3 hy => ?_⟩
    obtain ⟨s3, rx⟩ := q2 x H3 hy
    refine g2 M0 M2 B2 σ2 H3 ρ2 _ _ _ _ (E2.same s3) rx w2 fun ρ3 σ3 w3 E3 => ?_
    have x3 : Ext M B H1 M2 B2 H3 := x2.trans (Ext.same s3)
    exact b2 M0 M2 B2 σ3 H3 ρ3 _ _ E3 w3 ⟨fun ρ' M' B' σ' H' p x E' => ⟨ρ', M', B', p, x3.trans x, E'⟩, fun ρ' M' B' σ' H' p x E' => F1.nx ρ' M' B' σ' H' p (x3.trans x) E',
      fun ρ' M' B' σ' H' p x E' => ⟨ρ', M', B', p, x3.trans x, E'⟩, fun ρ' d v M' B' σ' H' p x E' r => F1.rt ρ' d v M' B' σ' H' p (x3.trans x) E' r⟩
  · left
    have en : n = items.length := by omega
    rw [en] at w2 ⊢
    rw [List.drop_length] at w2
    exact ⟨hst, F1.nx ρ2 M2 B2 σ2 H2 w2 x2 E2⟩
def wWhile (t : WT) (w : WS) : WS := fun E ρ => ∃ I : Nat → Env → Prop, (∃ m, I m ρ) ∧ ∀ m ρ, I m ρ → t ρ fun ρ1 c => (c = true → w { nx := fun ρ' => ∃ m', m' < m ∧ I m' ρ', ct := fun ρ' => ∃ m', m' < m ∧ I m' ρ', bk := E.nx, rt := E.rt } ρ1) ∧ (c = false → E.nx ρ1)
theorem ds_while {c : Expr} {body : List Stmt} {t : WT} (hc : DT (one Y) K c t) (hb : DSs Y K body w) (hp : ∀ tc tb, PT Y c tc → PSs Y body tb → PS Y (.While c body [] pos) (tWhile tc tb) := by intro tc tb h1 h2; exact ps_while PassesOwn.never h1 h2) : DS Y K (.While c body [] pos) (wWhile t w) := by
  obtain ⟨tc, c1, c2⟩ := hc
  obtain ⟨tb, b1, b2⟩ := hb
  refine ⟨tWhile tc tb, hp tc tb (c1 ()) b1, fun M0 M B σ H ρ E D Ev h F => ?_⟩
  obtain ⟨I, ⟨m0, i0⟩, turn⟩ := h
  refine ⟨fun m σ' H' => ∃ (ρ' : Env) (M' B' : List Addr), I m ρ' ∧ Ext M B H M' B' H' ∧ EnvOk K M0 M' B' H' σ' ρ', ⟨m0, ρ, M, B, i0, Ext.refl .., Ev⟩, ?_⟩
  rintro m σ1 H1 ⟨ρ1, M1, B1, i1, x1, E1⟩
  refine c2 M0 M1 B1 σ1 H1 ρ1 _ _ E1 (turn m ρ1 i1) fun ρ2 c H2 w2 x2 E2 => ite_of (fun e => ?_) (fun e => ?_)
  · refine ⟨fun σ' H' => ∃ m', m' < m ∧ ∃ (ρ' : Env) (M' B' : List Addr), I m' ρ' ∧ Ext M B H M' B' H' ∧ EnvOk K M0 M' B' H' σ' ρ', fun _ _ h => h, ?_⟩
    have x3 := x1.trans x2
    exact b2 M0 M1 B1 σ1 H2 ρ2 _ _ E2 (w2.1 e) ⟨fun ρ' M' B' σ' H' ⟨m', lt, p⟩ x E' => ⟨m', lt, ρ', M', B', p, x3.trans x, E'⟩, fun ρ' M' B' σ' H' p x E' => F.nx ρ' M' B' σ' H' p (x3.trans x) E',
      fun ρ' M' B' σ' H' ⟨m', lt, p⟩ x E' => ⟨m', lt, ρ', M', B', p, x3.trans x, E'⟩, fun ρ' d v M' B' σ' H' p x E' r => F.rt ρ' d v M' B' σ' H' p (x3.trans x) E' r⟩
  · exact F.nx ρ2 M1 B1 σ1 H2 (w2.2 e) (x1.trans x2) E2
end
/-! ### a def keeps its promise -/
section
variable {P : Program} {w : World} {mg : Str → Option Value} {base : Heap}
def startE (N : List Str) (ds : List PyData) : Env := ds.map .dat ++ List.replicate (N.length - ds.length) .un
theorem start_ok {N : List Str} {M : List Addr} {H : Hp} {vs : List V} {ds : List PyData} (dom : ∀ a, a ∈ M → H a ≠ none) (r : DtAll K (rm M H) vs ds) : EnvOk K M M [] H (L2.start N vs) (startE N ds) where
  len := by unfold L2.start startE; simp [DtAll.len r]
  sub := fun a h => by cases h
  dom := dom
  m0 := fun _ h => h
  slot := fun i s h => by
    unfold startE at h
    unfold L2.start
    by_cases c : i < ds.length
    · rw [List.getElem?_append_left (by simpa using c), List.getElem?_map] at h
      cases hd : ds[i]? with
      | none => rw [hd] at h; cases h
      | some d =>
        rw [hd] at h
        have e : s = .dat d := (Option.some.inj h).symm
        subst e
        obtain ⟨v, h1, h2⟩ := DtAll.getd r hd
        exact ⟨v, by rw [List.getElem?_append_left (by rw [List.length_map, DtAll.len r]; exact c), List.getElem?_map, h1]; rfl, h2⟩
    · rw [List.getElem?_append_right (by simpa using Nat.le_of_not_lt c), List.getElem?_replicate] at h
      split at h
      · have e : s = .un := (Option.some.inj h).symm
        subst e; trivial
      · cases h
  sep := fun i j s s' l n h1 h2 l1 l2 s1 s2 => by
    have z : ∀ (i : Nat) (s : SV), (startE N ds)[i]? = some s → s.isL = true → False := fun i s h hl => by
      unfold startE at h
      have m := List.mem_of_getElem? h
      rcases List.mem_append.mp m with m | m
      · obtain ⟨d, _, rfl⟩ := List.mem_map.mp m
        cases hl
      · have e := List.eq_of_mem_replicate m
        subst e
        cases hl
    exact z i s h1 l1
theorem fn_pure {x qual : Str} {st : Stmt} {f : Addr} {fd : FuncData} {N ps : List Str} {k : Nat} {S : SpD} {wb : WS} (F : Fun K x qual st f fd) (sc : FnScope N ps (defScope st)) (len : ∀ ds P, S ds P → ds.length = ps.length)
    (hb : ∀ (cdv : Value) (A : Around) (outer : List PySem.Env) (s : Shared) (H : Hp) (E : XK), Room k (A.deeper (envOfC qual (defScope st) s.heap.objs.size f cdv)) → DSs (cxOf CX0 P w K mg base N qual (defScope st) f cdv A outer s H E).nox K (defBody st) wb)
    (hw : ∀ ds Q, S ds Q → wb { nx := fun _ => Q .none, rt := fun _ d => Q d } (startE N ds)) : FnOk P w K mg base CX0 (k + 1) f fd ps (spP K S) := by
  refine Fun_ok F sc (fun vs H Q E h => ?_) (fun cdv A outer s H vs Q E hr h => ?_)
  · obtain ⟨M, ds, P', _, r, hs, _⟩ := h
    rw [DtAll.len r]
    exact len _ _ hs
  · obtain ⟨M, ds, P', dom, r, hs, q⟩ := h
    obtain ⟨t, a1, a2⟩ := hb cdv A outer s H E hr
    refine ⟨t, a1, a2 M M [] _ H _ _ _ (start_ok dom r) (hw ds P' hs) ⟨fun ρ' M' B' σ' H' p x E' => ?_, fun _ _ _ _ _ p => p.elim, fun _ _ _ _ _ p => p.elim, fun ρ' d v M' B' σ' H' p x E' r' => ?_⟩⟩
    · exact q _ _ H' p (fun a o e => x.keep a o (by simp) e) .non
    · exact q d v H' p (fun a o e => x.keep a o (by simp) e) r'
def startW (l : Addr) (N : List Str) (ws ds : List PyData) : Env := .bor l ws :: ds.map .dat ++ List.replicate (N.length - (ds.length + 1)) .un
theorem startW_ok {N : List Str} {M : List Addr} {H : Hp} {l : Addr} {xs us : List V} {ws ds : List PyData} (dom : ∀ a, a ∈ M → H a ≠ none) (hl : l ∈ M) (h : H l = some (.lst xs)) (r0 : DtAll K (rm M H) xs ws) (r : DtAll K (rm M H) us ds) : EnvOk K M M [l] H (L2.start N (.ref l :: us)) (startW l N ws ds) where
  len := by unfold L2.start startW; simp [DtAll.len r]
  sub := fun a h => by rw [List.mem_singleton.mp h]; exact hl
  dom := dom
  m0 := fun _ h => h
  slot := fun i s hi => by
    unfold startW at hi
    unfold L2.start
    cases i with
    | zero =>
      have e : s = .bor l ws := by simpa using hi.symm
      subst e
      exact ⟨xs, by simp, List.mem_singleton.mpr rfl, hl, h, r0⟩
    | succ i =>
      rw [List.cons_append, List.getElem?_cons_succ] at hi
      rw [List.map_cons, List.cons_append, List.getElem?_cons_succ]
      by_cases c : i < ds.length
      · rw [List.getElem?_append_left (by simpa using c), List.getElem?_map] at hi
        cases hd : ds[i]? with
        | none => rw [hd] at hi; cases hi
        | some d =>
          rw [hd] at hi
          have e : s = .dat d := (Option.some.inj hi).symm
          subst e
          obtain ⟨v, h1, h2⟩ := DtAll.getd r hd
          exact ⟨v, by rw [List.getElem?_append_left (by rw [List.length_map, DtAll.len r]; exact c), List.getElem?_map, h1]; rfl, h2⟩
      · rw [List.getElem?_append_right (by simpa using Nat.le_of_not_lt c), List.getElem?_replicate] at hi
        split at hi
        · have e : s = .un := (Option.some.inj hi).symm
          subst e; trivial
        · cases hi
  sep := fun i j s s' l' n h1 h2 l1 l2 s1 s2 => by
    have z : ∀ (i : Nat) (s : SV), (startW l N ws ds)[i]? = some s → s.isL = true → i = 0 := fun i s h hl => by
      cases i with
      | zero => rfl
      | succ i =>
        unfold startW at h
        rw [List.cons_append, List.getElem?_cons_succ] at h
        have m := List.mem_of_getElem? h
        rcases List.mem_append.mp m with m | m
        · obtain ⟨d, _, rfl⟩ := List.mem_map.mp m
          cases hl
        · have e := List.eq_of_mem_replicate m
          subst e
          cases hl
    exact n ((z i s h1 l1).trans (z j s' h2 l2).symm)
theorem fn_well {x qual : Str} {st : Stmt} {f : Addr} {fd : FuncData} {N ps : List Str} {k : Nat} {S : SpW} {wb : WS} (F : Fun K x qual st f fd) (sc : FnScope N ps (defScope st)) (len : ∀ ws ds P, S ws ds P → ds.length + 1 = ps.length)
    (hb : ∀ (cdv : Value) (A : Around) (outer : List PySem.Env) (s : Shared) (H : Hp) (E : XK), Room k (A.deeper (envOfC qual (defScope st) s.heap.objs.size f cdv)) → DSs (cxOf CX0 P w K mg base N qual (defScope st) f cdv A outer s H E).nox K (defBody st) wb)
    (hw : ∀ l ws ds Q, S ws ds Q → wb { nx := fun ρ => ∃ ws', ρ.at 0 = .bor l ws' ∧ Q ws' .none, rt := fun ρ d => ∃ ws', ρ.at 0 = .bor l ws' ∧ Q ws' d } (startW l N ws ds)) : FnOk P w K mg base CX0 (k + 1) f fd ps (spW K S) := by
  refine Fun_ok F sc (fun vs H Q E h => ?_) (fun cdv A outer s H vs Q E hr h => ?_)
  · obtain ⟨M, l, us, xs, ws, ds, P', rfl, _, _, _, _, r, hs, _⟩ := h
    rw [List.length_cons, DtAll.len r]
    exact len _ _ _ hs
  · obtain ⟨M, l, us, xs, ws, ds, P', rfl, dom, hl, h4, r0, r, hs, q⟩ := h
    obtain ⟨t, a1, a2⟩ := hb cdv A outer s H E hr
    refine ⟨t, a1, a2 M M [l] _ H _ _ _ (startW_ok dom hl h4 r0 r) (hw l ws ds P' hs) ⟨fun ρ' M' B' σ' H' p x E' => ?_, fun _ _ _ _ _ p => p.elim, fun _ _ _ _ _ p => p.elim, fun ρ' d v M' B' σ' H' p x E' r' => ?_⟩⟩
    · obtain ⟨ws', h0, p⟩ := p
      obtain ⟨xs', _, _, _, h7, h8⟩ := E'.slot 0 _ (Env.at_get h0 (by intro z; cases z))
      exact q ws' _ _ H' xs' p (fun a o n e => x.keep a o (fun c => n (List.mem_singleton.mp c)) e) h7 (DtAll.up (rm_sub E'.m0) h8) .non
    · obtain ⟨ws', h0, p⟩ := p
      obtain ⟨xs', _, _, _, h7, h8⟩ := E'.slot 0 _ (Env.at_get h0 (by intro z; cases z))
      exact q ws' d v H' xs' p (fun a o n e => x.keep a o (fun c => n (List.mem_singleton.mp c)) e) h7 (DtAll.up (rm_sub E'.m0) h8) r'
end
end Pm
namespace Pm
open PySem PySem.Spec PyProof.Rows L2
variable {ι : Type} {X : ι → Cx} {K : Fr} {a b c e tg : Expr} {es rest : List Expr} {wa wb wc we : WE} {pos : Pos}
/-! ### further expressions -/
def fNeg : F1
  | .int i, P => P (.int (-i))
  | _, _ => False
theorem de_neg (h : DE X K e we) : DE X K (.UnaryOp .USub e pos) (wU fNeg we) := by
  obtain ⟨t, a1, a2⟩ := h
  refine ⟨tUn (rU fun i => .int (-i)) t, fun i => pe_un un_neg (a1 i), fun M0 M B σ H ρ P Q E w k => ?_⟩
  refine a2 M0 M B σ H ρ _ _ E w fun ρ1 d v H1 w1 x1 E1 r1 => ?_
  cases d with
  | int i => rw [Dt.isInt r1]; exact ⟨i, rfl, k ρ1 _ _ H1 w1 x1 E1 (.int _)⟩
  | _ => exact w1.elim
def wAndV (wa wb : WE) : WE := fun ρ P => wa ρ fun ρ1 d => ∃ c, d = .bool c ∧ (c = true → wb ρ1 P) ∧ (c = false → P ρ1 (.bool false))
def wOrV (wa wb : WE) : WE := fun ρ P => wa ρ fun ρ1 d => ∃ c, d = .bool c ∧ (c = true → P ρ1 (.bool true)) ∧ (c = false → wb ρ1 P)
def wNotV (wa : WE) : WE := fun ρ P => wa ρ fun ρ1 d => ∃ c, d = .bool c ∧ P ρ1 (.bool (!c))
theorem de_one {op : BoolOp} (h : DE X K a wa) : DE X K (.BoolOp op [a] pos) wa := by
  obtain ⟨t, a1, a2⟩ := h
  exact ⟨t, fun i => pe_one (a1 i), a2⟩
theorem de_and (ha : DE X K a wa) (hb : DE X K (.BoolOp .And (b :: rest) pos) wb) : DE X K (.BoolOp .And (a :: b :: rest) pos) (wAndV wa wb) := by
  obtain ⟨t, a1, a2⟩ := ha
  obtain ⟨u, b1, b2⟩ := hb
  refine ⟨tAndV t u, fun i => pe_and (a1 i) (b1 i), fun M0 M B σ H ρ P Q E w k => ?_⟩
  refine a2 M0 M B σ H ρ _ _ E w fun ρ1 d v H1 w1 x1 E1 r1 => ?_
  obtain ⟨c, rfl, w1⟩ := w1
  refine ⟨c, Dt.isBl r1, ite_of (fun e => ?_) (fun e => ?_)⟩
  · exact b2 M0 M B σ H1 ρ1 _ _ E1 (w1.1 e) fun ρ2 d v H2 w2 x2 E2 r2 => k ρ2 d v H2 w2 (x1.trans x2) E2 r2
  · exact k ρ1 _ _ H1 (w1.2 e) x1 E1 (.bl _)
theorem de_or (ha : DE X K a wa) (hb : DE X K (.BoolOp .Or (b :: rest) pos) wb) : DE X K (.BoolOp .Or (a :: b :: rest) pos) (wOrV wa wb) := by
  obtain ⟨t, a1, a2⟩ := ha
  obtain ⟨u, b1, b2⟩ := hb
  refine ⟨tOrV t u, fun i => pe_or (a1 i) (b1 i), fun M0 M B σ H ρ P Q E w k => ?_⟩
  refine a2 M0 M B σ H ρ _ _ E w fun ρ1 d v H1 w1 x1 E1 r1 => ?_
  obtain ⟨c, rfl, w1⟩ := w1
  refine ⟨c, Dt.isBl r1, ite_of (fun e => ?_) (fun e => ?_)⟩
  · exact k ρ1 _ _ H1 (w1.1 e) x1 E1 (.bl _)
  · exact b2 M0 M B σ H1 ρ1 _ _ E1 (w1.2 e) fun ρ2 d v H2 w2 x2 E2 r2 => k ρ2 d v H2 w2 (x1.trans x2) E2 r2
theorem de_not (ha : DE X K a wa) : DE X K (.UnaryOp .Not a pos) (wNotV wa) := by
  obtain ⟨t, a1, a2⟩ := ha
  refine ⟨tNotV t, fun i => pe_not (a1 i), fun M0 M B σ H ρ P Q E w k => ?_⟩
  refine a2 M0 M B σ H ρ _ _ E w fun ρ1 d v H1 w1 x1 E1 r1 => ?_
  obtain ⟨c, rfl, w1⟩ := w1
  exact ⟨c, Dt.isBl r1, k ρ1 _ _ H1 w1 x1 E1 (.bl _)⟩
/-- a < b < c over ints -/
def wChain (f g : F2) (wa wb wc : WE) : WE := fun ρ P => wa ρ fun ρ1 x => wb ρ1 fun ρ2 y => f x y fun z => ∃ k, z = .bool k ∧ (k = true → wc ρ2 fun ρ3 u => g y u fun d => P ρ3 d) ∧ (k = false → P ρ2 (.bool false))
theorem de_chain {op op' : CmpOp} {r r' : R2} {f g : F2} (ho : ∀ i, OpR (X i) (compareOp op) r) (ho' : ∀ i, OpR (X i) (compareOp op') r') (hf : OpD K r f) (hg : OpD K r' g) (ha : DE X K a wa) (hb : DE X K b wb) (hc : DE X K c wc)
    (hm : lastMarks [op, op'] [b, c] = false := by with_unfolding_all rfl) : DE X K (.Compare a [op, op'] [b, c] pos) (wChain f g wa wb wc) := by
  obtain ⟨ta, a1, a2⟩ := ha
  obtain ⟨tb, b1, b2⟩ := hb
  obtain ⟨tc, c1, c2⟩ := hc
  refine ⟨tChain r r' ta tb tc, fun i => pe_chain (ho i) (ho' i) (a1 i) (b1 i) (c1 i) hm, fun M0 M B σ H ρ P Q E w k => ?_⟩
  refine a2 M0 M B σ H ρ _ _ E w fun ρ1 x v H1 w1 x1 E1 r1 => ?_
  refine b2 M0 M B σ H1 ρ1 _ _ E1 w1 fun ρ2 y u H2 w2 x2 E2 r2 => ?_
  refine hf M H2 x y v u _ _ E2.dom (.inl (E1.up x2 r1)) (.inl r2) w2 fun d z H3 w3 e3 r3 => ?_
  obtain ⟨kk, rfl, w3⟩ := w3
  refine ⟨kk, Dt.isBl r3, ite_of (fun e => ?_) (fun e => ?_)⟩
  · refine c2 M0 M B σ H3 ρ2 _ _ (E2.same e3) (w3.1 e) fun ρ3 u2 v2 H4 w4 x4 E4 r4 => ?_
    refine hg M H4 y u2 u v2 _ _ E4.dom (.inl (E2.up ((Ext.same e3).trans x4) r2)) (.inl r4) w4 fun d z H5 p e5 r5 => ?_
    exact k ρ3 d z H5 p ((((x1.trans x2).trans (Ext.same e3)).trans x4).trans (Ext.same e5)) (E4.same e5) r5
  · exact k ρ2 _ _ H3 (w3.2 e) ((x1.trans x2).trans (Ext.same e3)) (E2.same e3) (.bl _)
/-! ### the script -/
def wSlS (j : Nat) (wl wh : WO) : WE := fun ρ P => ∃ ns, ρ.at j = .scr ns ∧ wl ρ fun ρ2 lo => wh ρ2 fun ρ3 hi => P ρ3 (.list ((cutD ns lo hi).map .int))
theorem dt_ints {H : Hp} : ∀ {ns : List Int}, DtAll K H (ns.map V.int) (ns.map .int)
  | [] => .nil
  | n :: ns => .cons (.int n) dt_ints
theorem cutV_ints (ns : List Int) (lo hi : Option Int) : cutV (ns.map V.int) lo hi = (cutD ns lo hi).map V.int := by
  unfold cutV cutD
  rw [List.length_map, List.map_take, List.map_drop]
theorem de_sls (j : Nat) {wl wh : WO} {lo hi : Option Expr} {p2 : Pos} (hl : DO X K lo wl) (hh : DO X K hi wh) (h : ∀ i, PE (X i) a (tVar j) := by intro i; exact pv _) (hK : ∀ i, (X i).K = K := by intro i; rfl) : DE X K (.Subscript a (.Slice lo hi none p2) pos) (wSlS j wl wh) := by
  obtain ⟨tl, l1, l2⟩ := hl
  obtain ⟨th, h1, h2⟩ := hh
  refine ⟨tSl (rSlAny K) (tVar j) tl th, fun i => by rw [← hK i]; exact pe_slice sl_any (h i) (l1 i) (h1 i), fun M0 M B σ H ρ P Q E w k => ?_⟩
  obtain ⟨ns, h0, w⟩ := w
  obtain ⟨p, hp, hs⟩ := E.slot j _ (Env.at_get h0 (by intro z; cases z))
  refine ⟨_, hp, ?_⟩
  refine l2 M0 M B σ H ρ _ _ E w fun ρ2 lo H2 w2 x2 E2 => ?_
  refine h2 M0 M B σ H2 ρ2 _ _ E2 w2 fun ρ3 hi H3 w3 x3 E3 => ?_
  refine .inr (.inl ⟨p, _, rfl, same_l rm_le (same_l ((x2.trans x3).rm E.sub) hs), fun q nq => ?_⟩)
  rw [cutV_ints]
  exact k ρ3 _ _ _ w3 ((x2.trans x3).trans (Ext.same (same_new nq))) (E3.same (same_new nq)) (E3.newl nq dt_ints)
/-- the def that the law is -/
def spLaw (K : Fr) : Sp := fun vs H Q _ => ∃ (a : Addr) (ns : List Int), vs = [.ref a] ∧ ns.length ≤ 63 ∧ SqL K H a (ns.map V.int) ∧ ∀ H', Q (.bl true) H'
def startS (N : List Str) (ns : List Int) : Env := .scr ns :: List.replicate (N.length - 1) .un
theorem startS_ok {N : List Str} {H : Hp} {a : Addr} {ns : List Int} (h : SqL K H a (ns.map V.int)) : EnvOk K [] [] [] H (L2.start N [.ref a]) (startS N ns) where
  len := by unfold L2.start startS; simp
  sub := fun a h => by cases h
  dom := fun a h => by cases h
  m0 := fun _ h => h
  slot := fun i s hi => by
    unfold startS at hi
    unfold L2.start
    cases i with
    | zero =>
      have e : s = .scr ns := by simpa using hi.symm
      subst e
      exact ⟨a, by simp, by rw [rm_nil]; exact h⟩
    | succ i =>
      rw [List.getElem?_cons_succ, List.getElem?_replicate] at hi
      split at hi
      · have e : s = .un := (Option.some.inj hi).symm
        subst e; trivial
      · cases hi
  sep := fun i j s s' l' n h1 h2 l1 l2 s1 s2 => by
    have z : ∀ (i : Nat) (s : SV), (startS N ns)[i]? = some s → s.isL = true → False := fun i s h hl => by
      unfold startS at h
      have m := List.mem_of_getElem? h
      rcases List.mem_cons.mp m with m | m
      · subst m; cases hl
      · have e := List.eq_of_mem_replicate m
        subst e
        cases hl
    exact z i s h1 l1
section
variable {P : Program} {w : World} {mg : Str → Option Value} {base : Heap}
theorem fn_law {x qual : Str} {st : Stmt} {f : Addr} {fd : FuncData} {N : List Str} {p : Str} {k : Nat} {wb : WS} (F : Fun K x qual st f fd) (sc : FnScope N [p] (defScope st))
    (hb : ∀ (cdv : Value) (A : Around) (outer : List PySem.Env) (s : Shared) (H : Hp) (E : XK), Room k (A.deeper (envOfC qual (defScope st) s.heap.objs.size f cdv)) → DSs (cxOf CX0 P w K mg base N qual (defScope st) f cdv A outer s H E).nox K (defBody st) wb)
    (hw : ∀ ns : List Int, ns.length ≤ 63 → wb { nx := fun _ => False, rt := fun _ d => d = .bool true } (startS N ns)) : FnOk P w K mg base CX0 (k + 1) f fd [p] (spLaw K) := by
  refine Fun_ok F sc (fun vs H Q E h => ?_) (fun cdv A outer s H vs Q E hr h => ?_)
  · obtain ⟨a, ns, rfl, _⟩ := h
    rfl
  · obtain ⟨a, ns, rfl, hl, hs, q⟩ := h
    obtain ⟨t, a1, a2⟩ := hb cdv A outer s H E hr
    refine ⟨t, a1, a2 [] [] [] _ H _ _ _ (startS_ok hs) (hw ns hl) ⟨fun _ _ _ _ _ p => p.elim, fun _ _ _ _ _ p => p.elim, fun _ _ _ _ _ p => p.elim, fun ρ' d v M' B' σ' H' p x E' r' => ?_⟩⟩
    subst p
    rw [Dt.isBl r']
    exact q H'
/-- a def of the module with its promise, by its name -/
def Has (P : Program) (w : World) (K : Fr) (mg : Str → Option Value) (base : Heap) (k : Nat) (x : Str) (sp : Sp) : Prop := ∃ (f : Addr) (fd : FuncData) (ps : List Str), FnOk P w K mg base CX0 k f fd ps sp ∧ mg x = some (.ref f) ∧ PySem.W.keepIn K (.ref f) = true ∧ Binds K fd ps []
theorem callOk {Y : Cx} {k j : Nat} {x : Str} {sp : Sp} (h : Has Y.prog Y.w Y.K Y.mg Y.base k x sp) (hr : Room j Y.A) (le : k ≤ j) : CallOk Y x sp := by
  obtain ⟨f, fd, ps, h1, h2, h3, h4⟩ := h
  exact ⟨k, f, fd, ps, h1, hr.mono le, h2, h3, h4⟩
/-- a def as the top left it -/
structure Def (K : Fr) (mg : Str → Option Value) (x : Str) (st : Stmt) (ps : List Str) : Prop where
  ex : ∃ (f : Addr) (fd : FuncData), mg x = some (.ref f) ∧ PySem.W.keepIn K (.ref f) = true ∧ Fun K x x st f fd ∧ Binds K fd ps []
theorem Def.has {x : Str} {st : Stmt} {ps : List Str} {k : Nat} {sp : Sp} (D : Def K mg x st ps) (h : ∀ (f : Addr) (fd : FuncData), Fun K x x st f fd → FnOk P w K mg base CX0 k f fd ps sp) : Has P w K mg base k x sp := by
  obtain ⟨f, fd, h1, h2, h3, h4⟩ := D.ex
  exact ⟨f, fd, ps, h f fd h3, h1, h2, h4⟩
end
end Pm
namespace Pm
open PySem PySem.Spec PyProof.Rows L2
variable {ι : Type} {X : ι → Cx} {K : Fr} {a b c e tg : Expr} {es rest : List Expr} {wa wb wc we : WE} {pos : Pos}
/-! ### a def that hands back a new list -/
abbrev SpF := List PyData → (List PyData → Prop) → Prop
def spF (K : Fr) (S : SpF) : Sp := fun vs H Q _ => ∃ (M : List Addr) (ds : List PyData) (P : List PyData → Prop), (∀ a, a ∈ M → H a ≠ none) ∧ DtAll K (rm M H) vs ds ∧ S ds P ∧
  ∀ es p xs H', P es → H p = none → Same H H' → H' p = some (.lst xs) → DtAll K (rm (p :: M) H') xs es → Q (.ref p) H'
section
variable {P : Program} {w : World} {mg : Str → Option Value} {base : Heap}
/-- def f(..): return [..] -/
theorem fn_fresh {x qual : Str} {st : Stmt} {f : Addr} {fd : FuncData} {N ps : List Str} {k : Nat} {S : SpF} {wb : WA} {p1 p2 : Pos} {es : List Expr} (F : Fun K x qual st f fd) (sc : FnScope N ps (defScope st)) (len : ∀ ds P, S ds P → ds.length = ps.length) (hd : defBody st = [.Return (some (.List es p1)) p2])
    (hb : ∀ (cdv : Value) (A : Around) (outer : List PySem.Env) (s : Shared) (H : Hp) (E : XK), Room k (A.deeper (envOfC qual (defScope st) s.heap.objs.size f cdv)) → DA (one (cxOf CX0 P w K mg base N qual (defScope st) f cdv A outer s H E).nox) K es wb)
    (hw : ∀ ds Q, S ds Q → wb (startE N ds) fun ρ es => es.length ≤ sizeLine ∧ Q es) : FnOk P w K mg base CX0 (k + 1) f fd ps (spF K S) := by
  refine Fun_ok F sc (fun vs H Q E h => ?_) (fun cdv A outer s H vs Q E hr h => ?_)
  · obtain ⟨M, ds, P', _, r, hs, _⟩ := h
    rw [DtAll.len r]
    exact len _ _ hs
  · obtain ⟨M, ds, P', dom, r, hs, q⟩ := h
    obtain ⟨t, a1, a2⟩ := hb cdv A outer s H E hr
    rw [hd]
    refine ⟨_, pss_one (ps_ret (pe_lst (a1 ()))), ?_⟩
    refine a2 M M [] _ H _ _ _ (start_ok dom r) (hw ds P' hs) fun ρ' es vs' H' p x E' r' => ?_
    refine ⟨by rw [DtAll.len r']; exact p.1, fun z nz => ?_⟩
    have sm : Same H H' := fun a o e => x.keep a o (by simp) e
    refine q es z vs' _ p.2 (sm.free nz) (fun a o e => same_new nz _ _ (sm _ _ e)) upd_same (DtAll.up (fun a o e => ?_) r')
    obtain ⟨z1, z2⟩ := rm_to e
    have n : a ≠ z := fun q => by rw [q, nz] at z2; cases z2
    refine rm_of (fun c => ?_) (by rw [upd_ne n]; exact z2)
    rcases List.mem_cons.mp c with q | q
    · exact n q
    · exact z1 q
end
/-- a slot gets a new list -/
theorem EnvOk.take {M0 M B : List Addr} {H H' : Hp} {σ : L2.St} {ρ : Env} {p : Addr} {xs : List V} {ds : List PyData} (E : EnvOk K M0 M B H σ ρ) (i : Nat) (np : H p = none) (sm : Same H H') (hp : H' p = some (.lst xs)) (r : DtAll K (rm (p :: M) H') xs ds) :
    EnvOk K M0 (p :: M) (p :: B) H' (σ.set i (some (.ref p))) (ρ.set i (.own ds)) ∧ Ext M B H (p :: M) (p :: B) H' := by
  have hpM : p ∉ M := fun c => E.dom p c np
  have E1 : EnvOk K M0 (p :: M) B H' σ ρ := E.more np hp fun a u n e => sm _ _ e
  refine ⟨⟨by rw [List.length_set, List.length_set]; exact E1.len, fun a h => ?_, E1.dom, E1.m0, fun j s hj => ?_, fun j k s s' l' n h1 h2 l1 l2 s1 s2 => ?_⟩,
    ⟨fun a h => List.mem_cons_of_mem _ h, fun a h => ?_, fun a h => List.mem_cons_of_mem _ h, fun a h => ?_, fun a o _ e => sm a o e, fun a e => sm.free e⟩⟩
  · rcases List.mem_cons.mp h with q | q
    · rw [q]; exact List.mem_cons_self ..
    · exact E1.sub a q
  · rcases get_set_some hj with ⟨rfl, rfl, hl⟩ | ⟨n, hj'⟩
    · exact ⟨p, xs, get_set_eq (by rw [E1.len]; exact hl), List.mem_cons_self .., fun c => hpM (E.m0 _ c), hp, r⟩
    · rw [get_set_ne n]
      have z := E1.slot j s hj'
      cases s with
      | un => trivial
      | dat d => exact z
      | scr d => exact z
      | own ds => obtain ⟨l, xs, h1, h2, h3⟩ := z; exact ⟨l, xs, h1, List.mem_cons_of_mem _ h2, h3⟩
      | bor l ds => obtain ⟨xs, h1, h2, h3⟩ := z; exact ⟨xs, h1, List.mem_cons_of_mem _ h2, h3⟩
  · have old : ∀ (j : Nat) (s : SV), ρ[j]? = some s → s.isL = true → σ[j]? = some (some (.ref p)) → False := fun j s hj hs e => by
      have z := E.slot j s hj
      cases s with
      | un => cases hs
      | dat d => cases hs
      | scr d => cases hs
      | own ds =>
        obtain ⟨l2, xs, h1, h2, _⟩ := z
        rw [h1] at e
        injection e with e; injection e with e; injection e with e
        exact hpM (e ▸ E.sub _ h2)
      | bor l2 ds =>
        obtain ⟨xs, h1, h2, _⟩ := z
        rw [h1] at e
        injection e with e; injection e with e; injection e with e
        exact hpM (e ▸ E.sub _ h2)
    rcases get_set_some h1 with ⟨rfl, rfl, hl1⟩ | ⟨n1, h1'⟩
    · rw [get_set_eq (by rw [E.len]; exact hl1)] at s1
      injection s1 with s1; injection s1 with s1; injection s1 with s1
      rcases get_set_some h2 with ⟨rfl, rfl, _⟩ | ⟨n2, h2'⟩
      · exact n rfl
      · rw [get_set_ne n2] at s2
        rw [← s1] at s2
        exact old k s' h2' l2 s2
    · rw [get_set_ne n1] at s1
      rcases get_set_some h2 with ⟨rfl, rfl, hl2⟩ | ⟨n2, h2'⟩
      · rw [get_set_eq (by rw [E.len]; exact hl2)] at s2
        injection s2 with s2; injection s2 with s2; injection s2 with s2
        rw [← s2] at s1
        exact old j s h1' l1 s1
      · rw [get_set_ne n2] at s2
        exact E.sep j k s s' l' n h1' h2' l1 l2 s1 s2
  · rcases List.mem_cons.mp h with q | q
    · rw [q]; exact .inr np
    · exact .inl q
  · rcases List.mem_cons.mp h with q | q
    · rw [q]; exact .inr np
    · exact .inl q
section
variable {Y : Cx} {st : Stmt} {w u : WS}
/-- x = f(..), f hands back a new list, which x owns -/
def wSetF (i : Nat) (S : SpF) (wa : WA) : WS := fun E ρ => wa ρ fun ρ1 ds => S ds fun es => E.nx (ρ1.set i (.own es))
theorem ds_setF (i : Nat) {x y : Str} {px p pc : Pos} {S : SpF} {w : WA} (nd : Y.N.Nodup) (c : CallOk Y x (spF K S)) (h : DA (one Y) K (e :: es) w) (hg : Gl Y x := by rfl) (hdb : (x == ("__debug__" : Str)) = false := by decide)
    (he : starEach (e :: es) Y.env = (false, eval e Y.env) :: starEach es Y.env := by rfl) (hpl : (backTo pc (starEach es Y.env)).any (·.1) = false := by rfl)
    (hp : Y.N.Nodup → ∀ t, PE Y (.Call (.Name x p) (e :: es) [] pc) t → PS Y (.Assign [.Name y px] (.Call (.Name x p) (e :: es) [] pc) pos) (tAsg t (gName i)) := by intro nd t h; exact ps_set nd rfl (by first | exact Or.inl rfl | exact Or.inr rfl) h) : DS Y K (.Assign [.Name y px] (.Call (.Name x p) (e :: es) [] pc) pos) (wSetF i S w) := by
  obtain ⟨t, a1, a2⟩ := h
  obtain ⟨k, f, fd, ps, F, hr, hm, hk, hb⟩ := c
  refine ⟨tAsg (tCall (spF K S) [] E0 t) (gName i), hp nd _ (pe_call F hr hg hm hk hb .nil pass0 (a1 ()) hdb he hpl), fun M0 M B σ H ρ E D Ev h Ft => ?_⟩
  refine a2 M0 M B σ H ρ _ _ Ev h fun ρ1 ds vs H1 w1 x1 E1 r1 => ?_
  refine ⟨M, ds, _, E1.dom, by rw [List.append_nil]; exact r1, w1, fun es z xs H2 p np sm hz r2 => ?_⟩
  obtain ⟨E2, x2⟩ := E1.take i np sm hz r2
  exact Ft.nx _ _ _ _ _ p (x1.trans x2) E2
/-- x = [elt for y in iter], on one line -/
theorem ds_setLc (j i : Nat) {elt iter : Expr} {x y : Str} {px py pos spos : Pos} {scope : Scope} {wi : WI} (nd : Y.N.Nodup) (hi : DI (one Y) K (.Name x px) iter wi) (he : DE (blkX (one Y) scope) K elt we)
    (hy : Y.N[j]? = some y := by rfl) (hyl : Y.env.scope.names.lookup y = some .local := by rfl) (hsw : swapsWith (.ListComp elt [⟨.Name x px, iter, [], 0⟩] scope pos) (some (.Name y py)) spos.line Y.env = pure true := by exact sw_true rfl rfl rfl (by decide +kernel))
    (ok : blkC Y.N Y.env.scope scope [(x, i)] = true := by decide +kernel) (hg : ∀ p, PG (blkX (one Y) scope p) (.Name x px) (gName i) := by intro p; exact pg_name (by assumption) rfl (Or.inl rfl))
    (hc : Y.calm = true := by rfl) (hs : ∀ x, foldedSetIterable iter Y.env x = pure x := by intro _; rfl) : DS Y K (.Assign [.Name y py] (.ListComp elt [⟨.Name x px, iter, [], 0⟩] scope pos) spos) (wSet j (wLc i wi wYes we)) := by
  obtain ⟨ti, i1, i2⟩ := hi
  obtain ⟨te, e1, e2⟩ := he
  refine ⟨tAsg (tLc ti (gName i) tYes te [i]) (gName j), ps_setLc (own := [(x, i)]) hc nd hy hyl hsw (i1 ()) (blkOk_by ok) (fun s H C cl fp => hg ((), s, H, C, cl, fp)) (fun s H C cl fp => pts_nil) (fun s H C cl fp => e1 ((), s, H, C, cl, fp)) hs, fun M0 M B σ H ρ E D Ev h Ft => ?_⟩
  exact lc_read i2 (fun M0 M B σ H ρ P Q E w k => k ρ true H w (Ext.refl ..) E) e2 M0 M B σ H ρ _ _ Ev h fun ρ1 d v H1 w1 x1 E1 r1 => Ft.nx _ M B _ H1 w1 x1 (E1.set j r1)
end
theorem def_mk {h : Heap} {mg : Str → Option Value} {x : Str} {st : Stmt} {ps : List Str} {f : Addr} {oc : Value} {od an : Option Addr} {osl : Array (Option Value)} {kV doc pm cdv ct : Value} (X : K.In h) (G : h.Ns mainGlobals mg) (a : PySem.W.nsIn K mainGlobals x = some (some (.ref f)))
    (l : K.lookup f = some ⟨oc, od, .func (PySem.W.fnOf x x (defArgs st) (defBody st) (defScope st) .none kV doc pm an cdv ct), osl⟩) (c : PySem.W.codeIn K cdv x = true) (k : PySem.W.keepIn K (.ref f) = true)
    (hb : ∀ (kV doc pm : Value) (an : Option Addr) (cdv ct : Value) (us : List Value), us.length = ps.length → bindArgs (PySem.W.fnOf x x (defArgs st) (defBody st) (defScope st) .none kV doc pm an cdv ct) ⟨us, []⟩ = pure (ps.zip us)) : Def K mg x st ps :=
  ⟨f, _, PySem.W.mg_of X G a, k, fun_mk l c k, (fun_mk l c k).binds hb⟩
end Pm
namespace Pm
open PySem PySem.Spec PyProof.Rows L2
variable {ι : Type} {X : ι → Cx} {K : Fr} {a b c e tg : Expr} {es rest : List Expr} {wa wb wc we : WE} {pos : Pos}
theorem de_globI {x : Str} {n : Int} (h : ∃ t : Tok, ∀ i, (X i).mg x = some (.int n t)) (hg : ∀ i, Gl (X i) x := by intro i; rfl) (hd1 : (x == ("__debug__" : Str)) = false := by decide) : DE X K (.Name x pos) (wC (.int n)) := by
  obtain ⟨t, h⟩ := h
  exact de_c (v := .int n) (fun i => pe_glob (hg i) (h i) ⟨t, rfl⟩ hd1) fun _ => .int n
theorem de_globS {x : Str} {n : Str} (h : ∃ t : Tok, ∀ i, (X i).mg x = some (.str n t)) (hg : ∀ i, Gl (X i) x := by intro i; rfl) (hd1 : (x == ("__debug__" : Str)) = false := by decide) : DE X K (.Name x pos) (wC (.str n)) := by
  obtain ⟨t, h⟩ := h
  exact de_c (v := .str n) (fun i => pe_glob (hg i) (h i) ⟨t, rfl⟩ hd1) fun _ => .str n
/-! ### comparisons as tests -/
theorem dt_op {r : R2} {f : F2} (hp : ∀ i ta tb, PE (X i) a ta → PE (X i) b tb → PT (X i) e (tTest (tOp r ta tb))) (hr : OpD K r f) (ha : DE X K a wa) (hb : DV X K b wb) : DT X K e (wTst (wOp f wa wb)) := by
  obtain ⟨ta, a1, a2⟩ := ha
  obtain ⟨tb, b1, b2⟩ := hb
  refine ⟨tTest (tOp r ta tb), fun i => hp i ta tb (a1 i) (b1 i), fun M0 M B σ H ρ P Q E w k => ?_⟩
  refine a2 M0 M B σ H ρ _ _ E w fun ρ1 x v H1 w1 x1 E1 r1 => ?_
  refine b2 M0 M B σ H1 ρ1 _ _ E1 w1 fun ρ2 y u H2 w2 x2 E2 r2 => ?_
  refine hr M H2 x y v u _ _ E2.dom (.inl (E1.up x2 r1)) r2 w2 fun d z H3 p e3 r3 => ?_
  obtain ⟨bb, rfl, p⟩ := p
  exact ⟨bb, Dt.isBl r3, k ρ2 bb H3 p ((x1.trans x2).trans (Ext.same e3)) (E2.same e3)⟩
theorem dt_opo (j : Nat) {r : R2} {f : F2} (hp : ∀ i ta tb, PE (X i) a ta → PE (X i) b tb → PT (X i) e (tTest (tOp r ta tb))) (hr : OpD K r f) (hb : DV X K b wb) (h : ∀ i, PE (X i) a (tVar j) := by intro i; exact pv _) : DT X K e (wTst (wOpO f j wb)) := by
  obtain ⟨tb, b1, b2⟩ := hb
  refine ⟨tTest (tOp r (tVar j) tb), fun i => hp i _ tb (h i) (b1 i), fun M0 M B σ H ρ P Q E w k => ?_⟩
  obtain ⟨⟨ds0, h0⟩, w⟩ := w
  obtain ⟨l0, xs0, _, _, hl0, _⟩ := E.lst h0
  refine ⟨_, hl0, ?_⟩
  refine b2 M0 M B σ H ρ _ _ E w fun ρ2 y u H2 w2 x2 E2 r2 => ?_
  obtain ⟨ds, h1, w3⟩ := w2
  obtain ⟨l, xs, _, _, hl, _, h4, h5, _⟩ := E2.lst h1
  rw [hl0] at hl
  injection hl with hl; injection hl with hl; injection hl with hl
  subst hl
  refine hr M H2 _ y _ u _ _ E2.dom (.inr ⟨l0, xs, ds, rfl, rfl, h4, h5⟩) r2 w3 fun d z H3 p e3 r3 => ?_
  obtain ⟨bb, rfl, p⟩ := p
  exact ⟨bb, Dt.isBl r3, k ρ2 bb H3 p (x2.trans (Ext.same e3)) (E2.same e3)⟩
theorem dt_lt (ha : DE X K a wa) (hb : DE X K b wb) : DT X K (.Compare a [.Lt] [b] pos) (wTst (wOp fLt wa wb)) := dt_op (fun i ta tb h1 h2 => pt_cmpR op_lt h1 h2 (nomark _)) (od_I0 fun _ _ _ => .bl _) ha hb.v
theorem dt_le (ha : DE X K a wa) (hb : DE X K b wb) : DT X K (.Compare a [.LtE] [b] pos) (wTst (wOp fLe wa wb)) := dt_op (fun i ta tb h1 h2 => pt_cmpR op_le h1 h2 (nomark _)) (od_I0 fun _ _ _ => .bl _) ha hb.v
theorem dt_gt (ha : DE X K a wa) (hb : DE X K b wb) : DT X K (.Compare a [.Gt] [b] pos) (wTst (wOp fGt wa wb)) := dt_op (fun i ta tb h1 h2 => pt_cmpR op_gt h1 h2 (nomark _)) (od_I0 fun _ _ _ => .bl _) ha hb.v
theorem dt_ge (ha : DE X K a wa) (hb : DE X K b wb) : DT X K (.Compare a [.GtE] [b] pos) (wTst (wOp fGe wa wb)) := dt_op (fun i ta tb h1 h2 => pt_cmpR op_ge h1 h2 (nomark _)) (od_I0 fun _ _ _ => .bl _) ha hb.v
theorem dt_eq (hu : ∀ i, (X i).A.units + 64 < cLine) (ha : DE X K a wa) (hb : DV X K b wb) (hK : ∀ i, (X i).K = K := by intro i; rfl) : DT X K (.Compare a [.Eq] [b] pos) (wTst (wOp (fEq false) wa wb)) :=
  dt_op (fun i ta tb h1 h2 => pt_cmpR (by rw [← hK i]; exact op_eqAny (hu i)) h1 h2 (nomark _)) od_eq ha hb
theorem dt_ne (hu : ∀ i, (X i).A.units + 64 < cLine) (ha : DE X K a wa) (hb : DV X K b wb) (hK : ∀ i, (X i).K = K := by intro i; rfl) : DT X K (.Compare a [.NotEq] [b] pos) (wTst (wOp (fEq true) wa wb)) :=
  dt_op (fun i ta tb h1 h2 => pt_cmpR (by rw [← hK i]; exact op_neAny (hu i)) h1 h2 (nomark _)) od_eq ha hb
theorem dt_eqo (j : Nat) (hu : ∀ i, (X i).A.units + 64 < cLine) (hb : DV X K b wb) (h : ∀ i, PE (X i) a (tVar j) := by intro i; exact pv _) (hK : ∀ i, (X i).K = K := by intro i; rfl) : DT X K (.Compare a [.Eq] [b] pos) (wTst (wOpO (fEq false) j wb)) :=
  dt_opo j (fun i ta tb h1 h2 => pt_cmpR (by rw [← hK i]; exact op_eqAny (hu i)) h1 h2 (nomark _)) od_eq hb h
theorem dt_neo (j : Nat) (hu : ∀ i, (X i).A.units + 64 < cLine) (hb : DV X K b wb) (h : ∀ i, PE (X i) a (tVar j) := by intro i; exact pv _) (hK : ∀ i, (X i).K = K := by intro i; rfl) : DT X K (.Compare a [.NotEq] [b] pos) (wTst (wOpO (fEq true) j wb)) :=
  dt_opo j (fun i ta tb h1 h2 => pt_cmpR (by rw [← hK i]; exact op_neAny (hu i)) h1 h2 (nomark _)) od_eq hb h
theorem dt_is (ha : DE X K a wa) (hb : DE X K b wb) : DT X K (.Compare a [.Is] [b] pos) (wTst (wOp (fIs false) wa wb)) := dt_op (fun i ta tb h1 h2 => pt_cmpR op_isN h1 h2 (nomark _)) od_is ha hb.v
theorem dt_isnot (ha : DE X K a wa) (hb : DE X K b wb) : DT X K (.Compare a [.IsNot] [b] pos) (wTst (wOp (fIs true) wa wb)) := dt_op (fun i ta tb h1 h2 => pt_cmpR op_notN h1 h2 (nomark _)) od_isnot ha hb.v
theorem dt_in (ha : DE X K a wa) (hb : DV X K b wb) (hm : behindInMarks .In b = false := by rfl) (hK : ∀ i, (X i).K = K := by intro i; rfl) : DT X K (.Compare a [.In] [b] pos) (wTst (wOp (fIn false) wa wb)) :=
  dt_op (fun i ta tb h1 h2 => pt_cmpR (by rw [← hK i]; exact op_orR op_inS' op_in_seq) h1 h2 hm) od_in ha hb
theorem dt_notin (ha : DE X K a wa) (hb : DV X K b wb) (hm : behindInMarks .NotIn b = false := by rfl) (hK : ∀ i, (X i).K = K := by intro i; rfl) : DT X K (.Compare a [.NotIn] [b] pos) (wTst (wOp (fIn true) wa wb)) :=
  dt_op (fun i ta tb h1 h2 => pt_cmpR (by rw [← hK i]; exact op_orR op_notinS' op_notIn_seq) h1 h2 hm) od_in ha hb
theorem dt_chain {op op' : CmpOp} {r r' : R2} {f g : F2} (ho : ∀ i, OpR (X i) (compareOp op) r) (ho' : ∀ i, OpR (X i) (compareOp op') r') (hf : OpD K r f) (hg : OpD K r' g) (ha : DE X K a wa) (hb : DE X K b wb) (hc : DE X K c wc)
    (hm : lastMarks [op, op'] [b, c] = false := by with_unfolding_all rfl) : DT X K (.Compare a [op, op'] [b, c] pos) (wTst (wChain f g wa wb wc)) := by
  obtain ⟨ta, a1, a2⟩ := ha
  obtain ⟨tb, b1, b2⟩ := hb
  obtain ⟨tc, c1, c2⟩ := hc
  refine ⟨tTest (tChain r r' ta tb tc), fun i => pt_chain (ho i) (ho' i) (a1 i) (b1 i) (c1 i) hm, fun M0 M B σ H ρ P Q E w k => ?_⟩
  refine a2 M0 M B σ H ρ _ _ E w fun ρ1 x v H1 w1 x1 E1 r1 => ?_
  refine b2 M0 M B σ H1 ρ1 _ _ E1 w1 fun ρ2 y u H2 w2 x2 E2 r2 => ?_
  refine hf M H2 x y v u _ _ E2.dom (.inl (E1.up x2 r1)) (.inl r2) w2 fun d z H3 w3 e3 r3 => ?_
  obtain ⟨kk, rfl, w3⟩ := w3
  refine ⟨kk, Dt.isBl r3, ite_of (fun e => ?_) (fun e => ?_)⟩
  · refine c2 M0 M B σ H3 ρ2 _ _ (E2.same e3) (w3.1 e) fun ρ3 u2 v2 H4 w4 x4 E4 r4 => ?_
    refine hg M H4 y u2 u v2 _ _ E4.dom (.inl (E2.up ((Ext.same e3).trans x4) r2)) (.inl r4) w4 fun d z H5 p e5 r5 => ?_
    obtain ⟨bb, rfl, p⟩ := p
    exact ⟨bb, Dt.isBl r5, k ρ3 bb H5 p ((((x1.trans x2).trans (Ext.same e3)).trans x4).trans (Ext.same e5)) (E4.same e5)⟩
  · obtain ⟨bb, hb', p⟩ := w3.2 e
    injection hb' with hb'
    subst hb'
    exact ⟨false, rfl, k ρ2 false H3 p ((x1.trans x2).trans (Ext.same e3)) (E2.same e3)⟩
end Pm
namespace Pm
open PySem PySem.Spec PyProof.Rows L2 RZ
variable {ι : Type} {X : ι → Cx} {K : Fr} {a b c e tg : Expr} {es rest : List Expr} {wa wb wc we : WE} {pos : Pos}
/-! ### what is never reached; a value that is dropped -/
def wNever : WS := fun _ _ => False
theorem ds_never {Y : Cx} {st : Stmt} : DS Y K st wNever := ⟨tNever, ps_never, fun _ _ _ _ _ _ _ _ _ h _ => h.elim⟩
def wDrop (we : WE) : WS := fun E ρ => we ρ fun ρ1 _ => E.nx ρ1
theorem ds_expr {Y : Cx} (h : DE (one Y) K e we) (hp : ∀ t, PE Y e t → PS Y (.Expr e pos) (tDrop t) := by intro t h; exact ps_expr h) : DS Y K (.Expr e pos) (wDrop we) := by
  obtain ⟨t, a1, a2⟩ := h
  refine ⟨tDrop t, hp t (a1 ()), fun M0 M B σ H ρ E D Ev h F => ?_⟩
  exact a2 M0 M B σ H ρ _ _ Ev h fun ρ1 d v H1 w1 x1 E1 r1 => F.nx _ M B _ H1 w1 x1 E1
/-! ### isinstance -/
def tyD : PyData → String
  | .none => "NoneType"
  | .bool _ => "bool"
  | .int _ => "int"
  | .str _ => "str"
  | .list _ => "list"
  | .tuple _ => "tuple"
  | .dict _ => "dict"
theorem ty_of {M : List Addr} {H : Hp} {v : V} {d : PyData} (r : RV K M H v d) : TyX K H v (.type (tyD d)) := by
  rcases r with r | ⟨l, xs, ds, rfl, rfl, h, _⟩
  · cases r with
    | non => exact .base .non
    | bl b => exact .base (.bl b)
    | int i => exact .base (.int i)
    | str x => exact .base (.str x)
    | lst h r => exact .base (.lst (rm_le _ _ h))
    | dic h r => exact .fDict (rm_le _ _ h)
    | tup h r =>
      rcases h with (h | ⟨o, h⟩) | ⟨o, its, n, h1, h2, _⟩
      · exact .base (.tup (rm_le _ _ h))
      · exact .fTuple (rm_le _ _ h)
      · exact .kTuple h1 h2
  · exact .base (.lst h)
inductive Ty where
  | bool | int | str | list | tuple | dict
def Ty.s : Ty → String
  | .bool => "bool"
  | .int => "int"
  | .str => "str"
  | .list => "list"
  | .tuple => "tuple"
  | .dict => "dict"
def isiD : Ty → PyData → Bool
  | .bool, .bool _ => true
  | .int, .int _ => true
  | .int, .bool _ => true
  | .str, .str _ => true
  | .list, .list _ => true
  | .tuple, .tuple _ => true
  | .dict, .dict _ => true
  | _, _ => false
def isiN (a b : String) : Bool := a == b || (a == "bool" && b == "int")
theorem kit_all : ∀ a, a ∈ ["NoneType", "bool", "int", "str", "list", "tuple", "dict"] → ∀ b, b ∈ ["bool", "int", "str", "list", "tuple", "dict"] → kitB a b = some (isiN a b) := by decide +kernel
theorem kit_data {T : Ty} {d : PyData} : kitB (tyD d) T.s = some (isiD T d) := by
  have h1 : tyD d ∈ ["NoneType", "bool", "int", "str", "list", "tuple", "dict"] := by cases d <;> simp [tyD]
  have h2 : T.s ∈ ["bool", "int", "str", "list", "tuple", "dict"] := by cases T <;> simp [Ty.s]
  rw [kit_all _ h1 _ h2]
  cases T <;> cases d <;> rfl
def wIsi (T : Ty) (we : WE) : WE := fun ρ P => we ρ fun ρ1 d => P ρ1 (.bool (isiD T d))
theorem de_isi (T : Ty) {x : Str} {p p2 : Pos} (hm : ∀ i, (X i).mg "isinstance" = none) (hx : ∀ i, (X i).mg x = none) (h : DE X K e we) (hv : bootBuiltins x = some (.type T.s) := by decide +kernel) (hK : ∀ i, (X i).K = K := by intro i; rfl) (hg : ∀ i, Gl (X i) "isinstance" := by intro i; rfl) (hg2 : ∀ i, Gl (X i) x := by intro i; rfl)
    (hn : x ≠ "__name__" := by decide) (hd : (x == ("__debug__" : Str)) = false := by decide) (he : ∀ i, starEach [e, .Name x p2] (X i).env = (false, eval e (X i).env) :: starEach [.Name x p2] (X i).env := by intro i; rfl) (he2 : ∀ i, starEach [.Name x p2] (X i).env = (false, eval (.Name x p2) (X i).env) :: starEach [] (X i).env := by intro i; rfl)
    (hpl : ∀ i, (backTo pos (starEach [.Name x p2] (X i).env)).any (·.1) = false := by intro i; rfl) : DE X K (.Call (.Name "isinstance" p) [e, .Name x p2] [] pos) (wIsi T we) := by
  obtain ⟨t, a1, a2⟩ := h
  refine ⟨tCB (rIsi K) (tCons t (tCons (tC (.ty T.s)) tNil)), fun i => by rw [← hK i]; exact pe_callB call_isi (hg i) (hm i) PyProof.Rows.boot_isinstance (pa_cons (a1 i) (pa_cons (pe_bltn (hg2 i) (hx i) hv rfl hn hd) pa_nil (he2 i)) (he i)) (by decide) (by decide) (he i) (hpl i), fun M0 M B σ H ρ P Q E w k => ?_⟩
  refine a2 M0 M B σ H ρ _ _ E w fun ρ1 d v H1 w1 x1 E1 r1 => ?_
  exact ⟨v, .ty T.s, _, _, _, rfl, .ty T.s, ty_of (M := M) (.inl r1), kit_ty kit_data, k ρ1 _ _ H1 w1 x1 E1 (.bl _)⟩
def wIsi2 (T U : Ty) (we : WE) : WE := fun ρ P => we ρ fun ρ1 d => P ρ1 (.bool (isiD T d || isiD U d))
theorem de_isi2 (T U : Ty) {x y : Str} {p p2 p3 p4 : Pos} {cc : Nat} (hm : ∀ i, (X i).mg "isinstance" = none) (hx : ∀ i, (X i).mg x = none) (hy : ∀ i, (X i).mg y = none) (h : DE X K e we) (hv : bootBuiltins x = some (.type T.s) := by decide +kernel) (hv2 : bootBuiltins y = some (.type U.s) := by decide +kernel)
    (hK : ∀ i, (X i).K = K := by intro i; rfl) (hg : ∀ i, Gl (X i) "isinstance" := by intro i; rfl) (hgx : ∀ i, Gl (X i) x := by intro i; rfl) (hgy : ∀ i, Gl (X i) y := by intro i; rfl) (hn : x ≠ "__name__" := by decide) (hd : (x == ("__debug__" : Str)) = false := by decide) (hn2 : y ≠ "__name__" := by decide) (hd2 : (y == ("__debug__" : Str)) = false := by decide)
    (he : ∀ i, starEach [e, .Tuple [.Name x p2, .Name y p3] cc p4] (X i).env = (false, eval e (X i).env) :: starEach [.Tuple [.Name x p2, .Name y p3] cc p4] (X i).env := by intro i; rfl) (he2 : ∀ i, starEach [.Tuple [.Name x p2, .Name y p3] cc p4] (X i).env = (false, eval (.Tuple [.Name x p2, .Name y p3] cc p4) (X i).env) :: starEach [] (X i).env := by intro i; rfl)
    (he3 : ∀ i, starEach [.Name x p2, .Name y p3] (X i).env = (false, eval (.Name x p2) (X i).env) :: starEach [.Name y p3] (X i).env := by intro i; rfl) (he4 : ∀ i, starEach [.Name y p3] (X i).env = (false, eval (.Name y p3) (X i).env) :: starEach [] (X i).env := by intro i; rfl)
    (hpt : ∀ i t, PA (X i) [.Name x p2, .Name y p3] t → PE (X i) (.Tuple [.Name x p2, .Name y p3] cc p4) (tTup t) := by intro i t h; exact pe_tup h)
    (hpl : ∀ i, (backTo pos (starEach [.Tuple [.Name x p2, .Name y p3] cc p4] (X i).env)).any (·.1) = false := by intro i; rfl) : DE X K (.Call (.Name "isinstance" p) [e, .Tuple [.Name x p2, .Name y p3] cc p4] [] pos) (wIsi2 T U we) := by
  obtain ⟨t, a1, a2⟩ := h
  refine ⟨tCB (rIsiT K) (tCons t (tCons (tTup (tCons (tC (.ty T.s)) (tCons (tC (.ty U.s)) tNil))) tNil)), fun i => by
    rw [← hK i]
    exact pe_callB call_isiT (hg i) (hm i) PyProof.Rows.boot_isinstance (pa_cons (a1 i) (pa_cons (hpt i _ (pa_cons (pe_bltn (hgx i) (hx i) hv rfl hn hd) (pa_cons (pe_bltn (hgy i) (hy i) hv2 rfl hn2 hd2) pa_nil (he4 i)) (he3 i))) pa_nil (he2 i)) (he i)) (by decide) (by decide) (he i) (hpl i), fun M0 M B σ H ρ P Q E w k => ?_⟩
  refine a2 M0 M B σ H ρ _ _ E w fun ρ1 d v H1 w1 x1 E1 r1 => ?_
  refine ⟨by show 2 ≤ sizeLine; decide, fun q nq => ⟨v, q, [.ty T.s, .ty U.s], _, [.type T.s, .type U.s], isiD T d || isiD U d, rfl, upd_same, .cons (.ty T.s) (.cons (.ty U.s) .nil), ty_of (M := M) (RV.up E1 (same_new nq) (.inl r1)), ?_, ?_⟩⟩
  · refine kitAny_cons (kit_ty kit_data) (fun hf => ?_) (fun ht => by rw [ht]; rfl)
    rw [hf, Bool.false_or]
    exact kitAny_cons (r := isiD U d) (kit_ty kit_data) (fun hf2 => by rw [hf2]; exact kitAny_nil) (fun ht => ht)
  · exact k ρ1 _ _ _ w1 (x1.trans (Ext.same (same_new nq))) (E1.same (same_new nq)) (.bl _)
/-! ### zip -/
def zipD (xs ys : List PyData) : List PyData := (xs.zip ys).map fun p => .tuple [p.1, p.2]
theorem zipD_get {xs ys : List PyData} {i : Nat} {d : PyData} (h : (zipD xs ys)[i]? = some d) : ∃ x y, xs[i]? = some x ∧ ys[i]? = some y ∧ d = .tuple [x, y] := by
  unfold zipD at h
  rw [List.getElem?_map] at h
  cases e : (xs.zip ys)[i]? with
  | none => rw [e] at h; cases h
  | some p =>
    rw [e] at h
    obtain ⟨x, y⟩ := p
    have q := List.getElem?_zip_eq_some.mp e
    exact ⟨x, y, q.1, q.2, (Option.some.inj h).symm⟩
theorem zipD_len {xs ys : List PyData} : (zipD xs ys).length = min xs.length ys.length := by simp [zipD]
theorem it_zipT {M : List Addr} {H : Hp} {a b : Addr} {xs ys : List V} {ds es : List PyData} (h : SqT K (rm M H) a xs) (r : DtAll K (rm M H) xs ds) (h2 : SqT K (rm M H) b ys) (r2 : DtAll K (rm M H) ys es) : IterOk K M H (ItzT K a b) (zipD ds es) := fun M' H' s dom => by
  have h' : SqT K H' a xs := same_t rm_le (same_t s h)
  have h2' : SqT K H' b ys := same_t rm_le (same_t s h2)
  refine ⟨fun i d hd => ?_, ⟨xs, ys, h', h2', by rw [zipD_len, DtAll.len r, DtAll.len r2]; omega⟩⟩
  obtain ⟨x, y, hx, hy, rfl⟩ := zipD_get hd
  obtain ⟨v, hv, rv⟩ := DtAll.getd r hx
  obtain ⟨u, hu, ru⟩ := DtAll.getd r2 hy
  refine ⟨⟨xs, ys, v, u, h', h2', hv, hu⟩, fun z H'' q => ?_⟩
  obtain ⟨T, x', y', rfl, nT, rfl, q1, q2⟩ := q
  have e1 := q1 xs h'
  have e2 := q2 ys h2'
  rw [hv] at e1
  rw [hu] at e2
  cases e1
  cases e2
  exact ⟨same_new nT, .tup (.inl (.inl (rm_of (fun q => dom T q nT) upd_same))) (.cons (Dt.up (up_new nT) (Dt.up s rv)) (.cons (Dt.up (up_new nT) (Dt.up s ru)) .nil))⟩
theorem it_zipL {M : List Addr} {H : Hp} {a b : Addr} {xs ys : List V} {ds es : List PyData} (h : rm M H a = some (.lst xs)) (r : DtAll K (rm M H) xs ds) (h2 : rm M H b = some (.lst ys)) (r2 : DtAll K (rm M H) ys es) : IterOk K M H (Itz K a b) (zipD ds es) := fun M' H' s dom => by
  have h' : SqL K H' a xs := SqL.of (rm_to (s _ _ h)).2
  have h2' : SqL K H' b ys := SqL.of (rm_to (s _ _ h2)).2
  refine ⟨fun i d hd => ?_, ⟨xs, ys, h', h2', by rw [zipD_len, DtAll.len r, DtAll.len r2]; omega⟩⟩
  obtain ⟨x, y, hx, hy, rfl⟩ := zipD_get hd
  obtain ⟨v, hv, rv⟩ := DtAll.getd r hx
  obtain ⟨u, hu, ru⟩ := DtAll.getd r2 hy
  refine ⟨⟨xs, ys, v, u, h', h2', hv, hu⟩, fun z H'' q => ?_⟩
  obtain ⟨T, x', y', rfl, nT, rfl, q1, q2⟩ := q
  have e1 := q1 xs h'
  have e2 := q2 ys h2'
  rw [hv] at e1
  rw [hu] at e2
  cases e1
  cases e2
  exact ⟨same_new nT, .tup (.inl (.inl (rm_of (fun q => dom T q nT) upd_same))) (.cons (Dt.up (up_new nT) (Dt.up s rv)) (.cons (Dt.up (up_new nT) (Dt.up s ru)) .nil))⟩
def wZip (wa wb : WE) : WI := fun ρ P => wa ρ fun ρ1 x => wb ρ1 fun ρ2 y => match x, y with
  | .list xs, .list ys => P ρ2 (zipD xs ys)
  | .tuple xs, .tuple ys => P ρ2 (zipD xs ys)
  | _, _ => False
theorem di_zip {p tpos : Pos} {elts : List Expr} {kk : Nat} (hm : ∀ i, (X i).mg "zip" = none) (ha : DE X K a wa) (hb : DE X K b wb) (hK : ∀ i, (X i).K = K := by intro i; rfl) (hg : ∀ i, Gl (X i) "zip" := by intro i; rfl) (hs : ∀ i, starEach [a, b] (X i).env = (false, eval a (X i).env) :: starEach [b] (X i).env := by intro i; rfl)
    (hs2 : ∀ i, starEach [b] (X i).env = (false, eval b (X i).env) :: starEach [] (X i).env := by intro i; rfl) (hpl : ∀ i, (backTo pos (starEach [b] (X i).env)).any (·.1) = false := by intro i; rfl) : DI X K (.Tuple elts kk tpos) (.Call (.Name "zip" p) [a, b] [] pos) (wZip wa wb) := by
  obtain ⟨t, a1, a2⟩ := ha
  obtain ⟨u, b1, b2⟩ := hb
  refine ⟨iZipA K (tCons t (tCons u tNil)), fun i => by rw [← hK i]; exact pi_zipA (hg i) (hm i) (pa_cons (a1 i) (pa_cons (b1 i) pa_nil (hs2 i)) (hs i)) (hs i) (hpl i), fun M0 M B σ H ρ P R E w k => ?_⟩
  refine a2 M0 M B σ H ρ _ _ E w fun ρ1 x v H1 w1 x1 E1 r1 => ?_
  refine b2 M0 M B σ H1 ρ1 _ _ E1 w1 fun ρ2 y v2 H2 w2 x2 E2 r2 => ?_
  have r1' := E1.up x2 r1
  cases x with
  | list xs =>
    cases y with
    | list ys =>
      obtain ⟨p, vs, rfl, h1, h2⟩ := Dt.isLst r1'
      obtain ⟨q, us, rfl, h3, h4⟩ := Dt.isLst r2
      exact ⟨p, q, vs, us, rfl, .inl ⟨SqL.of (rm_le _ _ h1), SqL.of (rm_le _ _ h3), k ρ2 _ _ H2 w2 (x1.trans x2) E2 (it_zipL h1 h2 h3 h4)⟩⟩
    | _ => exact w2.elim
  | tuple xs =>
    cases y with
    | tuple ys =>
      obtain ⟨p, vs, rfl, h1, h2⟩ := Dt.isTup r1'
      obtain ⟨q, us, rfl, h3, h4⟩ := Dt.isTup r2
      exact ⟨p, q, vs, us, rfl, .inr ⟨same_t rm_le h1, same_t rm_le h3, k ρ2 _ _ H2 w2 (x1.trans x2) E2 (it_zipT h1 h2 h3 h4)⟩⟩
    | _ => exact w2.elim
  | _ => exact w2.elim
/-! ### tuples of the module -/
def GlobOk (K : Fr) (mg : Str → Option Value) (x : Str) (d : PyData) : Prop := ∃ a, mg x = some (.ref a) ∧ ∀ H, Dt K H (.ref a) d
theorem de_globT {x : Str} {d : PyData} (h : ∃ a, (∀ i, (X i).mg x = some (.ref a)) ∧ ∀ H, Dt K H (.ref a) d) (hg : ∀ i, Gl (X i) x := by intro i; rfl) (hd1 : (x == ("__debug__" : Str)) = false := by decide) : DE X K (.Name x pos) (wC d) := by
  obtain ⟨a, h1, h2⟩ := h
  exact de_c (v := .ref a) (fun i => pe_glob (hg i) (h1 i) rfl hd1) h2
theorem GlobOk.use {mg : Str → Option Value} {x : Str} {d : PyData} (g : GlobOk K mg x d) (h : ∀ i, (X i).mg = mg) : ∃ a, (∀ i, (X i).mg x = some (.ref a)) ∧ ∀ H, Dt K H (.ref a) d := by
  obtain ⟨a, h1, h2⟩ := g
  exact ⟨a, fun i => by rw [h i]; exact h1, h2⟩
theorem glob_tup {h : Heap} {mg : Str → Option Value} {x : Str} {a : Addr} {od : Option Addr} {its : Array Value} {n : Nat} {sl : Array (Option Value)} {xs : List V} {ds : List PyData} (X : K.In h) (G : h.Ns mainGlobals mg) (g : PySem.W.nsIn K mainGlobals x = some (some (.ref a))) (l : K.lookup a = some ⟨.type "tuple", od, .seq its n, sl⟩)
    (hz : its.size ≤ sizeLine) (hv : Vals xs its.toList) (hd : ∀ H, DtAll K H xs ds) : GlobOk K mg x (.tuple ds) :=
  ⟨a, PySem.W.mg_of X G g, fun H => .tup (.inr ⟨_, its, n, l, rfl, rfl, hz, hv⟩) (hd H)⟩
/-- what is told is a dict that nobody changes any more -/
def tFrz (t : TE) : TE := fun σ H Q => t σ H fun x H1 => ∃ d kvs, x = .ref d ∧ H1 d = some (.dK kvs) ∧ ∀ o, Q x (upd H1 d (.frz o (.dK kvs)))
theorem pe_frz {Y : Cx} {t : TE} (h : PE Y e t) : PE Y e (tFrz t) := by
  refine ⟨fun pins s σ H Q I hw => ?_⟩
  refine thn (h.run pins s σ H _ I hw) fun v s1 ⟨x, H1, I1, r, d, kvs, ex, hd, q⟩ => ?_
  obtain ⟨od, I2⟩ := I1.lock hd trivial
  exact ⟨x, _, I2, r, q od⟩
theorem upd_upd {H : Hp} {p : Addr} {a b : HO} : upd (upd H p a) p b = upd H p b := by
  funext q
  by_cases c : q = p
  · subst c; rw [upd_same, upd_same]
  · rw [upd_ne c, upd_ne c, upd_ne c]
/-- a dict's display without pairs -/
theorem de_dnew : DE X K (.Dict [] [] pos) (wC (.dict [])) := by
  refine ⟨tFrz tDNewK, fun i => pe_frz pe_dnewK, fun M0 M B σ H ρ P Q E w k => ?_⟩
  intro p np
  refine ⟨p, [], rfl, upd_same, fun o => ?_⟩
  rw [upd_upd]
  exact k ρ _ _ _ w (Ext.same (same_new np)) (E.same (same_new np)) (.dic (rm_of (E.fresh np) upd_same) .nil)
/-- a promise that nobody may ask -/
theorem has_none {P : Program} {w : World} {mg : Str → Option Value} {base : Heap} {x : Str} {st : Stmt} {N ps : List Str} {k : Nat} (D : Def K mg x st ps) (sc : FnScope N ps (defScope st)) : Has P w K mg base (k + 1) x (spP K fun _ _ => False) :=
  D.has fun f fd F => Fun_ok F sc (fun vs H Q E h => by obtain ⟨_, _, _, _, _, h, _⟩ := h; exact h.elim) (fun cdv A outer s H vs Q E hr h => by obtain ⟨_, _, _, _, _, h, _⟩ := h; exact h.elim)
theorem has_noneW {P : Program} {w : World} {mg : Str → Option Value} {base : Heap} {x : Str} {st : Stmt} {N ps : List Str} {k : Nat} (D : Def K mg x st ps) (sc : FnScope N ps (defScope st)) : Has P w K mg base (k + 1) x (spW K fun _ _ _ => False) :=
  D.has fun f fd F => Fun_ok F sc (fun vs H Q E h => by obtain ⟨_, _, _, _, _, _, _, _, _, _, _, _, _, h, _⟩ := h; exact h.elim) (fun cdv A outer s H vs Q E hr h => by obtain ⟨_, _, _, _, _, _, _, _, _, _, _, _, _, h, _⟩ := h; exact h.elim)
end Pm
namespace Pm
open PySem PySem.Spec PyProof.Rows L2
variable {ι : Type} {X : ι → Cx} {K : Fr} {a e e2 e3 : Expr} {we wo : WE} {wa : WA} {apos cpos : Pos}
/-! ### methods of texts -/
def fStrip : FM
  | a, [.str b], P => a.length ≤ sizeLine ∧ P (.str (Txt.stripChars a b))
  | _, _, _ => False
theorem md_strip : MtD K (fun x xs H Q => ∃ (a b : Str), x = .str a ∧ xs = [.str b] ∧ a.length ≤ sizeLine ∧ Q (.str (Txt.stripChars a b)) H) fStrip := by
  intro M H x ds vs P Q dom r f k
  match ds, f with
  | [.str b], f =>
    cases r with
    | cons r1 r =>
      cases r
      rw [Dt.isStr r1]
      exact ⟨x, b, rfl, rfl, f.1, k _ _ H f.2 (Same.refl _) (.str _)⟩
theorem de_strip (h : DE X K a wo) (ha : DA X K [e] wa) (hK : ∀ i, (X i).K = K := by intro i; rfl)
    (hp : ∀ i t u, PE (X i) a t → PA (X i) [e] u → PE (X i) (.Call (.Attribute a "strip" apos) [e] [] cpos) (tBM (X i).K "str" (fun x xs H Q => ∃ (a b : Str), x = .str a ∧ xs = [.str b] ∧ a.length ≤ sizeLine ∧ Q (.str (Txt.stripChars a b)) H) t u) := by intro i t u h1 h2; exact pe_bm PySem.F.plainAttrs_str PySem.F.slot_str_strip PySem.F.type_str_strip mt_stripChars h1 h2) :
    DE X K (.Call (.Attribute a "strip" apos) [e] [] cpos) (wM fStrip wo wa) :=
  de_m (fun i t u h1 h2 => by rw [← hK i]; exact hp i t u h1 h2) md_strip h ha
def fLstrip : FM
  | a, [.str b], P => a.length ≤ sizeLine ∧ P (.str (Txt.lstripChars a b))
  | _, _, _ => False
theorem md_lstrip : MtD K (fun x xs H Q => ∃ (a b : Str), x = .str a ∧ xs = [.str b] ∧ a.length ≤ sizeLine ∧ Q (.str (Txt.lstripChars a b)) H) fLstrip := by
  intro M H x ds vs P Q dom r f k
  match ds, f with
  | [.str b], f =>
    cases r with
    | cons r1 r =>
      cases r
      rw [Dt.isStr r1]
      exact ⟨x, b, rfl, rfl, f.1, k _ _ H f.2 (Same.refl _) (.str _)⟩
theorem de_lstrip (h : DE X K a wo) (ha : DA X K [e] wa) (hK : ∀ i, (X i).K = K := by intro i; rfl)
    (hp : ∀ i t u, PE (X i) a t → PA (X i) [e] u → PE (X i) (.Call (.Attribute a "lstrip" apos) [e] [] cpos) (tBM (X i).K "str" (fun x xs H Q => ∃ (a b : Str), x = .str a ∧ xs = [.str b] ∧ a.length ≤ sizeLine ∧ Q (.str (Txt.lstripChars a b)) H) t u) := by intro i t u h1 h2; exact pe_bm PySem.F.plainAttrs_str PySem.F.slot_str_lstrip PySem.F.type_str_lstrip mt_lstripChars h1 h2) :
    DE X K (.Call (.Attribute a "lstrip" apos) [e] [] cpos) (wM fLstrip wo wa) :=
  de_m (fun i t u h1 h2 => by rw [← hK i]; exact hp i t u h1 h2) md_lstrip h ha
def fRstrip : FM
  | a, [.str b], P => a.length ≤ sizeLine ∧ P (.str (Txt.rstripChars a b))
  | _, _, _ => False
theorem md_rstrip : MtD K (fun x xs H Q => ∃ (a b : Str), x = .str a ∧ xs = [.str b] ∧ a.length ≤ sizeLine ∧ Q (.str (Txt.rstripChars a b)) H) fRstrip := by
  intro M H x ds vs P Q dom r f k
  match ds, f with
  | [.str b], f =>
    cases r with
    | cons r1 r =>
      cases r
      rw [Dt.isStr r1]
      exact ⟨x, b, rfl, rfl, f.1, k _ _ H f.2 (Same.refl _) (.str _)⟩
theorem de_rstrip (h : DE X K a wo) (ha : DA X K [e] wa) (hK : ∀ i, (X i).K = K := by intro i; rfl)
    (hp : ∀ i t u, PE (X i) a t → PA (X i) [e] u → PE (X i) (.Call (.Attribute a "rstrip" apos) [e] [] cpos) (tBM (X i).K "str" (fun x xs H Q => ∃ (a b : Str), x = .str a ∧ xs = [.str b] ∧ a.length ≤ sizeLine ∧ Q (.str (Txt.rstripChars a b)) H) t u) := by intro i t u h1 h2; exact pe_bm PySem.F.plainAttrs_str PySem.F.slot_str_rstrip PySem.F.type_str_rstrip mt_rstripChars h1 h2) :
    DE X K (.Call (.Attribute a "rstrip" apos) [e] [] cpos) (wM fRstrip wo wa) :=
  de_m (fun i t u h1 h2 => by rw [← hK i]; exact hp i t u h1 h2) md_rstrip h ha
def fStarts : FM
  | a, [.str b], P => P (.bool (Txt.startswith a b))
  | _, _, _ => False
theorem md_startswith : MtD K (fun x xs H Q => ∃ (a b : Str), x = .str a ∧ xs = [.str b] ∧ Q (.bl (Txt.startswith a b)) H) fStarts := by
  intro M H x ds vs P Q dom r f k
  match ds, f with
  | [.str b], f =>
    cases r with
    | cons r1 r =>
      cases r
      rw [Dt.isStr r1]
      exact ⟨x, b, rfl, rfl, k _ _ H f (Same.refl _) (.bl _)⟩
theorem de_startswith (h : DE X K a wo) (ha : DA X K [e] wa) (hK : ∀ i, (X i).K = K := by intro i; rfl)
    (hp : ∀ i t u, PE (X i) a t → PA (X i) [e] u → PE (X i) (.Call (.Attribute a "startswith" apos) [e] [] cpos) (tBM (X i).K "str" (fun x xs H Q => ∃ (a b : Str), x = .str a ∧ xs = [.str b] ∧ Q (.bl (Txt.startswith a b)) H) t u) := by intro i t u h1 h2; exact pe_bm PySem.F.plainAttrs_str PySem.F.slot_str_startswith PySem.F.type_str_startswith mt_startswith h1 h2) :
    DE X K (.Call (.Attribute a "startswith" apos) [e] [] cpos) (wM fStarts wo wa) :=
  de_m (fun i t u h1 h2 => by rw [← hK i]; exact hp i t u h1 h2) md_startswith h ha
def fStarts3 : FM
  | a, [.str b, .int i], P => P (.bool (Txt.startswith3 a b i))
  | _, _, _ => False
theorem md_startswith3 : MtD K (fun x xs H Q => ∃ (a b : Str) (i : Int), x = .str a ∧ xs = [.str b, .int i] ∧ Q (.bl (Txt.startswith3 a b i)) H) fStarts3 := by
  intro M H x ds vs P Q dom r f k
  match ds, f with
  | [.str b, .int i], f =>
    cases r with
    | cons r1 r =>
      cases r with
      | cons r2 r =>
        cases r
        rw [Dt.isStr r1, Dt.isInt r2]
        exact ⟨x, b, i, rfl, rfl, k _ _ H f (Same.refl _) (.bl _)⟩
theorem de_startswith3 (h : DE X K a wo) (ha : DA X K [e, e2] wa) (hK : ∀ i, (X i).K = K := by intro i; rfl)
    (hp : ∀ i t u, PE (X i) a t → PA (X i) [e, e2] u → PE (X i) (.Call (.Attribute a "startswith" apos) [e, e2] [] cpos) (tBM (X i).K "str" (fun x xs H Q => ∃ (a b : Str) (i : Int), x = .str a ∧ xs = [.str b, .int i] ∧ Q (.bl (Txt.startswith3 a b i)) H) t u) := by intro i t u h1 h2; exact pe_bm PySem.F.plainAttrs_str PySem.F.slot_str_startswith PySem.F.type_str_startswith mt_startswith3 h1 h2) :
    DE X K (.Call (.Attribute a "startswith" apos) [e, e2] [] cpos) (wM fStarts3 wo wa) :=
  de_m (fun i t u h1 h2 => by rw [← hK i]; exact hp i t u h1 h2) md_startswith3 h ha
def fEnds : FM
  | a, [.str b], P => P (.bool (Txt.endswith a b))
  | _, _, _ => False
theorem md_endswith : MtD K (fun x xs H Q => ∃ (a b : Str), x = .str a ∧ xs = [.str b] ∧ Q (.bl (Txt.endswith a b)) H) fEnds := by
  intro M H x ds vs P Q dom r f k
  match ds, f with
  | [.str b], f =>
    cases r with
    | cons r1 r =>
      cases r
      rw [Dt.isStr r1]
      exact ⟨x, b, rfl, rfl, k _ _ H f (Same.refl _) (.bl _)⟩
theorem de_endswith (h : DE X K a wo) (ha : DA X K [e] wa) (hK : ∀ i, (X i).K = K := by intro i; rfl)
    (hp : ∀ i t u, PE (X i) a t → PA (X i) [e] u → PE (X i) (.Call (.Attribute a "endswith" apos) [e] [] cpos) (tBM (X i).K "str" (fun x xs H Q => ∃ (a b : Str), x = .str a ∧ xs = [.str b] ∧ Q (.bl (Txt.endswith a b)) H) t u) := by intro i t u h1 h2; exact pe_bm PySem.F.plainAttrs_str PySem.F.slot_str_endswith PySem.F.type_str_endswith mt_endswith h1 h2) :
    DE X K (.Call (.Attribute a "endswith" apos) [e] [] cpos) (wM fEnds wo wa) :=
  de_m (fun i t u h1 h2 => by rw [← hK i]; exact hp i t u h1 h2) md_endswith h ha
def fFind : FM
  | a, [.str b], P => P (.int (Txt.find a b))
  | _, _, _ => False
theorem md_find : MtD K (fun x xs H Q => ∃ (a b : Str), x = .str a ∧ xs = [.str b] ∧ Q (.int (Txt.find a b)) H) fFind := by
  intro M H x ds vs P Q dom r f k
  match ds, f with
  | [.str b], f =>
    cases r with
    | cons r1 r =>
      cases r
      rw [Dt.isStr r1]
      exact ⟨x, b, rfl, rfl, k _ _ H f (Same.refl _) (.int _)⟩
theorem de_find (h : DE X K a wo) (ha : DA X K [e] wa) (hK : ∀ i, (X i).K = K := by intro i; rfl)
    (hp : ∀ i t u, PE (X i) a t → PA (X i) [e] u → PE (X i) (.Call (.Attribute a "find" apos) [e] [] cpos) (tBM (X i).K "str" (fun x xs H Q => ∃ (a b : Str), x = .str a ∧ xs = [.str b] ∧ Q (.int (Txt.find a b)) H) t u) := by intro i t u h1 h2; exact pe_bm PySem.F.plainAttrs_str PySem.F.slot_str_find PySem.F.type_str_find mt_find h1 h2) :
    DE X K (.Call (.Attribute a "find" apos) [e] [] cpos) (wM fFind wo wa) :=
  de_m (fun i t u h1 h2 => by rw [← hK i]; exact hp i t u h1 h2) md_find h ha
def fFind3 : FM
  | a, [.str b, .int i], P => P (.int (Txt.find3 a b i))
  | _, _, _ => False
theorem md_find3 : MtD K (fun x xs H Q => ∃ (a b : Str) (i : Int), x = .str a ∧ xs = [.str b, .int i] ∧ Q (.int (Txt.find3 a b i)) H) fFind3 := by
  intro M H x ds vs P Q dom r f k
  match ds, f with
  | [.str b, .int i], f =>
    cases r with
    | cons r1 r =>
      cases r with
      | cons r2 r =>
        cases r
        rw [Dt.isStr r1, Dt.isInt r2]
        exact ⟨x, b, i, rfl, rfl, k _ _ H f (Same.refl _) (.int _)⟩
theorem de_find3 (h : DE X K a wo) (ha : DA X K [e, e2] wa) (hK : ∀ i, (X i).K = K := by intro i; rfl)
    (hp : ∀ i t u, PE (X i) a t → PA (X i) [e, e2] u → PE (X i) (.Call (.Attribute a "find" apos) [e, e2] [] cpos) (tBM (X i).K "str" (fun x xs H Q => ∃ (a b : Str) (i : Int), x = .str a ∧ xs = [.str b, .int i] ∧ Q (.int (Txt.find3 a b i)) H) t u) := by intro i t u h1 h2; exact pe_bm PySem.F.plainAttrs_str PySem.F.slot_str_find PySem.F.type_str_find mt_find3 h1 h2) :
    DE X K (.Call (.Attribute a "find" apos) [e, e2] [] cpos) (wM fFind3 wo wa) :=
  de_m (fun i t u h1 h2 => by rw [← hK i]; exact hp i t u h1 h2) md_find3 h ha
def fFind4 : FM
  | a, [.str b, .int i, .int j], P => P (.int (Txt.findIn a b i j))
  | _, _, _ => False
theorem md_find4 : MtD K (fun x xs H Q => ∃ (a b : Str) (i j : Int), x = .str a ∧ xs = [.str b, .int i, .int j] ∧ Q (.int (Txt.findIn a b i j)) H) fFind4 := by
  intro M H x ds vs P Q dom r f k
  match ds, f with
  | [.str b, .int i, .int j], f =>
    cases r with
    | cons r1 r =>
      cases r with
      | cons r2 r =>
        cases r with
        | cons r3 r =>
          cases r
          rw [Dt.isStr r1, Dt.isInt r2, Dt.isInt r3]
          exact ⟨x, b, i, j, rfl, rfl, k _ _ H f (Same.refl _) (.int _)⟩
theorem de_find4 (h : DE X K a wo) (ha : DA X K [e, e2, e3] wa) (hK : ∀ i, (X i).K = K := by intro i; rfl)
    (hp : ∀ i t u, PE (X i) a t → PA (X i) [e, e2, e3] u → PE (X i) (.Call (.Attribute a "find" apos) [e, e2, e3] [] cpos) (tBM (X i).K "str" (fun x xs H Q => ∃ (a b : Str) (i j : Int), x = .str a ∧ xs = [.str b, .int i, .int j] ∧ Q (.int (Txt.findIn a b i j)) H) t u) := by intro i t u h1 h2; exact pe_bm PySem.F.plainAttrs_str PySem.F.slot_str_find PySem.F.type_str_find mt_find4 h1 h2) :
    DE X K (.Call (.Attribute a "find" apos) [e, e2, e3] [] cpos) (wM fFind4 wo wa) :=
  de_m (fun i t u h1 h2 => by rw [← hK i]; exact hp i t u h1 h2) md_find4 h ha
def fCount : FM
  | a, [.str b], P => P (.int (Txt.count a b))
  | _, _, _ => False
theorem md_count : MtD K (fun x xs H Q => ∃ (a b : Str), x = .str a ∧ xs = [.str b] ∧ Q (.int (Txt.count a b)) H) fCount := by
  intro M H x ds vs P Q dom r f k
  match ds, f with
  | [.str b], f =>
    cases r with
    | cons r1 r =>
      cases r
      rw [Dt.isStr r1]
      exact ⟨x, b, rfl, rfl, k _ _ H f (Same.refl _) (.int _)⟩
theorem de_count (h : DE X K a wo) (ha : DA X K [e] wa) (hK : ∀ i, (X i).K = K := by intro i; rfl)
    (hp : ∀ i t u, PE (X i) a t → PA (X i) [e] u → PE (X i) (.Call (.Attribute a "count" apos) [e] [] cpos) (tBM (X i).K "str" (fun x xs H Q => ∃ (a b : Str), x = .str a ∧ xs = [.str b] ∧ Q (.int (Txt.count a b)) H) t u) := by intro i t u h1 h2; exact pe_bm PySem.F.plainAttrs_str PySem.F.slot_str_count PySem.F.type_str_count mt_count h1 h2) :
    DE X K (.Call (.Attribute a "count" apos) [e] [] cpos) (wM fCount wo wa) :=
  de_m (fun i t u h1 h2 => by rw [← hK i]; exact hp i t u h1 h2) md_count h ha
def fCount4 : FM
  | a, [.str b, .int i, .int j], P => P (.int (Txt.countIn a b i j))
  | _, _, _ => False
theorem md_count4 : MtD K (fun x xs H Q => ∃ (a b : Str) (i j : Int), x = .str a ∧ xs = [.str b, .int i, .int j] ∧ Q (.int (Txt.countIn a b i j)) H) fCount4 := by
  intro M H x ds vs P Q dom r f k
  match ds, f with
  | [.str b, .int i, .int j], f =>
    cases r with
    | cons r1 r =>
      cases r with
      | cons r2 r =>
        cases r with
        | cons r3 r =>
          cases r
          rw [Dt.isStr r1, Dt.isInt r2, Dt.isInt r3]
          exact ⟨x, b, i, j, rfl, rfl, k _ _ H f (Same.refl _) (.int _)⟩
theorem de_count4 (h : DE X K a wo) (ha : DA X K [e, e2, e3] wa) (hK : ∀ i, (X i).K = K := by intro i; rfl)
    (hp : ∀ i t u, PE (X i) a t → PA (X i) [e, e2, e3] u → PE (X i) (.Call (.Attribute a "count" apos) [e, e2, e3] [] cpos) (tBM (X i).K "str" (fun x xs H Q => ∃ (a b : Str) (i j : Int), x = .str a ∧ xs = [.str b, .int i, .int j] ∧ Q (.int (Txt.countIn a b i j)) H) t u) := by intro i t u h1 h2; exact pe_bm PySem.F.plainAttrs_str PySem.F.slot_str_count PySem.F.type_str_count mt_count4 h1 h2) :
    DE X K (.Call (.Attribute a "count" apos) [e, e2, e3] [] cpos) (wM fCount4 wo wa) :=
  de_m (fun i t u h1 h2 => by rw [← hK i]; exact hp i t u h1 h2) md_count4 h ha
def FZ (f : Str → (PyData → Prop) → Prop) : F1
  | .str x, P => f x P
  | _, _ => False
theorem de_m0 {c : Expr} {r : V → List V → Hp → VK → Prop} {f : Str → (PyData → Prop) → Prop} (hp : ∀ i t, PE (X i) a t → PE (X i) c (tBM0 K "str" r t)) (md : ∀ (M : List Addr) (H : Hp) (x : Str) (P : PyData → Prop) (Q : VK), (∀ a, a ∈ M → H a ≠ none) → f x P → (∀ d z H', P d → Same H H' → Dt K (rm M H') z d → Q z H') → r (.str x) [] H Q) (h : DE X K a wo) : DE X K c (wU (FZ f) wo) := by
  obtain ⟨t, a1, a2⟩ := h
  refine ⟨_, fun i => hp i t (a1 i), fun M0 M B σ H ρ P Q E w k => ?_⟩
  refine a2 M0 M B σ H ρ _ _ E w fun ρ1 d v H1 w1 x1 E1 r1 => ?_
  cases d with
  | str s =>
    rw [Dt.isStr r1]
    exact ⟨rfl, md M H1 s _ Q E1.dom w1 fun d z H3 p e3 r3 => k ρ1 d z H3 p (x1.trans (Ext.same e3)) (E1.same e3) r3⟩
  | _ => exact w1.elim
abbrev fLower : F1 := FZ fun a P => a.length ≤ 5592405 ∧ P (.str (Txt.lower a))
theorem de_lower (h : DE X K a wo) (hK : ∀ i, (X i).K = K := by intro i; rfl)
    (hp : ∀ i t, PE (X i) a t → PE (X i) (.Call (.Attribute a "lower" apos) [] [] cpos) (tBM0 (X i).K "str" (fun x xs H Q => ∃ a : Str, x = .str a ∧ xs = [] ∧ a.length ≤ 5592405 ∧ Q (.str (Txt.lower a)) H) t) := by intro i t h1; exact pe_bm0 PySem.F.plainAttrs_str PySem.F.slot_str_lower PySem.F.type_str_lower mt_lower h1) :
    DE X K (.Call (.Attribute a "lower" apos) [] [] cpos) (wU fLower wo) :=
  de_m0 (r := fun x xs H Q => ∃ a : Str, x = .str a ∧ xs = [] ∧ a.length ≤ 5592405 ∧ Q (.str (Txt.lower a)) H) (fun i t h1 => by rw [← hK i]; exact hp i t h1) (fun M H x P Q dom f k => ⟨x, rfl, rfl, f.1, k _ _ H f.2 (Same.refl _) (.str _)⟩) h
abbrev fUpper : F1 := FZ fun a P => a.length ≤ 5592405 ∧ P (.str (Txt.upper a))
theorem de_upper (h : DE X K a wo) (hK : ∀ i, (X i).K = K := by intro i; rfl)
    (hp : ∀ i t, PE (X i) a t → PE (X i) (.Call (.Attribute a "upper" apos) [] [] cpos) (tBM0 (X i).K "str" (fun x xs H Q => ∃ a : Str, x = .str a ∧ xs = [] ∧ a.length ≤ 5592405 ∧ Q (.str (Txt.upper a)) H) t) := by intro i t h1; exact pe_bm0 PySem.F.plainAttrs_str PySem.F.slot_str_upper PySem.F.type_str_upper mt_upper h1) :
    DE X K (.Call (.Attribute a "upper" apos) [] [] cpos) (wU fUpper wo) :=
  de_m0 (r := fun x xs H Q => ∃ a : Str, x = .str a ∧ xs = [] ∧ a.length ≤ 5592405 ∧ Q (.str (Txt.upper a)) H) (fun i t h1 => by rw [← hK i]; exact hp i t h1) (fun M H x P Q dom f k => ⟨x, rfl, rfl, f.1, k _ _ H f.2 (Same.refl _) (.str _)⟩) h
abbrev fIsalnum : F1 := FZ fun a P => True ∧ P (.bool (Txt.isalnum a))
theorem de_isalnum (h : DE X K a wo) (hK : ∀ i, (X i).K = K := by intro i; rfl)
    (hp : ∀ i t, PE (X i) a t → PE (X i) (.Call (.Attribute a "isalnum" apos) [] [] cpos) (tBM0 (X i).K "str" (fun x xs H Q => ∃ a : Str, x = .str a ∧ xs = [] ∧ True ∧ Q (.bl (Txt.isalnum a)) H) t) := by intro i t h1; exact pe_bm0 PySem.F.plainAttrs_str PySem.F.slot_str_isalnum PySem.F.type_str_isalnum mt_isalnum h1) :
    DE X K (.Call (.Attribute a "isalnum" apos) [] [] cpos) (wU fIsalnum wo) :=
  de_m0 (r := fun x xs H Q => ∃ a : Str, x = .str a ∧ xs = [] ∧ True ∧ Q (.bl (Txt.isalnum a)) H) (fun i t h1 => by rw [← hK i]; exact hp i t h1) (fun M H x P Q dom f k => ⟨x, rfl, rfl, f.1, k _ _ H f.2 (Same.refl _) (.bl _)⟩) h
abbrev fSplit0 : F1 := FZ fun a P => a.length + 2 ≤ sizeLine ∧ P (.list ((Txt.words a).map .str))
theorem de_split0 (h : DE X K a wo) (hK : ∀ i, (X i).K = K := by intro i; rfl)
    (hp : ∀ i t, PE (X i) a t → PE (X i) (.Call (.Attribute a "split" apos) [] [] cpos) (tBM0 (X i).K "str" (fun x xs H Q => ∃ a : Str, x = .str a ∧ xs = [] ∧ a.length + 2 ≤ sizeLine ∧ rNewStrs (Txt.words a) H Q) t) := by intro i t h1; exact pe_bm0 PySem.F.plainAttrs_str PySem.F.slot_str_split PySem.F.type_str_split mt_words h1) :
    DE X K (.Call (.Attribute a "split" apos) [] [] cpos) (wU fSplit0 wo) :=
  de_m0 (r := fun x xs H Q => ∃ a : Str, x = .str a ∧ xs = [] ∧ a.length + 2 ≤ sizeLine ∧ rNewStrs (Txt.words a) H Q) (fun i t h1 => by rw [← hK i]; exact hp i t h1) (fun M H x P Q dom f k => ⟨x, rfl, rfl, f.1, fun p np => k _ _ _ f.2 (same_new np) (.lst (rm_of (fun c => dom p c np) upd_same) dt_ofstrs)⟩) h
end Pm
namespace Pm
open PySem PySem.Spec PyProof.Rows L2
variable {ι : Type} {X : ι → Cx} {K : Fr} {a b e tg : Expr} {es : List Expr} {wa wb we : WE} {pos : Pos}
/-! ### list comprehensions, two names -/
def lcD2 (i j : Nat) (we : WE) : List PyData → Env → List PyData → (Env → List PyData → Prop) → Prop
  | [], ρ, acc, P => P ρ acc
  | d :: ds, ρ, acc, P => ∃ x y, d = .tuple [x, y] ∧ we ((ρ.set i (.dat x)).set j (.dat y)) fun ρ2 z => acc.length < sizeLine ∧ lcD2 i j we ds ((ρ2.set i .un).set j .un) (acc ++ [z]) P
def wLc2 (i j : Nat) (wi : WI) (we : WE) : WE := fun ρ P => wi ρ fun ρ1 items => lcD2 i j we items ((ρ1.set i .un).set j .un) [] fun ρ2 ds => P ρ2 (.list ds)
/-- the reading of a comprehension -/
theorem lc_read2 {i j : Nat} (hij : i ≠ j) {ti : TI} {te : TE} {wi : WI}
    (hi : ∀ (M0 M B : List Addr) (σ : L2.St) (H : Hp) (ρ : Env) (P : Env → List PyData → Prop) (R : It → Hp → Prop), EnvOk K M0 M B H σ ρ → wi ρ P → (∀ ρ' items J H', P ρ' items → Ext M B H M B H' → EnvOk K M0 M B H' σ ρ' → IterOk K M H' J items → R J H') → ti σ H R)
    (he : ∀ (M0 M B : List Addr) (σ : L2.St) (H : Hp) (ρ : Env) (P : Env → PyData → Prop) (Q : VK), EnvOk K M0 M B H σ ρ → we ρ P → (∀ ρ' d v H', P ρ' d → Ext M B H M B H' → EnvOk K M0 M B H' σ ρ' → Dt K (rm M H') v d → Q v H') → te σ H Q) :
    ∀ (M0 M B : List Addr) (σ : L2.St) (H : Hp) (ρ : Env) (P : Env → PyData → Prop) (Q : VK), EnvOk K M0 M B H σ ρ → wLc2 i j wi we ρ P → (∀ ρ' d v H', P ρ' d → Ext M B H M B H' → EnvOk K M0 M B H' σ ρ' → Dt K (rm M H') v d → Q v H') → tLc ti (gTup K 2 (gCons (gName i) (gCons (gName j) gNil))) tYes te [i, j] σ H Q := by
  intro M0 M B σ H ρ P Q E w k
  refine hi M0 M B σ H ρ _ _ E w fun ρ1 items J H1 w1 x1 E1 it => ?_
  intro D nD
  have hDM : D ∉ M := fun c => E1.dom D c nD
  have hDB : D ∉ B := fun c => hDM (E1.sub D c)
  -- W: the list so far
  refine ⟨fun n m H2 => m = items.length - n ∧ ∃ (ρ2 : Env) (acc : List V) (ds : List PyData), n ≤ items.length ∧ lcD2 i j we (items.drop n) ρ2 ds (fun ρ2 ds => P ρ2 (.list ds)) ∧ H2 D = some (.lst acc) ∧ DtAll K (rm (D :: M) H2) acc ds ∧ EnvOk K M0 (D :: M) B H2 σ ρ2 ∧
      (∀ a o, a ∉ B → a ≠ D → H1 a = some o → H2 a = some o) ∧ (∀ a, H2 a = none → H1 a = none), ⟨_, rfl, (ρ1.set i .un).set j .un, [], [], Nat.zero_le _, w1, upd_same, .nil, ?_, fun a o _ n e => by rw [upd_ne n]; exact e, fun a e => (same_new nD).free e⟩, ?_⟩
  · have E2 : EnvOk K M0 (D :: M) B (upd H1 D (.lst [])) σ ρ1 := E1.more nD upd_same fun a u n e => by rw [upd_ne n]; exact e
    exact (E2.swap (i := i) rfl fun _ _ => rfl).swap (i := j) rfl fun _ _ => rfl
  · rintro n m H2 ⟨rfl, ρ2, acc, ds, hn, w2, hD, hA, E2, fr, lv⟩
    have hEx : Ext M B H1 M B H2 := ⟨fun _ h => h, fun _ h => .inl h, fun _ h => h, fun _ h => .inl h, fun a o nb e => fr a o nb (fun q => by rw [q, nD] at e; cases e) e, lv⟩
    have hsm : Same (rm M H1) (rm (D :: M) H2) := fun a o e => by
      obtain ⟨z1, z2⟩ := rm_to e
      have nn : a ≠ D := fun q => by rw [q, nD] at z2; cases z2
      refine rm_of (fun c => ?_) (fr a o (fun c => z1 (E1.sub a c)) nn z2)
      rcases List.mem_cons.mp c with q | q
      · exact nn q
      · exact z1 q
    obtain ⟨hgo, hst⟩ := it (D :: M) H2 hsm E2.dom
    by_cases hlt : n < items.length
    · right
      have hnd : items[n]? = some items[n] := List.getElem?_eq_getElem hlt
      obtain ⟨g1, g2⟩ := hgo n _ hnd
      rw [List.drop_eq_getElem_cons hlt] at w2
      refine ⟨g1, fun H' => ∃ m', m' < items.length - n ∧ (m' = items.length - (n + 1) ∧ ∃ (ρ2 : Env) (acc : List V) (ds : List PyData), n + 1 ≤ items.length ∧ lcD2 i j we (items.drop (n + 1)) ρ2 ds (fun ρ2 ds => P ρ2 (.list ds)) ∧ H' D = some (.lst acc) ∧ DtAll K (rm (D :: M) H') acc ds ∧ EnvOk K M0 (D :: M) B H' σ ρ2 ∧
        (∀ a o, a ∉ B → a ≠ D → H1 a = some o → H' a = some o) ∧ (∀ a, H' a = none → H1 a = none)), fun H' h => h, fun x H3 hy => ?_⟩
      obtain ⟨s3, rx⟩ := g2 x H3 hy
      have E3 : EnvOk K M0 (D :: M) B H3 σ ρ2 := E2.same s3
      obtain ⟨d1, d2, hd12, w2⟩ := w2
      rw [hd12] at rx
      obtain ⟨p, xs, rfl, hxs, rr⟩ := Dt.isTup rx
      cases rr with
      | cons r1 rr =>
      cases rr with
      | cons r2 rr =>
      cases rr
      rename_i v1 v2
      have hw : wipe σ [i, j] = (σ.set j none).set i none := rfl
      have E4 : EnvOk K M0 (D :: M) B H3 (((wipe σ [i, j]).set i (some v1)).set j (some v2)) ((ρ2.set i (.dat d1)).set j (.dat d2)) := by
        have q : EnvOk K M0 (D :: M) B H3 (wipe σ [i, j]) ((ρ2.set j .un).set i .un) := (E3.forget j none).forget i none
        have q2 := (q.set i r1).set j r2
        rw [List.set_set, List.set_comm _ _ (Ne.symm hij), List.set_set, List.set_comm _ _ hij] at q2
        rw [List.set_comm _ _ hij]
        exact q2
      have hsl : ∀ k, k ≠ i → k ≠ j → σ[k]? = (((wipe σ [i, j]).set i (some v1)).set j (some v2))[k]? := fun k n1 n2 => by
        rw [get_set_ne (Ne.symm n2), get_set_ne (Ne.symm n1), hw, get_set_ne (Ne.symm n1), get_set_ne (Ne.symm n2)]
      have hln : σ.length = (((wipe σ [i, j]).set i (some v1)).set j (some v2)).length := by
        rw [List.length_set, List.length_set, hw, List.length_set, List.length_set]
      refine ⟨p, _, rfl, same_t rm_le hxs, rfl, _, _, rfl, _, _, rfl, rfl, ?_, ?_⟩
      · show ((((wipe σ [i, j]).set i (some v1)).set j (some v2)).set j none).set i none = wipe σ [i, j]
        rw [hw, List.set_set, List.set_comm _ _ (Ne.symm hij), List.set_set, List.set_set, List.set_comm _ _ hij, List.set_set]
      · show tYes _ _ _
        unfold tYes
        dsimp only
        rw [if_pos rfl]
        refine he M0 (D :: M) B _ H3 _ _ _ E4 w2 fun ρ5 y v H5 w5 x5 E6 r5 => ?_
        obtain ⟨hz, w5⟩ := w5
        have hD3 : H3 D = some (.lst acc) := s3 _ _ hD
        have hD5 : H5 D = some (.lst acc) := x5.keep D _ hDB hD3
        have up3 : Same (rm (D :: M) H2) (rm (D :: M) H3) := (Ext.same (M := D :: M) (B := B) s3).rm E2.sub
        refine ⟨acc, hD5, by rw [DtAll.len hA]; exact hz, items.length - (n + 1), by omega, rfl, (ρ5.set i .un).set j .un, acc ++ [v], ds ++ [y], hlt, w5, upd_same, ?_, ?_, fun a o nb nn e => by rw [upd_ne nn]; exact x5.keep a o nb (s3 _ _ (fr a o nb nn e)), fun a e => ?_⟩
        · rw [rm_upd (List.mem_cons_self ..)]
          exact DtAll.app (DtAll.up (x5.rm E4.sub) (DtAll.up up3 hA)) (.cons r5 .nil)
        · have q0 : EnvOk K M0 (D :: M) B H5 (((wipe σ [i, j]).set i (some v1)).set j (σ[j]?.getD none)) (ρ5.set j .un) := by
            refine E6.swap (i := j) (by simp only [List.length_set]) fun k n => ?_
            rw [get_set_ne (Ne.symm n), get_set_ne (Ne.symm n)]
          have q := q0.swap (σ := σ) (i := i) (by rw [List.length_set, List.length_set, hw, List.length_set, List.length_set]) fun k n => by
            by_cases c : k = j
            · subst c
              by_cases hk : k < σ.length
              · rw [get_set_eq (by rw [List.length_set, hw, List.length_set, List.length_set]; exact hk), List.getElem?_eq_getElem hk]; rfl
              · rw [List.getElem?_eq_none (by omega), List.getElem?_eq_none (by rw [List.length_set, List.length_set, hw, List.length_set, List.length_set]; omega)]
            · rw [get_set_ne (Ne.symm c), get_set_ne (Ne.symm n), hw, get_set_ne (Ne.symm n), get_set_ne (Ne.symm c)]
          rw [List.set_comm _ _ (Ne.symm hij)] at q
          refine ⟨q.len, q.sub, fun a h z => ?_, q.m0, fun j s hj => ?_, q.sep⟩
          · by_cases c : a = D
            · rw [c, upd_same] at z; cases z
            · rw [upd_ne c] at z; exact q.dom a h z
          · have z := q.slot j s hj
            have nl : ∀ l, l ∈ B → l ≠ D := fun l hl q => hDB (q ▸ hl)
            cases s with
            | un => trivial
            | dat d => obtain ⟨v, h1, h2⟩ := z; exact ⟨v, h1, by rw [rm_upd (List.mem_cons_self ..)]; exact h2⟩
            | scr d => obtain ⟨v, h1, h2⟩ := z; exact ⟨v, h1, by rw [rm_upd (List.mem_cons_self ..)]; exact h2⟩
            | own ds => obtain ⟨l, xs, h1, h2, h3, h4, h5⟩ := z; exact ⟨l, xs, h1, h2, h3, by rw [upd_ne (nl l h2)]; exact h4, by rw [rm_upd (List.mem_cons_self ..)]; exact h5⟩
            | bor l ds => obtain ⟨xs, h1, h2, h3, h4, h5⟩ := z; exact ⟨xs, h1, h2, h3, by rw [upd_ne (nl l h2)]; exact h4, by rw [rm_upd (List.mem_cons_self ..)]; exact h5⟩
        · by_cases c : a = D
          · rw [c, upd_same] at e; cases e
          · rw [upd_ne c] at e; exact lv a (s3.free (x5.live a e))
    · left
      have en : n = items.length := by omega
      rw [en] at w2 ⊢
      rw [List.drop_length] at w2
      refine ⟨hst, k ρ2 _ _ H2 w2 (x1.trans hEx) (E2.less E1.m0 E1.sub) (.lst (rm_of hDM hD) (DtAll.up (fun a o e => ?_) hA))⟩
      obtain ⟨z1, z2⟩ := rm_to e
      exact rm_of (fun c => z1 (List.mem_cons_of_mem _ c)) z2
/-- [elt for x, y in iter] -/
theorem de_lc2 (i j : Nat) {elt iter : Expr} {x y : Str} {px py pt pos : Pos} {kk : Nat} {scope : Scope} {wi : WI} (hN : ∀ l, (X l).N.Nodup) (hi : DI X K (.Tuple [.Name x px, .Name y py] kk pt) iter wi) (he : DE (blkX X scope) K elt we)
    (ok : ∀ l, blkC (X l).N (X l).env.scope scope [(x, i), (y, j)] = true := by intro l; decide +kernel) (hij : i ≠ j := by decide) (hK : ∀ l, (X l).K = K := by intro l; rfl)
    (hg : ∀ p, PG (blkX X scope p) (.Tuple [.Name x px, .Name y py] kk pt) (gTup (X p.1).K 2 (gCons (gName i) (gCons (gName j) gNil))) := by intro p; exact pg_tup rfl (pgs_cons (pg_name (by assumption) rfl (Or.inl rfl)) (pgs_cons (pg_name (by assumption) rfl (Or.inl rfl)) pgs_nil)))
    (hc : ∀ l, (X l).calm = true := by intro l; rfl) (hs : ∀ l x, foldedSetIterable iter (X l).env x = pure x := by intro _ _; rfl) : DE X K (.ListComp elt [⟨.Tuple [.Name x px, .Name y py] kk pt, iter, [], 0⟩] scope pos) (wLc2 i j wi we) := by
  obtain ⟨ti, i1, i2⟩ := hi
  obtain ⟨te, e1, e2⟩ := he
  exact ⟨tLc ti (gTup K 2 (gCons (gName i) (gCons (gName j) gNil))) tYes te [i, j], fun l => pe_lc (own := [(x, i), (y, j)]) (hc l) (hN l) (i1 l) (blkOk_by (ok l)) (fun s H C cl fp => by have q := hg (l, s, H, C, cl, fp); rw [hK] at q; exact q) (fun s H C cl fp => pts_nil) (fun s H C cl fp => e1 (l, s, H, C, cl, fp)) (hs l), lc_read2 hij i2 e2⟩
end Pm
namespace Pm
open PySem PySem.Spec PyProof.Rows L2 TL
/-! ### texts by their signs -/
theorem tab_eq : PySem.Str.ofString "\t" = ⟨#[9]⟩ := by decide +kernel
theorem white_eq : PySem.Str.ofString " \t" = ⟨#[32, 9]⟩ := by decide +kernel
theorem blank_eq : PySem.Str.ofString " " = ⟨#[32]⟩ := by decide +kernel
theorem feed_eq : PySem.Str.ofString "\n" = ⟨#[10]⟩ := by decide +kernel
theorem none_eq : PySem.Str.ofString "" = ⟨#[]⟩ := by decide +kernel
abbrev tx (t : List Nat) : Str := ⟨t.toArray⟩
theorem signs_tx (t : List Nat) : signsD (tx t) = t.map fun c => .str ⟨#[c]⟩ := by simp [signsD, tx]
theorem tx_len (t : List Nat) : (tx t).length = t.length := by simp [Str.length]
theorem tx_app (a b : List Nat) : tx a ++ tx b = tx (a ++ b) := by
  show (⟨a.toArray ++ b.toArray⟩ : Str) = ⟨(a ++ b).toArray⟩
  simp
theorem inS_one (c : Nat) (z : Str) : inS ⟨#[c]⟩ z = decide (c ∈ z.cps.toList) := rfl
theorem cutS_one (s : Nat) (r : List Nat) : cutS (tx (s :: r)) (some 1) none = tx r := by
  have h : HT.sIx (r.length + 1) 0 (some 1) = 1 := by
    show HT.sIx (r.length + 1) 0 (some ((1 : Nat) : Int)) = 1
    rw [HT.sIx_nat]
    omega
  have hl : (tx (s :: r)).length = r.length + 1 := by rw [tx_len]; rfl
  unfold cutS
  rw [hl, h]
  show (⟨(List.take (r.length + 1 - 1) (List.drop 1 (s :: r))).toArray⟩ : Str) = _
  simp
theorem line_of {n : Nat} (h : n ≤ 1000000) : n ≤ sizeLine := Nat.le_trans h (by decide)
theorem repS_len (x : Str) (n : Nat) : (repS x n).length = n * x.length := by
  unfold repS
  simp [Str.length]
theorem atI_end {α : Type} (ys : List α) (z : α) : atI (ys ++ [z]) (-1) = some z := by
  unfold atI ixN
  rw [if_neg (by decide), if_pos (by rw [List.length_append, List.length_singleton]; omega)]
  have e : ((-1 : Int) + ((ys ++ [z]).length : Nat)).toNat = ys.length := by rw [List.length_append, List.length_singleton]; omega
  show (ys ++ [z])[((-1 : Int) + ((ys ++ [z]).length : Nat)).toNat]? = some z
  rw [e]
  simp
theorem cut_end {α : Type} (ys : List α) (z : α) : cutD (ys ++ [z]) none (some (-1)) = ys := by
  have h : HT.sIx (ys ++ [z]).length (ys ++ [z]).length (some (-1)) = ys.length := by
    unfold HT.sIx
    dsimp only
    rw [if_pos (by decide), List.length_append, List.length_singleton]; omega
  unfold cutD
  rw [h]
  show List.take (ys.length - 0) (List.drop 0 (ys ++ [z])) = ys
  simp
theorem atI_get {α : Type} {l : List α} {i : Int} {k : Nat} {x : α} (hi : i = (k : Int)) (h : l[k]? = some x) : atI l i = some x := by
  have hl := (List.getElem?_eq_some_iff.mp h).1
  unfold atI ixN
  rw [if_pos (by omega), if_pos (by omega)]
  show l[i.toNat]? = some x
  have e : i.toNat = k := by omega
  rw [e]; exact h
theorem tx_eta (x : Str) : x = tx x.cps.toList := by obtain ⟨⟨x⟩⟩ := x; rfl
theorem tx_inj {a b : List Nat} (h : tx a = tx b) : a = b := by
  have : (tx a).cps.toList = (tx b).cps.toList := by rw [h]
  simpa using this
theorem tx_nil : PySem.Str.ofString "" = tx [] := none_eq
theorem bsl_eq : PySem.Str.ofString "\\" = ⟨#[92]⟩ := by decide +kernel
theorem cut_mid (t : List Nat) (i j : Nat) : cutS (tx t) (some (i : Int)) (some (j : Int)) = tx ((t.drop i).take (j - i)) := by
  have h1 : HT.sIx (tx t).length 0 (some (i : Int)) = min i t.length := by rw [HT.sIx_nat, tx_len]
  have h2 : HT.sIx (tx t).length (tx t).length (some (j : Int)) = min j t.length := by rw [HT.sIx_nat, tx_len]
  unfold cutS
  rw [h1, h2]
  show (⟨(List.take (min j t.length - min i t.length) (List.drop (min i t.length) t)).toArray⟩ : Str) = ⟨_⟩
  by_cases hi : i ≤ t.length
  · rw [Nat.min_eq_left hi]
    by_cases hj : j ≤ t.length
    · rw [Nat.min_eq_left hj]
    · rw [Nat.min_eq_right (by omega), List.take_of_length_le (by rw [List.length_drop]; omega), List.take_of_length_le (by rw [List.length_drop]; omega)]
  · rw [Nat.min_eq_right (by omega : t.length ≤ i), List.drop_eq_nil_of_le (Nat.le_refl _), List.drop_eq_nil_of_le (by omega : t.length ≤ i)]
    simp
theorem atI_tx {t : List Nat} {i : Nat} {c : Nat} {r : List Nat} (h : t.drop i = c :: r) : atI (tx t).cps.toList (i : Int) = some c := by
  refine atI_get (k := i) rfl ?_
  have := List.getElem?_drop (xs := t) (i := i) (j := 0)
  rw [h] at this
  simpa using this.symm
end Pm
namespace Pm
open PySem PySem.Spec PyProof.Rows L2 TL
/-! ### further facts -/
theorem atI_0 {α : Type} {x : α} {l : List α} : atI (x :: l) 0 = some x := by
  unfold atI ixN
  rw [if_pos (by decide), if_pos (by simp only [List.length_cons]; omega)]; rfl
theorem atI_1 {α : Type} {x y : α} {l : List α} : atI (x :: y :: l) 1 = some y := by
  unfold atI ixN
  rw [if_pos (by decide), if_pos (by simp only [List.length_cons]; omega)]; rfl
theorem atI_2 {α : Type} {x y z : α} {l : List α} : atI (x :: y :: z :: l) 2 = some z := by
  unfold atI ixN
  rw [if_pos (by decide), if_pos (by simp only [List.length_cons]; omega)]; rfl
theorem ixN_0 {n : Nat} : ixN (n + 1) 0 = some 0 := by
  unfold ixN
  rw [if_pos (by decide), if_pos (by omega)]; rfl
theorem ixN_1 {n : Nat} : ixN (n + 1 + 1) 1 = some 1 := by
  unfold ixN
  rw [if_pos (by decide), if_pos (by omega)]; rfl
theorem ixN_2 {n : Nat} : ixN (n + 1 + 1 + 1) 2 = some 2 := by
  unfold ixN
  rw [if_pos (by decide), if_pos (by omega)]; rfl
theorem cmul_mod {y m z : Int} (h0 : 0 < m) (h1 : m < 2 ^ 62) : CMul (y % m) z := by
  have a := Int.emod_nonneg y (Int.ne_of_gt h0)
  have b := Int.emod_lt_of_pos y h0
  exact .inl ⟨by omega, by omega⟩
theorem cdiv_of {y n : Int} (h0 : 0 < n) (h1 : n < 2 ^ 62) : CDivW y n := wide_div (b := 62) h0 (by omega) (by decide) (by decide)
theorem atI_nat' {α : Type} {xs : List α} {d : Int} (h0 : 0 ≤ d) (h1 : d < xs.length) : ∃ x, atI xs d = some x ∧ x ∈ xs := by
  unfold atI ixN
  rw [if_pos h0, if_pos h1]
  have hl : d.toNat < xs.length := by omega
  exact ⟨xs[d.toNat], by simp [hl], List.getElem_mem _⟩
theorem lcD_inv {i : Nat} {we : WE} (C : Env → Prop) (G : PyData → Prop) {P : Env → List PyData → Prop} (turn : ∀ (d : PyData) (ρ : Env) (Q : Env → PyData → Prop), C ρ → (∀ ρ' y, C (ρ'.set i .un) → G y → Q ρ' y) → we (ρ.set i (.dat d)) Q) :
    ∀ (items : List PyData) (ρ : Env) (acc : List PyData), C ρ → acc.length + items.length ≤ sizeLine → (∀ ρ' ys, C ρ' → ys.length = items.length → (∀ y, y ∈ ys → G y) → P ρ' (acc ++ ys)) → lcD i wYes we items ρ acc P
  | [], ρ, acc, c, _, k => by
    have q := k ρ [] c rfl (fun y h => by cases h)
    rw [List.append_nil] at q
    exact q
  | d :: ds, ρ, acc, c, hz, k => by
    show wYes (ρ.set i (.dat d)) _
    refine ⟨fun _ => turn d ρ _ c fun ρ' y c' g => ⟨by rw [List.length_cons] at hz; omega, ?_⟩, fun e => by cases e⟩
    refine lcD_inv C G turn ds _ _ c' (by rw [List.length_append, List.length_singleton]; rw [List.length_cons] at hz; omega) fun ρ2 ys c2 hl hg => ?_
    rw [List.append_assoc]
    refine k ρ2 (y :: ys) c2 (by rw [List.length_cons, List.length_cons, hl]) fun z hz => ?_
    rcases List.mem_cons.mp hz with e | e
    · rw [e]; exact g
    · exact hg z e
theorem joinL_nil : ∀ ls : List (List Nat), joinL [] ls = ls.flatten
  | [] => rfl
  | [p] => by simp [joinL]
  | p :: q :: r => by
    show p ++ ([] ++ joinL [] (q :: r)) = _
    rw [joinL_nil (q :: r)]; simp
theorem join_none (ys : List Str) : Txt.join ⟨#[]⟩ ys = ⟨(ys.map tl).flatten.toArray⟩ := by
  have e : tl (Txt.join ⟨#[]⟩ ys) = (ys.map tl).flatten := by
    rw [join_eq, tl_join]
    exact joinL_nil _
  generalize Txt.join ⟨#[]⟩ ys = z at e
  obtain ⟨⟨z⟩⟩ := z
  have e' : z = (ys.map tl).flatten := e
  rw [e']
theorem sum_le {n : Nat} : ∀ {ys : List Str}, (∀ y, y ∈ ys → y.length ≤ n) → (ys.map (·.length)).sum ≤ ys.length * n
  | [], _ => by simp
  | y :: ys, h => by
    have a := h y (List.mem_cons_self ..)
    have b := sum_le fun z hz => h z (List.mem_cons_of_mem _ hz)
    rw [List.map_cons, List.sum_cons, List.length_cons, Nat.succ_mul]
    omega
theorem flat_len : ∀ ys : List Str, (ys.map tl).flatten.length = (ys.map (·.length)).sum
  | [] => rfl
  | y :: ys => by
    rw [List.map_cons, List.flatten_cons, List.length_append, flat_len ys, List.map_cons, List.sum_cons]
    simp [tl, Str.length]
theorem strs_of {ys : List PyData} {zs : List Str} (h : ∀ y, y ∈ ys → y ∈ zs.map PyData.str) : ∃ us : List Str, ys = us.map .str ∧ ∀ u, u ∈ us → u ∈ zs := by
  induction ys with
  | nil => exact ⟨[], rfl, fun u h => by cases h⟩
  | cons y ys ih =>
    obtain ⟨us, rfl, h2⟩ := ih fun z hz => h z (List.mem_cons_of_mem _ hz)
    obtain ⟨u, hu, rfl⟩ := List.mem_map.mp (h y (List.mem_cons_self ..))
    refine ⟨u :: us, rfl, fun v hv => ?_⟩
    rcases List.mem_cons.mp hv with e | e
    · rw [e]; exact hu
    · exact h2 v e
end Pm
/-! The function layer: each reading comes with a function that computes it. -/
namespace Pm
open PySem PySem.Spec PyProof.Rows L2 TL
abbrev FE := Env → Option (Env × PyData)
abbrev FT := Env → Option (Env × Bool)
abbrev FA := Env → Option (Env × List PyData)
abbrev FO := Env → Option (Env × Option Int)
abbrev FG := PyData → Env → Option Env
abbrev FGs := List PyData → Env → Option Env
abbrev FP := List PyData → Option PyData
abbrev FW := List PyData → List PyData → Option (List PyData × PyData)
abbrev FN := List PyData → Option (List PyData)
inductive Fl where
  | nx (ρ : Env) | rt (ρ : Env) (d : PyData) | bk (ρ : Env) | ct (ρ : Env)
abbrev FS := Env → Option Fl
abbrev G1 := PyData → Option PyData
abbrev G2 := PyData → PyData → Option PyData
abbrev GM := Str → List PyData → Option PyData
/-! ### the caller's list in slot 0 -/
def emb : Option Addr → Env → Env
  | some l, .own ws :: rest => .bor l ws :: rest
  | _, ρ => ρ
theorem emb_none (ρ : Env) : emb none ρ = ρ := rfl
theorem emb_dat {o : Option Addr} {ρ : Env} {i : Nat} {d : PyData} (h : ρ.at i = .dat d) : (emb o ρ).at i = .dat d := by
  unfold emb; split
  · cases i with
    | zero => cases h
    | succ i => exact h
  · exact h
theorem emb_scr {o : Option Addr} {ρ : Env} {i : Nat} {d : List Int} (h : ρ.at i = .scr d) : (emb o ρ).at i = .scr d := by
  unfold emb; split
  · cases i with
    | zero => cases h
    | succ i => exact h
  · exact h
theorem emb_items {o : Option Addr} {ρ : Env} {i : Nat} : ((emb o ρ).at i).items = (ρ.at i).items := by
  unfold emb; split
  · cases i with
    | zero => rfl
    | succ i => rfl
  · rfl
theorem emb_set {o : Option Addr} {ρ : Env} {i : Nat} {s : SV} (h : s.isL = false) : (emb o ρ).set i s = emb o (ρ.set i s) := by
  unfold emb; split
  · cases i with
    | zero => cases s <;> first | rfl | cases h
    | succ i => rfl
  · rename_i h1
    cases o with
    | none => rfl
    | some l =>
      cases ρ with
      | nil => rfl
      | cons a r =>
        cases i with
        | zero => cases s <;> first | rfl | cases h
        | succ i =>
          show a :: r.set i s = emb (some l) (a :: r.set i s)
          cases a with
          | own ws => exact absurd rfl (h1 l ws r rfl)
          | _ => rfl
theorem emb_dset {o : Option Addr} {ρ : Env} {i : Nat} {d : PyData} : (emb o ρ).set i (.dat d) = emb o (ρ.set i (.dat d)) := emb_set rfl
theorem emb_uset {o : Option Addr} {ρ : Env} {i : Nat} : (emb o ρ).set i .un = emb o (ρ.set i .un) := emb_set rfl
theorem emb_new {o : Option Addr} {ρ : Env} {i : Nat} {ds : List PyData} (h : o = none ∨ i ≠ 0) : (emb o ρ).set i (.own ds) = emb o (ρ.set i (.own ds)) := by
  rcases h with h | h
  · subst h; rfl
  · cases i with
    | zero => exact absurd rfl h
    | succ i =>
      unfold emb; split
      · rfl
      · rename_i h1
        cases o with
        | none => rfl
        | some l =>
          cases ρ with
          | nil => rfl
          | cons a r =>
            show a :: r.set i _ = emb (some l) (a :: r.set i _)
            cases a with
            | own ws => exact absurd rfl (h1 l ws r rfl)
            | _ => rfl
theorem emb_put {o : Option Addr} {ρ : Env} {j : Nat} {ds : List PyData} : (emb o ρ).set j (((emb o ρ).at j).put ds) = emb o (ρ.set j ((ρ.at j).put ds)) := by
  cases o with
  | none => rfl
  | some l =>
    cases ρ with
    | nil => rfl
    | cons a r =>
      cases a with
      | own ws =>
        cases j with
        | zero => rfl
        | succ j => rfl
      | _ =>
        cases j with
        | zero => rfl
        | succ j => rfl
theorem emb_own {o : Option Addr} {ρ : Env} {j : Nat} {ds : List PyData} (h : o = none ∨ j ≠ 0) (e : ρ.at j = .own ds) : (emb o ρ).at j = .own ds := by
  rcases h with h | h
  · subst h; exact e
  · cases j with
    | zero => exact absurd rfl h
    | succ j =>
      unfold emb; split
      · exact e
      · exact e
/-! ### a reading is computed by a function -/
variable {o : Option Addr}
def cE (o : Option Addr) (we : WE) (fe : FE) : Prop := ∀ ρ r, fe ρ = some r → ∀ P : Env → PyData → Prop, P (emb o r.1) r.2 → we (emb o ρ) P
def cT (o : Option Addr) (wt : WT) (ft : FT) : Prop := ∀ ρ r, ft ρ = some r → ∀ P : Env → Bool → Prop, P (emb o r.1) r.2 → wt (emb o ρ) P
def cA (o : Option Addr) (wa : WA) (fa : FA) : Prop := ∀ ρ r, fa ρ = some r → ∀ P : Env → List PyData → Prop, P (emb o r.1) r.2 → wa (emb o ρ) P
def cO (o : Option Addr) (wo : WO) (fo : FO) : Prop := ∀ ρ r, fo ρ = some r → ∀ P : Env → Option Int → Prop, P (emb o r.1) r.2 → wo (emb o ρ) P
def cG (o : Option Addr) (wg : WG) (fg : FG) : Prop := ∀ d ρ r, fg d ρ = some r → ∀ P : Env → Prop, P (emb o r) → wg d (emb o ρ) P
def cGs (o : Option Addr) (wg : List PyData → Env → (Env → Prop) → Prop) (fg : FGs) : Prop := ∀ d ρ r, fg d ρ = some r → ∀ P : Env → Prop, P (emb o r) → wg d (emb o ρ) P
def DEnds.at (E : DEnds) (o : Option Addr) : Fl → Prop
  | .nx ρ => E.nx (emb o ρ)
  | .rt ρ d => E.rt (emb o ρ) d
  | .bk ρ => E.bk (emb o ρ)
  | .ct ρ => E.ct (emb o ρ)
def cS (o : Option Addr) (w : WS) (f : FS) : Prop := ∀ ρ fl, f ρ = some fl → ∀ E : DEnds, E.at o fl → w E (emb o ρ)
def fit1 (f : F1) (g : G1) : Prop := ∀ x d, g x = some d → ∀ P : PyData → Prop, P d → f x P
def fit2 (f : F2) (g : G2) : Prop := ∀ x y d, g x y = some d → ∀ P : PyData → Prop, P d → f x y P
def fitM (f : FM) (g : GM) : Prop := ∀ x y d, g x y = some d → ∀ P : PyData → Prop, P d → f x y P
def fitP (S : SpD) (F : FP) : Prop := ∀ ds d, F ds = some d → ∀ P : PyData → Prop, P d → S ds P
def fitW (S : SpW) (F : FW) : Prop := ∀ ws ds r, F ws ds = some r → ∀ P : List PyData → PyData → Prop, P r.1 r.2 → S ws ds P
def fitN (S : SpF) (F : FN) : Prop := ∀ ds es, F ds = some es → ∀ P : List PyData → Prop, P es → S ds P
/-- the promise that a function is -/
def ofP (F : FP) : SpD := fun ds P => ∃ d, F ds = some d ∧ P d
def ofW (F : FW) : SpW := fun ws ds P => ∃ r, F ws ds = some r ∧ P r.1 r.2
def ofN (F : FN) : SpF := fun ds P => ∃ es, F ds = some es ∧ P es
theorem fit_p {F : FP} : fitP (ofP F) F := fun ds d h P p => ⟨d, h, p⟩
theorem fit_w {F : FW} : fitW (ofW F) F := fun ws ds r h P p => ⟨r, h, p⟩
theorem fit_n {F : FN} : fitN (ofN F) F := fun ds es h P p => ⟨es, h, p⟩
/-! ### expressions -/
def qVar (i : Nat) : FE := fun ρ => match ρ.at i with
  | .dat d => some (ρ, d)
  | _ => none
theorem c_var {i : Nat} : cE o (wVar i) (qVar i) := by
  intro ρ r h P p
  unfold qVar at h
  split at h
  · rename_i d hd
    cases h
    exact ⟨d, emb_dat hd, p⟩
  · cases h
def qOwn (i : Nat) : FE := fun ρ => match (ρ.at i).items with
  | some ds => some (ρ, .list ds)
  | none => none
theorem c_own {i : Nat} : cE o (wOwn i) (qOwn i) := by
  intro ρ r h P p
  unfold qOwn at h
  split at h
  · rename_i d hd
    cases h
    exact ⟨d, by rw [emb_items]; exact hd, p⟩
  · cases h
def qC (d : PyData) : FE := fun ρ => some (ρ, d)
theorem c_c {d d' : PyData} (e : d = d') : cE o (wC d) (qC d') := by
  intro ρ r h P p
  cases h
  subst e
  exact p
def qOp (g : G2) (a b : FE) : FE := fun ρ => (a ρ).bind fun r => (b r.1).bind fun s => (g r.2 s.2).bind fun d => some (s.1, d)
theorem c_op {f : F2} {g : G2} {wa wb : WE} {a b : FE} (hf : fit2 f g) (ha : cE o wa a) (hb : cE o wb b) : cE o (wOp f wa wb) (qOp g a b) := by
  intro ρ r h P p
  simp only [qOp, Option.bind_eq_some_iff] at h
  obtain ⟨r1, h1, r2, h2, d, h3, h4⟩ := h
  cases h4
  exact ha ρ r1 h1 _ (hb r1.1 r2 h2 _ (hf _ _ _ h3 _ p))
def qOpO (g : G2) (j : Nat) (b : FE) : FE := fun ρ => (ρ.at j).items.bind fun _ => (b ρ).bind fun s => (s.1.at j).items.bind fun ds => (g (.list ds) s.2).bind fun d => some (s.1, d)
theorem c_opO {f : F2} {g : G2} {j : Nat} {wb : WE} {b : FE} (hf : fit2 f g) (hb : cE o wb b) : cE o (wOpO f j wb) (qOpO g j b) := by
  intro ρ r h P p
  simp only [qOpO, Option.bind_eq_some_iff] at h
  obtain ⟨ds0, h0, r2, h2, ds, h3, d, h4, h5⟩ := h
  cases h5
  exact ⟨⟨ds0, by rw [emb_items]; exact h0⟩, hb ρ r2 h2 _ ⟨ds, by rw [emb_items]; exact h3, hf _ _ _ h4 _ p⟩⟩
def qU (g : G1) (a : FE) : FE := fun ρ => (a ρ).bind fun r => (g r.2).bind fun d => some (r.1, d)
theorem c_u {f : F1} {g : G1} {wa : WE} {a : FE} (hf : fit1 f g) (ha : cE o wa a) : cE o (wU f wa) (qU g a) := by
  intro ρ r h P p
  simp only [qU, Option.bind_eq_some_iff] at h
  obtain ⟨r1, h1, d, h3, h4⟩ := h
  cases h4
  exact ha ρ r1 h1 _ (hf _ _ h3 _ p)
def qNil : FA := fun ρ => some (ρ, [])
theorem c_nil : cA o wNil qNil := by
  intro ρ r h P p
  cases h; exact p
def qCons (a : FE) (b : FA) : FA := fun ρ => (a ρ).bind fun r => (b r.1).bind fun s => some (s.1, r.2 :: s.2)
theorem c_cons {w : WE} {u : WA} {a : FE} {b : FA} (ha : cE o w a) (hb : cA o u b) : cA o (wCons w u) (qCons a b) := by
  intro ρ r h P p
  simp only [qCons, Option.bind_eq_some_iff] at h
  obtain ⟨r1, h1, r2, h2, h3⟩ := h
  cases h3
  exact ha ρ r1 h1 _ (hb _ _ h2 _ p)
def qTup (a : FA) : FE := fun ρ => (a ρ).bind fun r => if r.2.length ≤ 16777216 then some (r.1, .tuple r.2) else none
def qLst (a : FA) : FE := fun ρ => (a ρ).bind fun r => if r.2.length ≤ 16777216 then some (r.1, .list r.2) else none
theorem c_tup {w : WA} {a : FA} (ha : cA o w a) : cE o (wTup w) (qTup a) := by
  intro ρ r h P p
  simp only [qTup, Option.bind_eq_some_iff] at h
  obtain ⟨r1, h1, h2⟩ := h
  split at h2
  · cases h2; exact ha ρ r1 h1 _ ⟨by rw [sizeLine_eq]; assumption, p⟩
  · cases h2
theorem c_lst {w : WA} {a : FA} (ha : cA o w a) : cE o (wLst w) (qLst a) := by
  intro ρ r h P p
  simp only [qLst, Option.bind_eq_some_iff] at h
  obtain ⟨r1, h1, h2⟩ := h
  split at h2
  · cases h2; exact ha ρ r1 h1 _ ⟨by rw [sizeLine_eq]; assumption, p⟩
  · cases h2
/-! ### tests -/
def gB : PyData → Option Bool
  | .bool b => some b
  | _ => none
theorem gB_some {d : PyData} {b : Bool} (h : gB d = some b) : d = .bool b := by
  cases d <;> first | (cases h; rfl) | cases h
def qTst (a : FE) : FT := fun ρ => (a ρ).bind fun r => (gB r.2).bind fun b => some (r.1, b)
theorem c_tst {w : WE} {a : FE} (ha : cE o w a) : cT o (wTst w) (qTst a) := by
  intro ρ r h P p
  simp only [qTst, Option.bind_eq_some_iff] at h
  obtain ⟨r1, h1, b, h2, h3⟩ := h
  cases h3
  exact ha ρ r1 h1 _ ⟨b, gB_some h2, p⟩
def qAnd (t u : FT) : FT := fun ρ => (t ρ).bind fun r => if r.2 = true then u r.1 else some (r.1, false)
def qOr (t u : FT) : FT := fun ρ => (t ρ).bind fun r => if r.2 = true then some (r.1, true) else u r.1
def qNot (t : FT) : FT := fun ρ => (t ρ).bind fun r => some (r.1, !r.2)
theorem ne_tt {b : Bool} (h : ¬ b = true) : b = false := by cases b <;> simp_all
theorem c_and {t u : WT} {a b : FT} (ha : cT o t a) (hb : cT o u b) : cT o (wAnd t u) (qAnd a b) := by
  intro ρ r h P p
  simp only [qAnd, Option.bind_eq_some_iff] at h
  obtain ⟨r1, h1, h2⟩ := h
  refine ha ρ r1 h1 _ ?_
  split at h2
  · rename_i c; exact ⟨fun _ => hb _ _ h2 _ p, fun e => by rw [e] at c; cases c⟩
  · rename_i c; cases h2; exact ⟨fun e => absurd e c, fun _ => p⟩
theorem c_or {t u : WT} {a b : FT} (ha : cT o t a) (hb : cT o u b) : cT o (wOr t u) (qOr a b) := by
  intro ρ r h P p
  simp only [qOr, Option.bind_eq_some_iff] at h
  obtain ⟨r1, h1, h2⟩ := h
  refine ha ρ r1 h1 _ ?_
  split at h2
  · rename_i c; cases h2; exact ⟨fun _ => p, fun e => by rw [e] at c; cases c⟩
  · rename_i c; exact ⟨fun e => absurd e c, fun _ => hb _ _ h2 _ p⟩
theorem c_not {t : WT} {a : FT} (ha : cT o t a) : cT o (wNot t) (qNot a) := by
  intro ρ r h P p
  simp only [qNot, Option.bind_eq_some_iff] at h
  obtain ⟨r1, h1, h2⟩ := h
  cases h2
  exact ha ρ r1 h1 _ p
def qYes : FT := fun ρ => some (ρ, true)
theorem c_yes : cT o wYes qYes := by
  intro ρ r h P p
  cases h; exact p
def qIte (t : FT) (a b : FE) : FE := fun ρ => (t ρ).bind fun r => if r.2 = true then a r.1 else b r.1
theorem c_ite {t : WT} {wa wb : WE} {f : FT} {a b : FE} (ht : cT o t f) (ha : cE o wa a) (hb : cE o wb b) : cE o (wIte t wa wb) (qIte f a b) := by
  intro ρ r h P p
  simp only [qIte, Option.bind_eq_some_iff] at h
  obtain ⟨r1, h1, h2⟩ := h
  refine ht ρ r1 h1 _ ?_
  split at h2
  · rename_i c; exact ⟨fun _ => ha _ _ h2 _ p, fun e => by rw [e] at c; cases c⟩
  · rename_i c; exact ⟨fun e => absurd e c, fun _ => hb _ _ h2 _ p⟩
def qAndV (a b : FE) : FE := fun ρ => (a ρ).bind fun r => (gB r.2).bind fun c => if c = true then b r.1 else some (r.1, .bool false)
def qOrV (a b : FE) : FE := fun ρ => (a ρ).bind fun r => (gB r.2).bind fun c => if c = true then some (r.1, .bool true) else b r.1
def qNotV (a : FE) : FE := fun ρ => (a ρ).bind fun r => (gB r.2).bind fun c => some (r.1, .bool (!c))
theorem c_andV {wa wb : WE} {a b : FE} (ha : cE o wa a) (hb : cE o wb b) : cE o (wAndV wa wb) (qAndV a b) := by
  intro ρ r h P p
  simp only [qAndV, Option.bind_eq_some_iff] at h
  obtain ⟨r1, h1, c, h2, h3⟩ := h
  refine ha ρ r1 h1 _ ⟨c, gB_some h2, ?_⟩
  split at h3
  · rename_i c; exact ⟨fun _ => hb _ _ h3 _ p, fun e => by rw [e] at c; cases c⟩
  · rename_i c; cases h3; exact ⟨fun e => absurd e c, fun _ => p⟩
theorem c_orV {wa wb : WE} {a b : FE} (ha : cE o wa a) (hb : cE o wb b) : cE o (wOrV wa wb) (qOrV a b) := by
  intro ρ r h P p
  simp only [qOrV, Option.bind_eq_some_iff] at h
  obtain ⟨r1, h1, c, h2, h3⟩ := h
  refine ha ρ r1 h1 _ ⟨c, gB_some h2, ?_⟩
  split at h3
  · rename_i c; cases h3; exact ⟨fun _ => p, fun e => by rw [e] at c; cases c⟩
  · rename_i c; exact ⟨fun e => absurd e c, fun _ => hb _ _ h3 _ p⟩
theorem c_notV {wa : WE} {a : FE} (ha : cE o wa a) : cE o (wNotV wa) (qNotV a) := by
  intro ρ r h P p
  simp only [qNotV, Option.bind_eq_some_iff] at h
  obtain ⟨r1, h1, c, h2, h3⟩ := h
  cases h3
  exact ha ρ r1 h1 _ ⟨c, gB_some h2, p⟩
def qChain (f g : G2) (a b c : FE) : FE := fun ρ => (a ρ).bind fun r => (b r.1).bind fun s => (f r.2 s.2).bind fun z => (gB z).bind fun k => if k = true then (c s.1).bind fun u => (g s.2 u.2).bind fun d => some (u.1, d) else some (s.1, .bool false)
theorem c_chain {f g : F2} {f' g' : G2} {wa wb wc : WE} {a b c : FE} (hf : fit2 f f') (hg : fit2 g g') (ha : cE o wa a) (hb : cE o wb b) (hc : cE o wc c) : cE o (wChain f g wa wb wc) (qChain f' g' a b c) := by
  intro ρ r h P p
  simp only [qChain, Option.bind_eq_some_iff] at h
  obtain ⟨r1, h1, r2, h2, z, h3, k, h4, h5⟩ := h
  refine ha ρ r1 h1 _ (hb _ _ h2 _ (hf _ _ _ h3 _ ⟨k, gB_some h4, ?_⟩))
  split at h5
  · rename_i c
    simp only [Option.bind_eq_some_iff] at h5
    obtain ⟨r3, h6, d, h7, h8⟩ := h5
    cases h8
    exact ⟨fun _ => hc _ _ h6 _ (hg _ _ _ h7 _ p), fun e => by rw [e] at c; cases c⟩
  · rename_i c; cases h5; exact ⟨fun e => absurd e c, fun _ => p⟩
/-! ### slices -/
def qNo : FO := fun ρ => some (ρ, none)
def gI : PyData → Option Int
  | .int i => some i
  | _ => none
theorem gI_some {d : PyData} {b : Int} (h : gI d = some b) : d = .int b := by
  cases d <;> first | (cases h; rfl) | cases h
def qSo (a : FE) : FO := fun ρ => (a ρ).bind fun r => (gI r.2).bind fun i => some (r.1, some i)
theorem c_no : cO o wNo qNo := by
  intro ρ r h P p
  cases h; exact p
theorem c_so {w : WE} {a : FE} (ha : cE o w a) : cO o (wSo w) (qSo a) := by
  intro ρ r h P p
  simp only [qSo, Option.bind_eq_some_iff] at h
  obtain ⟨r1, h1, i, h2, h3⟩ := h
  cases h3
  exact ha ρ r1 h1 _ ⟨i, gI_some h2, p⟩
def gSl : PyData → Option Int → Option Int → Option PyData
  | .str z, lo, hi => if z.length ≤ 16777216 then some (.str (cutS z lo hi)) else none
  | .list xs, lo, hi => some (.list (cutD xs lo hi))
  | .tuple xs, lo, hi => some (.tuple (cutD xs lo hi))
  | _, _, _ => none
theorem fit_sl {x : PyData} {lo hi : Option Int} {d : PyData} (h : gSl x lo hi = some d) {P : PyData → Prop} (p : P d) : fSl x lo hi P := by
  cases x with
  | str z =>
    replace h : (if z.length ≤ 16777216 then some (PyData.str (cutS z lo hi)) else none) = some d := h
    split at h
    · cases h; exact ⟨by rw [sizeLine_eq]; assumption, p⟩
    · cases h
  | list z => cases h; exact p
  | tuple z => cases h; exact p
  | _ => cases h
def qSl (a : FE) (l h : FO) : FE := fun ρ => (a ρ).bind fun r => (l r.1).bind fun s => (h s.1).bind fun t => (gSl r.2 s.2 t.2).bind fun d => some (t.1, d)
theorem c_sl {w : WE} {wl wh : WO} {a : FE} {l h : FO} (ha : cE o w a) (hl : cO o wl l) (hh : cO o wh h) : cE o (wSl w wl wh) (qSl a l h) := by
  intro ρ r h P p
  simp only [qSl, Option.bind_eq_some_iff] at h
  obtain ⟨r1, h1, r2, h2, r3, h3, d, h4, h5⟩ := h
  cases h5
  exact ha ρ r1 h1 _ (hl _ _ h2 _ (hh _ _ h3 _ (fit_sl h4 p)))
def qSlO (j : Nat) (l h : FO) : FE := fun ρ => (ρ.at j).items.bind fun _ => (l ρ).bind fun s => (h s.1).bind fun t => (t.1.at j).items.bind fun ds => some (t.1, .list (cutD ds s.2 t.2))
theorem c_slO {j : Nat} {wl wh : WO} {l h : FO} (hl : cO o wl l) (hh : cO o wh h) : cE o (wSlO j wl wh) (qSlO j l h) := by
  intro ρ r h P p
  simp only [qSlO, Option.bind_eq_some_iff] at h
  obtain ⟨ds0, h0, r2, h2, r3, h3, ds, h4, h5⟩ := h
  cases h5
  exact ⟨⟨ds0, by rw [emb_items]; exact h0⟩, hl _ _ h2 _ (hh _ _ h3 _ ⟨ds, by rw [emb_items]; exact h4, p⟩)⟩
def gScr : SV → Option (List Int)
  | .scr ns => some ns
  | _ => none
def qSlS (j : Nat) (l h : FO) : FE := fun ρ => (gScr (ρ.at j)).bind fun ns => (l ρ).bind fun s => (h s.1).bind fun t => some (t.1, .list ((cutD ns s.2 t.2).map .int))
theorem c_slS {j : Nat} {wl wh : WO} {l h : FO} (hl : cO o wl l) (hh : cO o wh h) : cE o (wSlS j wl wh) (qSlS j l h) := by
  intro ρ r h P p
  simp only [qSlS, Option.bind_eq_some_iff] at h
  obtain ⟨ns, h0, r2, h2, r3, h3, h5⟩ := h
  cases h5
  have e : ρ.at j = .scr ns := by
    revert h0
    cases ρ.at j <;> intro h0 <;> first | (cases h0; rfl) | cases h0
  exact ⟨ns, emb_scr e, hl _ _ h2 _ (hh _ _ h3 _ p)⟩
/-! ### methods, calls -/
def gS : PyData → Option Str
  | .str s => some s
  | _ => none
theorem gS_some {d : PyData} {b : Str} (h : gS d = some b) : d = .str b := by
  cases d <;> first | (cases h; rfl) | cases h
def qM (g : GM) (a : FE) (b : FA) : FE := fun ρ => (a ρ).bind fun r => (gS r.2).bind fun s => (b r.1).bind fun t => (g s t.2).bind fun d => some (t.1, d)
theorem c_m {f : FM} {g : GM} {w : WE} {u : WA} {a : FE} {b : FA} (hf : fitM f g) (ha : cE o w a) (hb : cA o u b) : cE o (wM f w u) (qM g a b) := by
  intro ρ r h P p
  simp only [qM, Option.bind_eq_some_iff] at h
  obtain ⟨r1, h1, s, h2, r3, h3, d, h4, h5⟩ := h
  cases h5
  exact ha ρ r1 h1 _ ⟨s, gS_some h2, hb _ _ h3 _ (hf _ _ _ h4 _ p)⟩
def gSs : List PyData → Option (List Str)
  | [] => some []
  | .str s :: r => (gSs r).map (s :: ·)
  | _ => none
theorem gSs_some : ∀ {ds : List PyData} {ys : List Str}, gSs ds = some ys → ds = ys.map .str
  | [], ys, h => by cases h; rfl
  | d :: r, ys, h => by
    cases d with
    | str s =>
      cases e : gSs r with
      | none => unfold gSs at h; rw [e] at h; cases h
      | some zs =>
        unfold gSs at h; rw [e] at h; cases h
        rw [gSs_some e]; rfl
    | _ => cases h
theorem gSs_of (ys : List Str) : gSs (ys.map .str) = some ys := by
  induction ys with
  | nil => rfl
  | cons y ys ih => show (gSs _).map _ = _; rw [ih]; rfl
def gJoin (s : Str) : G1
  | .list ds => (gSs ds).bind fun ys => if (ys.map (·.length)).sum + ys.length * s.length ≤ 16777216 then some (.str (Txt.join s ys)) else none
  | .tuple ds => (gSs ds).bind fun ys => if (ys.map (·.length)).sum + ys.length * s.length ≤ 16777216 then some (.str (Txt.join s ys)) else none
  | _ => none
theorem fit_join {s : Str} : fit1 (fJoin s) (gJoin s) := by
  intro x d h P p
  cases x with
  | list ds =>
    simp only [gJoin, Option.bind_eq_some_iff] at h
    obtain ⟨ys, h1, h2⟩ := h
    split at h2
    · cases h2; exact ⟨ys, .inl (by rw [gSs_some h1]), by assumption, p⟩
    · cases h2
  | tuple ds =>
    simp only [gJoin, Option.bind_eq_some_iff] at h
    obtain ⟨ys, h1, h2⟩ := h
    split at h2
    · cases h2; exact ⟨ys, .inr (by rw [gSs_some h1]), by assumption, p⟩
    · cases h2
  | _ => cases h
def qJoin (a b : FE) : FE := fun ρ => (a ρ).bind fun r => (gS r.2).bind fun s => (b r.1).bind fun t => (gJoin s t.2).bind fun d => some (t.1, d)
theorem c_join {w u : WE} {a b : FE} (ha : cE o w a) (hb : cE o u b) : cE o (wJoin w u) (qJoin a b) := by
  intro ρ r h P p
  simp only [qJoin, Option.bind_eq_some_iff] at h
  obtain ⟨r1, h1, s, h2, r3, h3, d, h4, h5⟩ := h
  cases h5
  exact ha ρ r1 h1 _ ⟨s, gS_some h2, hb _ _ h3 _ (fit_join _ _ h4 _ p)⟩
def qCall (F : FP) (a : FA) : FE := fun ρ => (a ρ).bind fun r => (F r.2).bind fun d => some (r.1, d)
theorem c_call {S : SpD} {F : FP} {w : WA} {a : FA} (hs : fitP S F) (ha : cA o w a) : cE o (wCall S w) (qCall F a) := by
  intro ρ r h P p
  simp only [qCall, Option.bind_eq_some_iff] at h
  obtain ⟨r1, h1, d, h2, h3⟩ := h
  cases h3
  exact ha ρ r1 h1 _ (hs _ _ h2 _ p)
def qCallW (F : FW) (j : Nat) (a : FA) : FE := fun ρ => (ρ.at j).items.bind fun _ => (a ρ).bind fun r => (r.1.at j).items.bind fun ws => (F ws r.2).bind fun s => some (r.1.set j ((r.1.at j).put s.1), s.2)
theorem c_callW {S : SpW} {F : FW} {j : Nat} {w : WA} {a : FA} (hs : fitW S F) (ha : cA o w a) : cE o (wCallW S j w) (qCallW F j a) := by
  intro ρ r h P p
  simp only [qCallW, Option.bind_eq_some_iff] at h
  obtain ⟨ds0, h0, r1, h1, ws, h2, s, h3, h4⟩ := h
  cases h4
  refine ⟨⟨ds0, by rw [emb_items]; exact h0⟩, ha ρ r1 h1 _ ⟨ws, by rw [emb_items]; exact h2, hs _ _ _ h3 _ ?_⟩⟩
  rw [emb_put]; exact p
def qIsi (T : Ty) (a : FE) : FE := fun ρ => (a ρ).bind fun r => some (r.1, .bool (isiD T r.2))
theorem c_isi {T : Ty} {w : WE} {a : FE} (ha : cE o w a) : cE o (wIsi T w) (qIsi T a) := by
  intro ρ r h P p
  simp only [qIsi, Option.bind_eq_some_iff] at h
  obtain ⟨r1, h1, h2⟩ := h
  cases h2
  exact ha ρ r1 h1 _ p
def qIsi2 (T U : Ty) (a : FE) : FE := fun ρ => (a ρ).bind fun r => some (r.1, .bool (isiD T r.2 || isiD U r.2))
theorem c_isi2 {T U : Ty} {w : WE} {a : FE} (ha : cE o w a) : cE o (wIsi2 T U w) (qIsi2 T U a) := by
  intro ρ r h P p
  simp only [qIsi2, Option.bind_eq_some_iff] at h
  obtain ⟨r1, h1, h2⟩ := h
  cases h2
  exact ha ρ r1 h1 _ p
/-! ### what is walked -/
def gSeq : PyData → Option (List PyData)
  | .list ds => some ds
  | .tuple ds => some ds
  | .str z => some (signsD z)
  | _ => none
def qSeqI (a : FE) : FA := fun ρ => (a ρ).bind fun r => (gSeq r.2).bind fun ds => some (r.1, ds)
theorem c_seqI {w : WE} {a : FE} (ha : cE o w a) : cA o (wSeqI w) (qSeqI a) := by
  intro ρ r h P p
  simp only [qSeqI, Option.bind_eq_some_iff] at h
  obtain ⟨r1, h1, ds, h2, h3⟩ := h
  cases h3
  refine ha ρ r1 h1 _ ?_
  revert h2
  cases r1.2 <;> intro h2 <;> first | (cases h2; exact p) | cases h2
def gEnum : PyData → Option (List PyData)
  | .list ds => some (enumD ds)
  | .str z => some (enumD (signsD z))
  | _ => none
def qEnum (a : FE) : FA := fun ρ => (a ρ).bind fun r => (gEnum r.2).bind fun ds => some (r.1, ds)
theorem c_enum {w : WE} {a : FE} (ha : cE o w a) : cA o (wEnum w) (qEnum a) := by
  intro ρ r h P p
  simp only [qEnum, Option.bind_eq_some_iff] at h
  obtain ⟨r1, h1, ds, h2, h3⟩ := h
  cases h3
  refine ha ρ r1 h1 _ ?_
  revert h2
  cases r1.2 <;> intro h2 <;> first | (cases h2; exact p) | cases h2
def gZip : PyData → PyData → Option (List PyData)
  | .list xs, .list ys => some (zipD xs ys)
  | .tuple xs, .tuple ys => some (zipD xs ys)
  | _, _ => none
def qZip (a b : FE) : FA := fun ρ => (a ρ).bind fun r => (b r.1).bind fun s => (gZip r.2 s.2).bind fun ds => some (s.1, ds)
theorem c_zip {w u : WE} {a b : FE} (ha : cE o w a) (hb : cE o u b) : cA o (wZip w u) (qZip a b) := by
  intro ρ r h P p
  simp only [qZip, Option.bind_eq_some_iff] at h
  obtain ⟨r1, h1, r2, h2, ds, h3, h4⟩ := h
  cases h4
  refine ha ρ r1 h1 _ (hb _ _ h2 _ ?_)
  revert h3
  cases r1.2 <;> cases r2.2 <;> intro h3 <;> first | (cases h3; exact p) | cases h3
def gRange1 : List PyData → Option (List PyData)
  | [.int j] => if -(2 ^ 62) ≤ j ∧ j < 2 ^ 62 then some (rangeD 0 j.toNat) else none
  | _ => none
def gRange2 : List PyData → Option (List PyData)
  | [.int i, .int j] => if -(2 ^ 62) ≤ i ∧ i < 2 ^ 62 ∧ -(2 ^ 62) ≤ j ∧ j < 2 ^ 62 then some (rangeD i (j - i).toNat) else none
  | _ => none
def gDown : List PyData → Option (List PyData)
  | [.int i, .int j, .int k] => if k = -1 ∧ -(2 ^ 62) ≤ i ∧ i < 2 ^ 62 ∧ -(2 ^ 62) ≤ j ∧ j < 2 ^ 62 then some (downD i (i - j).toNat) else none
  | _ => none
def qRange1 (a : FA) : FA := fun ρ => (a ρ).bind fun r => (gRange1 r.2).bind fun ds => some (r.1, ds)
def qRange2 (a : FA) : FA := fun ρ => (a ρ).bind fun r => (gRange2 r.2).bind fun ds => some (r.1, ds)
def qDown (a : FA) : FA := fun ρ => (a ρ).bind fun r => (gDown r.2).bind fun ds => some (r.1, ds)
theorem c_range1 {w : WA} {a : FA} (ha : cA o w a) : cA o (wRange1 w) (qRange1 a) := by
  intro ρ r h P p
  simp only [qRange1, Option.bind_eq_some_iff] at h
  obtain ⟨r1, h1, ds, h2, h3⟩ := h
  cases h3
  refine ha ρ r1 h1 _ ?_
  unfold gRange1 at h2
  split at h2
  · rename_i j e
    split at h2
    · rename_i c; cases h2; exact ⟨j, e, c.1, c.2, p⟩
    · cases h2
  · cases h2
theorem c_range2 {w : WA} {a : FA} (ha : cA o w a) : cA o (wRange2 w) (qRange2 a) := by
  intro ρ r h P p
  simp only [qRange2, Option.bind_eq_some_iff] at h
  obtain ⟨r1, h1, ds, h2, h3⟩ := h
  cases h3
  refine ha ρ r1 h1 _ ?_
  unfold gRange2 at h2
  split at h2
  · rename_i i j e
    split at h2
    · rename_i c; cases h2; exact ⟨i, j, e, c, p⟩
    · cases h2
  · cases h2
theorem c_down {w : WA} {a : FA} (ha : cA o w a) : cA o (wDown w) (qDown a) := by
  intro ρ r h P p
  simp only [qDown, Option.bind_eq_some_iff] at h
  obtain ⟨r1, h1, ds, h2, h3⟩ := h
  cases h3
  refine ha ρ r1 h1 _ ?_
  unfold gDown at h2
  split at h2
  · rename_i i j k e
    split at h2
    · rename_i c
      obtain ⟨rfl, c⟩ := c
      cases h2; exact ⟨i, j, e, c, p⟩
    · cases h2
  · cases h2
/-! ### comprehensions -/
def lcQ (i : Nat) (t : FT) (e : FE) : List PyData → Env → List PyData → Option (Env × List PyData)
  | [], ρ, acc => some (ρ, acc)
  | d :: ds, ρ, acc => (t (ρ.set i (.dat d))).bind fun r => if r.2 = true then (e r.1).bind fun s => if acc.length < 16777216 then lcQ i t e ds (s.1.set i .un) (acc ++ [s.2]) else none else lcQ i t e ds (r.1.set i .un) acc
theorem c_lcD {i : Nat} {wt : WT} {we : WE} {t : FT} {e : FE} (ht : cT o wt t) (he : cE o we e) : ∀ (items : List PyData) (ρ : Env) (acc : List PyData) (r : Env × List PyData), lcQ i t e items ρ acc = some r → ∀ P : Env → List PyData → Prop, P (emb o r.1) r.2 → lcD i wt we items (emb o ρ) acc P
  | [], ρ, acc, r, h, P, p => by cases h; exact p
  | d :: ds, ρ, acc, r, h, P, p => by
    simp only [lcQ, Option.bind_eq_some_iff] at h
    obtain ⟨r1, h1, h2⟩ := h
    show wt ((emb o ρ).set i (.dat d)) _
    rw [emb_dset]
    refine ht _ _ h1 _ ?_
    split at h2
    · rename_i c
      simp only [Option.bind_eq_some_iff] at h2
      obtain ⟨s, h3, h4⟩ := h2
      split at h4
      · rename_i hl
        refine ⟨fun _ => he _ _ h3 _ ⟨by rw [sizeLine_eq]; exact hl, ?_⟩, fun e => by rw [e] at c; cases c⟩
        rw [emb_uset]
        exact c_lcD ht he ds _ _ _ h4 P p
      · cases h4
    · rename_i c
      refine ⟨fun e => absurd e c, fun _ => ?_⟩
      rw [emb_uset]
      exact c_lcD ht he ds _ _ _ h2 P p
def qLc (i : Nat) (f : FA) (t : FT) (e : FE) : FE := fun ρ => (f ρ).bind fun r => (lcQ i t e r.2 (r.1.set i .un) []).bind fun s => some (s.1, .list s.2)
theorem c_lc {i : Nat} {wi : WI} {wt : WT} {we : WE} {f : FA} {t : FT} {e : FE} (hi : cA o wi f) (ht : cT o wt t) (he : cE o we e) : cE o (wLc i wi wt we) (qLc i f t e) := by
  intro ρ r h P p
  simp only [qLc, Option.bind_eq_some_iff] at h
  obtain ⟨r1, h1, s, h2, h3⟩ := h
  cases h3
  refine hi ρ r1 h1 _ ?_
  rw [emb_uset]
  exact c_lcD ht he _ _ _ _ h2 _ p
def gPair : PyData → Option (PyData × PyData)
  | .tuple [x, y] => some (x, y)
  | _ => none
theorem gPair_some {d : PyData} {q : PyData × PyData} (h : gPair d = some q) : d = .tuple [q.1, q.2] := by
  unfold gPair at h
  split at h
  · cases h; rfl
  · cases h
def lcQ2 (i j : Nat) (e : FE) : List PyData → Env → List PyData → Option (Env × List PyData)
  | [], ρ, acc => some (ρ, acc)
  | d :: ds, ρ, acc => (gPair d).bind fun q => (e ((ρ.set i (.dat q.1)).set j (.dat q.2))).bind fun s => if acc.length < 16777216 then lcQ2 i j e ds ((s.1.set i .un).set j .un) (acc ++ [s.2]) else none
theorem c_lcD2 {i j : Nat} {we : WE} {e : FE} (he : cE o we e) : ∀ (items : List PyData) (ρ : Env) (acc : List PyData) (r : Env × List PyData), lcQ2 i j e items ρ acc = some r → ∀ P : Env → List PyData → Prop, P (emb o r.1) r.2 → lcD2 i j we items (emb o ρ) acc P
  | [], ρ, acc, r, h, P, p => by cases h; exact p
  | d :: ds, ρ, acc, r, h, P, p => by
    simp only [lcQ2, Option.bind_eq_some_iff] at h
    obtain ⟨q, h1, s, h3, h4⟩ := h
    split at h4
    · rename_i hl
      refine ⟨q.1, q.2, gPair_some h1, ?_⟩
      rw [emb_dset, emb_dset]
      refine he _ _ h3 _ ⟨by rw [sizeLine_eq]; exact hl, ?_⟩
      rw [emb_uset, emb_uset]
      exact c_lcD2 he ds _ _ _ h4 P p
    · cases h4
def qLc2 (i j : Nat) (f : FA) (e : FE) : FE := fun ρ => (f ρ).bind fun r => (lcQ2 i j e r.2 ((r.1.set i .un).set j .un) []).bind fun s => some (s.1, .list s.2)
theorem c_lc2 {i j : Nat} {wi : WI} {we : WE} {f : FA} {e : FE} (hi : cA o wi f) (he : cE o we e) : cE o (wLc2 i j wi we) (qLc2 i j f e) := by
  intro ρ r h P p
  simp only [qLc2, Option.bind_eq_some_iff] at h
  obtain ⟨r1, h1, s, h2, h3⟩ := h
  cases h3
  refine hi ρ r1 h1 _ ?_
  rw [emb_uset, emb_uset]
  exact c_lcD2 he _ _ _ _ h2 _ p
/-! ### statements -/
def qSeq (f g : FS) : FS := fun ρ => (f ρ).bind fun fl => match fl with
  | .nx ρ1 => g ρ1
  | fl => some fl
theorem c_seq {w u : WS} {f g : FS} (hf : cS o w f) (hg : cS o u g) : cS o (wSeq w u) (qSeq f g) := by
  intro ρ fl h E e
  simp only [qSeq, Option.bind_eq_some_iff] at h
  obtain ⟨f1, h1, h2⟩ := h
  refine hf ρ f1 h1 _ ?_
  cases f1 with
  | nx ρ1 => exact hg ρ1 fl h2 E e
  | rt ρ1 d => cases h2; exact e
  | bk ρ1 => cases h2; exact e
  | ct ρ1 => cases h2; exact e
def qSkip : FS := fun ρ => some (.nx ρ)
def qBreak : FS := fun ρ => some (.bk ρ)
def qCont : FS := fun ρ => some (.ct ρ)
def qNever : FS := fun _ => none
theorem c_skip : cS o wSkip qSkip := by intro ρ fl h E e; cases h; exact e
theorem c_break : cS o wBreak qBreak := by intro ρ fl h E e; cases h; exact e
theorem c_cont : cS o wCont qCont := by intro ρ fl h E e; cases h; exact e
theorem c_never {w : WS} : cS o w qNever := by intro ρ fl h E e; cases h
def qRet (a : FE) : FS := fun ρ => (a ρ).bind fun r => some (.rt r.1 r.2)
def qRetN : FS := fun ρ => some (.rt ρ .none)
theorem c_ret {w : WE} {a : FE} (ha : cE o w a) : cS o (wRet w) (qRet a) := by
  intro ρ fl h E e
  simp only [qRet, Option.bind_eq_some_iff] at h
  obtain ⟨r, h1, h2⟩ := h
  cases h2
  exact ha ρ r h1 _ e
theorem c_retN : cS o wRetN qRetN := by intro ρ fl h E e; cases h; exact e
def gOwn : SV → Option (List PyData)
  | .own ds => some ds
  | _ => none
theorem gOwn_some {s : SV} {ds : List PyData} (h : gOwn s = some ds) : s = .own ds := by
  cases s <;> first | (cases h; rfl) | cases h
def qRetO (j : Nat) : FS := fun ρ => (gOwn (ρ.at j)).bind fun ds => some (.rt ρ (.list ds))
theorem c_retO {j : Nat} (hj : o = none ∨ j ≠ 0) : cS o (wRetO j) (qRetO j) := by
  intro ρ fl h E e
  simp only [qRetO, Option.bind_eq_some_iff] at h
  obtain ⟨ds, h1, h2⟩ := h
  cases h2
  exact ⟨ds, emb_own hj (gOwn_some h1), e⟩
def qIf (t : FT) (f g : FS) : FS := fun ρ => (t ρ).bind fun r => if r.2 = true then f r.1 else g r.1
theorem c_if {t : WT} {w u : WS} {q : FT} {f g : FS} (ht : cT o t q) (hf : cS o w f) (hg : cS o u g) : cS o (wIf t w u) (qIf q f g) := by
  intro ρ fl h E e
  simp only [qIf, Option.bind_eq_some_iff] at h
  obtain ⟨r, h1, h2⟩ := h
  refine ht ρ r h1 _ ?_
  split at h2
  · rename_i c; exact ⟨fun _ => hf _ _ h2 _ e, fun z => by rw [z] at c; cases c⟩
  · rename_i c; exact ⟨fun z => absurd z c, fun _ => hg _ _ h2 _ e⟩
def qSet (i : Nat) (a : FE) : FS := fun ρ => (a ρ).bind fun r => some (.nx (r.1.set i (.dat r.2)))
theorem c_set {i : Nat} {w : WE} {a : FE} (ha : cE o w a) : cS o (wSet i w) (qSet i a) := by
  intro ρ fl h E e
  simp only [qSet, Option.bind_eq_some_iff] at h
  obtain ⟨r, h1, h2⟩ := h
  cases h2
  refine ha ρ r h1 _ ?_
  rw [emb_dset]; exact e
def qNew (i : Nat) : FS := fun ρ => some (.nx (ρ.set i (.own [])))
theorem c_new {i : Nat} (hi : o = none ∨ i ≠ 0) : cS o (wNew i) (qNew i) := by
  intro ρ fl h E e
  cases h
  show E.nx ((emb o ρ).set i (.own []))
  rw [emb_new hi]; exact e
def qSetF (i : Nat) (F : FN) (a : FA) : FS := fun ρ => (a ρ).bind fun r => (F r.2).bind fun es => some (.nx (r.1.set i (.own es)))
theorem c_setF {i : Nat} {S : SpF} {F : FN} {w : WA} {a : FA} (hi : o = none ∨ i ≠ 0) (hs : fitN S F) (ha : cA o w a) : cS o (wSetF i S w) (qSetF i F a) := by
  intro ρ fl h E e
  simp only [qSetF, Option.bind_eq_some_iff] at h
  obtain ⟨r, h1, es, h2, h3⟩ := h
  cases h3
  refine ha ρ r h1 _ (hs _ _ h2 _ ?_)
  rw [emb_new hi]; exact e
def qApp (j : Nat) (a : FE) : FS := fun ρ => (ρ.at j).items.bind fun _ => (a ρ).bind fun r => (r.1.at j).items.bind fun ds => if ds.length < 16777216 then some (.nx (r.1.set j ((r.1.at j).put (ds ++ [r.2])))) else none
theorem c_app {j : Nat} {w : WE} {a : FE} (ha : cE o w a) : cS o (wApp j w) (qApp j a) := by
  intro ρ fl h E e
  simp only [qApp, Option.bind_eq_some_iff] at h
  obtain ⟨ds0, h0, r, h1, ds, h2, h3⟩ := h
  split at h3
  · cases h3
    refine ⟨⟨ds0, by rw [emb_items]; exact h0⟩, ha ρ r h1 _ ⟨ds, by rw [emb_items]; exact h2, by rw [sizeLine_eq]; assumption, ?_⟩⟩
    rw [emb_put]; exact e
  · cases h3
def qPut (j : Nat) (a k : FE) : FS := fun ρ => (a ρ).bind fun r => (r.1.at j).items.bind fun _ => (k r.1).bind fun s => (s.1.at j).items.bind fun ds => (gI s.2).bind fun n => (ixN ds.length n).bind fun m => some (.nx (s.1.set j ((s.1.at j).put (ds.set m r.2))))
theorem c_put {j : Nat} {w wk : WE} {a k : FE} (ha : cE o w a) (hk : cE o wk k) : cS o (wPut j w wk) (qPut j a k) := by
  intro ρ fl h E e
  simp only [qPut, Option.bind_eq_some_iff] at h
  obtain ⟨r, h1, ds0, h0, s, h2, ds, h3, n, h4, m, h5, h6⟩ := h
  cases h6
  refine ha ρ r h1 _ ⟨⟨ds0, by rw [emb_items]; exact h0⟩, hk _ _ h2 _ ⟨ds, by rw [emb_items]; exact h3, n, gI_some h4, m, h5, ?_⟩⟩
  rw [emb_put]; exact e
def qN (i : Nat) : FG := fun d ρ => some (ρ.set i (.dat d))
theorem c_n {i : Nat} : cG o (gN i) (qN i) := by
  intro d ρ r h P p
  cases h
  show P ((emb o ρ).set i (.dat d))
  rw [emb_dset]; exact p
def qGNil : FGs := fun ds ρ => match ds with
  | [] => some ρ
  | _ => none
def qGCons (g : FG) (u : FGs) : FGs := fun ds ρ => match ds with
  | d :: r => (g d ρ).bind fun ρ1 => u r ρ1
  | [] => none
theorem c_gnil : cGs o gNil' qGNil := by
  intro d ρ r h P p
  cases d with
  | nil => cases h; exact ⟨rfl, p⟩
  | cons x y => cases h
theorem c_gcons {w : WG} {u : List PyData → Env → (Env → Prop) → Prop} {g : FG} {v : FGs} (hg : cG o w g) (hu : cGs o u v) : cGs o (gCons' w u) (qGCons g v) := by
  intro ds ρ r h P p
  cases ds with
  | nil => cases h
  | cons d es =>
    simp only [qGCons, Option.bind_eq_some_iff] at h
    obtain ⟨ρ1, h1, h2⟩ := h
    exact ⟨d, es, rfl, hg _ _ _ h1 _ (hu _ _ _ h2 _ p)⟩
def qT (n : Nat) (u : FGs) : FG := fun d ρ => match d with
  | .tuple ds => if ds.length = n then u ds ρ else none
  | _ => none
theorem c_t {n : Nat} {w : List PyData → Env → (Env → Prop) → Prop} {u : FGs} (hu : cGs o w u) : cG o (gT n w) (qT n u) := by
  intro d ρ r h P p
  cases d with
  | tuple ds =>
    replace h : (if ds.length = n then u ds ρ else none) = some r := h
    split at h
    · exact ⟨ds, rfl, by assumption, hu _ _ _ h _ p⟩
    · cases h
  | _ => cases h
def qAsg (a : FE) (g : FG) : FS := fun ρ => (a ρ).bind fun r => (g r.2 r.1).bind fun ρ1 => some (.nx ρ1)
theorem c_asg {w : WE} {wg : WG} {a : FE} {g : FG} (ha : cE o w a) (hg : cG o wg g) : cS o (wAsg w wg) (qAsg a g) := by
  intro ρ fl h E e
  simp only [qAsg, Option.bind_eq_some_iff] at h
  obtain ⟨r, h1, ρ1, h2, h3⟩ := h
  cases h3
  exact ha ρ r h1 _ (hg _ _ _ h2 _ e)
def qPar (i j : Nat) (a : FA) : FS := fun ρ => (a ρ).bind fun r => match r.2 with
  | [x, y] => some (.nx ((r.1.set i (.dat x)).set j (.dat y)))
  | _ => none
theorem c_par {i j : Nat} {w : WA} {a : FA} (ha : cA o w a) : cS o (wPar i j w) (qPar i j a) := by
  intro ρ fl h E e
  simp only [qPar, Option.bind_eq_some_iff] at h
  obtain ⟨r, h1, h2⟩ := h
  refine ha ρ r h1 _ ?_
  split at h2
  · rename_i x y hx
    cases h2
    refine ⟨x, y, hx, ?_⟩
    rw [emb_dset, emb_dset]; exact e
  · cases h2
def qAug (i : Nat) (g : G2) (a : FE) : FS := fun ρ => match ρ.at i with
  | .dat x => (a ρ).bind fun r => (g x r.2).bind fun z => some (.nx (r.1.set i (.dat z)))
  | _ => none
theorem c_aug {i : Nat} {f : F2} {g : G2} {w : WE} {a : FE} (hf : fit2 f g) (ha : cE o w a) : cS o (wAug i f w) (qAug i g a) := by
  intro ρ fl h E e
  unfold qAug at h
  split at h
  · rename_i x hx
    simp only [Option.bind_eq_some_iff] at h
    obtain ⟨r, h1, z, h2, h3⟩ := h
    cases h3
    refine ⟨x, emb_dat hx, ha ρ r h1 _ (hf _ _ _ h2 _ ?_)⟩
    rw [emb_dset]; exact e
  · cases h
def qDrop (a : FE) : FS := fun ρ => (a ρ).bind fun r => some (.nx r.1)
theorem c_drop {w : WE} {a : FE} (ha : cE o w a) : cS o (wDrop w) (qDrop a) := by
  intro ρ fl h E e
  simp only [qDrop, Option.bind_eq_some_iff] at h
  obtain ⟨r, h1, h2⟩ := h
  cases h2
  exact ha ρ r h1 _ e
/-! ### loops -/
def forQ (g : FG) (b : FS) : List PyData → Env → Option Fl
  | [], ρ => some (.nx ρ)
  | d :: ds, ρ => (g d ρ).bind fun ρ1 => (b ρ1).bind fun fl => match fl with
    | .nx ρ2 => forQ g b ds ρ2
    | .ct ρ2 => forQ g b ds ρ2
    | .bk ρ2 => some (.nx ρ2)
    | .rt ρ2 d => some (.rt ρ2 d)
theorem c_forD {wg : WG} {w : WS} {g : FG} {b : FS} (hg : cG o wg g) (hb : cS o w b) (E : DEnds) : ∀ (items : List PyData) (ρ : Env) (fl : Fl), forQ g b items ρ = some fl → E.at o fl → forD wg w E items (emb o ρ)
  | [], ρ, fl, h, e => by cases h; exact e
  | d :: ds, ρ, fl, h, e => by
    simp only [forQ, Option.bind_eq_some_iff] at h
    obtain ⟨ρ1, h1, f1, h2, h3⟩ := h
    refine hg _ _ _ h1 _ (hb _ _ h2 _ ?_)
    cases f1 with
    | nx ρ2 => exact c_forD hg hb E ds ρ2 fl h3 e
    | ct ρ2 => exact c_forD hg hb E ds ρ2 fl h3 e
    | bk ρ2 => cases h3; exact e
    | rt ρ2 d => cases h3; exact e
def qFor (f : FA) (g : FG) (b : FS) : FS := fun ρ => (f ρ).bind fun r => forQ g b r.2 r.1
theorem c_for {wi : WI} {wg : WG} {w : WS} {f : FA} {g : FG} {b : FS} (hi : cA o wi f) (hg : cG o wg g) (hb : cS o w b) : cS o (wFor wi wg w) (qFor f g b) := by
  intro ρ fl h E e
  simp only [qFor, Option.bind_eq_some_iff] at h
  obtain ⟨r, h1, h2⟩ := h
  exact hi ρ r h1 _ (c_forD hg hb E _ _ _ h2 e)
def whileQ (t : FT) (b : FS) : Nat → Env → Option Fl
  | 0, _ => none
  | n + 1, ρ => (t ρ).bind fun r => if r.2 = true then (b r.1).bind fun fl => match fl with
      | .nx ρ2 => whileQ t b n ρ2
      | .ct ρ2 => whileQ t b n ρ2
      | .bk ρ2 => some (.nx ρ2)
      | .rt ρ2 d => some (.rt ρ2 d)
    else some (.nx r.1)
/-- the turns that a loop has at most -/
def fuel : Nat := 1000000
def qWhile (t : FT) (b : FS) : FS := fun ρ => whileQ t b fuel ρ
theorem c_while {wt : WT} {w : WS} {t : FT} {b : FS} (ht : cT o wt t) (hb : cS o w b) : cS o (wWhile wt w) (qWhile t b) := by
  intro ρ fl h E e
  refine ⟨fun m ρ' => ∃ ρ1 f1, ρ' = emb o ρ1 ∧ whileQ t b m ρ1 = some f1 ∧ E.at o f1, ⟨fuel, ρ, fl, rfl, h, e⟩, ?_⟩
  rintro m ρ' ⟨ρ1, f1, rfl, h1, e1⟩
  cases m with
  | zero => cases h1
  | succ m =>
    simp only [whileQ, Option.bind_eq_some_iff] at h1
    obtain ⟨r, h2, h3⟩ := h1
    refine ht _ _ h2 _ ?_
    split at h3
    · rename_i c
      simp only [Option.bind_eq_some_iff] at h3
      obtain ⟨f2, h4, h5⟩ := h3
      refine ⟨fun _ => hb _ _ h4 _ ?_, fun z => by rw [z] at c; cases c⟩
      cases f2 with
      | nx ρ2 => exact ⟨m, Nat.lt_succ_self _, ρ2, f1, rfl, h5, e1⟩
      | ct ρ2 => exact ⟨m, Nat.lt_succ_self _, ρ2, f1, rfl, h5, e1⟩
      | bk ρ2 => cases h5; exact e1
      | rt ρ2 d => cases h5; exact e1
    · rename_i c
      cases h3
      exact ⟨fun z => absurd z c, fun _ => e1⟩
/-! ### defs -/
def retOf : Option Fl → Option PyData
  | some (.rt _ d) => some d
  | some (.nx _) => some .none
  | _ => none
theorem m_of {w : WS} {b : FS} (c : cS none w b) {ρ : Env} {d : PyData} (h : retOf (b ρ) = some d) {Q : PyData → Prop} (k : Q d) : w { nx := fun _ => Q .none, rt := fun _ d => Q d } ρ := by
  cases e : b ρ with
  | none => rw [e] at h; cases h
  | some fl =>
    rw [e] at h
    refine c ρ fl e _ ?_
    cases fl with
    | nx ρ1 => cases h; exact k
    | rt ρ1 d => cases h; exact k
    | bk ρ1 => cases h
    | ct ρ1 => cases h
def gAt0 : Env → Option (List PyData)
  | .own ws :: _ => some ws
  | _ => none
theorem gAt0_some {l : Addr} {ρ : Env} {ws : List PyData} (h : gAt0 ρ = some ws) : (emb (some l) ρ).at 0 = .bor l ws := by
  unfold gAt0 at h
  split at h
  · cases h; rfl
  · cases h
def retW : Option Fl → Option (List PyData × PyData)
  | some (.rt ρ d) => (gAt0 ρ).map fun ws => (ws, d)
  | some (.nx ρ) => (gAt0 ρ).map fun ws => (ws, .none)
  | _ => none
theorem mW_of {l : Addr} {w : WS} {b : FS} (c : cS (some l) w b) {ws : List PyData} {rest : Env} {r : List PyData × PyData} (h : retW (b (.own ws :: rest)) = some r) {Q : List PyData → PyData → Prop} (k : Q r.1 r.2) :
    w { nx := fun ρ => ∃ ws', ρ.at 0 = .bor l ws' ∧ Q ws' .none, rt := fun ρ d => ∃ ws', ρ.at 0 = .bor l ws' ∧ Q ws' d } (.bor l ws :: rest) := by
  cases e : b (.own ws :: rest) with
  | none => rw [e] at h; cases h
  | some fl =>
    rw [e] at h
    refine c (.own ws :: rest) fl e _ ?_
    cases fl with
    | nx ρ1 =>
      simp only [retW, Option.map_eq_some_iff] at h
      obtain ⟨ws', h1, rfl⟩ := h
      exact ⟨ws', gAt0_some h1, k⟩
    | rt ρ1 d =>
      simp only [retW, Option.map_eq_some_iff] at h
      obtain ⟨ws', h1, rfl⟩ := h
      exact ⟨ws', gAt0_some h1, k⟩
    | bk ρ1 => cases h
    | ct ρ1 => cases h
/-- a list of its own that is handed back -/
def qlist (f : FA) (ρ : Env) : Option (List PyData) := (f ρ).map (·.2)
end Pm
namespace Pm
open PySem PySem.Spec PyProof.Rows L2 TL
/-! ### the operators as functions -/
def gAdd : G2
  | .int i, .int j => some (.int (i + j))
  | .str x, .str y => if x.length + y.length ≤ 16777216 then some (.str (x ++ y)) else none
  | .list xs, .list ys => if xs.length + ys.length ≤ 16777216 then some (.list (xs ++ ys)) else none
  | .tuple xs, .tuple ys => if xs.length + ys.length ≤ 16777216 then some (.tuple (xs ++ ys)) else none
  | _, _ => none
theorem of_if {α : Type} {c : Prop} [Decidable c] {x d : α} (h : (if c then some x else none) = some d) : c ∧ x = d := by
  split at h
  · cases h; exact ⟨by assumption, rfl⟩
  · cases h
theorem k_add : fit2 fAdd gAdd := by
  intro x y d h P p
  cases x <;> cases y <;> first
    | (cases h; exact p)
    | (obtain ⟨c, rfl⟩ := of_if h; exact ⟨by rw [sizeLine_eq]; exact c, p⟩)
    | cases h
def gI2 (C : Int → Int → Prop) [∀ i j, Decidable (C i j)] (g : Int → Int → PyData) : G2
  | .int i, .int j => if C i j then some (g i j) else none
  | _, _ => none
def gI0 (g : Int → Int → PyData) : G2
  | .int i, .int j => some (g i j)
  | _, _ => none
theorem k_I0 {g : Int → Int → PyData} : fit2 (fI0 g) (gI0 g) := by
  intro x y d h P p
  cases x <;> cases y <;> first | (cases h; exact p) | cases h
theorem k_I {C D : Int → Int → Prop} [∀ i j, Decidable (D i j)] {g : Int → Int → PyData} (hc : ∀ i j, D i j → C i j) : fit2 (fI C g) (gI2 D g) := by
  intro x y d h P p
  cases x <;> cases y <;> first | (obtain ⟨c, rfl⟩ := of_if h; exact ⟨hc _ _ c, p⟩) | cases h
abbrev gSub : G2 := gI0 fun i j => .int (i - j)
abbrev gAddI : G2 := gI0 fun i j => .int (i + j)
abbrev gLt : G2 := gI0 fun i j => .bool (decide (i < j))
abbrev gLe : G2 := gI0 fun i j => .bool (decide (i ≤ j))
abbrev gGt : G2 := gI0 fun i j => .bool (decide (j < i))
abbrev gGe : G2 := gI0 fun i j => .bool (decide (j ≤ i))
theorem k_sub : fit2 fSub gSub := k_I0
theorem k_lt : fit2 fLt gLt := k_I0
theorem k_le : fit2 fLe gLe := k_I0
theorem k_gt : fit2 fGt gGt := k_I0
theorem k_ge : fit2 fGe gGe := k_I0
abbrev gMod : G2 := gI2 (fun _ j => 0 < j) fun i j => .int (i % j)
abbrev gDiv : G2 := gI2 (fun _ j => 0 < j ∧ j < 2 ^ 62) fun i j => .int (i / j)
abbrev gPow : G2 := gI2 (fun i j => 0 ≤ j ∧ j ≤ 1000000 ∧ i.natAbs < 2 ^ 64) fun i j => .int (i ^ j.toNat)
theorem k_mod : fit2 fMod gMod := k_I fun _ _ h => h
theorem k_div : fit2 fDiv gDiv := k_I fun _ _ h => cdiv_of h.1 h.2
theorem k_pow : fit2 fPow gPow := k_I fun _ _ h => h
def gMul : G2
  | .int i, .int j => if (-(2 ^ 64) < i ∧ i < 2 ^ 64) ∨ (-(2 ^ 64) < j ∧ j < 2 ^ 64) then some (.int (i * j)) else none
  | .str x, .int n => if -(2 ^ 63) ≤ n ∧ n < 2 ^ 63 ∧ x.length * n.toNat ≤ 16777216 then some (.str (repS x n.toNat)) else none
  | .list xs, .int n => if -(2 ^ 63) ≤ n ∧ n < 2 ^ 63 ∧ xs.length * n.toNat ≤ 16777216 then some (.list (repD xs n.toNat)) else none
  | _, _ => none
theorem k_mul : fit2 fMul gMul := by
  intro x y d h P p
  cases x <;> cases y <;> first
    | (obtain ⟨c, rfl⟩ := of_if h; exact ⟨c, p⟩)
    | (obtain ⟨c, rfl⟩ := of_if h; exact ⟨c.1, c.2.1, by rw [sizeLine_eq]; exact c.2.2, p⟩)
    | cases h
def gEq (neg : Bool) : G2
  | .int i, .int j => some (.bool (neg ^^ decide (i = j)))
  | .str i, .str j => some (.bool (neg ^^ decide (i = j)))
  | .bool i, .bool j => some (.bool (neg ^^ decide (i = j)))
  | x, y => if eqOk x y = true then some (.bool (neg ^^ PyData.eqv x y)) else none
theorem k_eq {neg : Bool} : fit2 (fEq neg) (gEq neg) := by
  intro x y d h P p
  have gen : (if eqOk x y = true then some (PyData.bool (neg ^^ PyData.eqv x y)) else none) = some d → eqOk x y = true ∧ P (.bool (neg ^^ PyData.eqv x y)) := fun hh => by
    obtain ⟨c, rfl⟩ := of_if hh; exact ⟨c, p⟩
  cases x <;> cases y <;> first
    | exact gen h
    | (cases h; exact p)
def gIs (neg : Bool) : G2 := fun x y => match y with
  | .none => some (.bool (neg ^^ isN x))
  | _ => none
theorem k_is {neg : Bool} : fit2 (fIs neg) (gIs neg) := by
  intro x y d h P p
  cases y <;> first | (cases h; exact ⟨rfl, p⟩) | cases h
def gIn (neg : Bool) : G2
  | .str x, .str z => some (.bool (neg ^^ inS x z))
  | x, .list ys => if flatD x = true ∧ ys.all flatD = true then some (.bool (neg ^^ ys.any fun y => PyData.eqv y x)) else none
  | x, .tuple ys => if flatD x = true ∧ ys.all flatD = true then some (.bool (neg ^^ ys.any fun y => PyData.eqv y x)) else none
  | _, _ => none
theorem k_in {neg : Bool} : fit2 (fIn neg) (gIn neg) := by
  intro x y d h P p
  cases x <;> cases y <;> first
    | (cases h; exact p)
    | (obtain ⟨c, rfl⟩ := of_if h; exact ⟨c.1, c.2, p⟩)
    | cases h
def gIx : G2
  | .list xs, .int i => atI xs i
  | .tuple xs, .int i => atI xs i
  | .str z, .int i => if z.length ≤ 16777216 then (atI z.cps.toList i).map fun c => .str (tx [c]) else none
  | _, _ => none
theorem k_ix : fit2 fIx gIx := by
  intro x y d h P p
  cases x <;> cases y <;> first
    | (replace h : atI _ _ = some d := h; exact ⟨d, h, p⟩)
    | (replace h : (if _ then Option.map _ _ else none) = some d := h
       split at h
       · simp only [Option.map_eq_some_iff] at h
         obtain ⟨c, h1, rfl⟩ := h
         exact ⟨by rw [sizeLine_eq]; assumption, c, h1, p⟩
       · cases h)
    | cases h
/-! ### built-ins -/
def gLen : G1
  | .str x => if x.length ≤ 16777216 then some (.int x.length) else none
  | .list xs => some (.int xs.length)
  | .tuple xs => some (.int xs.length)
  | _ => none
theorem k_len : fit1 fLen gLen := by
  intro x d h P p
  cases x <;> first
    | (cases h; exact p)
    | (obtain ⟨c, rfl⟩ := of_if h; exact ⟨by rw [sizeLine_eq]; exact c, p⟩)
    | cases h
def gInt : G1
  | .int i => some (.int i)
  | .bool b => some (.int (if b then 1 else 0))
  | _ => none
theorem k_int : fit1 fInt gInt := by
  intro x d h P p
  cases x <;> first | (cases h; exact p) | cases h
def gTuple : G1
  | .list xs => some (.tuple xs)
  | .tuple xs => some (.tuple xs)
  | _ => none
theorem k_tuple : fit1 fTuple gTuple := by
  intro x d h P p
  cases x <;> first | (cases h; exact p) | cases h
def gList : G1
  | .list xs => some (.list xs)
  | .tuple xs => some (.list xs)
  | _ => none
theorem k_list : fit1 fList gList := by
  intro x d h P p
  cases x <;> first | (cases h; exact p) | cases h
def gNeg : G1
  | .int i => some (.int (-i))
  | _ => none
theorem k_neg : fit1 fNeg gNeg := by
  intro x d h P p
  cases x <;> first | (cases h; exact p) | cases h
def gBs : List PyData → Option (List Bool)
  | [] => some []
  | .bool s :: r => (gBs r).map (s :: ·)
  | _ => none
theorem gBs_some : ∀ {ds : List PyData} {ys : List Bool}, gBs ds = some ys → ds = ys.map .bool
  | [], ys, h => by cases h; rfl
  | d :: r, ys, h => by
    cases d with
    | bool s =>
      cases e : gBs r with
      | none => unfold gBs at h; rw [e] at h; cases h
      | some zs =>
        unfold gBs at h; rw [e] at h; cases h
        rw [gBs_some e]; rfl
    | _ => cases h
theorem gBs_of (ys : List Bool) : gBs (ys.map .bool) = some ys := by
  induction ys with
  | nil => rfl
  | cons y ys ih => show (gBs _).map _ = _; rw [ih]; rfl
theorem gBs_map {α : Type} (f : α → Bool) (l : List α) : gBs (l.map fun x => .bool (f x)) = some (l.map f) := by
  have := gBs_of (l.map f)
  rw [List.map_map] at this
  exact this
def gAny : G1
  | .list ds => (gBs ds).map fun bs => .bool (bs.any id)
  | _ => none
def gAll : G1
  | .list ds => (gBs ds).map fun bs => .bool (bs.all id)
  | _ => none
theorem k_any : fit1 (fBools fun bs => bs.any id) gAny := by
  intro x d h P p
  cases x with
  | list ds =>
    simp only [gAny, Option.map_eq_some_iff] at h
    obtain ⟨bs, h1, rfl⟩ := h
    exact ⟨bs, by rw [gBs_some h1], p⟩
  | _ => cases h
theorem k_all : fit1 (fBools fun bs => bs.all id) gAll := by
  intro x d h P p
  cases x with
  | list ds =>
    simp only [gAll, Option.map_eq_some_iff] at h
    obtain ⟨bs, h1, rfl⟩ := h
    exact ⟨bs, by rw [gBs_some h1], p⟩
  | _ => cases h
/-! ### methods of texts -/
def gSplit : GM
  | x, [.str y] => if (y.length == 0) = false ∧ x.length + 2 ≤ 16777216 then some (.list ((Txt.split x y).map .str)) else none
  | _, _ => none
def gStrip : GM
  | x, [.str y] => if x.length ≤ 16777216 then some (.str (Txt.stripChars x y)) else none
  | _, _ => none
def gLstrip : GM
  | x, [.str y] => if x.length ≤ 16777216 then some (.str (Txt.lstripChars x y)) else none
  | _, _ => none
def gRstrip : GM
  | x, [.str y] => if x.length ≤ 16777216 then some (.str (Txt.rstripChars x y)) else none
  | _, _ => none
def gStarts : GM
  | x, [.str y] => some (.bool (Txt.startswith x y))
  | _, _ => none
def gStarts3 : GM
  | x, [.str y, .int i] => some (.bool (Txt.startswith3 x y i))
  | _, _ => none
def gEnds : GM
  | x, [.str y] => some (.bool (Txt.endswith x y))
  | _, _ => none
def gFind : GM
  | x, [.str y] => some (.int (Txt.find x y))
  | _, _ => none
def gFind3 : GM
  | x, [.str y, .int i] => some (.int (Txt.find3 x y i))
  | _, _ => none
def gFind4 : GM
  | x, [.str y, .int i, .int j] => some (.int (Txt.findIn x y i j))
  | _, _ => none
def gCount : GM
  | x, [.str y] => some (.int (Txt.count x y))
  | _, _ => none
def gCount4 : GM
  | x, [.str y, .int i, .int j] => some (.int (Txt.countIn x y i j))
  | _, _ => none
theorem k_split : fitM fSplit gSplit := by
  intro x y d h P p
  unfold gSplit at h
  split at h
  · obtain ⟨c, rfl⟩ := of_if h
    exact ⟨c.1, by rw [sizeLine_eq]; exact c.2, p⟩
  · cases h
theorem k_strip : fitM fStrip gStrip := by
  intro x y d h P p
  unfold gStrip at h
  split at h
  · obtain ⟨c, rfl⟩ := of_if h
    exact ⟨by rw [sizeLine_eq]; exact c, p⟩
  · cases h
theorem k_lstrip : fitM fLstrip gLstrip := by
  intro x y d h P p
  unfold gLstrip at h
  split at h
  · obtain ⟨c, rfl⟩ := of_if h
    exact ⟨by rw [sizeLine_eq]; exact c, p⟩
  · cases h
theorem k_rstrip : fitM fRstrip gRstrip := by
  intro x y d h P p
  unfold gRstrip at h
  split at h
  · obtain ⟨c, rfl⟩ := of_if h
    exact ⟨by rw [sizeLine_eq]; exact c, p⟩
  · cases h
theorem k_starts : fitM fStarts gStarts := by
  intro x y d h P p
  unfold gStarts at h
  split at h
  · cases h; exact p
  · cases h
theorem k_starts3 : fitM fStarts3 gStarts3 := by
  intro x y d h P p
  unfold gStarts3 at h
  split at h
  · cases h; exact p
  · cases h
theorem k_ends : fitM fEnds gEnds := by
  intro x y d h P p
  unfold gEnds at h
  split at h
  · cases h; exact p
  · cases h
theorem k_find : fitM fFind gFind := by
  intro x y d h P p
  unfold gFind at h
  split at h
  · cases h; exact p
  · cases h
theorem k_find3 : fitM fFind3 gFind3 := by
  intro x y d h P p
  unfold gFind3 at h
  split at h
  · cases h; exact p
  · cases h
theorem k_find4 : fitM fFind4 gFind4 := by
  intro x y d h P p
  unfold gFind4 at h
  split at h
  · cases h; exact p
  · cases h
theorem k_count : fitM fCount gCount := by
  intro x y d h P p
  unfold gCount at h
  split at h
  · cases h; exact p
  · cases h
theorem k_count4 : fitM fCount4 gCount4 := by
  intro x y d h P p
  unfold gCount4 at h
  split at h
  · cases h; exact p
  · cases h
def gLower : G1
  | .str x => if x.length ≤ 5592405 then some (.str (Txt.lower x)) else none
  | _ => none
def gUpper : G1
  | .str x => if x.length ≤ 5592405 then some (.str (Txt.upper x)) else none
  | _ => none
def gIsalnum : G1
  | .str x => some (.bool (Txt.isalnum x))
  | _ => none
def gSplit0 : G1
  | .str x => if x.length + 2 ≤ 16777216 then some (.list ((Txt.words x).map .str)) else none
  | _ => none
theorem k_lower : fit1 fLower gLower := by
  intro x d h P p
  cases x <;> first | (obtain ⟨c, rfl⟩ := of_if h; exact ⟨c, p⟩) | cases h
theorem k_upper : fit1 fUpper gUpper := by
  intro x d h P p
  cases x <;> first | (obtain ⟨c, rfl⟩ := of_if h; exact ⟨c, p⟩) | cases h
theorem k_isalnum : fit1 fIsalnum gIsalnum := by
  intro x d h P p
  cases x <;> first | (cases h; exact ⟨trivial, p⟩) | cases h
theorem k_split0 : fit1 fSplit0 gSplit0 := by
  intro x d h P p
  cases x <;> first | (obtain ⟨c, rfl⟩ := of_if h; exact ⟨by rw [sizeLine_eq]; exact c, p⟩) | cases h
end Pm
namespace Pm
open PySem PySem.Spec PyProof.Rows L2 TL
/-! ### for look in (f, g, h): end = look(text, place); if end is not None: return end -/
variable {Y : Cx} {K : Fr}
def HeldP (Y : Cx) (K : Fr) (f : Addr) (S : SpD) : Prop := ∃ (k : Nat) (fd : FuncData) (ps : List Str), FnOk Y.prog Y.w Y.K Y.mg Y.base CX0 k f fd ps (spP K S) ∧ Room k Y.A ∧ PySem.W.keepIn Y.K (.ref f) = true ∧ Binds Y.K fd ps []
def tCallH (Y : Cx) (K : Fr) (i : Nat) (t : TA) : TE := fun σ H Q => ∃ f S, σ[i]? = some (some (.ref f)) ∧ HeldP Y K f S ∧ t σ H fun vs H1 => spP K S vs H1 Q E0
theorem pe_callH {i : Nat} {x : Str} {p pos : Pos} {e : Expr} {es : List Expr} {t : TA} (hN : Y.N[i]? = some x) (hv : Vis Y.env.scope x) (ha : PA Y (e :: es) t)
    (hdb : (x == ("__debug__" : Str)) = false := by decide) (hcd : (x == ("__classdict__" : Str)) = false := by decide)
    (he : starEach (e :: es) Y.env = (false, eval e Y.env) :: starEach es Y.env := by rfl) (hpl : (backTo pos (starEach es Y.env)).any (·.1) = false := by rfl) : PE Y (.Call (.Name x p) (e :: es) [] pos) (tCallH Y K i t) := by
  refine ⟨fun pins s σ H Q I h => ?_⟩
  obtain ⟨f, S, hs, ⟨k, fd, ps, F, hr, hk, hb⟩, ht⟩ := h
  refine wpAny_Call_Name_kw (thn ((pe_var (pos := p) hN hv hdb hcd).run pins s σ H (fun v H1 => v = .ref f ∧ H1 = H) I ⟨.ref f, hs, rfl, rfl⟩) fun u s1 ⟨v, H1, I1, r1, q1⟩ => ?_)
  obtain ⟨rfl, rfl⟩ := q1
  cases r1
  refine PySem.W.callWith_K (h₀ := Y.base) I.ok.mod.kin hk (thn (ha.run pos pins s1 σ _ _ I1 ht) fun us s2 ⟨vs, H2, I2, r, q⟩ => ⟨I2.kIn, ?_⟩) he hpl
  refine runF F hr hb (dvs := []) .nil pass0 I2 r ?_
  rw [List.append_nil]
  exact q
def wLook : List SpD → WS
  | [], E, ρ => E.nx ρ
  | S :: Ss, E, ρ => 3 < ρ.length ∧ ∃ x y, ρ.at 0 = .dat x ∧ ρ.at 1 = .dat y ∧ S [x, y] fun d => (isN d = false → E.rt ((ρ.set 2 .un).set 3 (.dat d)) d) ∧ (isN d = true → wLook Ss E ((ρ.set 2 .un).set 3 (.dat d)))
theorem EnvOk.val {M0 M B : List Addr} {H : Hp} {σ : L2.St} {ρ : Env} {j : Nat} {d : PyData} (E : EnvOk K M0 M B H σ ρ) (h : ρ.at j = .dat d) : ∃ v, σ[j]? = some (some v) ∧ Dt K (rm M H) v d := E.slot j _ (Env.at_get h (by intro z; cases z))
theorem Env.at_set_ne {ρ : Env} {i j : Nat} (h : i ≠ j) : ∀ {s : SV}, Env.at (ρ.set i s) j = ρ.at j := by
  induction ρ generalizing i j with
  | nil => intro s; rfl
  | cons a r ih =>
    intro s
    cases i with
    | zero =>
      cases j with
      | zero => exact absurd rfl h
      | succ j => rfl
    | succ i =>
      cases j with
      | zero => rfl
      | succ j => exact ih (fun e => h (congrArg Nat.succ e))
theorem ds_look {x1 x2 x3 : Str} {S1 S2 S3 : SpD} {p1 p2 p3 p4 p5 p6 p7 p8 p9 pa pb pc pd pe pf pg ph : Pos} {kk kc : Nat} (nd : Y.N.Nodup) (c1 : CallOk Y x1 (spP K S1)) (c2 : CallOk Y x2 (spP K S2)) (c3 : CallOk Y x3 (spP K S3))
    (g1 : Gl Y x1) (g2 : Gl Y x2) (g3 : Gl Y x3) (d1 : (x1 == ("__debug__" : Str)) = false) (d2 : (x2 == ("__debug__" : Str)) = false) (d3 : (x3 == ("__debug__" : Str)) = false)
    (v0 : ∀ p, PE Y (.Name "text" p) (tVar 0)) (v1 : ∀ p, PE Y (.Name "place" p) (tVar 1)) (v3 : ∀ p, PE Y (.Name "end" p) (tVar 3)) (hN : Y.N[2]? = some ("look" : Str)) (hv : Vis Y.env.scope "look")
    (g : PG Y (.Name "look" p1) (gName 2)) (hK : Y.K = K) (hcalm : Y.calm = true) (hown : PassesOwn (model Y.prog Y.w) Y.A Y.env Y.xe)
    (s3 : starEach [.Name x1 p2, .Name x2 p3, .Name x3 p4] Y.env = (false, eval (.Name x1 p2) Y.env) :: starEach [.Name x2 p3, .Name x3 p4] Y.env) (s2 : starEach [.Name x2 p3, .Name x3 p4] Y.env = (false, eval (.Name x2 p3) Y.env) :: starEach [.Name x3 p4] Y.env) (s1 : starEach [.Name x3 p4] Y.env = (false, eval (.Name x3 p4) Y.env) :: starEach [] Y.env)
    (a2 : starEach [.Name "text" pa, .Name "place" pb] Y.env = (false, eval (.Name "text" pa) Y.env) :: starEach [.Name "place" pb] Y.env) (a1 : starEach [.Name "place" pb] Y.env = (false, eval (.Name "place" pb) Y.env) :: starEach [] Y.env)
    (hpl : ∀ (pos : Pos), (backTo pos (starEach [Expr.Name "place" pb] Y.env)).any (·.1) = false)
    (hset : ∀ t, PE Y (.Call (.Name "look" p8) [.Name "text" pa, .Name "place" pb] [] pc) t → PS Y (.Assign [.Name "end" p7] (.Call (.Name "look" p8) [.Name "text" pa, .Name "place" pb] [] pc) pd) (tAsg t (gName 3)))
    (htst : PT Y (.Compare (.Name "end" p5) [.IsNot] [.Constant .none kc p6] p9) (tTest (tOp (fun x y H Q => y = .non ∧ Q (.bl (!decide (x = .non))) H) (tVar 3) (tC .non)))) :
    DS Y K (.For (.Name "look" p1) (.Tuple [.Name x1 p2, .Name x2 p3, .Name x3 p4] kk pe)
      [.Assign [.Name "end" p7] (.Call (.Name "look" p8) [.Name "text" pa, .Name "place" pb] [] pc) pd, .If (.Compare (.Name "end" p5) [.IsNot] [.Constant .none kc p6] p9) [.Return (some (.Name "end" pf)) pg] [] ph] [] pos) (wLook [S1, S2, S3]) := by
  obtain ⟨k1, f1, fd1, ps1, F1, r1, m1, q1, b1⟩ := c1
  obtain ⟨k2, f2, fd2, ps2, F2, r2, m2, q2, b2⟩ := c2
  obtain ⟨k3, f3, fd3, ps3, F3, r3, m3, q3, b3⟩ := c3
  have h1 : HeldP Y K f1 S1 := ⟨k1, fd1, ps1, F1, r1, q1, b1⟩
  have h2 : HeldP Y K f2 S2 := ⟨k2, fd2, ps2, F2, r2, q2, b2⟩
  have h3 : HeldP Y K f3 S3 := ⟨k3, fd3, ps3, F3, r3, q3, b3⟩
  have tl : PE Y (.Tuple [.Name x1 p2, .Name x2 p3, .Name x3 p4] kk pe) (tTup (tCons (tC (.ref f1)) (tCons (tC (.ref f2)) (tCons (tC (.ref f3)) tNil)))) :=
    pe_tup (pa_cons (pe_glob g1 m1 rfl d1) (pa_cons (pe_glob g2 m2 rfl d2) (pa_cons (pe_glob g3 m3 rfl d3) pa_nil s1) s2) s3)
  have body : PSs Y [.Assign [.Name "end" p7] (.Call (.Name "look" p8) [.Name "text" pa, .Name "place" pb] [] pc) pd, .If (.Compare (.Name "end" p5) [.IsNot] [.Constant .none kc p6] p9) [.Return (some (.Name "end" pf)) pg] [] ph]
      (tSeq (tAsg (tCallH Y K 2 (tCons (tVar 0) (tCons (tVar 1) tNil))) (gName 3)) (tIfS (tTest (tOp (fun x y H Q => y = .non ∧ Q (.bl (!decide (x = .non))) H) (tVar 3) (tC .non))) (tRet (tVar 3)) tNext)) :=
    pss_cons (hset _ (pe_callH hN hv (pa_cons (v0 _) (pa_cons (v1 _) pa_nil a1) a2) (he := a2) (hpl := hpl _))) (pss_one (ps_if htst (pss_one (ps_ret (v3 _))) pss_nil))
  refine ⟨_, ps_for hown hcalm (pi_any tl) g body, fun M0 M B σ H ρ E D Ev w F => ?_⟩
  refine ⟨by show 3 ≤ sizeLine; decide, fun p np => .inr (.inl ⟨p, rfl, ⟨_, SqT.of upd_same⟩, ?_⟩)⟩
  have sm : Same H (upd H p (.tup [.ref f1, .ref f2, .ref f3])) := same_new np
  have E1 := Ev.same sm
  have F1' := F.go (Ext.same sm)
  have hpM : p ∉ M := Ev.fresh np
  let fs : List (Addr × SpD) := [(f1, S1), (f2, S2), (f3, S3)]
  have hfs : ∀ q, q ∈ fs → HeldP Y K q.1 q.2 := by
    intro q hq
    rcases List.mem_cons.mp hq with e | hq
    · rw [e]; exact h1
    rcases List.mem_cons.mp hq with e | hq
    · rw [e]; exact h2
    rcases List.mem_cons.mp hq with e | hq
    · rw [e]; exact h3
    · cases hq
  have exs : ([.ref f1, .ref f2, .ref f3] : List V) = fs.map fun q => .ref q.1 := rfl
  rw [exs]
  refine ⟨fun n m σ2 H2 => m = 3 - n ∧ ∃ (ρ2 : Env) (M2 B2 : List Addr), n ≤ 3 ∧ wLook ((fs.drop n).map Prod.snd) E ρ2 ∧ Ext M B (upd H p (.tup (fs.map fun q => .ref q.1))) M2 B2 H2 ∧ EnvOk K M0 M2 B2 H2 σ2 ρ2 ∧ H2 p = some (.tup (fs.map fun q => .ref q.1)), ⟨_, rfl, ρ, M, B, Nat.zero_le _, w, Ext.refl .., E1, upd_same⟩, ?_⟩
  rintro n m σ2 H2 ⟨rfl, ρ2, M2, B2, hn, w2, x2, E2, hp2⟩
  have hT : SqT K H2 p (fs.map fun q => .ref q.1) := SqT.of hp2
  by_cases hlt : n < 3
  · right
    obtain ⟨q, hq⟩ : ∃ q, fs[n]? = some q := ⟨fs[n]'hlt, List.getElem?_eq_getElem hlt⟩
    have hdr : fs.drop n = q :: fs.drop (n + 1) := by
      rw [List.drop_eq_getElem_cons hlt]
      congr 1
      rw [List.getElem?_eq_getElem hlt] at hq
      exact Option.some.inj hq
    rw [hdr, List.map_cons] at w2
    have hh := hfs q (List.mem_of_getElem? hq)
    obtain ⟨hl3, x, y, hx, hy, w2⟩ := w2
    obtain ⟨vx, sx, rx⟩ := E2.val hx
    obtain ⟨vy, sy, ry⟩ := E2.val hy
    have hgo : ((fs.map fun q => V.ref q.1))[n]? = some (.ref q.1) := by rw [List.getElem?_map, hq]; rfl
    refine ⟨by rw [hK]; exact ⟨_, _, hT, hgo⟩, fun σ' H' => ∃ (ρ3 : Env) (M3 B3 : List Addr), wLook ((fs.drop (n + 1)).map Prod.snd) E ρ3 ∧ Ext M B (upd H p (.tup (fs.map fun q => .ref q.1))) M3 B3 H' ∧ EnvOk K M0 M3 B3 H' σ' ρ3 ∧ H' p = some (.tup (fs.map fun q => .ref q.1)), fun σ' H' ⟨ρ3, M3, B3, a1, a2, a3, a4⟩ => ⟨3 - (n + 1), by omega, rfl, ρ3, M3, B3, hlt, a1, a2, a3, a4⟩, fun z H3 hy' => ?_⟩
    rw [hK] at hy'
    obtain ⟨rfl, hz⟩ := hy'
    have ez := hz _ hT
    rw [hgo] at ez
    cases ez
    have E3 := E2.forget 2 (some (.ref q.1))
    have n02 : (2 : Nat) ≠ 0 := by decide
    have n12 : (2 : Nat) ≠ 1 := by decide
    have l2 : 2 < σ2.length := by rw [E2.len]; omega
    refine ⟨q.1, q.2, get_set_eq l2, hh, ?_⟩
    refine ⟨vx, by rw [get_set_ne n02]; exact sx, vy, by rw [get_set_ne n12]; exact sy, ?_⟩
    refine ⟨M2, [x, y], _, E2.dom, .cons rx (.cons ry .nil), w2, fun d v H4 pd e4 r4 => ?_⟩
    have E4 := (E3.same e4).set 3 r4
    have l3 : 3 < (σ2.set 2 (some (V.ref q.1))).length := by rw [List.length_set, E2.len]; omega
    have hp4 : H4 p = some (.tup (fs.map fun q => .ref q.1)) := e4 _ _ hp2
    have x4 := x2.trans (Ext.same e4)
    refine ⟨v, get_set_eq l3, rfl, _, rfl, ?_⟩
    rw [rv_isN (.inl r4)]
    refine ite_of (fun e => ?_) (fun e => ?_)
    · refine ⟨v, get_set_eq l3, F1'.rt _ d v M2 B2 _ H4 (pd.1 (by simpa using e)) x4 E4 ?_⟩
      exact Dt.up (rm_sub E4.m0) r4
    · exact ⟨_, M2, B2, pd.2 (by simpa using e), x4, E4, hp4⟩
  · left
    have en : n = 3 := by omega
    subst en
    exact ⟨by rw [hK]; exact ⟨_, hT, Nat.le_refl _⟩, F1'.nx ρ2 M2 B2 σ2 H2 w2 x2 E2⟩
def qLook : List FP → FS
  | [], ρ => some (.nx ρ)
  | F :: Fs, ρ => if 3 < ρ.length then match ρ.at 0, ρ.at 1 with
      | .dat x, .dat y => (F [x, y]).bind fun d => if isN d = true then qLook Fs ((ρ.set 2 .un).set 3 (.dat d)) else some (.rt ((ρ.set 2 .un).set 3 (.dat d)) d)
      | _, _ => none
    else none
inductive fitPs : List SpD → List FP → Prop
  | nil : fitPs [] []
  | cons {S : SpD} {F : FP} {Ss : List SpD} {Fs : List FP} : fitP S F → fitPs Ss Fs → fitPs (S :: Ss) (F :: Fs)
theorem c_look : ∀ {Ss : List SpD} {Fs : List FP}, fitPs Ss Fs → cS none (wLook Ss) (qLook Fs)
  | _, _, .nil => by intro ρ fl h E e; cases h; exact e
  | _, _, .cons (S := S) (F := F) (Ss := Ss) (Fs := Fs) hs r => by
    intro ρ fl h E e
    unfold qLook at h
    split at h
    · rename_i hl
      split at h
      · rename_i x y hx hy
        simp only [Option.bind_eq_some_iff] at h
        obtain ⟨d, h1, h2⟩ := h
        refine ⟨hl, x, y, hx, hy, hs _ _ h1 _ ?_⟩
        split at h2
        · rename_i c; exact ⟨fun z => (by rw [c] at z; cases z), fun _ => c_look r _ _ h2 E e⟩
        · rename_i c; cases h2; exact ⟨fun _ => e, fun z => absurd z c⟩
      · cases h
    · cases h
end Pm
namespace Pm
open PySem PySem.Spec PyProof.Rows L2 TL PySem.Builtin PySem.Builtin.Str
/-! ### x.endswith((y, z, ..)) -/
def endsT (x : Str) (ys : List Str) : Bool := ys.any fun y => Txt.endswith x y
abbrev EndSt := Option PySem.Fin × Unit
theorem endswith_eq (x y : Str) : Txt.endswith x y = (decide (0 + y.length ≤ x.length) && subAt x y (x.length - y.length)) := rfl
theorem ends_loop {x : Str} {bd : Value → EndSt → Sem (ForInStep EndSt)} (hb : ∀ y u acc, bd (.str y u) acc = if (decide (0 + y.length ≤ x.length) && subAt x y (x.length - y.length)) = true then (ret (.bool true) >>= fun r => pure (ForInStep.done (some r, ()))) else pure (ForInStep.yield (none, ()))) :
    ∀ l : List (Str × Tok), (forIn (strValues l) ((none, ()) : EndSt) bd : Sem EndSt) = if endsT x (l.map (·.1)) = true then (ret (.bool true) >>= fun r => pure ((some r, ()) : EndSt)) else pure (none, ())
  | [] => rfl
  | p :: l => by
    show (forIn (Value.str p.1 p.2 :: strValues l) ((none, ()) : EndSt) bd : Sem EndSt) = _
    rw [List.forIn_cons, hb, ← endswith_eq]
    have e : endsT x (List.map (fun x => x.1) (p :: l)) = (Txt.endswith x p.1 || endsT x (l.map (·.1))) := rfl
    rw [e]
    cases h : Txt.endswith x p.1 with
    | true => rfl
    | false => exact ends_loop hb l
theorem meets_ends (x : Str) (t : Tok) (a : Addr) (l : List (Str × Tok)) :
    Meets («str.endswith» ⟨[.str x t, .ref a], []⟩) (fun _ R s => (∃ o n, s.heap.get? a = some o ∧ o.cls = .type "tuple" ∧ o.data = .seq (strValues l).toArray n) ∧ R (.ok (.ret (.bool (endsT x (l.map (·.1)))))) s) := by
  intro prog w A R s ⟨⟨o, n, ho, hc, hdata⟩, hpost⟩
  have ht : s.TypeIs (.ref a) "tuple" := ⟨o, ho, hc⟩
  unfold «str.endswith» affixEntry
  refine wpAny_bind (wpAny_of_eq (show strSomeArgs "endswith" 1 3 ⟨[.str x t, .ref a], []⟩ = pure (.str x t, x, [.ref a]) from rfl) ?_)
  refine wpAny_bind (wpAny_of_eq (searchRange_nil x.length) ?_)
  refine wpAny_bind (PySem.W.KPt.asStr_ref ho hdata ?_)
  refine wpAny_bind (wpAny_isInstance ht (b := true) (by first | rfl | kernel_rfl | (rw [isSubtype_type]; kernel_rfl)) ?_)
  refine wpAny_bind (wpAny_rule ?_)
  unfold seqItems?
  refine wpAny_bind (wpAny_bind (wpAny_load ho ?_))
  rw [hdata]
  refine wpAny_pure ?_
  dsimp only
  rw [← Array.forIn_toList, ends_loop (x := x) (fun y u acc => rfl)]
  cases h : endsT x (l.map (·.1)) with
  | true => rw [h] at hpost; exact wpAny_pure hpost
  | false => rw [h] at hpost; exact wpAny_pure hpost
theorem mt_endsT {X : Cx} : MtR X "str.endswith" (fun x xs H Q => ∃ a p, ∃ ys : List Str, x = .str a ∧ xs = [.ref p] ∧ SqT X.K H p (ys.map V.str) ∧ Q (.bl (endsT a ys)) H) := by
  intro pins s σ H x xs v us Q I rx rs h
  obtain ⟨a, p, ys, rfl, rfl, hp, h⟩ := h
  obtain ⟨t, rfl⟩ := rx
  cases rs with
  | cons r1 rs =>
    cases rs
    cases r1
    obtain ⟨its, r, ht, _⟩ := I.tuple hp
    obtain ⟨l, hv, hy⟩ := strsAre_values (strs_of_vals r)
    subst hv
    subst hy
    obtain ⟨o, ho, hc, n, hd⟩ := ht
    exact call_meets F.slot_str_endswith (typeIs_str _ _ _) F.entry_str_endswith (F.args_str_endswith_2 _ _) (meets_ends a t p l) ⟨⟨o, n, ho, hc, hd⟩, ⟨.bl _, H, I, rfl, h⟩⟩
def fEndsT : FM
  | a, [.tuple ds], P => ∃ ys : List Str, ds = ys.map .str ∧ P (.bool (endsT a ys))
  | _, _, _ => False
section
variable {ι : Type} {X : ι → Cx} {K : Fr} {a e : Expr} {wo : WE} {wa : WA} {apos cpos : Pos}
theorem md_endsT : MtD K (fun x xs H Q => ∃ a p, ∃ ys : List Str, x = .str a ∧ xs = [.ref p] ∧ SqT K H p (ys.map V.str) ∧ Q (.bl (endsT a ys)) H) fEndsT := by
  intro M H x ds vs P Q dom r f k
  match ds, f with
  | [.tuple es], f =>
    obtain ⟨ys, rfl, f⟩ := f
    cases r with
    | cons r1 r =>
      cases r
      obtain ⟨p, us, rfl, h1, h2⟩ := Dt.isTup r1
      exact ⟨x, p, ys, rfl, rfl, by rw [← dt_strs h2]; exact same_t rm_le h1, k _ _ H f (Same.refl _) (.bl _)⟩
theorem de_endsT (h : DE X K a wo) (ha : DA X K [e] wa) (hK : ∀ i, (X i).K = K := by intro i; rfl)
    (hp : ∀ i t u, PE (X i) a t → PA (X i) [e] u → PE (X i) (.Call (.Attribute a "endswith" apos) [e] [] cpos) (tBM (X i).K "str" (fun x xs H Q => ∃ a p, ∃ ys : List Str, x = .str a ∧ xs = [.ref p] ∧ SqT (X i).K H p (ys.map V.str) ∧ Q (.bl (endsT a ys)) H) t u) := by intro i t u h1 h2; exact pe_bm PySem.F.plainAttrs_str PySem.F.slot_str_endswith PySem.F.type_str_endswith mt_endsT h1 h2) :
    DE X K (.Call (.Attribute a "endswith" apos) [e] [] cpos) (wM fEndsT wo wa) :=
  de_m (fun i t u h1 h2 => by rw [← hK i]; exact hp i t u h1 h2) md_endsT h ha
end
def gEndsT : GM
  | x, [.tuple ds] => (gSs ds).map fun ys => .bool (endsT x ys)
  | _, _ => none
theorem k_endst : fitM fEndsT gEndsT := by
  intro x y d h P p
  unfold gEndsT at h
  split at h
  · simp only [Option.map_eq_some_iff] at h
    obtain ⟨ys, h1, rfl⟩ := h
    exact ⟨ys, gSs_some h1, p⟩
  · cases h
end Pm
namespace Pm
open PySem PySem.Spec PyProof.Rows L2 TL
variable {Y : Cx} {K : Fr} {a b c : Expr} {pos : Pos} {o : Option Addr}
/-! ### a, b, c = e1, e2, e3 -/
def wPar3 (i j l : Nat) (wa : WA) : WS := fun E ρ => wa ρ fun ρ1 ds => ∃ x y z, ds = [x, y, z] ∧ E.nx (((ρ1.set i (.dat x)).set j (.dat y)).set l (.dat z))
theorem ds_par3 (i j l : Nat) {x y z : Str} {px py pz pt pt2 : Pos} {kt k2 : Nat} {w : WA} (nd : Y.N.Nodup) (h : DA (one Y) K [a, b, c] w)
    (hp : Y.N.Nodup → ∀ t, PA Y [a, b, c] t → PS Y (.Assign [.Tuple [.Name x px, .Name y py, .Name z pz] kt pt] (.Tuple [a, b, c] k2 pt2) pos) (tPar3 i j l t) := by intro nd t h; exact ps_par3 (by rfl) nd rfl rfl rfl (by decide) (by decide) (by decide) rfl rfl rfl h (by rfl)) :
    DS Y K (.Assign [.Tuple [.Name x px, .Name y py, .Name z pz] kt pt] (.Tuple [a, b, c] k2 pt2) pos) (wPar3 i j l w) := by
  obtain ⟨t, a1, a2⟩ := h
  refine ⟨tPar3 i j l t, hp nd t (a1 ()), fun M0 M B σ H ρ E D Ev h F => ?_⟩
  refine a2 M0 M B σ H ρ _ _ Ev h fun ρ1 ds vs H1 w1 x1 E1 r1 => ?_
  obtain ⟨x, y, z, rfl, w1⟩ := w1
  cases r1 with
  | cons q1 q2 =>
    cases q2 with
    | cons q2 q3 =>
      cases q3 with
      | cons q3 q4 =>
        cases q4
        exact ⟨_, _, _, rfl, F.nx _ M B _ H1 w1 x1 (((E1.set i q1).set j q2).set l q3)⟩
def qPar3 (i j l : Nat) (a : FA) : FS := fun ρ => (a ρ).bind fun r => match r.2 with
  | [x, y, z] => some (.nx (((r.1.set i (.dat x)).set j (.dat y)).set l (.dat z)))
  | _ => none
theorem c_par3 {i j l : Nat} {w : WA} {a : FA} (ha : cA o w a) : cS o (wPar3 i j l w) (qPar3 i j l a) := by
  intro ρ fl h E e
  simp only [qPar3, Option.bind_eq_some_iff] at h
  obtain ⟨r, h1, h2⟩ := h
  refine ha ρ r h1 _ ?_
  split at h2
  · rename_i x y z hx
    cases h2
    refine ⟨x, y, z, hx, ?_⟩
    rw [emb_dset, emb_dset, emb_dset]; exact e
  · cases h2
/-! ### a, b = [], n -/
def wParN (i j : Nat) (d : PyData) : WS := fun E ρ => E.nx ((ρ.set i (.own [])).set j (.dat d))
theorem ds_parN (i j : Nat) {n : Int} {x y : Str} {px py pt pt2 pl pc : Pos} {kt k2 kc : Nat} (nd : Y.N.Nodup)
    (hp : Y.N.Nodup → ∀ t, PA Y [.List [] pl, .Constant (.int n) kc pc] t → PS Y (.Assign [.Tuple [.Name x px, .Name y py] kt pt] (.Tuple [.List [] pl, .Constant (.int n) kc pc] k2 pt2) pos) (tPar i j t) := by intro nd t h; exact ps_par (by rfl) nd rfl rfl (by decide) rfl rfl h (by rfl))
    (he : starEach [.List [] pl, .Constant (.int n) kc pc] Y.env = (false, eval (.List [] pl) Y.env) :: starEach [.Constant (.int n) kc pc] Y.env := by rfl) (he2 : starEach [.Constant (.int n) kc pc] Y.env = (false, eval (.Constant (.int n) kc pc) Y.env) :: starEach [] Y.env := by rfl) :
    DS Y K (.Assign [.Tuple [.Name x px, .Name y py] kt pt] (.Tuple [.List [] pl, .Constant (.int n) kc pc] k2 pt2) pos) (wParN i j (.int n)) := by
  refine ⟨tPar i j (tCons (tLst tNil) (tCons (tC (.int n)) tNil)), hp nd _ (pa_cons (pe_lst pa_nil) (pa_cons pe_int pa_nil he2) he), fun M0 M B σ H ρ E D Ev h F => ?_⟩
  refine ⟨by show 0 ≤ sizeLine; exact Nat.zero_le _, fun p np => ⟨_, _, rfl, ?_⟩⟩
  obtain ⟨E1, x1⟩ := Ev.take i np (same_new np) upd_same (ds := []) .nil
  exact F.nx _ (p :: M) (p :: B) _ _ h x1 (E1.set j (.int n))
def qParN (i j : Nat) (d : PyData) : FS := fun ρ => some (.nx ((ρ.set i (.own [])).set j (.dat d)))
theorem c_parN {i j : Nat} {d : PyData} (hi : o = none ∨ i ≠ 0) : cS o (wParN i j d) (qParN i j d) := by
  intro ρ fl h E e
  cases h
  show E.nx (((emb o ρ).set i (.own [])).set j (.dat d))
  rw [emb_new hi, emb_dset]; exact e
end Pm
/-! Reckoning with the function layer by rewriting: what goes on behind a value is a named function that waits for it. -/
namespace Pm
open PySem PySem.Spec PyProof.Rows L2 TL
section
variable {α β γ : Type}
def bnd (k : α → Option β) (x : Option α) : Option β := x.bind k
theorem bnd_some {k : α → Option β} {x : α} : bnd k (some x) = k x := rfl
theorem bnd_none {k : α → Option β} : bnd k none = none := rfl
theorem bnd_ite {k : α → Option β} {c : Prop} [Decidable c] {x y : Option α} : bnd k (if c then x else y) = if c then bnd k x else bnd k y := by split <;> rfl
theorem bnd_eq {k : α → Option β} {x : Option α} {y : α} (h : x = some y) : bnd k x = k y := by rw [h]; rfl
end
variable {ρ : Env} {d x y : PyData} {i j l n : Nat} {a b c : FE} {f : FA} {t u : FT} {g g' : G2} {g1 : G1} {gm : GM} {F : FP} {W : FW} {N : FN} {p q : FS} {lo hi : FO} {G : FG} {Gs : FGs}
def kPut (ρ : Env) (d : PyData) : Option (Env × PyData) := some (ρ, d)
theorem kput : kPut ρ d = some (ρ, d) := rfl
def kOp2 (g : G2) (x : PyData) (s : Env × PyData) : Option (Env × PyData) := bnd (kPut s.1) (g x s.2)
def kOp1 (g : G2) (b : FE) (r : Env × PyData) : Option (Env × PyData) := bnd (kOp2 g r.2) (b r.1)
theorem e_op : qOp g a b ρ = bnd (kOp1 g b) (a ρ) := rfl
theorem kop1 : kOp1 g b (ρ, x) = bnd (kOp2 g x) (b ρ) := rfl
theorem kop2 : kOp2 g x (ρ, y) = bnd (kPut ρ) (g x y) := rfl
def kVar (ρ : Env) : SV → Option (Env × PyData)
  | .dat d => some (ρ, d)
  | _ => none
theorem e_v : qVar i ρ = kVar ρ (ρ.at i) := rfl
theorem kvar : kVar ρ (.dat d) = some (ρ, d) := rfl
def kOwn (ρ : Env) : Option (List PyData) → Option (Env × PyData)
  | some ds => some (ρ, .list ds)
  | none => none
theorem e_own : qOwn i ρ = kOwn ρ (ρ.at i).items := rfl
theorem kown {ds : List PyData} : kOwn ρ (some ds) = some (ρ, .list ds) := rfl
theorem e_c : qC d ρ = some (ρ, d) := rfl
def kOpO2 (g : G2) (s : Env × PyData) (ds : List PyData) : Option (Env × PyData) := bnd (kPut s.1) (g (.list ds) s.2)
def kOpO1 (g : G2) (j : Nat) (s : Env × PyData) : Option (Env × PyData) := bnd (kOpO2 g s) (s.1.at j).items
def kOpO (g : G2) (b : FE) (j : Nat) (ρ : Env) (_ : List PyData) : Option (Env × PyData) := bnd (kOpO1 g j) (b ρ)
theorem e_opO : qOpO g j b ρ = bnd (kOpO g b j ρ) (ρ.at j).items := rfl
theorem kopO {ds : List PyData} : kOpO g b j ρ ds = bnd (kOpO1 g j) (b ρ) := rfl
theorem kopO1 : kOpO1 g j (ρ, x) = bnd (kOpO2 g (ρ, x)) (ρ.at j).items := rfl
theorem kopO2 {ds : List PyData} : kOpO2 g (ρ, x) ds = bnd (kPut ρ) (g (.list ds) x) := rfl
def kU (g : G1) (r : Env × PyData) : Option (Env × PyData) := bnd (kPut r.1) (g r.2)
theorem e_u : qU g1 a ρ = bnd (kU g1) (a ρ) := rfl
theorem ku : kU g1 (ρ, x) = bnd (kPut ρ) (g1 x) := rfl
theorem e_nil : qNil ρ = some (ρ, []) := rfl
def kCons2 (x : PyData) (s : Env × List PyData) : Option (Env × List PyData) := some (s.1, x :: s.2)
def kCons1 (f : FA) (r : Env × PyData) : Option (Env × List PyData) := bnd (kCons2 r.2) (f r.1)
theorem e_cons : qCons a f ρ = bnd (kCons1 f) (a ρ) := rfl
theorem kcons1 : kCons1 f (ρ, x) = bnd (kCons2 x) (f ρ) := rfl
theorem kcons2 {ds : List PyData} : kCons2 x (ρ, ds) = some (ρ, x :: ds) := rfl
def kTup (r : Env × List PyData) : Option (Env × PyData) := if r.2.length ≤ 16777216 then some (r.1, .tuple r.2) else none
def kLst (r : Env × List PyData) : Option (Env × PyData) := if r.2.length ≤ 16777216 then some (r.1, .list r.2) else none
theorem e_tup : qTup f ρ = bnd kTup (f ρ) := rfl
theorem e_lst : qLst f ρ = bnd kLst (f ρ) := rfl
theorem ktup {ds : List PyData} : kTup (ρ, ds) = if ds.length ≤ 16777216 then some (ρ, .tuple ds) else none := rfl
theorem klst {ds : List PyData} : kLst (ρ, ds) = if ds.length ≤ 16777216 then some (ρ, .list ds) else none := rfl
def kTst (r : Env × PyData) : Option (Env × Bool) := match r.2 with
  | .bool b => some (r.1, b)
  | _ => none
theorem e_tst : qTst a ρ = bnd kTst (a ρ) := by
  unfold qTst bnd kTst
  congr 1
  funext r
  cases r.2 <;> rfl
theorem ktst {z : Bool} : kTst (ρ, .bool z) = some (ρ, z) := rfl
def kAnd (u : FT) (r : Env × Bool) : Option (Env × Bool) := if r.2 = true then u r.1 else some (r.1, false)
def kOr (u : FT) (r : Env × Bool) : Option (Env × Bool) := if r.2 = true then some (r.1, true) else u r.1
def kNot (r : Env × Bool) : Option (Env × Bool) := some (r.1, !r.2)
theorem e_and : qAnd t u ρ = bnd (kAnd u) (t ρ) := rfl
theorem e_or : qOr t u ρ = bnd (kOr u) (t ρ) := rfl
theorem e_not : qNot t ρ = bnd kNot (t ρ) := rfl
theorem kand {z : Bool} : kAnd u (ρ, z) = if z = true then u ρ else some (ρ, false) := rfl
theorem kor {z : Bool} : kOr u (ρ, z) = if z = true then some (ρ, true) else u ρ := rfl
theorem knot {z : Bool} : kNot (ρ, z) = some (ρ, !z) := rfl
theorem e_yes : qYes ρ = some (ρ, true) := rfl
def kIte (a b : FE) (r : Env × Bool) : Option (Env × PyData) := if r.2 = true then a r.1 else b r.1
theorem e_ite : qIte t a b ρ = bnd (kIte a b) (t ρ) := rfl
theorem kite {z : Bool} : kIte a b (ρ, z) = if z = true then a ρ else b ρ := rfl
def kAndV (b : FE) (r : Env × PyData) : Option (Env × PyData) := (gB r.2).bind fun c => if c = true then b r.1 else some (r.1, .bool false)
def kOrV (b : FE) (r : Env × PyData) : Option (Env × PyData) := (gB r.2).bind fun c => if c = true then some (r.1, .bool true) else b r.1
def kNotV (r : Env × PyData) : Option (Env × PyData) := (gB r.2).bind fun c => some (r.1, .bool (!c))
theorem e_andV : qAndV a b ρ = bnd (kAndV b) (a ρ) := rfl
theorem e_orV : qOrV a b ρ = bnd (kOrV b) (a ρ) := rfl
theorem e_notV : qNotV a ρ = bnd kNotV (a ρ) := rfl
theorem kandV {z : Bool} : kAndV b (ρ, .bool z) = if z = true then b ρ else some (ρ, .bool false) := rfl
theorem korV {z : Bool} : kOrV b (ρ, .bool z) = if z = true then some (ρ, .bool true) else b ρ := rfl
theorem knotV {z : Bool} : kNotV (ρ, .bool z) = some (ρ, .bool (!z)) := rfl
def kCh4 (g : G2) (y : PyData) (r : Env × PyData) : Option (Env × PyData) := bnd (kPut r.1) (g y r.2)
def kCh3 (g : G2) (c : FE) (ρ : Env) (y z : PyData) : Option (Env × PyData) := (gB z).bind fun k => if k = true then bnd (kCh4 g y) (c ρ) else some (ρ, .bool false)
def kCh2 (f g : G2) (c : FE) (x : PyData) (s : Env × PyData) : Option (Env × PyData) := bnd (kCh3 g c s.1 s.2) (f x s.2)
def kCh1 (f g : G2) (b c : FE) (r : Env × PyData) : Option (Env × PyData) := bnd (kCh2 f g c r.2) (b r.1)
theorem e_chain : qChain g g' a b c ρ = bnd (kCh1 g g' b c) (a ρ) := rfl
theorem kch1 : kCh1 g g' b c (ρ, x) = bnd (kCh2 g g' c x) (b ρ) := rfl
theorem kch2 : kCh2 g g' c x (ρ, y) = bnd (kCh3 g' c ρ y) (g x y) := rfl
theorem kch3 {z : Bool} : kCh3 g c ρ y (.bool z) = if z = true then bnd (kCh4 g y) (c ρ) else some (ρ, .bool false) := rfl
theorem kch4 : kCh4 g y (ρ, x) = bnd (kPut ρ) (g y x) := rfl
theorem e_no : qNo ρ = some (ρ, none) := rfl
def kSo (r : Env × PyData) : Option (Env × Option Int) := (gI r.2).bind fun i => some (r.1, some i)
theorem e_so : qSo a ρ = bnd kSo (a ρ) := rfl
theorem kso {z : Int} : kSo (ρ, .int z) = some (ρ, some z) := rfl
def kSl3 (x : PyData) (lo : Option Int) (r : Env × Option Int) : Option (Env × PyData) := bnd (kPut r.1) (gSl x lo r.2)
def kSl2 (h : FO) (x : PyData) (r : Env × Option Int) : Option (Env × PyData) := bnd (kSl3 x r.2) (h r.1)
def kSl1 (l h : FO) (r : Env × PyData) : Option (Env × PyData) := bnd (kSl2 h r.2) (l r.1)
theorem e_sl : qSl a lo hi ρ = bnd (kSl1 lo hi) (a ρ) := rfl
theorem ksl1 : kSl1 lo hi (ρ, x) = bnd (kSl2 hi x) (lo ρ) := rfl
theorem ksl2 {z : Option Int} : kSl2 hi x (ρ, z) = bnd (kSl3 x z) (hi ρ) := rfl
theorem ksl3 {z z' : Option Int} : kSl3 x z (ρ, z') = bnd (kPut ρ) (gSl x z z') := rfl
def kSlO3 (ρ : Env) (lo hi : Option Int) (ds : List PyData) : Option (Env × PyData) := some (ρ, .list (cutD ds lo hi))
def kSlO2 (j : Nat) (lo : Option Int) (r : Env × Option Int) : Option (Env × PyData) := bnd (kSlO3 r.1 lo r.2) (r.1.at j).items
def kSlO1 (h : FO) (j : Nat) (r : Env × Option Int) : Option (Env × PyData) := bnd (kSlO2 j r.2) (h r.1)
def kSlO (l h : FO) (j : Nat) (ρ : Env) (_ : List PyData) : Option (Env × PyData) := bnd (kSlO1 h j) (l ρ)
theorem e_slO : qSlO j lo hi ρ = bnd (kSlO lo hi j ρ) (ρ.at j).items := rfl
theorem kslO {ds : List PyData} : kSlO lo hi j ρ ds = bnd (kSlO1 hi j) (lo ρ) := rfl
theorem kslO1 {z : Option Int} : kSlO1 hi j (ρ, z) = bnd (kSlO2 j z) (hi ρ) := rfl
theorem kslO2 {z z' : Option Int} : kSlO2 j z (ρ, z') = bnd (kSlO3 ρ z z') (ρ.at j).items := rfl
theorem kslO3 {z z' : Option Int} {ds : List PyData} : kSlO3 ρ z z' ds = some (ρ, .list (cutD ds z z')) := rfl
def kM3 (g : GM) (s : Str) (r : Env × List PyData) : Option (Env × PyData) := bnd (kPut r.1) (g s r.2)
def kM1 (g : GM) (f : FA) (r : Env × PyData) : Option (Env × PyData) := (gS r.2).bind fun s => bnd (kM3 g s) (f r.1)
theorem e_m : qM gm a f ρ = bnd (kM1 gm f) (a ρ) := rfl
theorem km1 {s : Str} : kM1 gm f (ρ, .str s) = bnd (kM3 gm s) (f ρ) := rfl
theorem km3 {s : Str} {ds : List PyData} : kM3 gm s (ρ, ds) = bnd (kPut ρ) (gm s ds) := rfl
def kJ2 (s : Str) (r : Env × PyData) : Option (Env × PyData) := bnd (kPut r.1) (gJoin s r.2)
def kJ1 (b : FE) (r : Env × PyData) : Option (Env × PyData) := (gS r.2).bind fun s => bnd (kJ2 s) (b r.1)
theorem e_join : qJoin a b ρ = bnd (kJ1 b) (a ρ) := rfl
theorem kj1 {s : Str} : kJ1 b (ρ, .str s) = bnd (kJ2 s) (b ρ) := rfl
theorem kj2 {s : Str} : kJ2 s (ρ, x) = bnd (kPut ρ) (gJoin s x) := rfl
def kCall (F : FP) (r : Env × List PyData) : Option (Env × PyData) := bnd (kPut r.1) (F r.2)
theorem e_call : qCall F f ρ = bnd (kCall F) (f ρ) := rfl
theorem kcall {ds : List PyData} : kCall F (ρ, ds) = bnd (kPut ρ) (F ds) := rfl
def kCW3 (j : Nat) (ρ : Env) (s : List PyData × PyData) : Option (Env × PyData) := some (ρ.set j ((ρ.at j).put s.1), s.2)
def kCW2 (W : FW) (j : Nat) (r : Env × List PyData) (ws : List PyData) : Option (Env × PyData) := bnd (kCW3 j r.1) (W ws r.2)
def kCW1 (W : FW) (j : Nat) (r : Env × List PyData) : Option (Env × PyData) := bnd (kCW2 W j r) (r.1.at j).items
def kCW (W : FW) (j : Nat) (f : FA) (ρ : Env) (_ : List PyData) : Option (Env × PyData) := bnd (kCW1 W j) (f ρ)
theorem e_callW : qCallW W j f ρ = bnd (kCW W j f ρ) (ρ.at j).items := rfl
theorem kcw {ds : List PyData} : kCW W j f ρ ds = bnd (kCW1 W j) (f ρ) := rfl
theorem kcw1 {ds : List PyData} : kCW1 W j (ρ, ds) = bnd (kCW2 W j (ρ, ds)) (ρ.at j).items := rfl
theorem kcw2 {ds ws : List PyData} : kCW2 W j (ρ, ds) ws = bnd (kCW3 j ρ) (W ws ds) := rfl
theorem kcw3 {ws : List PyData} : kCW3 j ρ (ws, x) = some (ρ.set j ((ρ.at j).put ws), x) := rfl
def kIsi (T : Ty) (r : Env × PyData) : Option (Env × PyData) := some (r.1, .bool (isiD T r.2))
theorem e_isi {T : Ty} : qIsi T a ρ = bnd (kIsi T) (a ρ) := rfl
theorem kisi {T : Ty} : kIsi T (ρ, x) = some (ρ, .bool (isiD T x)) := rfl
def kIsi2 (T U : Ty) (r : Env × PyData) : Option (Env × PyData) := some (r.1, .bool (isiD T r.2 || isiD U r.2))
theorem e_isi2 {T U : Ty} : qIsi2 T U a ρ = bnd (kIsi2 T U) (a ρ) := rfl
theorem kisi2 {T U : Ty} : kIsi2 T U (ρ, x) = some (ρ, .bool (isiD T x || isiD U x)) := rfl
def kItm (ρ : Env) (ds : List PyData) : Option (Env × List PyData) := some (ρ, ds)
theorem kitm {ds : List PyData} : kItm ρ ds = some (ρ, ds) := rfl
def kSeqI (r : Env × PyData) : Option (Env × List PyData) := bnd (kItm r.1) (gSeq r.2)
def kEnum (r : Env × PyData) : Option (Env × List PyData) := bnd (kItm r.1) (gEnum r.2)
theorem e_seqI : qSeqI a ρ = bnd kSeqI (a ρ) := rfl
theorem e_enum : qEnum a ρ = bnd kEnum (a ρ) := rfl
theorem kseqI : kSeqI (ρ, x) = bnd (kItm ρ) (gSeq x) := rfl
theorem kenum : kEnum (ρ, x) = bnd (kItm ρ) (gEnum x) := rfl
def kZip2 (x : PyData) (s : Env × PyData) : Option (Env × List PyData) := bnd (kItm s.1) (gZip x s.2)
def kZip1 (b : FE) (r : Env × PyData) : Option (Env × List PyData) := bnd (kZip2 r.2) (b r.1)
theorem e_zip : qZip a b ρ = bnd (kZip1 b) (a ρ) := rfl
theorem kzip1 : kZip1 b (ρ, x) = bnd (kZip2 x) (b ρ) := rfl
theorem kzip2 : kZip2 x (ρ, y) = bnd (kItm ρ) (gZip x y) := rfl
def kR1 (r : Env × List PyData) : Option (Env × List PyData) := bnd (kItm r.1) (gRange1 r.2)
def kR2 (r : Env × List PyData) : Option (Env × List PyData) := bnd (kItm r.1) (gRange2 r.2)
def kDn (r : Env × List PyData) : Option (Env × List PyData) := bnd (kItm r.1) (gDown r.2)
theorem e_range1 : qRange1 f ρ = bnd kR1 (f ρ) := rfl
theorem e_range2 : qRange2 f ρ = bnd kR2 (f ρ) := rfl
theorem e_down : qDown f ρ = bnd kDn (f ρ) := rfl
theorem kr1 {ds : List PyData} : kR1 (ρ, ds) = bnd (kItm ρ) (gRange1 ds) := rfl
theorem kr2 {ds : List PyData} : kR2 (ρ, ds) = bnd (kItm ρ) (gRange2 ds) := rfl
theorem kdn {ds : List PyData} : kDn (ρ, ds) = bnd (kItm ρ) (gDown ds) := rfl
def kLc2 (s : Env × List PyData) : Option (Env × PyData) := some (s.1, .list s.2)
def kLc1 (i : Nat) (t : FT) (e : FE) (r : Env × List PyData) : Option (Env × PyData) := bnd kLc2 (lcQ i t e r.2 (r.1.set i .un) [])
theorem e_lc : qLc i f t a ρ = bnd (kLc1 i t a) (f ρ) := rfl
theorem klc1 {ds : List PyData} : kLc1 i t a (ρ, ds) = bnd kLc2 (lcQ i t a ds (ρ.set i .un) []) := rfl
theorem klc2 {ds : List PyData} : kLc2 (ρ, ds) = some (ρ, .list ds) := rfl
def kLcB (i j : Nat) (e : FE) (r : Env × List PyData) : Option (Env × PyData) := bnd kLc2 (lcQ2 i j e r.2 ((r.1.set i .un).set j .un) [])
theorem e_lc2 : qLc2 i j f a ρ = bnd (kLcB i j a) (f ρ) := rfl
theorem klcB {ds : List PyData} : kLcB i j a (ρ, ds) = bnd kLc2 (lcQ2 i j a ds ((ρ.set i .un).set j .un) []) := rfl
/-! statements -/
def kSeq (q : FS) (fl : Fl) : Option Fl := match fl with
  | .nx ρ1 => q ρ1
  | fl => some fl
theorem e_seq : qSeq p q ρ = bnd (kSeq q) (p ρ) := rfl
theorem kseq : kSeq q (.nx ρ) = q ρ := rfl
theorem kseq_rt : kSeq q (.rt ρ d) = some (.rt ρ d) := rfl
theorem kseq_bk : kSeq q (.bk ρ) = some (.bk ρ) := rfl
theorem kseq_ct : kSeq q (.ct ρ) = some (.ct ρ) := rfl
def kRet (r : Env × PyData) : Option Fl := some (.rt r.1 r.2)
theorem e_ret : qRet a ρ = bnd kRet (a ρ) := rfl
theorem kret : kRet (ρ, x) = some (.rt ρ x) := rfl
def kRetO (ρ : Env) (ds : List PyData) : Option Fl := some (.rt ρ (.list ds))
theorem e_retO : qRetO j ρ = bnd (kRetO ρ) (gOwn (ρ.at j)) := rfl
theorem kretO {ds : List PyData} : kRetO ρ ds = some (.rt ρ (.list ds)) := rfl
def kIf (p q : FS) (r : Env × Bool) : Option Fl := if r.2 = true then p r.1 else q r.1
theorem e_if : qIf t p q ρ = bnd (kIf p q) (t ρ) := rfl
theorem kif {z : Bool} : kIf p q (ρ, z) = if z = true then p ρ else q ρ := rfl
def kSet (i : Nat) (r : Env × PyData) : Option Fl := some (.nx (r.1.set i (.dat r.2)))
theorem e_set : qSet i a ρ = bnd (kSet i) (a ρ) := rfl
theorem kset : kSet i (ρ, x) = some (.nx (ρ.set i (.dat x))) := rfl
def kSetF2 (i : Nat) (ρ : Env) (es : List PyData) : Option Fl := some (.nx (ρ.set i (.own es)))
def kSetF (i : Nat) (N : FN) (r : Env × List PyData) : Option Fl := bnd (kSetF2 i r.1) (N r.2)
theorem e_setF : qSetF i N f ρ = bnd (kSetF i N) (f ρ) := rfl
theorem ksetF {ds : List PyData} : kSetF i N (ρ, ds) = bnd (kSetF2 i ρ) (N ds) := rfl
theorem ksetF2 {ds : List PyData} : kSetF2 i ρ ds = some (.nx (ρ.set i (.own ds))) := rfl
def kApp2 (j : Nat) (r : Env × PyData) (ds : List PyData) : Option Fl := if ds.length < 16777216 then some (.nx (r.1.set j ((r.1.at j).put (ds ++ [r.2])))) else none
def kApp1 (j : Nat) (r : Env × PyData) : Option Fl := bnd (kApp2 j r) (r.1.at j).items
def kApp (j : Nat) (a : FE) (ρ : Env) (_ : List PyData) : Option Fl := bnd (kApp1 j) (a ρ)
theorem e_app : qApp j a ρ = bnd (kApp j a ρ) (ρ.at j).items := rfl
theorem kapp {ds : List PyData} : kApp j a ρ ds = bnd (kApp1 j) (a ρ) := rfl
theorem kapp1 : kApp1 j (ρ, x) = bnd (kApp2 j (ρ, x)) (ρ.at j).items := rfl
theorem kapp2 {ds : List PyData} : kApp2 j (ρ, x) ds = if ds.length < 16777216 then some (.nx (ρ.set j ((ρ.at j).put (ds ++ [x])))) else none := rfl
def kPt4 (j : Nat) (ρ : Env) (x : PyData) (ds : List PyData) (m : Nat) : Option Fl := some (.nx (ρ.set j ((ρ.at j).put (ds.set m x))))
def kPt3 (j : Nat) (x : PyData) (s : Env × PyData) (ds : List PyData) : Option Fl := (gI s.2).bind fun n => bnd (kPt4 j s.1 x ds) (ixN ds.length n)
def kPt2 (j : Nat) (x : PyData) (s : Env × PyData) : Option Fl := bnd (kPt3 j x s) (s.1.at j).items
def kPt1 (j : Nat) (k : FE) (r : Env × PyData) (_ : List PyData) : Option Fl := bnd (kPt2 j r.2) (k r.1)
def kPt (j : Nat) (k : FE) (r : Env × PyData) : Option Fl := bnd (kPt1 j k r) (r.1.at j).items
theorem e_put : qPut j a b ρ = bnd (kPt j b) (a ρ) := rfl
theorem kpt : kPt j b (ρ, x) = bnd (kPt1 j b (ρ, x)) (ρ.at j).items := rfl
theorem kpt1 {ds : List PyData} : kPt1 j b (ρ, x) ds = bnd (kPt2 j x) (b ρ) := rfl
theorem kpt2 : kPt2 j x (ρ, y) = bnd (kPt3 j x (ρ, y)) (ρ.at j).items := rfl
theorem kpt3 {ds : List PyData} {m : Int} : kPt3 j x (ρ, .int m) ds = bnd (kPt4 j ρ x ds) (ixN ds.length m) := rfl
theorem kpt4 {ds : List PyData} {m : Nat} : kPt4 j ρ x ds m = some (.nx (ρ.set j ((ρ.at j).put (ds.set m x)))) := rfl
def kNx (ρ : Env) : Option Fl := some (.nx ρ)
theorem knx : kNx ρ = some (.nx ρ) := rfl
def kAsg (G : FG) (r : Env × PyData) : Option Fl := bnd kNx (G r.2 r.1)
theorem e_asg : qAsg a G ρ = bnd (kAsg G) (a ρ) := rfl
theorem kasg : kAsg G (ρ, x) = bnd kNx (G x ρ) := rfl
theorem e_n : qN i x ρ = some (ρ.set i (.dat x)) := rfl
theorem e_gnil : qGNil [] ρ = some ρ := rfl
theorem e_gcons {ds : List PyData} : qGCons G Gs (x :: ds) ρ = bnd (Gs ds) (G x ρ) := rfl
theorem e_t {ds : List PyData} : qT n Gs (.tuple ds) ρ = if ds.length = n then Gs ds ρ else none := rfl
def kPar (i j : Nat) (r : Env × List PyData) : Option Fl := match r.2 with
  | [x, y] => some (.nx ((r.1.set i (.dat x)).set j (.dat y)))
  | _ => none
theorem e_par : qPar i j f ρ = bnd (kPar i j) (f ρ) := rfl
theorem kpar : kPar i j (ρ, [x, y]) = some (.nx ((ρ.set i (.dat x)).set j (.dat y))) := rfl
def kPar3 (i j l : Nat) (r : Env × List PyData) : Option Fl := match r.2 with
  | [x, y, z] => some (.nx (((r.1.set i (.dat x)).set j (.dat y)).set l (.dat z)))
  | _ => none
theorem e_par3 : qPar3 i j l f ρ = bnd (kPar3 i j l) (f ρ) := rfl
theorem kpar3 {z : PyData} : kPar3 i j l (ρ, [x, y, z]) = some (.nx (((ρ.set i (.dat x)).set j (.dat y)).set l (.dat z))) := rfl
def kAug2 (i : Nat) (ρ : Env) (z : PyData) : Option Fl := some (.nx (ρ.set i (.dat z)))
def kAug1 (i : Nat) (g : G2) (x : PyData) (r : Env × PyData) : Option Fl := bnd (kAug2 i r.1) (g x r.2)
def kAug (i : Nat) (g : G2) (a : FE) (ρ : Env) : SV → Option Fl
  | .dat x => bnd (kAug1 i g x) (a ρ)
  | _ => none
theorem e_aug : qAug i g a ρ = kAug i g a ρ (ρ.at i) := by
  unfold qAug
  cases ρ.at i <;> rfl
theorem kaug : kAug i g a ρ (.dat x) = bnd (kAug1 i g x) (a ρ) := rfl
theorem kaug1 : kAug1 i g x (ρ, y) = bnd (kAug2 i ρ) (g x y) := rfl
theorem kaug2 : kAug2 i ρ x = some (.nx (ρ.set i (.dat x))) := rfl
def kDrop (r : Env × PyData) : Option Fl := some (.nx r.1)
theorem e_drop : qDrop a ρ = bnd kDrop (a ρ) := rfl
theorem kdrop : kDrop (ρ, x) = some (.nx ρ) := rfl
def kFor (G : FG) (p : FS) (r : Env × List PyData) : Option Fl := forQ G p r.2 r.1
theorem e_for : qFor f G p ρ = bnd (kFor G p) (f ρ) := rfl
theorem kfor {ds : List PyData} : kFor G p (ρ, ds) = forQ G p ds ρ := rfl
def kTurn2 (G : FG) (p : FS) (ds : List PyData) (fl : Fl) : Option Fl := match fl with
  | .nx ρ2 => forQ G p ds ρ2
  | .ct ρ2 => forQ G p ds ρ2
  | .bk ρ2 => some (.nx ρ2)
  | .rt ρ2 d => some (.rt ρ2 d)
def kTurn1 (G : FG) (p : FS) (ds : List PyData) (ρ : Env) : Option Fl := bnd (kTurn2 G p ds) (p ρ)
theorem forQ_nil : forQ G p [] ρ = some (.nx ρ) := rfl
theorem forQ_cons {ds : List PyData} : forQ G p (x :: ds) ρ = bnd (kTurn1 G p ds) (G x ρ) := rfl
theorem kturn1 {ds : List PyData} : kTurn1 G p ds ρ = bnd (kTurn2 G p ds) (p ρ) := rfl
theorem kturn2_nx {ds : List PyData} : kTurn2 G p ds (.nx ρ) = forQ G p ds ρ := rfl
theorem kturn2_ct {ds : List PyData} : kTurn2 G p ds (.ct ρ) = forQ G p ds ρ := rfl
theorem kturn2_bk {ds : List PyData} : kTurn2 G p ds (.bk ρ) = some (.nx ρ) := rfl
theorem kturn2_rt {ds : List PyData} : kTurn2 G p ds (.rt ρ d) = some (.rt ρ d) := rfl
def kWh2 (t : FT) (p : FS) (n : Nat) (fl : Fl) : Option Fl := match fl with
  | .nx ρ2 => whileQ t p n ρ2
  | .ct ρ2 => whileQ t p n ρ2
  | .bk ρ2 => some (.nx ρ2)
  | .rt ρ2 d => some (.rt ρ2 d)
def kWh (t : FT) (p : FS) (n : Nat) (r : Env × Bool) : Option Fl := if r.2 = true then bnd (kWh2 t p n) (p r.1) else some (.nx r.1)
theorem whileQ_s : whileQ t p (n + 1) ρ = bnd (kWh t p n) (t ρ) := rfl
theorem kwh {z : Bool} : kWh t p n (ρ, z) = if z = true then bnd (kWh2 t p n) (p ρ) else some (.nx ρ) := rfl
theorem kwh2_nx : kWh2 t p n (.nx ρ) = whileQ t p n ρ := rfl
theorem kwh2_ct : kWh2 t p n (.ct ρ) = whileQ t p n ρ := rfl
theorem kwh2_bk : kWh2 t p n (.bk ρ) = some (.nx ρ) := rfl
theorem kwh2_rt : kWh2 t p n (.rt ρ d) = some (.rt ρ d) := rfl
theorem ret_rt : retOf (some (.rt ρ d)) = some d := rfl
theorem ret_nx : retOf (some (.nx ρ)) = some .none := rfl
theorem ret_none : retOf none = none := rfl
theorem ret_ite {c : Prop} [Decidable c] {x y : Option Fl} : retOf (if c then x else y) = if c then retOf x else retOf y := by split <;> rfl
theorem retw_rt {ws : List PyData} : retW (some (.rt (.own ws :: ρ) d)) = some (ws, d) := rfl
theorem retw_nx {ws : List PyData} : retW (some (.nx (.own ws :: ρ))) = some (ws, .none) := rfl
theorem retw_ite {c : Prop} [Decidable c] {x y : Option Fl} : retW (if c then x else y) = if c then retW x else retW y := by split <;> rfl
theorem at_0 {s : SV} : Env.at (s :: ρ) 0 = s := rfl
theorem at_s {s : SV} : Env.at (s :: ρ) (i + 1) = ρ.at i := rfl
theorem at_1 {s s1 : SV} : Env.at (s :: s1 :: ρ) 1 = s1 := rfl
theorem it_own {ds : List PyData} : (SV.own ds).items = some ds := rfl
theorem put_own {ds es : List PyData} : (SV.own ds).put es = .own es := rfl
theorem if_of {α : Type} {c : Prop} [Decidable c] {x : α} (h : c) : (if c then some x else none) = some x := if_pos h
theorem g_add_i {i j : Int} : gAdd (.int i) (.int j) = some (.int (i + j)) := rfl
theorem g_add_s {x y : Str} : gAdd (.str x) (.str y) = if x.length + y.length ≤ 16777216 then some (.str (x ++ y)) else none := rfl
theorem g_add_l {x y : List PyData} : gAdd (.list x) (.list y) = if x.length + y.length ≤ 16777216 then some (.list (x ++ y)) else none := rfl
theorem g_add_t {x y : List PyData} : gAdd (.tuple x) (.tuple y) = if x.length + y.length ≤ 16777216 then some (.tuple (x ++ y)) else none := rfl
theorem g_I0 {i j : Int} {h : Int → Int → PyData} : gI0 h (.int i) (.int j) = some (h i j) := rfl
theorem g_I2 {C : Int → Int → Prop} [∀ i j, Decidable (C i j)] {i j : Int} {h : Int → Int → PyData} : gI2 C h (.int i) (.int j) = if C i j then some (h i j) else none := rfl
theorem g_eq_i {z : Bool} {i j : Int} : gEq z (.int i) (.int j) = some (.bool (z ^^ decide (i = j))) := rfl
theorem g_eq_s {z : Bool} {i j : Str} : gEq z (.str i) (.str j) = some (.bool (z ^^ decide (i = j))) := rfl
theorem g_eq_b {z : Bool} {i j : Bool} : gEq z (.bool i) (.bool j) = some (.bool (z ^^ decide (i = j))) := rfl
theorem g_is {z : Bool} : gIs z x .none = some (.bool (z ^^ isN x)) := rfl
theorem g_in_s {z : Bool} {s r : Str} : gIn z (.str s) (.str r) = some (.bool (z ^^ inS s r)) := rfl
theorem g_ix_l {xs : List PyData} {i : Int} : gIx (.list xs) (.int i) = atI xs i := rfl
theorem g_ix_t {xs : List PyData} {i : Int} : gIx (.tuple xs) (.int i) = atI xs i := rfl
theorem g_len_s {s : Str} : gLen (.str s) = if s.length ≤ 16777216 then some (.int s.length) else none := rfl
theorem g_len_l {s : List PyData} : gLen (.list s) = some (.int s.length) := rfl
theorem g_len_t {s : List PyData} : gLen (.tuple s) = some (.int s.length) := rfl
theorem g_int_i {i : Int} : gInt (.int i) = some (.int i) := rfl
theorem g_int_b {z : Bool} : gInt (.bool z) = some (.int (if z then 1 else 0)) := rfl
theorem g_tuple_l {s : List PyData} : gTuple (.list s) = some (.tuple s) := rfl
theorem g_tuple_t {s : List PyData} : gTuple (.tuple s) = some (.tuple s) := rfl
theorem g_list_l {s : List PyData} : gList (.list s) = some (.list s) := rfl
theorem g_list_t {s : List PyData} : gList (.tuple s) = some (.list s) := rfl
theorem g_neg {i : Int} : gNeg (.int i) = some (.int (-i)) := rfl
theorem g_seq_l {s : List PyData} : gSeq (.list s) = some s := rfl
theorem g_seq_t {s : List PyData} : gSeq (.tuple s) = some s := rfl
theorem g_seq_s {s : List Nat} : gSeq (.str (tx s)) = some (s.map fun c => .str (tx [c])) := by
  show some (signsD (tx s)) = _
  rw [signs_tx]
theorem g_enum_l {s : List PyData} : gEnum (.list s) = some (enumD s) := rfl
theorem g_enum_s {s : List Nat} : gEnum (.str (tx s)) = some (enumD (s.map fun c => .str (tx [c]))) := by
  show some (enumD (signsD (tx s))) = _
  rw [signs_tx]
theorem g_r1 {i : Int} : gRange1 [.int i] = if -(2 ^ 62) ≤ i ∧ i < 2 ^ 62 then some (rangeD 0 i.toNat) else none := rfl
theorem g_ends {s r : Str} : gEnds s [.str r] = some (.bool (Txt.endswith s r)) := rfl
theorem g_starts {s r : Str} : gStarts s [.str r] = some (.bool (Txt.startswith s r)) := rfl
theorem g_starts3 {s r : Str} {i : Int} : gStarts3 s [.str r, .int i] = some (.bool (Txt.startswith3 s r i)) := rfl
theorem g_find3 {s r : Str} {i : Int} : gFind3 s [.str r, .int i] = some (.int (Txt.find3 s r i)) := rfl
theorem g_find4 {s r : Str} {i j : Int} : gFind4 s [.str r, .int i, .int j] = some (.int (Txt.findIn s r i j)) := rfl
theorem g_count4 {s r : Str} {i j : Int} : gCount4 s [.str r, .int i, .int j] = some (.int (Txt.countIn s r i j)) := rfl
theorem g_sl_s {s : Str} {lo hi : Option Int} : gSl (.str s) lo hi = if s.length ≤ 16777216 then some (.str (cutS s lo hi)) else none := rfl
theorem g_sl_l {s : List PyData} {lo hi : Option Int} : gSl (.list s) lo hi = some (.list (cutD s lo hi)) := rfl
theorem g_sl_t {s : List PyData} {lo hi : Option Int} : gSl (.tuple s) lo hi = some (.tuple (cutD s lo hi)) := rfl
theorem at_txN (t : List Nat) (p : Nat) : atI (tx t).cps.toList (p : Int) = t[p]? := by
  unfold atI ixN
  rw [if_pos (by omega)]
  show (if (p : Int) < (t.length : Nat) then some (p : Int).toNat else none).bind _ = _
  by_cases h : p < t.length
  · rw [if_pos (by omega)]; rfl
  · rw [if_neg (by omega), List.getElem?_eq_none (by omega)]; rfl
theorem g_ix_s {t : List Nat} {p : Nat} : gIx (.str (tx t)) (.int (p : Int)) = if t.length ≤ 16777216 then (t[p]?).map fun c => .str (tx [c]) else none := by
  show (if (tx t).length ≤ 16777216 then (atI (tx t).cps.toList (p : Int)).map _ else none) = _
  rw [tx_len, at_txN]
theorem qSkip_eq : qSkip ρ = some (.nx ρ) := rfl
theorem qBreak_eq : qBreak ρ = some (.bk ρ) := rfl
theorem qCont_eq : qCont ρ = some (.ct ρ) := rfl
theorem qNever_eq : qNever ρ = none := rfl
theorem qRetN_eq : qRetN ρ = some (.rt ρ .none) := rfl
theorem qNew_eq : qNew i ρ = some (.nx (ρ.set i (.own []))) := rfl
theorem qParN_eq : qParN i j d ρ = some (.nx ((ρ.set i (.own [])).set j (.dat d))) := rfl
/-- all of them -/
theorem fxs : type_of% (And.intro @e_op (And.intro @kop1 (And.intro @kop2 (And.intro @kput (And.intro @e_v (And.intro @kvar (And.intro @e_own (And.intro @kown (And.intro @e_c (And.intro @e_opO (And.intro @kopO (And.intro @kopO1 (And.intro @kopO2 (And.intro @e_u (And.intro @ku (And.intro @e_nil (And.intro @e_cons (And.intro @kcons1 (And.intro @kcons2 (And.intro @e_tup (And.intro @e_lst (And.intro @ktup (And.intro @klst (And.intro @e_tst (And.intro @ktst (And.intro @e_and (And.intro @e_or (And.intro @e_not (And.intro @kand (And.intro @kor (And.intro @knot (And.intro @e_yes (And.intro @e_ite (And.intro @kite (And.intro @e_andV (And.intro @e_orV (And.intro @e_notV (And.intro @kandV (And.intro @korV (And.intro @knotV (And.intro @e_chain (And.intro @kch1 (And.intro @kch2 (And.intro @kch3 (And.intro @kch4 (And.intro @e_no (And.intro @e_so (And.intro @kso (And.intro @e_sl (And.intro @ksl1 (And.intro @ksl2 (And.intro @ksl3 (And.intro @e_slO (And.intro @kslO (And.intro @kslO1 (And.intro @kslO2 (And.intro @kslO3 (And.intro @e_m (And.intro @km1 (And.intro @km3 (And.intro @e_join (And.intro @kj1 (And.intro @kj2 (And.intro @e_call (And.intro @kcall (And.intro @e_callW (And.intro @kcw (And.intro @kcw1 (And.intro @kcw2 (And.intro @kcw3 (And.intro @e_isi (And.intro @kisi (And.intro @e_isi2 (And.intro @kisi2 (And.intro @kitm (And.intro @e_seqI (And.intro @e_enum (And.intro @kseqI (And.intro @kenum (And.intro @e_zip (And.intro @kzip1 (And.intro @kzip2 (And.intro @e_range1 (And.intro @e_range2 (And.intro @e_down (And.intro @kr1 (And.intro @kr2 (And.intro @kdn (And.intro @e_lc (And.intro @klc1 (And.intro @klc2 (And.intro @e_lc2 (And.intro @klcB (And.intro @e_seq (And.intro @kseq (And.intro @kseq_rt (And.intro @kseq_bk (And.intro @kseq_ct (And.intro @e_ret (And.intro @kret (And.intro @e_retO (And.intro @kretO (And.intro @e_if (And.intro @kif (And.intro @e_set (And.intro @kset (And.intro @e_setF (And.intro @ksetF (And.intro @ksetF2 (And.intro @e_app (And.intro @kapp (And.intro @kapp1 (And.intro @kapp2 (And.intro @e_put (And.intro @kpt (And.intro @kpt1 (And.intro @kpt2 (And.intro @kpt3 (And.intro @kpt4 (And.intro @knx (And.intro @e_asg (And.intro @kasg (And.intro @e_n (And.intro @e_gnil (And.intro @e_gcons (And.intro @e_t (And.intro @e_par (And.intro @kpar (And.intro @e_par3 (And.intro @kpar3 (And.intro @e_aug (And.intro @kaug (And.intro @kaug1 (And.intro @kaug2 (And.intro @e_drop (And.intro @kdrop (And.intro @e_for (And.intro @kfor (And.intro @kturn1 (And.intro @kturn2_nx (And.intro @kturn2_ct (And.intro @kturn2_bk (And.intro @kturn2_rt (And.intro @kwh (And.intro @kwh2_nx (And.intro @kwh2_ct (And.intro @kwh2_bk (And.intro @kwh2_rt (And.intro @ret_rt (And.intro @ret_nx (And.intro @ret_none (And.intro @ret_ite (And.intro @retw_rt (And.intro @retw_nx (And.intro @retw_ite (And.intro @at_0 (And.intro @at_1 (And.intro @at_s (And.intro @it_own (And.intro @put_own (And.intro @bnd_some (And.intro @bnd_none (And.intro @bnd_ite (And.intro @g_add_i (And.intro @g_add_s (And.intro @g_add_l (And.intro @g_add_t (And.intro @g_I0 (And.intro @g_I2 (And.intro @g_eq_i (And.intro @g_eq_s (And.intro @g_eq_b (And.intro @g_is (And.intro @g_in_s (And.intro @g_ix_l (And.intro @g_ix_t (And.intro @g_ix_s (And.intro @g_len_s (And.intro @g_len_l (And.intro @g_len_t (And.intro @g_int_i (And.intro @g_int_b (And.intro @g_tuple_l (And.intro @g_tuple_t (And.intro @g_list_l (And.intro @g_list_t (And.intro @g_neg (And.intro @g_seq_l (And.intro @g_seq_t (And.intro @g_seq_s (And.intro @g_enum_l (And.intro @g_enum_s (And.intro @g_r1 (And.intro @g_ends (And.intro @g_starts (And.intro @g_starts3 (And.intro @g_find3 (And.intro @g_find4 (And.intro @g_count4 (And.intro @g_sl_s (And.intro @g_sl_l (And.intro @g_sl_t (And.intro @qSkip_eq (And.intro @qBreak_eq (And.intro @qCont_eq (And.intro @qNever_eq (And.intro @qRetN_eq (And.intro @qNew_eq (And.intro @qParN_eq (@tx_len)))))))))))))))))))))))))))))))))))))))))))))))))))))))))))))))))))))))))))))))))))))))))))))))))))))))))))))))))))))))))))))))))))))))))))))))))))))))))))))))))))))))))))))))))))))))))))))))))))))))))))))))))) := And.intro @e_op (And.intro @kop1 (And.intro @kop2 (And.intro @kput (And.intro @e_v (And.intro @kvar (And.intro @e_own (And.intro @kown (And.intro @e_c (And.intro @e_opO (And.intro @kopO (And.intro @kopO1 (And.intro @kopO2 (And.intro @e_u (And.intro @ku (And.intro @e_nil (And.intro @e_cons (And.intro @kcons1 (And.intro @kcons2 (And.intro @e_tup (And.intro @e_lst (And.intro @ktup (And.intro @klst (And.intro @e_tst (And.intro @ktst (And.intro @e_and (And.intro @e_or (And.intro @e_not (And.intro @kand (And.intro @kor (And.intro @knot (And.intro @e_yes (And.intro @e_ite (And.intro @kite (And.intro @e_andV (And.intro @e_orV (And.intro @e_notV (And.intro @kandV (And.intro @korV (And.intro @knotV (And.intro @e_chain (And.intro @kch1 (And.intro @kch2 (And.intro @kch3 (And.intro @kch4 (And.intro @e_no (And.intro @e_so (And.intro @kso (And.intro @e_sl (And.intro @ksl1 (And.intro @ksl2 (And.intro @ksl3 (And.intro @e_slO (And.intro @kslO (And.intro @kslO1 (And.intro @kslO2 (And.intro @kslO3 (And.intro @e_m (And.intro @km1 (And.intro @km3 (And.intro @e_join (And.intro @kj1 (And.intro @kj2 (And.intro @e_call (And.intro @kcall (And.intro @e_callW (And.intro @kcw (And.intro @kcw1 (And.intro @kcw2 (And.intro @kcw3 (And.intro @e_isi (And.intro @kisi (And.intro @e_isi2 (And.intro @kisi2 (And.intro @kitm (And.intro @e_seqI (And.intro @e_enum (And.intro @kseqI (And.intro @kenum (And.intro @e_zip (And.intro @kzip1 (And.intro @kzip2 (And.intro @e_range1 (And.intro @e_range2 (And.intro @e_down (And.intro @kr1 (And.intro @kr2 (And.intro @kdn (And.intro @e_lc (And.intro @klc1 (And.intro @klc2 (And.intro @e_lc2 (And.intro @klcB (And.intro @e_seq (And.intro @kseq (And.intro @kseq_rt (And.intro @kseq_bk (And.intro @kseq_ct (And.intro @e_ret (And.intro @kret (And.intro @e_retO (And.intro @kretO (And.intro @e_if (And.intro @kif (And.intro @e_set (And.intro @kset (And.intro @e_setF (And.intro @ksetF (And.intro @ksetF2 (And.intro @e_app (And.intro @kapp (And.intro @kapp1 (And.intro @kapp2 (And.intro @e_put (And.intro @kpt (And.intro @kpt1 (And.intro @kpt2 (And.intro @kpt3 (And.intro @kpt4 (And.intro @knx (And.intro @e_asg (And.intro @kasg (And.intro @e_n (And.intro @e_gnil (And.intro @e_gcons (And.intro @e_t (And.intro @e_par (And.intro @kpar (And.intro @e_par3 (And.intro @kpar3 (And.intro @e_aug (And.intro @kaug (And.intro @kaug1 (And.intro @kaug2 (And.intro @e_drop (And.intro @kdrop (And.intro @e_for (And.intro @kfor (And.intro @kturn1 (And.intro @kturn2_nx (And.intro @kturn2_ct (And.intro @kturn2_bk (And.intro @kturn2_rt (And.intro @kwh (And.intro @kwh2_nx (And.intro @kwh2_ct (And.intro @kwh2_bk (And.intro @kwh2_rt (And.intro @ret_rt (And.intro @ret_nx (And.intro @ret_none (And.intro @ret_ite (And.intro @retw_rt (And.intro @retw_nx (And.intro @retw_ite (And.intro @at_0 (And.intro @at_1 (And.intro @at_s (And.intro @it_own (And.intro @put_own (And.intro @bnd_some (And.intro @bnd_none (And.intro @bnd_ite (And.intro @g_add_i (And.intro @g_add_s (And.intro @g_add_l (And.intro @g_add_t (And.intro @g_I0 (And.intro @g_I2 (And.intro @g_eq_i (And.intro @g_eq_s (And.intro @g_eq_b (And.intro @g_is (And.intro @g_in_s (And.intro @g_ix_l (And.intro @g_ix_t (And.intro @g_ix_s (And.intro @g_len_s (And.intro @g_len_l (And.intro @g_len_t (And.intro @g_int_i (And.intro @g_int_b (And.intro @g_tuple_l (And.intro @g_tuple_t (And.intro @g_list_l (And.intro @g_list_t (And.intro @g_neg (And.intro @g_seq_l (And.intro @g_seq_t (And.intro @g_seq_s (And.intro @g_enum_l (And.intro @g_enum_s (And.intro @g_r1 (And.intro @g_ends (And.intro @g_starts (And.intro @g_starts3 (And.intro @g_find3 (And.intro @g_find4 (And.intro @g_count4 (And.intro @g_sl_s (And.intro @g_sl_l (And.intro @g_sl_t (And.intro @qSkip_eq (And.intro @qBreak_eq (And.intro @qCont_eq (And.intro @qNever_eq (And.intro @qRetN_eq (And.intro @qNew_eq (And.intro @qParN_eq (@tx_len)))))))))))))))))))))))))))))))))))))))))))))))))))))))))))))))))))))))))))))))))))))))))))))))))))))))))))))))))))))))))))))))))))))))))))))))))))))))))))))))))))))))))))))))))))))))))))))))))))))))))))))))))
end Pm
/-! Where a text stands in another one, over lists of signs. -/
namespace Pm
open PySem PySem.Spec PyProof.Rows L2 TL PySem.Builtin PySem.Builtin.Str PySem.StrLaws
def findL (s : List Nat) : List Nat → Option Nat
  | [] => if s.isPrefixOf [] = true then some 0 else none
  | c :: r => if s.isPrefixOf (c :: r) = true then some 0 else (findL s r).map (· + 1)
theorem take_pre (s l : List Nat) : (l.take s.length == s) = s.isPrefixOf l := by
  induction s generalizing l with
  | nil => simp
  | cons a s ih =>
    cases l with
    | nil => simp
    | cons b l =>
      show ((b :: l.take s.length) == (a :: s)) = (a == b && s.isPrefixOf l)
      rw [← ih l]
      show (b == a && (l.take s.length == s)) = _
      rw [BEq.comm]
theorem sub_tx (t s : List Nat) (i : Nat) : subAt (tx t) (tx s) i = s.isPrefixOf (t.drop i) := by
  rw [subAt_eq]
  show ((t.drop i).take s.length == s) = _
  exact take_pre s _
theorem pre_take {s t : List Nat} {i hi : Nat} (hh : hi ≤ t.length) : (i + s.length ≤ hi ∧ s.isPrefixOf (t.drop i) = true) ↔ (i ≤ hi ∧ s.isPrefixOf ((t.take hi).drop i) = true) := by
  rw [List.isPrefixOf_iff_prefix, List.isPrefixOf_iff_prefix]
  constructor
  · rintro ⟨h1, h2⟩
    refine ⟨by omega, ?_⟩
    rw [List.drop_take]
    rw [List.prefix_take_iff]
    exact ⟨h2, by omega⟩
  · rintro ⟨h0, h⟩
    rw [List.drop_take, List.prefix_take_iff] at h
    exact ⟨by omega, h.1⟩
theorem occ_full (x y : Str) (hi lim : Nat) : ∀ (l : List Nat) (st : Array Nat × Nat), lim ≤ st.fst.size → (forIn l st (occBody x y hi lim)).run = st
  | [], st, h => rfl
  | a :: l, st, h => by
    rw [List.forIn_cons]
    unfold occBody
    rw [if_neg (fun c => by have := c.1.1.1; omega)]
    exact occ_full x y hi lim l st h
theorem occ_first (t s : List Nat) (hi : Nat) (hh : hi ≤ t.length) : ∀ (n a free : Nat), a + n = hi + 1 → free ≤ a → (forIn (List.range' a n) ((#[] : Array Nat), free) (occBody (tx t) (tx s) hi 1)).run.fst.toList = (if a ≤ hi then match findL s ((t.take hi).drop a) with
    | some k => [a + k]
    | none => [] else [])
  | 0, a, free, h, _ => by
    rw [if_neg (by omega)]; rfl
  | n + 1, a, free, h, hf => by
    have ha : a ≤ hi := by omega
    rw [if_pos ha, List.range'_succ, List.forIn_cons]
    have key := pre_take (s := s) (i := a) hh
    by_cases c : s.isPrefixOf ((t.take hi).drop a) = true
    · obtain ⟨k1, k2⟩ := key.mpr ⟨ha, c⟩
      have e : findL s ((t.take hi).drop a) = some 0 := by
        cases hd : (t.take hi).drop a with
        | nil => rw [hd] at c; show (if _ then _ else _) = _; rw [if_pos c]
        | cons q r => rw [hd] at c; show (if _ then _ else _) = _; rw [if_pos c]
      rw [e]
      unfold occBody
      rw [if_pos ⟨⟨⟨by simp, hf⟩, by rw [tx_len]; exact k1⟩, by rw [sub_tx]; exact k2⟩]
      show (forIn (List.range' (a + 1) n) _ (occBody (tx t) (tx s) hi 1)).run.fst.toList = _
      rw [occ_full _ _ _ _ _ _ (by simp)]
      simp
    · have hne : ¬ (a + s.length ≤ hi ∧ s.isPrefixOf (t.drop a) = true) := fun z => c (key.mp z).2
      have st : (occBody (tx t) (tx s) hi 1 a ((#[] : Array Nat), free)) = pure (ForInStep.yield ((#[] : Array Nat), free)) := by
        unfold occBody
        rw [if_neg (fun z => hne ⟨by rw [← tx_len s]; exact z.1.2, by rw [← sub_tx]; exact z.2⟩)]
      rw [st]
      show (forIn (List.range' (a + 1) n) ((#[] : Array Nat), free) (occBody (tx t) (tx s) hi 1)).run.fst.toList = _
      rw [occ_first t s hi hh n (a + 1) free (by omega) (by omega)]
      by_cases hah : a + 1 ≤ hi
      · rw [if_pos hah]
        have hlt : a < (t.take hi).length := by rw [List.length_take]; omega
        have ed : (t.take hi).drop a = (t.take hi)[a] :: (t.take hi).drop (a + 1) := List.drop_eq_getElem_cons hlt
        rw [ed] at c ⊢
        have ef : findL s ((t.take hi)[a] :: (t.take hi).drop (a + 1)) = (findL s ((t.take hi).drop (a + 1))).map (· + 1) := by
          show (if _ then _ else _) = _
          rw [if_neg c]
        rw [ef]
        cases findL s ((t.take hi).drop (a + 1)) with
        | none => rfl
        | some k => simp; omega
      · rw [if_neg hah]
        have ea : a = hi := by omega
        have ed : (t.take hi).drop a = [] := by rw [ea]; exact List.drop_eq_nil_of_le (by rw [List.length_take]; omega)
        rw [ed] at c ⊢
        have ef : findL s [] = none := by show (if _ then _ else _) = _; rw [if_neg c]
        rw [ef]
theorem occ_one (t s : List Nat) (lo hi : Nat) (hh : hi ≤ t.length) (hl : lo ≤ hi) : occurrences (tx t) (tx s) lo hi 1 = match findL s ((t.take hi).drop lo) with
    | some k => [lo + k]
    | none => [] := by
  rw [occ_eq, occ_first t s hi hh (hi + 1 - lo) lo lo (by omega) (Nat.le_refl _), if_pos hl]
theorem occ_beyond (x y : Str) (lo hi lim : Nat) (hl : hi < lo) : occurrences x y lo hi lim = [] := by
  rw [occ_eq, show hi + 1 - lo = 0 by omega]; rfl
theorem findL_nil {s : List Nat} (h : s ≠ []) : findL s [] = none := by
  cases s with
  | nil => exact absurd rfl h
  | cons a s => rfl
theorem from_nat (n p : Nat) : fromIndex n (p : Int) = p := by
  unfold fromIndex
  rw [if_neg (by omega)]
  omega
theorem find3_tx (t s : List Nat) (p : Nat) (hs : s ≠ []) : Txt.find3 (tx t) (tx s) (p : Int) = match findL s (t.drop p) with
    | some k => ((p + k : Nat) : Int)
    | none => -1 := by
  unfold Txt.find3
  rw [from_nat, tx_len]
  by_cases hp : p ≤ t.length
  · rw [occ_one t s p t.length (Nat.le_refl _) hp, List.take_length]
    cases findL s (t.drop p) <;> rfl
  · rw [occ_beyond _ _ _ _ _ (by omega), List.drop_eq_nil_of_le (by omega), findL_nil hs]
theorem to_nat (n j : Nat) : PySem.toIndexW n (j : Int) = min j n := by
  unfold PySem.toIndexW
  rw [if_neg (by omega)]
  omega
theorem findIn_tx (t s : List Nat) (p j : Nat) (hs : s ≠ []) : Txt.findIn (tx t) (tx s) (p : Int) (j : Int) = match findL s ((t.take j).drop p) with
    | some k => ((p + k : Nat) : Int)
    | none => -1 := by
  unfold Txt.findIn
  rw [from_nat, tx_len, to_nat]
  have e : (t.take j).drop p = (t.take (min j t.length)).drop p := by
    by_cases h : j ≤ t.length
    · rw [Nat.min_eq_left h]
    · rw [Nat.min_eq_right (by omega), List.take_of_length_le (by omega), List.take_length]
  rw [e]
  by_cases hp : p ≤ min j t.length
  · rw [occ_one t s p (min j t.length) (by omega) hp]
    cases findL s ((t.take (min j t.length)).drop p) <;> rfl
  · rw [occ_beyond _ _ _ _ _ (by omega), List.drop_eq_nil_of_le (by rw [List.length_take]; omega), findL_nil hs]
theorem starts3_tx (t s : List Nat) (p : Nat) (hs : s ≠ []) : Txt.startswith3 (tx t) (tx s) (p : Int) = s.isPrefixOf (t.drop p) := by
  unfold Txt.startswith3
  rw [from_nat, tx_len, tx_len, sub_tx]
  by_cases h : s.isPrefixOf (t.drop p) = true
  · rw [h, Bool.and_true]
    have := (List.isPrefixOf_iff_prefix.mp h).length_le
    rw [List.length_drop] at this
    have hl : 0 < s.length := List.length_pos_iff.mpr hs
    exact decide_eq_true (by omega)
  · rw [ne_tt h, Bool.and_false]
theorem starts_tx (t s : List Nat) : Txt.startswith (tx t) (tx s) = s.isPrefixOf t := by
  show (decide (0 + (tx s).length ≤ (tx t).length) && subAt (tx t) (tx s) 0) = _
  rw [tx_len, tx_len, sub_tx, List.drop_zero]
  by_cases h : s.isPrefixOf t = true
  · rw [h, Bool.and_true]
    have := (List.isPrefixOf_iff_prefix.mp h).length_le
    exact decide_eq_true (by omega)
  · rw [ne_tt h, Bool.and_false]
theorem ends_tx (t s : List Nat) : Txt.endswith (tx t) (tx s) = decide (s <:+ t) := by
  show (decide (0 + (tx s).length ≤ (tx t).length) && subAt (tx t) (tx s) ((tx t).length - (tx s).length)) = _
  rw [tx_len, tx_len, sub_tx, Bool.eq_iff_iff, Bool.and_eq_true, decide_eq_true_eq, decide_eq_true_eq, List.isPrefixOf_iff_prefix]
  constructor
  · rintro ⟨h1, h2⟩
    have e : s = t.drop (t.length - s.length) := by
      obtain ⟨r, hr⟩ := h2
      have hl := congrArg List.length hr
      rw [List.length_append, List.length_drop] at hl
      have : r = [] := List.length_eq_zero_iff.mp (by omega)
      rw [this, List.append_nil] at hr
      exact hr
    rw [e]
    exact List.drop_suffix _ _
  · intro h
    obtain ⟨r, hr⟩ := h
    subst hr
    rw [List.length_append]
    refine ⟨by omega, ?_⟩
    rw [show r.length + s.length - s.length = r.length by omega, List.drop_append_of_le_length (Nat.le_refl _), List.drop_length, List.nil_append]
    exact List.prefix_refl _
/-- how often a sign stands -/
theorem occ_count (t : List Nat) (c hi lim : Nat) (hh : hi ≤ t.length) : ∀ (n a free : Nat) (arr : Array Nat), a + n = hi + 1 → free ≤ a → arr.size + n ≤ lim → (forIn (List.range' a n) (arr, free) (occBody (tx t) (tx [c]) hi lim)).run.fst.size = arr.size + ((t.take hi).drop a).count c
  | 0, a, free, arr, h, _, _ => by
    rw [List.drop_eq_nil_of_le (by rw [List.length_take]; omega)]; rfl
  | n + 1, a, free, arr, h, hf, hn => by
    rw [List.range'_succ, List.forIn_cons]
    by_cases hlt : a < hi
    · have hl2 : a < (t.take hi).length := by rw [List.length_take]; omega
      have ed : (t.take hi).drop a = t[a] :: (t.take hi).drop (a + 1) := by
        rw [List.drop_eq_getElem_cons hl2, List.getElem_take]
      rw [ed, List.count_cons]
      have hsub : subAt (tx t) (tx [c]) a = (t[a] == c) := by
        rw [sub_tx, List.drop_eq_getElem_cons (by omega)]
        show (c == t[a] && true) = _
        rw [Bool.and_true, BEq.comm]
      by_cases hc : (t[a] == c) = true
      · have st : (occBody (tx t) (tx [c]) hi lim a (arr, free)) = pure (ForInStep.yield (arr.push a, a + (tx [c]).length)) := by
          unfold occBody
          rw [if_pos ⟨⟨⟨show arr.size < lim by omega, hf⟩, show a + 1 ≤ hi by omega⟩, by rw [hsub]; exact hc⟩]
        rw [st]
        show (forIn (List.range' (a + 1) n) (arr.push a, a + 1) (occBody (tx t) (tx [c]) hi lim)).run.fst.size = _
        rw [occ_count t c hi lim hh n (a + 1) (a + 1) (arr.push a) (by omega) (Nat.le_refl _) (by rw [Array.size_push]; omega), Array.size_push, if_pos hc]
        omega
      · have st : (occBody (tx t) (tx [c]) hi lim a (arr, free)) = pure (ForInStep.yield (arr, free)) := by
          unfold occBody
          rw [if_neg (fun z => hc (by rw [← hsub]; exact z.2))]
        rw [st]
        show (forIn (List.range' (a + 1) n) (arr, free) (occBody (tx t) (tx [c]) hi lim)).run.fst.size = _
        rw [occ_count t c hi lim hh n (a + 1) free arr (by omega) (by omega) (by omega), if_neg hc]
        omega
    · have ea : a = hi := by omega
      have en : n = 0 := by omega
      subst en
      rw [List.drop_eq_nil_of_le (by rw [List.length_take]; omega)]
      have st : (occBody (tx t) (tx [c]) hi lim a (arr, free)) = pure (ForInStep.yield (arr, free)) := by
        unfold occBody
        rw [if_neg (fun z => by have := z.1.2; rw [tx_len] at this; simp at this; omega)]
      rw [st]
      rfl
theorem countIn_tx (t : List Nat) (c p j : Nat) : Txt.countIn (tx t) (tx [c]) (p : Int) (j : Int) = (((t.take j).drop p).count c : Nat) := by
  unfold Txt.countIn
  rw [from_nat, tx_len, to_nat]
  have e : (t.take j).drop p = (t.take (min j t.length)).drop p := by
    by_cases h : j ≤ t.length
    · rw [Nat.min_eq_left h]
    · rw [Nat.min_eq_right (by omega), List.take_of_length_le (by omega), List.take_length]
  rw [e]
  by_cases hp : p ≤ min j t.length
  · have z := occ_count t c (min j t.length) (t.length + 1) (by omega) (min j t.length + 1 - p) p p #[] (by omega) (Nat.le_refl _) (by simp; omega)
    rw [occ_eq, Array.length_toList, z]
    simp
  · rw [occ_beyond _ _ _ _ _ (by omega), List.drop_eq_nil_of_le (by rw [List.length_take]; omega)]; rfl
theorem inS_tx (s t : List Nat) (h : s.length ≠ 1) : inS (tx s) (tx t) = (findL s t).isSome := by
  unfold inS
  split
  · rename_i c hc
    have e : s = [c] := by simpa using hc
    rw [e] at h; exact absurd rfl h
  · rw [tx_len, occ_one t s 0 t.length (Nat.le_refl _) (Nat.zero_le _), List.take_length, List.drop_zero]
    cases findL s t <;> rfl
end Pm
/-! tuple(text) -/
namespace Pm
open PySem PySem.Spec PyProof.Rows L2 TL
theorem meets_tuple_new_str (x : Str) (t : Tok) (hn : x.cps.size ≤ sizeLine) :
    Meets (Builtin.«tuple.__new__» ⟨[.type "tuple", .str x t], []⟩)
      (fun A R s => A.handled = none ∧ ∀ (s' : Shared) (acc : Array Value), (∀ b o', s.heap.get? b = some o' → s'.heap.get? b = some o') → s'.gens = s.gens → s'.drawn = s.drawn → s'.os = s.os → ItemsOf (SignAt x) acc x.cps.size → R (.ok (.ret (.ref s'.heap.objs.size))) { s' with heap := s'.heap.push { cls := .type "tuple", data := .seq acc } }) :=
  .of_wp fun prog w A R s h => by
    obtain ⟨hh, h⟩ := h
    have hsub := sub_tuple_self
    have hinit := init_tuple_lookup
    have hmh := madeHere_tuple
    have hT : Shared.TypeIs s (.str x t) "str" := rfl
    have hh1 : A.in1.handled = none := hh
    wp_walk using wpAny_typeOf hT, wpAny_collect_str hh1 x t
    intro s' acc k1 k2 k3 k4 k5
    show wpAny _ _ (Builtin.Tuple.tupleExact acc.toList.toArray >>= fun v => ret v) _ _ _
    unfold Builtin.Tuple.tupleExact
    refine wpAny_bind (wpAny_newObj_type ?_ (by show acc.toList.toArray.size ≤ sizeLine; rw [Array.toArray_toList, k5.1]; exact hn))
    refine wpAny_pure ⟨_, rfl, ?_⟩
    have e : acc.toList.toArray = acc := by simp
    rw [e]
    exact h s' acc k1 k2 k3 k4 k5
theorem vals_signs : ∀ (l : List Nat) (vs : List Value), vs.length = l.length → (∀ (j : Nat) (v : Value), vs[j]? = some v → ∃ c u, l[j]? = some c ∧ v = .str ⟨#[c]⟩ u) → Vals (l.map fun c => V.str ⟨#[c]⟩) vs
  | [], [], _, _ => .nil
  | [], v :: vs, h, _ => by simp at h
  | c :: l, [], h, _ => by simp at h
  | c :: l, v :: vs, h, k => by
    obtain ⟨c', u, h1, h2⟩ := k 0 v rfl
    have e : c = c' := by simpa using h1
    subst e
    exact .cons ⟨u, h2⟩ (vals_signs l vs (by simpa using h) fun j w hj => by simpa using k (j + 1) w (by simpa using hj))
theorem call_tupleS {X : Cx} (hc : X.calm = true) : CallR X (.type "tuple") (fun xs H Q => ∃ x : Str, xs = [.str x] ∧ x.length ≤ sizeLine ∧ ∀ l, H l = none → Q (.ref l) (upd H l (.tup (x.cps.toList.map fun c => V.str ⟨#[c]⟩)))) := by
  intro pins s σ H xs us Q I r h
  obtain ⟨x, rfl, hn, q⟩ := h
  obtain ⟨u, rfl, rx⟩ := vals1 r
  obtain ⟨t, rfl⟩ := rx
  have hA : X.A.handled = none := I.ok.hd hc
  refine callType_new F.called_tuple (by decide) (F.typeCall_tuple_1 _) (F.newCall_tuple_1 _) (fun obj => F.args_object_init_2 obj _) F.entry_tuple_new
    (meets_tuple_new_str x t hn) ⟨hA, fun s' acc k1 k2 k3 k4 k5 => ⟨⟨_, Heap.get?_push_size _ rfl, rfl⟩, ?_⟩⟩
  have es : s' = { s with heap := s'.heap, toks := s'.toks } := by
    obtain ⟨a, b, c, d, e⟩ := s'
    cases k2; cases k3; cases k4
    rfl
  rw [es]
  have I1 : Inv X pins σ H { s with heap := s'.heap, toks := s'.toks } := I.kept (t' := s'.toks) k1
  have rv : Vals (x.cps.toList.map fun c => V.str ⟨#[c]⟩) acc.toList := vals_signs _ _ (by rw [Array.length_toList, k5.1, Array.length_toList]) fun j v hj => by
    obtain ⟨c, u, h1, h2⟩ := k5.2 j v (by simpa using hj)
    exact ⟨c, u, by simpa using h1, h2⟩
  have I2 : Inv X pins σ (upd H s'.heap.objs.size (.tup (x.cps.toList.map fun c => V.str ⟨#[c]⟩))) { s with heap := s'.heap.push { cls := .type "tuple", data := .seq acc }, toks := s'.toks } :=
    I1.laid (t' := s'.toks) (fun b o e => Heap.get?_push_of_some _ e) (Nat.le_refl _) (show ObjOk X.prog X.w _ _ _ (.tup _) from ⟨by rw [List.length_map]; exact hn, acc.toList, rv, by simpa using IsTup.new _ _⟩)
  exact ⟨.ref s'.heap.objs.size, _, I2, rfl, q _ (I1.hok.fresh (Nat.le_refl _))⟩
def fTupleS : F1
  | .str x, P => x.length ≤ sizeLine ∧ P (.tuple (signsD x))
  | _, _ => False
section
variable {ι : Type} {X : ι → Cx} {K : Fr} {e : Expr} {we : WE} {pos : Pos}
theorem dt_signs {H : Hp} : ∀ l : List Nat, DtAll K H (l.map fun c => V.str ⟨#[c]⟩) (l.map fun c => .str ⟨#[c]⟩)
  | [] => .nil
  | c :: l => .cons (.str _) (dt_signs l)
theorem cd_tupleS : CallD K (fun xs H Q => ∃ x : Str, xs = [.str x] ∧ x.length ≤ sizeLine ∧ ∀ l, H l = none → Q (.ref l) (upd H l (.tup (x.cps.toList.map fun c => V.str ⟨#[c]⟩)))) fTupleS := by
  intro M H x v P Q dom r f k
  cases x with
  | str z =>
    rw [RV.isStr r]
    exact ⟨z, rfl, f.1, fun l nl => k _ _ _ f.2 (same_new nl) (.tup (.inl (.inl (rm_of (fun c => dom l c nl) upd_same))) (dt_signs _))⟩
  | _ => exact f.elim
theorem de_tupleS {p : Pos} (hm : ∀ i, (X i).mg "tuple" = none) (h : DE X K e we) (hg : ∀ i, Gl (X i) "tuple" := by intro i; rfl) (hc : ∀ i, (X i).calm = true := by intro i; rfl)
    (he : ∀ i, starEach (e :: []) (X i).env = (false, eval e (X i).env) :: starEach [] (X i).env := by intro i; rfl) : DE X K (.Call (.Name "tuple" p) [e] [] pos) (wU fTupleS we) :=
  de_u (fun i t h => pe_callTy (call_tupleS (hc i)) (hg i) (hm i) (by decide +kernel) (pa_cons h pa_nil (he i)) (by decide) (by decide) (he i) rfl) cd_tupleS h.v
end
def gTupleS : G1
  | .str x => if x.length ≤ 16777216 then some (.tuple (signsD x)) else none
  | _ => none
theorem k_tuples : fit1 fTupleS gTupleS := by
  intro x d h P p
  cases x <;> first | (obtain ⟨c, rfl⟩ := of_if h; exact ⟨by rw [sizeLine_eq]; exact c, p⟩) | cases h
theorem g_tupleS {s : List Nat} : gTupleS (.str (tx s)) = if s.length ≤ 16777216 then some (.tuple (s.map fun c => .str (tx [c]))) else none := by
  show (if (tx s).length ≤ 16777216 then some (PyData.tuple (signsD (tx s))) else none) = _
  rw [tx_len, signs_tx]
end Pm
/-! Dicts of the module: k in D, D[k]. -/
namespace Pm
open PySem PySem.Spec PyProof.Rows L2 TL
/-- entries that hold some pairs -/
inductive DEnt (w : World) : List DictEntry → List (Key × V) → Prop
  | nil : DEnt w [] []
  | cons {e : DictEntry} {es : List DictEntry} {k : Key} {v : V} {kvs : List (Key × V)} : keyIs k e.key = true → e.hash = keyH w k → RelV v e.val → DEnt w es kvs → DEnt w (e :: es) ((k, v) :: kvs)
structure DicK (K : Fr) (w : World) (d : Addr) (kvs : List (Key × V)) : Prop where
  ex : ∃ es n, K.lookup d = some ⟨.type "dict", none, .dict es n, #[]⟩ ∧ DEnt w es.toList kvs
  low : (d == sysModules) = false
theorem DEnt.keys {w : World} : ∀ {es : List DictEntry} {kvs : List (Key × V)}, DEnt w es kvs → ∀ e, e ∈ es → ∃ k, keyIs k e.key = true ∧ e.hash = keyH w k
  | _, _, .nil, e, h => by cases h
  | _, _, .cons h1 h2 _ r, e, h => by
    rcases List.mem_cons.mp h with q | q
    · subst q; exact ⟨_, h1, h2⟩
    · exact DEnt.keys r e q
theorem DEnt.find {P : Program} {w : World} {k : Key} : ∀ {es : List DictEntry} {kvs : List (Key × V)}, DEnt w es kvs → (∀ v, valV kvs k = some v → ∃ u, (es.find? fun e => keyIs k e.key).map (·.val) = some u ∧ RelV v u) ∧ (valV kvs k = none → (es.find? fun e => keyIs k e.key).map (·.val) = none)
  | _, _, .nil => ⟨fun v h => (by cases h), fun _ => rfl⟩
  | _, _, .cons (e := e) (es := es) (k := k') (v := v') (kvs := kvs) h1 h2 h3 r => by
    have ih := DEnt.find (P := P) (k := k) r
    have hd : keyIs k e.key = decide (k = k') := KeyKind.is_eq_decide (knd := mixKind P w) h1 k
    by_cases c : k' = k
    · subst c
      have e1 : keyIs k' e.key = true := h1
      refine ⟨fun v h => ⟨e.val, by rw [List.find?_cons_of_pos (p := fun e : DictEntry => keyIs k' e.key) e1]; rfl, ?_⟩, fun h => ?_⟩
      · have : valV ((k', v') :: kvs) k' = some v' := by unfold valV; rw [List.find?_cons_of_pos (by simp)]; rfl
        rw [this] at h; cases h; exact h3
      · have : valV ((k', v') :: kvs) k' = some v' := by unfold valV; rw [List.find?_cons_of_pos (by simp)]; rfl
        rw [this] at h; cases h
    · have e1 : ¬ keyIs k e.key = true := by rw [hd]; simp; exact fun q => c q.symm
      have e2 : valV ((k', v') :: kvs) k = valV kvs k := by unfold valV; rw [List.find?_cons_of_neg (by simpa using c)]
      rw [e2, List.find?_cons_of_neg (p := fun e : DictEntry => keyIs k e.key) e1]
      exact ih
theorem DicK.map {K : Fr} {P : Program} {w : World} {d : Addr} {kvs : List (Key × V)} {h : Heap} (D : DicK K w d kvs) (X : K.In h) : ∃ f : Key → Option Value, h.MapOf (mixKind P w) d f ∧ ∀ k, (∀ v, valV kvs k = some v → ∃ u, f k = some u ∧ RelV v u) ∧ (valV kvs k = none → f k = none) := by
  obtain ⟨es, n, hl, he⟩ := D.ex
  refine ⟨fun k => findBy keyIs es k, ⟨_, es, n, X _ _ hl, ⟨rfl, rfl, rfl⟩, rfl, fun e hm => ?_, fun _ => rfl⟩, fun k => ?_⟩
  · obtain ⟨k, h1, h2⟩ := he.keys e (Array.mem_toList_iff.mpr hm)
    exact ⟨k, h1, h2⟩
  · have z := DEnt.find (P := P) (k := k) he
    obtain ⟨l⟩ := es
    have ef : findBy keyIs (⟨l⟩ : Array DictEntry) k = (l.find? fun e => keyIs k e.key).map (·.val) := by
      unfold findBy
      rw [List.find?_toArray]
    show (∀ v, valV kvs k = some v → ∃ u, findBy keyIs (⟨l⟩ : Array DictEntry) k = some u ∧ RelV v u) ∧ (valV kvs k = none → findBy keyIs (⟨l⟩ : Array DictEntry) k = none)
    rw [ef]
    exact z
def rDIn (neg : Bool) (d : Addr) (kvs : List (Key × V)) : R2 := fun x y H Q => ∃ k, x = kV k ∧ y = .ref d ∧ Q (.bl (neg ^^ (valV kvs k).isSome)) H
theorem key_of {k : Key} {u : Value} (r : RelV (kV k) u) : keyIs k u = true := by
  cases k with
  | inl i => obtain ⟨t, rfl⟩ := r; exact keyIs_int i t
  | inr x => obtain ⟨t, rfl⟩ := r; exact keyIs_str x t
theorem some_eq {K : Fr} {kvs : List (Key × V)} {k : Key} {f : Key → Option Value} (z : (∀ v, valV kvs k = some v → ∃ u, f k = some u ∧ RelV v u) ∧ (valV kvs k = none → f k = none)) : (f k).isSome = (valV kvs k).isSome := by
  cases h : valV kvs k with
  | none => rw [z.2 h]; rfl
  | some v => obtain ⟨u, e, _⟩ := z.1 v h; rw [e]; rfl
theorem op_din {X : Cx} {d : Addr} {kvs : List (Key × V)} (D : DicK X.K X.w d kvs) : OpR X (compareOp .In) (rDIn false d kvs) := by
  intro pins s σ H x y v u Q I rx ry h
  obtain ⟨k, rfl, rfl, q⟩ := h
  cases ry
  obtain ⟨f, hm, z⟩ := D.map (P := X.prog) I.kIn
  refine wpAny_in_of (key_of rx) D.low hm ?_
  rw [some_eq (K := X.K) (z k)]
  exact ⟨.bl _, H, I.tok _, rfl, by simpa using q⟩
theorem op_dnotin {X : Cx} {d : Addr} {kvs : List (Key × V)} (D : DicK X.K X.w d kvs) : OpR X (compareOp .NotIn) (rDIn true d kvs) := by
  intro pins s σ H x y v u Q I rx ry h
  obtain ⟨k, rfl, rfl, q⟩ := h
  cases ry
  obtain ⟨f, hm, z⟩ := D.map (P := X.prog) I.kIn
  refine wpAny_notIn_of (key_of rx) D.low hm ?_
  rw [some_eq (K := X.K) (z k)]
  exact ⟨.bl _, H, I.tok _, rfl, by simpa using q⟩
def rDIx (d : Addr) (kvs : List (Key × V)) : R2 := fun x y H Q => ∃ k v, x = .ref d ∧ y = kV k ∧ valV kvs k = some v ∧ Q v H
theorem ix_dk {X : Cx} {d : Addr} {kvs : List (Key × V)} (D : DicK X.K X.w d kvs) : IxR X (rDIx d kvs) := by
  intro value slice pins s σ H x y v u Q I rx ry h hs
  obtain ⟨k, r, rfl, rfl, e, q⟩ := h
  obtain rfl : v = Value.ref d := rx
  obtain ⟨f, hm, z⟩ := D.map (P := X.prog) I.kIn
  obtain ⟨u0, e0, ru⟩ := (z k).1 r e
  exact tail_any hm.typeIs slot_dict_getitem.lookup (wpAny_getItem_of (key_of ry) hm e0 ⟨r, H, I.tok _, ru, q⟩) hs
/-! ### over data -/
abbrev KD := List (Key × PyData)
def keyD : PyData → Option Key
  | .int i => some (.inl i)
  | .str x => some (.inr x)
  | _ => none
def lookD (c : KD) (k : Key) : Option PyData := (c.find? fun p => decide (p.1 = k)).map (·.2)
/-- values of the pairs are those data -/
inductive DVals (K : Fr) : List (Key × V) → KD → Prop
  | nil : DVals K [] []
  | cons {k : Key} {v : V} {d : PyData} {kvs : List (Key × V)} {c : KD} : (∀ H, Dt K H v d) → DVals K kvs c → DVals K ((k, v) :: kvs) ((k, d) :: c)
theorem DVals.look {K : Fr} {k : Key} : ∀ {kvs : List (Key × V)} {c : KD}, DVals K kvs c → (∀ d, lookD c k = some d → ∃ v, valV kvs k = some v ∧ ∀ H, Dt K H v d) ∧ (valV kvs k).isSome = (lookD c k).isSome
  | _, _, .nil => ⟨fun d h => (by cases h), rfl⟩
  | _, _, .cons (k := k') (v := v) (d := d') (kvs := kvs) (c := c) h r => by
    have ih := DVals.look (k := k) r
    by_cases e : k' = k
    · have e1 : valV ((k', v) :: kvs) k = some v := by unfold valV; rw [List.find?_cons_of_pos (by simpa using e)]; rfl
      have e2 : lookD ((k', d') :: c) k = some d' := by unfold lookD; rw [List.find?_cons_of_pos (by simpa using e)]; rfl
      rw [e1, e2]
      exact ⟨fun d q => (by cases q; exact ⟨v, rfl, h⟩), rfl⟩
    · have e1 : valV ((k', v) :: kvs) k = valV kvs k := by unfold valV; rw [List.find?_cons_of_neg (by simpa using e)]
      have e2 : lookD ((k', d') :: c) k = lookD c k := by unfold lookD; rw [List.find?_cons_of_neg (by simpa using e)]
      rw [e1, e2]; exact ih
def DicOk (w : World) (K : Fr) (mg : Str → Option Value) (x : Str) (c : KD) : Prop := ∃ a kvs, mg x = some (.ref a) ∧ DicK K w a kvs ∧ DVals K kvs c
def fHasD (neg : Bool) (c : KD) : F1 := fun d P => ∃ k, keyD d = some k ∧ P (.bool (neg ^^ (lookD c k).isSome))
def fGetD (c : KD) : F1 := fun d P => ∃ k z, keyD d = some k ∧ lookD c k = some z ∧ P z
theorem key_v {K : Fr} {M : List Addr} {H : Hp} {v : V} {d : PyData} {k : Key} (r : Dt K (rm M H) v d) (h : keyD d = some k) : v = kV k := by
  cases d with
  | int i => cases h; exact Dt.isInt r
  | str x => cases h; exact Dt.isStr r
  | _ => cases h
section
variable {ι : Type} {X : ι → Cx} {K : Fr} {e : Expr} {we : WE} {pos p : Pos} {x : Str} {c : KD} {w : World} {mg : Str → Option Value}
theorem de_hasD (g : DicOk w K mg x c) (hm : ∀ i, (X i).mg = mg) (hw : ∀ i, (X i).w = w) (h : DE X K e we) (hK : ∀ i, (X i).K = K := by intro i; rfl) (hg : ∀ i, Gl (X i) x := by intro i; rfl) (hd : (x == ("__debug__" : Str)) = false := by decide) (hmk : behindInMarks .In (.Name x p) = false := by rfl) :
    DE X K (.Compare e [.In] [.Name x p] pos) (wU (fHasD false c) we) := by
  obtain ⟨a, kvs, hx, D, V⟩ := g
  obtain ⟨t, a1, a2⟩ := h
  refine ⟨tOp (rDIn false a kvs) t (tC (.ref a)), fun i => pe_cmpR (op_din (by rw [hK i, hw i]; exact D)) (a1 i) (pe_glob (hg i) (by rw [hm i]; exact hx) rfl hd) hmk, fun M0 M B σ H ρ P Q E w k => ?_⟩
  refine a2 M0 M B σ H ρ _ _ E w fun ρ1 d v H1 w1 x1 E1 r1 => ?_
  obtain ⟨k', hk, w1⟩ := w1
  refine ⟨k', key_v r1 hk, rfl, ?_⟩
  rw [(V.look (k := k')).2]
  exact k ρ1 _ _ H1 w1 x1 E1 (.bl _)
theorem de_hasnD (g : DicOk w K mg x c) (hm : ∀ i, (X i).mg = mg) (hw : ∀ i, (X i).w = w) (h : DE X K e we) (hK : ∀ i, (X i).K = K := by intro i; rfl) (hg : ∀ i, Gl (X i) x := by intro i; rfl) (hd : (x == ("__debug__" : Str)) = false := by decide) (hmk : behindInMarks .NotIn (.Name x p) = false := by rfl) :
    DE X K (.Compare e [.NotIn] [.Name x p] pos) (wU (fHasD true c) we) := by
  obtain ⟨a, kvs, hx, D, V⟩ := g
  obtain ⟨t, a1, a2⟩ := h
  refine ⟨tOp (rDIn true a kvs) t (tC (.ref a)), fun i => pe_cmpR (op_dnotin (by rw [hK i, hw i]; exact D)) (a1 i) (pe_glob (hg i) (by rw [hm i]; exact hx) rfl hd) hmk, fun M0 M B σ H ρ P Q E w k => ?_⟩
  refine a2 M0 M B σ H ρ _ _ E w fun ρ1 d v H1 w1 x1 E1 r1 => ?_
  obtain ⟨k', hk, w1⟩ := w1
  refine ⟨k', key_v r1 hk, rfl, ?_⟩
  rw [(V.look (k := k')).2]
  exact k ρ1 _ _ H1 w1 x1 E1 (.bl _)
theorem de_ixd (g : DicOk w K mg x c) (hm : ∀ i, (X i).mg = mg) (hw : ∀ i, (X i).w = w) (h : DE X K e we) (hs : PlainIx e := by exact fun _ _ => rfl) (hK : ∀ i, (X i).K = K := by intro i; rfl) (hg : ∀ i, Gl (X i) x := by intro i; rfl) (hd : (x == ("__debug__" : Str)) = false := by decide) :
    DE X K (.Subscript (.Name x p) e pos) (wU (fGetD c) we) := by
  obtain ⟨a, kvs, hx, D, V⟩ := g
  obtain ⟨t, a1, a2⟩ := h
  refine ⟨tOp (rDIx a kvs) (tC (.ref a)) t, fun i => pe_ix (ix_dk (by rw [hK i, hw i]; exact D)) (pe_glob (hg i) (by rw [hm i]; exact hx) rfl hd) (a1 i) hs, fun M0 M B σ H ρ P Q E w k => ?_⟩
  refine a2 M0 M B σ H ρ _ _ E w fun ρ1 d v H1 w1 x1 E1 r1 => ?_
  obtain ⟨k', z, hk, hz, w1⟩ := w1
  obtain ⟨u, hu, hd'⟩ := (V.look (k := k')).1 z hz
  exact ⟨k', u, rfl, key_v r1 hk, hu, k ρ1 _ _ H1 w1 x1 E1 (hd' _)⟩
end
theorem dt_ktup {K : Fr} {b : Addr} {od : Option Addr} {its : Array Value} {n : Nat} {sl : Array (Option Value)} {xs : List V} {ds : List PyData} (l : K.lookup b = some ⟨.type "tuple", od, .seq its n, sl⟩) (hz : its.size ≤ sizeLine) (hv : Vals xs its.toList) (hd : ∀ H, DtAll K H xs ds) : ∀ H, Dt K H (.ref b) (.tuple ds) :=
  fun H => .tup (.inr ⟨_, its, n, l, rfl, rfl, hz, hv⟩) (hd H)
section
variable {ι : Type} {X : ι → Cx} {K : Fr} {e : Expr} {we : WE} {pos p : Pos} {x : Str} {c : KD} {w : World} {mg : Str → Option Value}
theorem dt_hasD (g : DicOk w K mg x c) (hm : ∀ i, (X i).mg = mg) (hw : ∀ i, (X i).w = w) (h : DE X K e we) (hK : ∀ i, (X i).K = K := by intro i; rfl) (hg : ∀ i, Gl (X i) x := by intro i; rfl) (hd : (x == ("__debug__" : Str)) = false := by decide) (hmk : behindInMarks .In (.Name x p) = false := by rfl) :
    DT X K (.Compare e [.In] [.Name x p] pos) (wTst (wU (fHasD false c) we)) := by
  obtain ⟨a, kvs, hx, D, V⟩ := g
  obtain ⟨t, a1, a2⟩ := h
  refine ⟨tTest (tOp (rDIn false a kvs) t (tC (.ref a))), fun i => pt_cmpR (op_din (by rw [hK i, hw i]; exact D)) (a1 i) (pe_glob (hg i) (by rw [hm i]; exact hx) rfl hd) hmk, fun M0 M B σ H ρ P Q E w k => ?_⟩
  refine a2 M0 M B σ H ρ _ _ E w fun ρ1 d v H1 w1 x1 E1 r1 => ?_
  obtain ⟨k', hk, b, hb, w1⟩ := w1
  refine ⟨k', key_v r1 hk, rfl, b, ?_, k ρ1 b H1 w1 x1 E1⟩
  rw [(V.look (k := k')).2]
  cases hb; rfl
theorem dt_hasnD (g : DicOk w K mg x c) (hm : ∀ i, (X i).mg = mg) (hw : ∀ i, (X i).w = w) (h : DE X K e we) (hK : ∀ i, (X i).K = K := by intro i; rfl) (hg : ∀ i, Gl (X i) x := by intro i; rfl) (hd : (x == ("__debug__" : Str)) = false := by decide) (hmk : behindInMarks .NotIn (.Name x p) = false := by rfl) :
    DT X K (.Compare e [.NotIn] [.Name x p] pos) (wTst (wU (fHasD true c) we)) := by
  obtain ⟨a, kvs, hx, D, V⟩ := g
  obtain ⟨t, a1, a2⟩ := h
  refine ⟨tTest (tOp (rDIn true a kvs) t (tC (.ref a))), fun i => pt_cmpR (op_dnotin (by rw [hK i, hw i]; exact D)) (a1 i) (pe_glob (hg i) (by rw [hm i]; exact hx) rfl hd) hmk, fun M0 M B σ H ρ P Q E w k => ?_⟩
  refine a2 M0 M B σ H ρ _ _ E w fun ρ1 d v H1 w1 x1 E1 r1 => ?_
  obtain ⟨k', hk, b, hb, w1⟩ := w1
  refine ⟨k', key_v r1 hk, rfl, b, ?_, k ρ1 b H1 w1 x1 E1⟩
  rw [(V.look (k := k')).2]
  cases hb; rfl
end
def gHasD (neg : Bool) (c : KD) : G1 := fun d => (keyD d).map fun k => .bool (neg ^^ (lookD c k).isSome)
def gGetD (c : KD) : G1 := fun d => (keyD d).bind fun k => lookD c k
theorem k_hasd {neg : Bool} {c c' : KD} (e : c = c') : fit1 (fHasD neg c) (gHasD neg c') := by
  subst e
  intro x d h P p
  simp only [gHasD, Option.map_eq_some_iff] at h
  obtain ⟨k, h1, rfl⟩ := h
  exact ⟨k, h1, p⟩
theorem k_getd {c c' : KD} (e : c = c') : fit1 (fGetD c) (gGetD c') := by
  subst e
  intro x d h P p
  simp only [gGetD, Option.bind_eq_some_iff] at h
  obtain ⟨k, h1, h2⟩ := h
  exact ⟨k, d, h1, h2, p⟩
end Pm
/-! Dicts as data: displays, d[k], d.get(k, x), in. -/
namespace Pm
open PySem PySem.Spec PyProof.Rows L2 TL
abbrev PD := List (PyData × PyData)
def lookP (ds : PD) (k : Key) : Option PyData := (ds.find? fun p => decide (keyD p.1 = some k)).map (·.2)
theorem keyD_kD (k : Key) : keyD (kD k) = some k := by cases k <;> rfl
theorem DtKv.look {K : Fr} {H : Hp} {k : Key} : ∀ {kvs : List (Key × V)} {ds : PD}, DtKv K H kvs ds → (∀ d, lookP ds k = some d → ∃ v, valV kvs k = some v ∧ Dt K H v d) ∧ (valV kvs k).isSome = (lookP ds k).isSome
  | _, _, .nil => ⟨fun d h => (by cases h), rfl⟩
  | _, _, .cons (k := k') (v := v) (vs := kvs) (d := d') (ds := c) h r => by
    have ih := DtKv.look (k := k) r
    by_cases e : k' = k
    · have e1 : valV ((k', v) :: kvs) k = some v := by unfold valV; rw [List.find?_cons_of_pos (by simpa using e)]; rfl
      have e2 : lookP ((kD k', d') :: c) k = some d' := by unfold lookP; rw [List.find?_cons_of_pos (by simp [keyD_kD, e])]; rfl
      rw [e1, e2]
      exact ⟨fun d q => (by cases q; exact ⟨v, rfl, h⟩), rfl⟩
    · have e1 : valV ((k', v) :: kvs) k = valV kvs k := by unfold valV; rw [List.find?_cons_of_neg (by simpa using e)]
      have e2 : lookP ((kD k', d') :: c) k = lookP c k := by unfold lookP; rw [List.find?_cons_of_neg (by simp [keyD_kD]; exact e)]
      rw [e1, e2]; exact ih
theorem look_none {K : Fr} {H : Hp} {k : Key} {kvs : List (Key × V)} {ds : PD} (r : DtKv K H kvs ds) (h : lookP ds k = none) : valV kvs k = none := by
  have := (DtKv.look (k := k) r).2
  rw [h] at this
  cases e : valV kvs k with
  | none => rfl
  | some v => rw [e] at this; cases this
def fDGet : F2
  | .dict ds, y, P => ∃ k z, keyD y = some k ∧ lookP ds k = some z ∧ P z
  | _, _, _ => False
def fDIn (neg : Bool) : F2
  | y, .dict ds, P => ∃ k, keyD y = some k ∧ P (.bool (neg ^^ (lookP ds k).isSome))
  | _, _, _ => False
section
variable {ι : Type} {X : ι → Cx} {K : Fr} {a b c e : Expr} {wa wb wc : WE} {pos apos cpos : Pos}
theorem RV.isDic {M : List Addr} {H : Hp} {v : V} {ds : PD} (h : RV K M H v (.dict ds)) : ∃ p o kvs, v = .ref p ∧ H p = some (.frz o (.dK kvs)) ∧ DtKv K (rm M H) kvs ds := by
  rcases h with h | ⟨_, _, _, _, q, _⟩
  · obtain ⟨p, o, kvs, h1, h2, h3⟩ := Dt.isDic h
    exact ⟨p, o, kvs, h1, rm_le _ _ h2, h3⟩
  · cases q
theorem de_dget (hu : ∀ i, (X i).A.units + 64 < cLine) (ha : DE X K a wa) (hb : DE X K b wb) (hs : NoSl b := by exact fun _ _ => rfl) : DE X K (.Subscript a b pos) (wOp fDGet wa wb) := by
  obtain ⟨ta, a1, a2⟩ := ha
  obtain ⟨tb, b1, b2⟩ := hb
  refine ⟨tDGet ta tb, fun i => pe_dget (by have := hu i; omega) (a1 i) (b1 i) hs, fun M0 M B σ H ρ P Q E w k => ?_⟩
  refine a2 M0 M B σ H ρ _ _ E w fun ρ1 x v H1 w1 x1 E1 r1 => ?_
  refine b2 M0 M B σ H1 ρ1 _ _ E1 w1 fun ρ2 y u H2 w2 x2 E2 r2 => ?_
  cases x with
  | dict ds =>
    obtain ⟨k', z, hk, hz, w2⟩ := w2
    obtain ⟨p, o, kvs, rfl, h1, h2⟩ := Dt.isDic (E1.up x2 r1)
    obtain ⟨v', hv, hd⟩ := (h2.look (k := k')).1 z hz
    exact ⟨p, v', rfl, .inl ⟨kvs, k', .inr ⟨o, rm_le _ _ h1⟩, key_v r2 hk, hv.symm⟩, k ρ2 z v' H2 w2 (x1.trans x2) E2 hd⟩
  | _ => exact w2.elim
/-- d.get(k, x) -/
def wDGet2 (wa wb wc : WE) : WE := fun ρ P => wa ρ fun ρ1 x => ∃ ds, x = .dict ds ∧ wb ρ1 fun ρ2 y => wc ρ2 fun ρ3 z => ∃ k, keyD y = some k ∧ P ρ3 ((lookP ds k).getD z)
theorem de_dget2 (hu : ∀ i, (X i).A.units + 64 < cLine) (ha : DE X K a wa) (hb : DE X K b wb) (hc : DE X K c wc) (m : ∀ i, M2 (X i) a "get" apos b c cpos := by intro i; exact ⟨rfl, rfl, rfl, rfl⟩) : DE X K (.Call (.Attribute a "get" apos) [b, c] [] cpos) (wDGet2 wa wb wc) := by
  obtain ⟨ta, a1, a2⟩ := ha
  obtain ⟨tb, b1, b2⟩ := hb
  obtain ⟨tc, c1, c2⟩ := hc
  refine ⟨tDGet2 ta tb tc, fun i => pe_dget2 (by have := hu i; omega) (a1 i) (b1 i) (c1 i) (m i), fun M0 M B σ H ρ P Q E w k => ?_⟩
  refine a2 M0 M B σ H ρ _ _ E w fun ρ1 x v H1 w1 x1 E1 r1 => ?_
  obtain ⟨ds, rfl, w1⟩ := w1
  obtain ⟨p, o, kvs, rfl, h1, h2⟩ := Dt.isDic r1
  refine ⟨p, rfl, .inl ⟨kvs, .inr ⟨o, rm_le _ _ h1⟩⟩, ?_⟩
  refine b2 M0 M B σ H1 ρ1 _ _ E1 w1 fun ρ2 y u H2 w2 x2 E2 r2 => ?_
  refine c2 M0 M B σ H2 ρ2 _ _ E2 w2 fun ρ3 z uz H3 w3 x3 E3 r3 => ?_
  obtain ⟨k', hk, w3⟩ := w3
  obtain ⟨p', o', kvs', e, h1', h2'⟩ := Dt.isDic (E1.up (x2.trans x3) r1)
  cases e
  refine ⟨valV kvs' k', .inl ⟨kvs', k', .inr ⟨o', rm_le _ _ h1'⟩, key_v r2 hk, rfl⟩, ?_⟩
  cases hl : lookP ds k' with
  | none =>
    rw [look_none h2' hl]
    rw [hl] at w3
    exact k ρ3 _ _ H3 w3 (x1.trans (x2.trans x3)) E3 r3
  | some d =>
    obtain ⟨v', hv, hd⟩ := (h2'.look (k := k')).1 d hl
    rw [hv]
    rw [hl] at w3
    exact k ρ3 _ _ H3 w3 (x1.trans (x2.trans x3)) E3 hd
end
/-! ### displays -/
abbrev WPs := Env → (Env → PD → Prop) → Prop
def wPNil : WPs := fun ρ P => P ρ []
def wPCons (wk wv : WE) (r : WPs) : WPs := fun ρ P => wk ρ fun ρ1 k => wv ρ1 fun ρ2 v => r ρ2 fun ρ3 ps => P ρ3 ((k, v) :: ps)
abbrev VPs (K : Fr) (H : Hp) : List (V × V) → PD → Prop := Paired fun p q => Dt K H p.1 q.1 ∧ Dt K H p.2 q.2
theorem VPs.up {K : Fr} {H H' : Hp} (e : Same H H') : ∀ {vs : List (V × V)} {ps : PD}, VPs K H vs ps → VPs K H' vs ps
  | _, _, .nil => .nil
  | _, _, .cons h r => .cons ⟨Dt.up e h.1, Dt.up e h.2⟩ (VPs.up e r)
def DPs {ι : Type} (X : ι → Cx) (K : Fr) (pos : Pos) (keys : List (Option Expr)) (values : List Expr) (w : WPs) : Prop := ∃ trs, (∀ i, PPs (X i) pos keys values trs) ∧ ∀ (M0 M B : List Addr) (σ : L2.St) (H : Hp) (ρ : Env) (P : Env → PD → Prop) (Q : List (V × V) → Hp → Prop), EnvOk K M0 M B H σ ρ → w ρ P →
  (∀ ρ' ps vs H', P ρ' ps → Ext M B H M B H' → EnvOk K M0 M B H' σ ρ' → VPs K (rm M H') vs ps → Q vs H') → tPairs trs σ H Q
section
variable {ι : Type} {X : ι → Cx} {K : Fr} {pos : Pos} {k v : Expr} {ks : List (Option Expr)} {vs : List Expr} {wk wv : WE} {r : WPs}
theorem dps_nil : DPs X K pos [] [] wPNil := ⟨[], fun i => pps_nil, fun M0 M B σ H ρ P Q E w c => c ρ [] [] H w (Ext.refl ..) E .nil⟩
theorem dps_cons (hk : DE X K k wk) (hv : DE X K v wv) (hr : DPs X K pos ks vs r) : DPs X K pos (some k :: ks) (v :: vs) (wPCons wk wv r) := by
  obtain ⟨tk, k1, k2⟩ := hk
  obtain ⟨tv, v1, v2⟩ := hv
  obtain ⟨tr, r1, r2⟩ := hr
  refine ⟨(tk, tv) :: tr, fun i => pps_cons (k1 i) (v1 i) (r1 i), fun M0 M B σ H ρ P Q E w c => ?_⟩
  refine k2 M0 M B σ H ρ _ _ E w fun ρ1 d u H1 w1 x1 E1 q1 => ?_
  refine v2 M0 M B σ H1 ρ1 _ _ E1 w1 fun ρ2 d2 u2 H2 w2 x2 E2 q2 => ?_
  refine r2 M0 M B σ H2 ρ2 _ _ E2 w2 fun ρ3 ps us H3 w3 x3 E3 q3 => ?_
  exact c ρ3 _ _ H3 w3 ((x1.trans x2).trans x3) E3 (.cons ⟨E1.up (x2.trans x3) q1, E2.up x3 q2⟩ q3)
end
def keysP : PD → Option (List Key)
  | [] => some []
  | p :: r => (keyD p.1).bind fun k => (keysP r).map (k :: ·)
/-- {k: v, ..}: keys that are not alike -/
def wDict (w : WPs) : WE := fun ρ P => w ρ fun ρ1 ps => ∃ ks, keysP ps = some ks ∧ ks.Nodup ∧ ps.length ≤ 15 ∧ P ρ1 (.dict ps)
theorem putK_new {kvs : List (Key × V)} {k : Key} {v : V} (h : ∀ p, p ∈ kvs → p.1 ≠ k) : putK kvs k v = kvs ++ [(k, v)] := by
  unfold putK
  rw [if_neg]
  intro c
  obtain ⟨p, hp, e⟩ := List.any_eq_true.mp c
  exact h p hp (of_decide_eq_true e)
theorem merge_new : ∀ (more kvs : List (Key × V)), ((kvs ++ more).map (·.1)).Nodup → mergeK kvs more = kvs ++ more
  | [], kvs, _ => by simp [mergeK]
  | p :: more, kvs, h => by
    show mergeK (putK kvs p.1 p.2) more = _
    have hn : ∀ q, q ∈ kvs → q.1 ≠ p.1 := fun q hq e => by
      rw [List.map_append, List.map_cons, List.nodup_append] at h
      exact h.2.2 q.1 (List.mem_map.mpr ⟨q, hq, rfl⟩) p.1 (List.mem_cons_self ..) e
    rw [putK_new hn, merge_new more (kvs ++ [(p.1, p.2)]) (by rw [List.append_assoc]; exact h), List.append_assoc]; rfl
theorem pairs_of {K : Fr} {H : Hp} : ∀ {vs : List (V × V)} {ps : PD} {ks : List Key}, VPs K H vs ps → keysP ps = some ks → ∃ kvs : List (Key × V), vs = kvs.map (fun kv => (kV kv.1, kv.2)) ∧ kvs.map (·.1) = ks ∧ DtKv K H kvs ps
  | _, _, ks, .nil, h => by cases h; exact ⟨[], rfl, rfl, .nil⟩
  | a :: as, b :: bs, ks, .cons h r, e => by
    have e' : (keyD b.1).bind (fun k => (keysP bs).map (k :: ·)) = some ks := e
    simp only [Option.bind_eq_some_iff, Option.map_eq_some_iff] at e'
    obtain ⟨k, hk, ks', hks, rfl⟩ := e'
    obtain ⟨kvs, h1, h2, h3⟩ := pairs_of r hks
    obtain ⟨a1, a2⟩ := a
    obtain ⟨b1, b2⟩ := b
    have hb : b1 = kD k := by
      cases b1 with
      | int i => cases hk; rfl
      | str x => cases hk; rfl
      | _ => cases hk
    have ha : a1 = kV k := by
      cases b1 with
      | int i => cases hk; exact Dt.isInt h.1
      | str x => cases hk; exact Dt.isStr h.1
      | _ => cases hk
    subst ha
    refine ⟨(k, a2) :: kvs, by rw [h1]; rfl, by rw [← h2]; rfl, ?_⟩
    show DtKv K H ((k, a2) :: kvs) ((b1, b2) :: bs)
    rw [hb]
    exact .cons h.2 h3
theorem EnvOk.chg {K : Fr} {M0 M B : List Addr} {H : Hp} {σ : L2.St} {ρ : Env} {p : Addr} {o o' : HO} (E : EnvOk K M0 M B H σ ρ) (hM : p ∈ M) (hB : p ∉ B) : EnvOk K M0 M B (upd H p o) σ ρ where
  len := E.len
  sub := E.sub
  dom := fun a h q => by
    by_cases c : a = p
    · rw [c, upd_same] at q; cases q
    · rw [upd_ne c] at q; exact E.dom a h q
  m0 := E.m0
  slot := fun i s h => by
    have z := E.slot i s h
    have er : rm M (upd H p o) = rm M H := rm_upd hM
    cases s with
    | un => trivial
    | dat d => obtain ⟨v, h1, h2⟩ := z; exact ⟨v, h1, by rw [er]; exact h2⟩
    | scr ns => obtain ⟨v, h1, h2⟩ := z; exact ⟨v, h1, by rw [er]; exact h2⟩
    | own ds => obtain ⟨l, xs, h1, h2, h3, h4, h5⟩ := z; exact ⟨l, xs, h1, h2, h3, by
        have nl : l ≠ p := fun e => hB (by rw [← e]; exact h2)
        rw [upd_ne nl]; exact h4, by rw [er]; exact h5⟩
    | bor l ds => obtain ⟨xs, h1, h2, h3, h4, h5⟩ := z; exact ⟨xs, h1, h2, h3, by
        have nl : l ≠ p := fun e => hB (by rw [← e]; exact h2)
        rw [upd_ne nl]; exact h4, by rw [er]; exact h5⟩
  sep := E.sep
theorem de_dict {ι : Type} {X : ι → Cx} {K : Fr} {pos : Pos} {keys : List (Option Expr)} {values : List Expr} {w : WPs} (h : DPs X K pos keys values w) (hall : keys.all (·.isSome) = true := by rfl) (hl : keys.length = values.length := by rfl) (h0 : keys ≠ [] := by simp) (h15 : keys.length ≤ 15 := by decide) :
    DE X K (.Dict keys values pos) (wDict w) := by
  obtain ⟨trs, a1, a2⟩ := h
  refine ⟨tFrz (tDisp trs), fun i => pe_frz (pe_disp (a1 i) hall hl h0 h15), fun M0 M B σ H ρ P Q E w k p np => ?_⟩
  have hpM : p ∉ M := E.fresh np
  have hpB : p ∉ B := fun c => hpM (E.sub p c)
  have E1 : EnvOk K M0 (p :: M) B (upd H p (.dK [])) σ ρ := E.more np upd_same fun a u n e => by rw [upd_ne n]; exact e
  refine a2 M0 (p :: M) B σ _ ρ _ _ E1 w fun ρ1 ps vs H2 w1 x1 E2 r1 => ?_
  obtain ⟨ks, hk, nd, hz, w1⟩ := w1
  obtain ⟨kvs, rfl, rfl, r2⟩ := pairs_of r1 hk
  have hp2 : H2 p = some (.dK []) := x1.keep p _ hpB upd_same
  have hlen : kvs.length ≤ 15 := by
    have : (kvs.map fun kv => (kV kv.1, kv.2)).length = ps.length := Paired.length r1
    rw [List.length_map] at this
    omega
  refine ⟨hp2, kvs, rfl, hlen, ?_⟩
  rw [merge_new kvs [] (by simpa using nd), List.nil_append]
  refine ⟨p, kvs, rfl, upd_same, fun ob => ?_⟩
  rw [upd_upd]
  have E3 : EnvOk K M0 (p :: M) B (upd H2 p (.frz ob (.dK kvs))) σ ρ1 := E2.chg (o' := .dK []) (List.mem_cons_self ..) hpB
  have E4 : EnvOk K M0 M B (upd H2 p (.frz ob (.dK kvs))) σ ρ1 := E3.less (fun a h => E.m0 a h) (fun a h => E.sub a h)
  refine k ρ1 _ _ _ w1 ⟨fun _ h => h, fun _ h => .inl h, fun _ h => h, fun _ h => .inl h, fun a o hb e => ?_, fun a e => ?_⟩ E4 ?_
  · have n : a ≠ p := fun q => by rw [q, np] at e; cases e
    rw [upd_ne n]
    exact x1.keep a o hb (by rw [upd_ne n]; exact e)
  · by_cases c : a = p
    · rw [c]; exact np
    · rw [upd_ne c] at e
      have := x1.live a e
      rw [upd_ne c] at this
      exact this
  · refine .dic (rm_of hpM upd_same) (DtKv.up (fun a o e => ?_) r2)
    obtain ⟨z1, z2⟩ := rm_to e
    have n : a ≠ p := fun q => z1 (by rw [q]; exact List.mem_cons_self ..)
    exact rm_of (fun c => z1 (List.mem_cons_of_mem _ c)) (by rw [upd_ne n]; exact z2)
/-! ### functions -/
def gDGet : G2
  | .dict ds, y => (keyD y).bind fun k => lookP ds k
  | _, _ => none
theorem k_dget : fit2 fDGet gDGet := by
  intro x y d h P p
  cases x with
  | dict ds =>
    have h' : (keyD y).bind (fun k => lookP ds k) = some d := h
    simp only [Option.bind_eq_some_iff] at h'
    obtain ⟨k, h1, h2⟩ := h'
    exact ⟨k, d, h1, h2, p⟩
  | _ => cases h
variable {o : Option Addr}
abbrev FPs := Env → Option (Env × PD)
def cP (o : Option Addr) (w : WPs) (f : FPs) : Prop := ∀ ρ r, f ρ = some r → ∀ P : Env → PD → Prop, P (emb o r.1) r.2 → w (emb o ρ) P
def qPNil : FPs := fun ρ => some (ρ, [])
def qPCons (a b : FE) (c : FPs) : FPs := fun ρ => (a ρ).bind fun r => (b r.1).bind fun s => (c s.1).bind fun t => some (t.1, (r.2, s.2) :: t.2)
theorem c_pnil : cP o wPNil qPNil := by intro ρ r h P p; cases h; exact p
theorem c_pcons {wk wv : WE} {r : WPs} {a b : FE} {c : FPs} (ha : cE o wk a) (hb : cE o wv b) (hc : cP o r c) : cP o (wPCons wk wv r) (qPCons a b c) := by
  intro ρ r h P p
  simp only [qPCons, Option.bind_eq_some_iff] at h
  obtain ⟨r1, h1, r2, h2, r3, h3, h4⟩ := h
  cases h4
  exact ha _ _ h1 _ (hb _ _ h2 _ (hc _ _ h3 _ p))
def gDict (ps : PD) : Option PyData := (keysP ps).bind fun ks => if ks.Nodup ∧ ps.length ≤ 15 then some (.dict ps) else none
def qDict (c : FPs) : FE := fun ρ => (c ρ).bind fun r => (gDict r.2).bind fun d => some (r.1, d)
theorem c_dict {w : WPs} {c : FPs} (hc : cP o w c) : cE o (wDict w) (qDict c) := by
  intro ρ r h P p
  simp only [qDict, Option.bind_eq_some_iff] at h
  obtain ⟨r1, h1, d, h2, h3⟩ := h
  cases h3
  refine hc _ _ h1 _ ?_
  simp only [gDict, Option.bind_eq_some_iff] at h2
  obtain ⟨ks, h4, h5⟩ := h2
  obtain ⟨⟨h6, h7⟩, rfl⟩ := of_if h5
  exact ⟨ks, h4, h6, h7, p⟩
def qDGet2 (a b c : FE) : FE := fun ρ => (a ρ).bind fun r => match r.2 with
  | .dict ds => (b r.1).bind fun s => (c s.1).bind fun t => (keyD s.2).bind fun k => some (t.1, (lookP ds k).getD t.2)
  | _ => none
theorem c_dGet2 {wa wb wc : WE} {a b c : FE} (ha : cE o wa a) (hb : cE o wb b) (hc : cE o wc c) : cE o (wDGet2 wa wb wc) (qDGet2 a b c) := by
  intro ρ r h P p
  simp only [qDGet2, Option.bind_eq_some_iff] at h
  obtain ⟨r1, h1, h2⟩ := h
  refine ha _ _ h1 _ ?_
  split at h2
  · rename_i ds hd
    simp only [Option.bind_eq_some_iff] at h2
    obtain ⟨r2, h3, r3, h4, k, h5, h6⟩ := h2
    cases h6
    exact ⟨ds, hd, hb _ _ h3 _ (hc _ _ h4 _ ⟨k, h5, p⟩)⟩
  · cases h2
end Pm
namespace Pm
open PySem PySem.Spec PyProof.Rows L2 TL
variable {ρ : Env} {x y : PyData} {a b c : FE} {f : FPs}
theorem e_pnil : qPNil ρ = some (ρ, []) := rfl
def kPC3 (x y : PyData) (t : Env × PD) : Option (Env × PD) := some (t.1, (x, y) :: t.2)
def kPC2 (f : FPs) (x : PyData) (s : Env × PyData) : Option (Env × PD) := bnd (kPC3 x s.2) (f s.1)
def kPC1 (b : FE) (f : FPs) (r : Env × PyData) : Option (Env × PD) := bnd (kPC2 f r.2) (b r.1)
theorem e_pcons : qPCons a b f ρ = bnd (kPC1 b f) (a ρ) := rfl
theorem kpc1 : kPC1 b f (ρ, x) = bnd (kPC2 f x) (b ρ) := rfl
theorem kpc2 : kPC2 f x (ρ, y) = bnd (kPC3 x y) (f ρ) := rfl
theorem kpc3 {ps : PD} : kPC3 x y (ρ, ps) = some (ρ, (x, y) :: ps) := rfl
def kDct (r : Env × PD) : Option (Env × PyData) := bnd (kPut r.1) (gDict r.2)
theorem e_dict : qDict f ρ = bnd kDct (f ρ) := rfl
theorem kdct {ps : PD} : kDct (ρ, ps) = bnd (kPut ρ) (gDict ps) := rfl
theorem g_dget {ds : PD} : gDGet (.dict ds) y = (keyD y).bind fun k => lookP ds k := rfl
theorem key_i {i : Int} : keyD (.int i) = some (.inl i) := rfl
theorem key_s {s : Str} : keyD (.str s) = some (.inr s) := rfl
def kG3 (ds : PD) (y : PyData) (t : Env × PyData) : Option (Env × PyData) := (keyD y).bind fun k => some (t.1, (lookP ds k).getD t.2)
def kG2 (c : FE) (ds : PD) (s : Env × PyData) : Option (Env × PyData) := bnd (kG3 ds s.2) (c s.1)
def kG1 (b c : FE) (r : Env × PyData) : Option (Env × PyData) := match r.2 with
  | .dict ds => bnd (kG2 c ds) (b r.1)
  | _ => none
theorem e_dget2 : qDGet2 a b c ρ = bnd (kG1 b c) (a ρ) := by
  unfold qDGet2 bnd kG1
  congr 1
theorem kg1 {ds : PD} : kG1 b c (ρ, .dict ds) = bnd (kG2 c ds) (b ρ) := rfl
theorem kg2 {ds : PD} : kG2 c ds (ρ, y) = bnd (kG3 ds y) (c ρ) := rfl
theorem kg3_s {ds : PD} {s : Str} : kG3 ds (.str s) (ρ, x) = some (ρ, (lookP ds (.inr s)).getD x) := rfl
theorem kg3_i {ds : PD} {s : Int} : kG3 ds (.int s) (ρ, x) = some (ρ, (lookP ds (.inl s)).getD x) := rfl
theorem g_hasD_i {z : Bool} {d : KD} {i : Int} : gHasD z d (.int i) = some (.bool (z ^^ (lookD d (.inl i)).isSome)) := rfl
theorem g_hasD_s {z : Bool} {d : KD} {i : Str} : gHasD z d (.str i) = some (.bool (z ^^ (lookD d (.inr i)).isSome)) := rfl
theorem g_getD_i {d : KD} {i : Int} : gGetD d (.int i) = lookD d (.inl i) := rfl
theorem g_getD_s {d : KD} {i : Str} : gGetD d (.str i) = lookD d (.inr i) := rfl
theorem g_any_l {ds : List PyData} : gAny (.list ds) = (gBs ds).map fun bs => .bool (bs.any id) := rfl
theorem g_all_l {ds : List PyData} : gAll (.list ds) = (gBs ds).map fun bs => .bool (bs.all id) := rfl
theorem g_lower {s : Str} : gLower (.str s) = if s.length ≤ 5592405 then some (.str (Txt.lower s)) else none := rfl
theorem g_upper {s : Str} : gUpper (.str s) = if s.length ≤ 5592405 then some (.str (Txt.upper s)) else none := rfl
theorem g_strip {s r : Str} : gStrip s [.str r] = if s.length ≤ 16777216 then some (.str (Txt.stripChars s r)) else none := rfl
theorem g_split {s r : Str} : gSplit s [.str r] = if (r.length == 0) = false ∧ s.length + 2 ≤ 16777216 then some (.list ((Txt.split s r).map .str)) else none := rfl
theorem g_split0 {s : Str} : gSplit0 (.str s) = if s.length + 2 ≤ 16777216 then some (.list ((Txt.words s).map .str)) else none := rfl
theorem fxs2 : type_of% (And.intro @e_pnil (And.intro @e_pcons (And.intro @kpc1 (And.intro @kpc2 (And.intro @kpc3 (And.intro @e_dict (And.intro @kdct (And.intro @g_dget (And.intro @key_i (And.intro @key_s (And.intro @e_dget2 (And.intro @kg1 (And.intro @kg2 (And.intro @kg3_s (And.intro @kg3_i (And.intro @g_hasD_i (And.intro @g_hasD_s (And.intro @g_getD_i (And.intro @g_getD_s (And.intro @g_any_l (And.intro @g_all_l (And.intro @g_lower (And.intro @g_upper @g_strip))))))))))))))))))))))) := And.intro @e_pnil (And.intro @e_pcons (And.intro @kpc1 (And.intro @kpc2 (And.intro @kpc3 (And.intro @e_dict (And.intro @kdct (And.intro @g_dget (And.intro @key_i (And.intro @key_s (And.intro @e_dget2 (And.intro @kg1 (And.intro @kg2 (And.intro @kg3_s (And.intro @kg3_i (And.intro @g_hasD_i (And.intro @g_hasD_s (And.intro @g_getD_i (And.intro @g_getD_s (And.intro @g_any_l (And.intro @g_all_l (And.intro @g_lower (And.intro @g_upper @g_strip))))))))))))))))))))))
end Pm
namespace Pm
open PySem PySem.Spec PyProof.Rows L2
section
variable {ι : Type} {X : ι → Cx} {K : Fr} {a b c e tg : Expr} {wa wb wc wo we : WE} {wA : WA} {pos apos cpos : Pos}
/-! ### text.index(sign) -/
def fSIndex : FM
  | a, [.str b], P => ∃ i rest, Builtin.Str.occurrences a b 0 a.length 1 = i :: rest ∧ P (.int ((i : Nat) : Int))
  | _, _, _ => False
theorem md_sindex : MtD K (fun x xs H Q => ∃ a b i rest, x = .str a ∧ xs = [.str b] ∧ Builtin.Str.occurrences a b 0 a.length 1 = i :: rest ∧ Q (.int (i : Nat)) H) fSIndex := by
  intro M H x ds vs P Q dom r f k
  match ds, f with
  | [.str b], f =>
    cases r with
    | cons r1 r =>
      cases r
      rw [Dt.isStr r1]
      obtain ⟨i, rest, h, f⟩ := f
      exact ⟨x, b, i, rest, rfl, rfl, h, k _ _ H f (Same.refl _) (.int _)⟩
theorem de_sindex (h : DE X K a wo) (ha : DA X K [e] wA) (hK : ∀ i, (X i).K = K := by intro i; rfl)
    (hp : ∀ i t u, PE (X i) a t → PA (X i) [e] u → PE (X i) (.Call (.Attribute a "index" apos) [e] [] cpos) (tBM (X i).K "str" (fun x xs H Q => ∃ a b i rest, x = .str a ∧ xs = [.str b] ∧ Builtin.Str.occurrences a b 0 a.length 1 = i :: rest ∧ Q (.int (i : Nat)) H) t u) := by intro i t u h1 h2; exact pe_bm PySem.F.plainAttrs_str PySem.F.slot_str_index PySem.F.type_str_index mt_sindex h1 h2) :
    DE X K (.Call (.Attribute a "index" apos) [e] [] cpos) (wM fSIndex wo wA) :=
  de_m (fun i t u h1 h2 => by rw [← hK i]; exact hp i t u h1 h2) md_sindex h ha
def gSIndex : GM
  | a, [.str b] => match Builtin.Str.occurrences a b 0 a.length 1 with
    | i :: _ => some (.int ((i : Nat) : Int))
    | [] => none
  | _, _ => none
theorem k_sindex : fitM fSIndex gSIndex := by
  intro x ds d h P p
  match ds, h with
  | [.str b], h =>
    cases e : Builtin.Str.occurrences x b 0 x.length 1 with
    | nil => simp only [gSIndex, e] at h; cases h
    | cons i rest =>
      simp only [gSIndex, e] at h
      cases h
      exact ⟨i, rest, e, p⟩
theorem g_sindex {t s : List Nat} : gSIndex (tx t) [.str (tx s)] = (findL s t).map fun i => .int ((i : Nat) : Int) := by
  show (match Builtin.Str.occurrences (tx t) (tx s) 0 (tx t).length 1 with | i :: _ => some (PyData.int ((i : Nat) : Int)) | [] => none) = _
  rw [tx_len, occ_one t s 0 t.length (Nat.le_refl _) (Nat.zero_le _), List.take_length, List.drop_zero]
  cases findL s t with
  | none => rfl
  | some k => simp
/-! ### str(number) -/
def fStr : F1
  | .int i, P => i.natAbs.log2 < 1920 ∧ P (.str (toString i))
  | _, _ => False
theorem cd_toStr : CallD K (fun xs H Q => ∃ i, xs = [.int i] ∧ i.natAbs.log2 < 1920 ∧ Q (.str (toString i)) H) fStr := by
  intro M H x v P Q dom r f k
  cases x with
  | int i => rw [RV.isInt r]; exact ⟨i, rfl, f.1, k _ _ H f.2 (Same.refl _) (.str _)⟩
  | _ => exact f.elim
theorem de_toStr {p : Pos} (hm : ∀ i, (X i).mg "str" = none) (h : DE X K e we) (hg : ∀ i, Gl (X i) "str" := by intro i; rfl)
    (he : ∀ i, starEach (e :: []) (X i).env = (false, eval e (X i).env) :: starEach [] (X i).env := by intro i; rfl) : DE X K (.Call (.Name "str" p) [e] [] pos) (wU fStr we) :=
  de_u (fun i t h => pe_callTy call_str_int (hg i) (hm i) (by decide +kernel) (pa_cons h pa_nil (he i)) (by decide) (by decide) (he i) rfl) cd_toStr h.v
def gStr : G1
  | .int i => if i.natAbs.log2 < 1920 then some (.str (toString i)) else none
  | _ => none
theorem k_str : fit1 fStr gStr := by
  intro x d h P p
  cases x with
  | int i => obtain ⟨c, rfl⟩ := of_if h; exact ⟨c, p⟩
  | _ => cases h
/-! ### sorted(d) -/
def keysS : PD → Option (List Str)
  | [] => some []
  | (.str s, _) :: r => (keysS r).map (s :: ·)
  | _ => none
theorem keysS_of {H : Hp} : ∀ {kvs : List (Key × V)} {ds : PD} {ks : List Str}, DtKv K H kvs ds → keysS ds = some ks → kvs.map (·.1) = ks.map Sum.inr
  | _, _, ks, .nil, h => by cases h; rfl
  | _, _, ks, .cons (k := k) (v := v) (vs := kvs) (d := d) (ds := ds) r1 r, h => by
    cases k with
    | inl i => simp only [kD, keysS] at h; cases h
    | inr s =>
      simp only [kD, keysS] at h
      cases e : keysS ds with
      | none => rw [e] at h; cases h
      | some ks' =>
        rw [e] at h; cases h
        rw [List.map_cons, keysS_of r e]; rfl
def fSortD : F1
  | .dict ds, P => ∃ ks, keysS ds = some ks ∧ ks.length < 64 ∧ ∀ ys, ys.Perm ks → sortedS ys = true → P (.list (ys.map .str))
  | _, _ => False
theorem dt_strsV {H : Hp} : ∀ l : List Str, DtAll K H (l.map V.str) (l.map .str)
  | [] => .nil
  | s :: l => .cons (.str s) (dt_strsV l)
theorem cd_sortD : CallD K (fun xs H Q => ∃ (a : Addr) (kvs : List (Key × V)) (ks : List Str), xs = [.ref a] ∧ Rd H a (.dK kvs) ∧ kvs.map (·.1) = ks.map Sum.inr ∧ ks.length < 64 ∧
    ∀ ys p, ys.Perm ks → sortedS ys = true → H p = none → Q (.ref p) (upd H p (.lst (ys.map V.str)))) fSortD := by
  intro M H x v P Q dom r f k
  cases x with
  | dict ds =>
    obtain ⟨ks, h1, h2, h3⟩ := f
    obtain ⟨p, o, kvs, rfl, h4, h5⟩ := RV.isDic r
    refine ⟨p, kvs, ks, rfl, .inr ⟨o, h4⟩, keysS_of h5 h1, h2, fun ys q hp hs np => ?_⟩
    have hq : q ∉ M := fun c => dom q c np
    exact k _ _ _ (h3 ys hp hs) (same_new np) (.lst (rm_of hq upd_same) (dt_strsV ys))
  | _ => exact f.elim
theorem de_sortD {p : Pos} (hm : ∀ i, (X i).mg "sorted" = none) (h : DE X K e we) (hg : ∀ i, Gl (X i) "sorted" := by intro i; rfl) (hc : ∀ i, (X i).calm = true := by intro i; rfl)
    (he : ∀ i, starEach (e :: []) (X i).env = (false, eval e (X i).env) :: starEach [] (X i).env := by intro i; rfl) : DE X K (.Call (.Name "sorted" p) [e] [] pos) (wU fSortD we) :=
  de_u (fun i t h => pe_callB (call_sortedD (hc i)) (hg i) (hm i) (by kernel_rfl) (pa_cons h pa_nil (he i)) (by decide) (by decide) (he i) rfl) cd_sortD h.v
def leS (a b : Str) : Bool := !ltCps b.cps.toList a.cps.toList
def gSortD : G1
  | .dict ds => (keysS ds).bind fun ks => if ks.length < 64 then some (.list ((ks.mergeSort leS).map .str)) else none
  | _ => none
theorem leS_iff (a b : Str) : leS a b = true ↔ a.cps.toList ≤ b.cps.toList := by
  unfold leS
  rw [ltCps_eq, Bool.not_eq_true', decide_eq_false_iff_not]
  exact Iff.rfl
theorem rising_pw : ∀ (p : Str) (l : List Str), risingS p l = true → (p :: l).Pairwise fun a b => leS a b = true
  | p, [], _ => List.pairwise_singleton _ _
  | p, x :: r, h => by
    have h : (!ltCps x.cps.toList p.cps.toList && risingS x r) = true := h
    rw [Bool.and_eq_true] at h
    have ih := rising_pw x r h.2
    refine List.pairwise_cons.mpr ⟨fun y hy => ?_, ih⟩
    have hpx : leS p x = true := h.1
    rcases List.mem_cons.mp hy with rfl | hy
    · exact hpx
    · have hxy : leS x y = true := List.rel_of_pairwise_cons ih hy
      rw [leS_iff] at hpx hxy ⊢
      exact List.le_trans hpx hxy
theorem sorted_pw : ∀ l : List Str, sortedS l = true → l.Pairwise fun a b => leS a b = true
  | [], _ => .nil
  | x :: r, h => rising_pw x r h
theorem sorted_is {ks ys : List Str} (hp : ys.Perm ks) (hs : sortedS ys = true) : ys = ks.mergeSort leS := by
  refine List.Perm.eq_of_pairwise (le := fun a b => leS a b = true) (fun a b _ _ h1 h2 => ?_) (sorted_pw ys hs) ?_ (hp.trans (List.mergeSort_perm ks leS).symm)
  · rw [leS_iff] at h1 h2
    have e := List.le_antisymm h1 h2
    obtain ⟨⟨a⟩⟩ := a
    obtain ⟨⟨b⟩⟩ := b
    have : a = b := e
    rw [this]
  · refine List.pairwise_mergeSort (fun a b c h1 h2 => ?_) (fun a b => ?_) ks
    · rw [leS_iff] at h1 h2 ⊢
      exact List.le_trans h1 h2
    · rw [Bool.or_eq_true, leS_iff, leS_iff]
      exact List.le_total _ _
theorem k_sortd : fit1 fSortD gSortD := by
  intro x d h P p
  cases x with
  | dict ds =>
    simp only [gSortD, Option.bind_eq_some_iff] at h
    obtain ⟨ks, h1, h2⟩ := h
    obtain ⟨c, rfl⟩ := of_if h2
    exact ⟨ks, h1, c, fun ys hp hs => by rw [sorted_is hp hs]; exact p⟩
  | _ => cases h
/-! ### for k in d -/
def fKeys (d : PyData) (P : List PyData → Prop) : Prop := match d with
  | .dict ds => P (ds.map (·.1))
  | _ => False
def wKeysI (we : WE) : WI := fun ρ P => we ρ fun ρ1 d => fKeys d fun ds => P ρ1 ds
theorem kv_len {H : Hp} : ∀ {kvs : List (Key × V)} {ds : PD}, DtKv K H kvs ds → kvs.length = ds.length
  | _, _, .nil => rfl
  | _, _, .cons _ r => by rw [List.length_cons, List.length_cons, kv_len r]
theorem kv_get {H : Hp} : ∀ {kvs : List (Key × V)} {ds : PD} {i : Nat} {d : PyData}, DtKv K H kvs ds → (ds.map (·.1))[i]? = some d → ∃ k v, kvs[i]? = some (k, v) ∧ d = kD k
  | _, _, i, d, .nil, h => by simp at h
  | _, _, 0, d, .cons (k := k) (v := v) _ r, h => by
    rw [List.map_cons] at h
    exact ⟨k, v, rfl, (Option.some.inj h).symm⟩
  | _, _, i + 1, d, .cons _ r, h => by
    rw [List.map_cons, List.getElem?_cons_succ] at h
    obtain ⟨k, v, h1, h2⟩ := kv_get r h
    exact ⟨k, v, by rw [List.getElem?_cons_succ]; exact h1, h2⟩
theorem dt_key {H : Hp} (k : Key) : Dt K H (kV k) (kD k) := by
  cases k with
  | inl i => exact .int i
  | inr s => exact .str s
theorem di_keys (h : DE X K e we) : DI X K tg e (wKeysI we) := by
  obtain ⟨t, a1, a2⟩ := h
  refine ⟨iKeys t, fun i => pi_keys (a1 i), fun M0 M B σ H ρ P R E w k => ?_⟩
  refine a2 M0 M B σ H ρ _ _ E w fun ρ1 d v H1 w1 x1 E1 r1 => ?_
  cases d with
  | dict ds =>
    obtain ⟨p, o, kvs, rfl, h1, h2⟩ := Dt.isDic r1
    refine ⟨p, o, rfl, .inl ⟨kvs, rm_le _ _ h1, k ρ1 _ _ H1 w1 x1 E1 ?_⟩⟩
    intro M' H' s dom
    have h' : H' p = some (.frz o (.dK kvs)) := (rm_to (s _ _ h1)).2
    refine ⟨fun i d hd => ?_, ⟨h', by rw [List.length_map, kv_len h2]; exact Nat.le_refl _⟩⟩
    obtain ⟨k', v', e1, rfl⟩ := kv_get h2 hd
    refine ⟨⟨h', (List.getElem?_eq_some_iff.mp e1).1⟩, fun x H'' y => ?_⟩
    obtain ⟨rfl, k2, v2, e2, rfl⟩ := y
    rw [e1] at e2
    cases e2
    exact ⟨Same.refl _, dt_key k'⟩
  | _ => exact w1.elim
end
/-! ### a dict that is put together by update -/
section
variable {X : Cx} {pins : List (Addr × Obj)} {σ : L2.St} {H : Hp} {s : Shared} {p q : Addr} {kvs more : List (Key × V)} {A : Around} {E : Value → Shared → Prop}
theorem d_update {Q : Value → Shared → Prop} (I : Inv X pins σ H s) (e : H p = some (.dK kvs)) (e2 : H q = some (.dK more)) (ne : p ≠ q) (sz : kvs.length + more.length ≤ sizeLine) (h : ∀ s', Inv X pins σ (upd H p (.dK (mergeK kvs more))) s' → Q .none s') :
    wpAny (model X.prog X.w) A (call (.builtin "dict.update") [.ref p, .ref q]) Q E s := by
  obtain ⟨z, hd, vs, rel, dd⟩ := dk_of I.hok e
  obtain ⟨z2, hd2, vs2, rel2, dd2⟩ := dk_of I.hok e2
  have hz : vs.length + vs2.length ≤ sizeLine := by
    have h1 := rel.length
    have h2 := rel2.length
    omega
  refine call_meetsIn PySem.F.slot_dict_update dd.typeIs PySem.F.entry_dict_update (PySem.F.args_dict_update_2 _ _) (meets_dict_update (mixKind X.prog X.w) p q ne hd2) ⟨vs, vs2, dd, dd2, hz, fun h' d1 d2 hs => ?_⟩
  have hl : (mergeK kvs more).length ≤ sizeLine := Nat.le_trans (length_mergeK more kvs) sz
  have he : ∃ q, h'.get? p = some q := let ⟨q, _, _, hq, _⟩ := d1; ⟨q, hq⟩
  exact h _ (d_write I (by rw [e]; exact True.intro) hs he (dk_new hl hd (rel2.merge rel) d1))
def tDUpd (to td : TE) : TE := fun σ H Q => to σ H fun x H1 => ∃ p, x = .ref p ∧ IsD H1 p ∧ td σ H1 fun y H2 => ∃ q kvs more, y = .ref q ∧ p ≠ q ∧ H2 p = some (.dK kvs) ∧ H2 q = some (.dK more) ∧ kvs.length + more.length ≤ sizeLine ∧ Q .non (upd H2 p (.dK (mergeK kvs more)))
theorem pe_dupd {o e : Expr} {to td : TE} {apos cpos : Pos} (ho : PE X o to) (he : PE X e td) (m : M1 X o "update" apos e cpos) : PE X (.Call (.Attribute o "update" apos) [e] [] cpos) (tDUpd to td) := by
  refine ⟨fun pins s σ H Q I h => ?_⟩
  refine wpAny_Call_method m.base m.few m.line PySem.F.plainAttrs_dict PySem.F.slot_dict_update PySem.F.type_dict_update (thn (ho.run pins s σ H _ I h) fun u s1 ⟨x, H1, I1, rx, a, ex, d, q1⟩ => ?_)
  subst ex
  obtain rfl : u = Value.ref a := rx
  obtain ⟨t1, t2, _⟩ := isD_at I1 d
  refine ⟨t1, t2, ?_⟩
  rw [m.trees]
  refine Calls.callWith_builtin rfl (Calls.evalArgs_plain (Calls.spliced_cons (thn (he.run pins s1 σ H1 _ I1 q1) fun iv s2 ⟨y, H2, I2, ry, q, kvs, more, ey, ne, h1, h2, sz, q2⟩ => Calls.spliced_nil ?_)))
  subst ey
  obtain rfl : iv = Value.ref q := ry
  exact d_update I2 h1 h2 ne sz fun s3 I3 => ⟨.non, _, I3, rfl, q2⟩
end
end Pm
/-! x = {..}; x.update({..}); x.update({..}); return x -/
namespace Pm
open PySem PySem.Spec PyProof.Rows L2
section
variable {K : Fr}
/-- a display, its dict kept apart from the data -/
theorem disp_sem {trs : List (TE × TE)} {w : WPs} {M0 M B : List Addr} {σ : L2.St} {H : Hp} {ρ : Env} {P : Env → PD → List Key → Prop} {Q : VK}
    (a2 : ∀ (M0 M B : List Addr) (σ : L2.St) (H : Hp) (ρ : Env) (P : Env → PD → Prop) (Q : List (V × V) → Hp → Prop), EnvOk K M0 M B H σ ρ → w ρ P → (∀ ρ' ps vs H', P ρ' ps → Ext M B H M B H' → EnvOk K M0 M B H' σ ρ' → VPs K (rm M H') vs ps → Q vs H') → tPairs trs σ H Q)
    (E : EnvOk K M0 M B H σ ρ) (hw : w ρ fun ρ' ps => ∃ ks, keysP ps = some ks ∧ ks.Nodup ∧ ps.length ≤ 15 ∧ P ρ' ps ks)
    (k : ∀ p ρ' ps kvs H', H p = none → P ρ' ps (kvs.map (·.1)) → Ext M B H (p :: M) B H' → EnvOk K M0 (p :: M) B H' σ ρ' → H' p = some (.dK kvs) → DtKv K (rm (p :: M) H') kvs ps → kvs.length ≤ 15 → Q (.ref p) H') : tDisp trs σ H Q := by
  intro p np
  have hpM : p ∉ M := E.fresh np
  have hpB : p ∉ B := fun c => hpM (E.sub p c)
  have E1 : EnvOk K M0 (p :: M) B (upd H p (.dK [])) σ ρ := E.more np upd_same fun a u n e => by rw [upd_ne n]; exact e
  refine a2 M0 (p :: M) B σ _ ρ _ _ E1 hw fun ρ1 ps vs H2 w1 x1 E2 r1 => ?_
  obtain ⟨ks, hk, nd, hz, w1⟩ := w1
  obtain ⟨kvs, rfl, rfl, r2⟩ := pairs_of r1 hk
  have hp2 : H2 p = some (.dK []) := x1.keep p _ hpB upd_same
  have hlen : kvs.length ≤ 15 := by
    have : (kvs.map fun kv => (kV kv.1, kv.2)).length = ps.length := Paired.length r1
    rw [List.length_map] at this
    omega
  refine ⟨hp2, kvs, rfl, hlen, ?_⟩
  rw [merge_new kvs [] (by simpa using nd), List.nil_append]
  have E3 : EnvOk K M0 (p :: M) B (upd H2 p (.dK kvs)) σ ρ1 := E2.chg (o' := .dK []) (List.mem_cons_self ..) hpB
  refine k p ρ1 ps kvs _ np w1 ⟨fun _ h => List.mem_cons_of_mem _ h, fun a h => ?_, fun _ h => h, fun _ h => .inl h, fun a o hb e => ?_, fun a e => ?_⟩ E3 upd_same (by rw [rm_upd (List.mem_cons_self ..)]; exact r2) hlen
  · rcases List.mem_cons.mp h with rfl | h
    · exact .inr np
    · exact .inl h
  · have n : a ≠ p := fun q => by rw [q, np] at e; cases e
    rw [upd_ne n]
    exact x1.keep a o hb (by rw [upd_ne n]; exact e)
  · by_cases c : a = p
    · rw [c]; exact np
    · rw [upd_ne c] at e
      have := x1.live a e
      rw [upd_ne c] at this
      exact this
theorem kv_app {H : Hp} : ∀ {a b : List (Key × V)} {x y : PD}, DtKv K H a x → DtKv K H b y → DtKv K H (a ++ b) (x ++ y)
  | _, _, _, _, .nil, h => h
  | _, _, _, _, .cons h r, h2 => .cons h (kv_app r h2)
def wUpd3 (i : Nat) (w1 w2 w3 : WPs) : WS := fun E ρ => w1 ρ fun ρ1 ps1 => ∃ k1, keysP ps1 = some k1 ∧ k1.Nodup ∧ ps1.length ≤ 15 ∧ w2 (ρ1.set i .un) fun ρ2 ps2 => ∃ k2, keysP ps2 = some k2 ∧ k2.Nodup ∧ ps2.length ≤ 15 ∧ w3 ρ2 fun ρ3 ps3 =>
  ∃ k3, keysP ps3 = some k3 ∧ k3.Nodup ∧ ps3.length ≤ 15 ∧ (k1 ++ k2 ++ k3).Nodup ∧ E.rt ρ3 (.dict (ps1 ++ ps2 ++ ps3))
theorem EnvOk.upd1 {M0 M B : List Addr} {H : Hp} {σ : L2.St} {ρ : Env} {p : Addr} {o : HO} (E : EnvOk K M0 M B H σ ρ) (hM : p ∈ M) (hB : p ∉ B) : EnvOk K M0 M B (upd H p o) σ ρ := E.chg (o' := o) hM hB
theorem ext_upd {M B : List Addr} {H : Hp} {M' B' : List Addr} {H' : Hp} {p : Addr} {o : HO} (x : Ext M B H M' B' H') (np : H p = none) : Ext M B H M' B' (upd H' p o) where
  m := x.m
  new := x.new
  b := x.b
  newb := x.newb
  keep := fun a u hb e => by
    have n : a ≠ p := fun q => by rw [q, np] at e; cases e
    rw [upd_ne n]; exact x.keep a u hb e
  live := fun a e => by
    by_cases c : a = p
    · rw [c]; exact np
    · rw [upd_ne c] at e; exact x.live a e
theorem dss_upd3 {Y : Cx} (i : Nat) {x : Str} {ks1 ks2 ks3 : List (Option Expr)} {vs1 vs2 vs3 : List Expr} {q1 q2 q3 px pa pb pr aa ab ca cb pos ea eb rp : Pos} {w1 w2 w3 : WPs} (nd : Y.N.Nodup)
    (h1 : DPs (one Y) K q1 ks1 vs1 w1) (h2 : DPs (one Y) K q2 ks2 vs2 w2) (h3 : DPs (one Y) K q3 ks3 vs3 w3)
    (hv : ∀ p, PE Y (.Name x p) (tVar i)) (hp : Y.N.Nodup → ∀ t, PE Y (.Dict ks1 vs1 q1) t → PS Y (.Assign [.Name x px] (.Dict ks1 vs1 q1) pos) (tAsg t (gName i)))
    (m2 : M1 Y (.Name x pa) "update" aa (.Dict ks2 vs2 q2) ca) (m3 : M1 Y (.Name x pb) "update" ab (.Dict ks3 vs3 q3) cb)
    (a1 : ks1.all (·.isSome) = true := by rfl) (l1 : ks1.length = vs1.length := by rfl) (n1 : ks1 ≠ [] := by simp) (z1 : ks1.length ≤ 15 := by decide)
    (a2 : ks2.all (·.isSome) = true := by rfl) (l2 : ks2.length = vs2.length := by rfl) (n2 : ks2 ≠ [] := by simp) (z2 : ks2.length ≤ 15 := by decide)
    (a3 : ks3.all (·.isSome) = true := by rfl) (l3 : ks3.length = vs3.length := by rfl) (n3 : ks3 ≠ [] := by simp) (z3 : ks3.length ≤ 15 := by decide)
    (hx2 : ∀ t, PE Y (.Call (.Attribute (.Name x pa) "update" aa) [.Dict ks2 vs2 q2] [] ca) t → PS Y (.Expr (.Call (.Attribute (.Name x pa) "update" aa) [.Dict ks2 vs2 q2] [] ca) ea) (tDrop t) := by intro t h; exact ps_expr h)
    (hx3 : ∀ t, PE Y (.Call (.Attribute (.Name x pb) "update" ab) [.Dict ks3 vs3 q3] [] cb) t → PS Y (.Expr (.Call (.Attribute (.Name x pb) "update" ab) [.Dict ks3 vs3 q3] [] cb) eb) (tDrop t) := by intro t h; exact ps_expr h) :
    DSs Y K [.Assign [.Name x px] (.Dict ks1 vs1 q1) pos, .Expr (.Call (.Attribute (.Name x pa) "update" aa) [.Dict ks2 vs2 q2] [] ca) ea, .Expr (.Call (.Attribute (.Name x pb) "update" ab) [.Dict ks3 vs3 q3] [] cb) eb, .Return (some (.Name x pr)) rp] (fun E ρ => i < ρ.length ∧ wUpd3 i w1 w2 w3 E ρ) := by
  obtain ⟨t1, b1, c1⟩ := h1
  obtain ⟨t2, b2, c2⟩ := h2
  obtain ⟨t3, b3, c3⟩ := h3
  have s1 := hp nd _ (pe_disp (b1 ()) a1 l1 n1 z1)
  have s2 := hx2 _ (pe_dupd (hv pa) (pe_disp (b2 ()) a2 l2 n2 z2) m2)
  have s3 := hx3 _ (pe_dupd (hv pb) (pe_disp (b3 ()) a3 l3 n3 z3) m3)
  refine ⟨_, pss_cons s1 (pss_cons s2 (pss_cons s3 (pss_one (ps_ret (pe_frz (hv pr)))))), fun M0 M B σ H ρ E D Ev h F => ?_⟩
  obtain ⟨hil, h⟩ := h
  unfold wUpd3 at h
  unfold tSeq tAsg gName tDrop tRet tDUpd
  refine disp_sem c1 Ev h fun p ρ1 ps1 kvs1 H1 np hw1 x1 E1 hp1 r1 e1 => ?_
  have hpM : p ∉ M := Ev.fresh np
  have hpB : p ∉ B := fun c => hpM (Ev.sub p c)
  have E1f : EnvOk K M0 (p :: M) B H1 (σ.set i (some (.ref p))) (ρ1.set i .un) := E1.forget i _
  have hil1 : i < σ.length := by rw [Ev.len]; exact hil
  have hσ : (σ.set i (some (V.ref p)))[i]? = some (some (.ref p)) := by rw [List.getElem?_set_self hil1]
  refine ⟨_, hσ, p, rfl, .inl ⟨kvs1, .inl hp1⟩, ?_⟩
  refine disp_sem c2 E1f hw1 fun p2 ρ2 ps2 kvs2 H2 np2 hw2 x2 E2 hp2 r2 e2 => ?_
  have ne2 : p ≠ p2 := fun e => by rw [← e, hp1] at np2; cases np2
  have hp12 : H2 p = some (.dK kvs1) := x2.keep p _ hpB hp1
  refine ⟨p2, kvs1, kvs2, rfl, ne2, hp12, hp2, by rw [sizeLine_eq]; omega, ?_⟩
  have E2f := E2.upd1 (o := .dK (mergeK kvs1 kvs2)) (p := p) (List.mem_cons_of_mem _ (List.mem_cons_self ..)) hpB
  have x12 : Ext M B H (p2 :: p :: M) B (upd H2 p (.dK (mergeK kvs1 kvs2))) := ext_upd (x1.trans x2) np
  refine ⟨_, hσ, p, rfl, .inl ⟨_, .inl upd_same⟩, ?_⟩
  refine disp_sem c3 E2f hw2 fun p3 ρ3 ps3 kvs3 H3 np3 hw3 x3 E3 hp3 r3 e3 => ?_
  have ne3 : p ≠ p3 := fun e => by rw [← e, upd_same] at np3; cases np3
  have hp13 : H3 p = some (.dK (mergeK kvs1 kvs2)) := x3.keep p _ hpB upd_same
  obtain ⟨ndk, w⟩ := hw3
  have m12 : mergeK kvs1 kvs2 = kvs1 ++ kvs2 := merge_new kvs2 kvs1 (by
    rw [List.map_append]
    exact (List.nodup_append.mp ndk).1)
  have m123 : mergeK (kvs1 ++ kvs2) kvs3 = kvs1 ++ kvs2 ++ kvs3 := merge_new kvs3 _ (by
    rw [List.map_append, List.map_append]
    exact ndk)
  refine ⟨p3, _, kvs3, rfl, ne3, hp13, hp3, by
    have := length_mergeK kvs2 kvs1
    rw [sizeLine_eq]; omega, ?_⟩
  rw [m12, m123]
  refine ⟨_, hσ, p, _, rfl, upd_same, fun o => ?_⟩
  rw [upd_upd]
  have hpM3 : p ∈ p3 :: p2 :: p :: M := List.mem_cons_of_mem _ (List.mem_cons_of_mem _ (List.mem_cons_self ..))
  have E4 := E3.upd1 (o := .frz o (.dK (kvs1 ++ kvs2 ++ kvs3))) (p := p) hpM3 hpB
  have x4 : Ext M B H (p3 :: p2 :: p :: M) B (upd H3 p (.frz o (.dK (kvs1 ++ kvs2 ++ kvs3)))) := ext_upd (x12.trans x3) np
  refine F.rt ρ3 _ _ _ _ _ _ w x4 E4 (.dic (rm_of (fun c => hpM (Ev.m0 p c)) upd_same) ?_)
  have up2 : Same (rm (p :: M) H1) (rm (p2 :: p :: M) H2) := x2.rm E1f.sub
  have e23 : rm (p2 :: p :: M) (upd H2 p (.dK (mergeK kvs1 kvs2))) = rm (p2 :: p :: M) H2 := rm_upd (List.mem_cons_of_mem _ (List.mem_cons_self ..))
  have up3 : Same (rm (p2 :: p :: M) H2) (rm (p3 :: p2 :: p :: M) H3) := by rw [← e23]; exact x3.rm E2f.sub
  have up4 : Same (rm (p3 :: p2 :: p :: M) H3) (rm M0 (upd H3 p (.frz o (.dK (kvs1 ++ kvs2 ++ kvs3))))) := by
    rw [← rm_upd (o := .frz o (.dK (kvs1 ++ kvs2 ++ kvs3))) hpM3]
    exact rm_sub E4.m0
  exact DtKv.up up4 (kv_app (kv_app (DtKv.up up3 (DtKv.up up2 r1)) (DtKv.up up3 r2)) r3)
def gUpd3 (a b c : PD) : Option PyData := (keysP a).bind fun k1 => (keysP b).bind fun k2 => (keysP c).bind fun k3 => if k1.Nodup ∧ a.length ≤ 15 ∧ k2.Nodup ∧ b.length ≤ 15 ∧ k3.Nodup ∧ c.length ≤ 15 ∧ (k1 ++ k2 ++ k3).Nodup then some (.dict (a ++ b ++ c)) else none
def qUpd3 (i : Nat) (a b c : FPs) : FS := fun ρ => if i < ρ.length then (a ρ).bind fun r => (b (r.1.set i .un)).bind fun s => (c s.1).bind fun t => (gUpd3 r.2 s.2 t.2).bind fun d => some (.rt t.1 d) else none
def wUpd (i : Nat) (w1 w2 w3 : WPs) : WS := fun E ρ => i < ρ.length ∧ wUpd3 i w1 w2 w3 E ρ
theorem emb_len {o : Option Addr} {ρ : Env} : (emb o ρ).length = ρ.length := by
  cases o with
  | none => rfl
  | some l => cases ρ with
    | nil => rfl
    | cons s r => cases s <;> rfl
theorem c_upd {o : Option Addr} {i : Nat} {w1 w2 w3 : WPs} {a b c : FPs} (ha : cP o w1 a) (hb : cP o w2 b) (hc : cP o w3 c) : cS o (wUpd i w1 w2 w3) (qUpd3 i a b c) := by
  intro ρ fl h E e
  unfold qUpd3 at h
  split at h
  · rename_i hl
    simp only [Option.bind_eq_some_iff] at h
    obtain ⟨r, h1, s, h2, t, h3, d, h4, h5⟩ := h
    cases h5
    simp only [gUpd3, Option.bind_eq_some_iff] at h4
    obtain ⟨k1, e1, k2, e2, k3, e3, h4⟩ := h4
    obtain ⟨⟨n1, z1, n2, z2, n3, z3, n4⟩, rfl⟩ := of_if h4
    refine ⟨by rw [emb_len]; exact hl, ha ρ r h1 _ ⟨k1, e1, n1, z1, ?_⟩⟩
    rw [emb_uset]
    exact hb _ s h2 _ ⟨k2, e2, n2, z2, hc _ t h3 _ ⟨k3, e3, n3, z3, n4, e⟩⟩
  · cases h
/-! keys as items -/
def gKeys : PyData → Option (List PyData)
  | .dict ds => some (ds.map (·.1))
  | _ => none
def qKeysI (a : FE) : FA := fun ρ => (a ρ).bind fun r => (gKeys r.2).bind fun ds => some (r.1, ds)
theorem c_keysI {o : Option Addr} {w : WE} {a : FE} (ha : cE o w a) : cA o (wKeysI w) (qKeysI a) := by
  intro ρ r h P p
  simp only [qKeysI, Option.bind_eq_some_iff] at h
  obtain ⟨r1, h1, ds, h2, h3⟩ := h
  cases h3
  refine ha ρ r1 h1 _ ?_
  revert h2
  cases r1.2 <;> intro h2 <;> first | (cases h2; exact p) | cases h2
end
end Pm
/-! The end of a law over our own FnOk (its room knows that no repr is under way). -/
namespace Pm
open PySem PySem.Spec PyProof.Rows L2
section
variable {P : Program} {w : World} {K : Fr} {mg mb : Str → Option Value} {k : Nat} {fa a : Addr} {fd : FuncData} {x : Str} {s₁ : Shared} {vs : List Value} {ns : List Int}
/-- the script as the law's def finds it: an object of the module, or one that is tracked and never changed -/
abbrev scrO (vs : List Value) : Obj := { cls := .type "list", data := .seq vs.toArray }
def scrH (K : Fr) (a : Addr) (vs : List Value) (ns : List Int) : Hp := fun b => if b = a ∧ K.lookup a = none then some (.frz (scrO vs) (.lst (ns.map V.int))) else none
theorem scrH_some {b : Addr} {u : HO} (h : scrH K a vs ns b = some u) : (b = a ∧ K.lookup a = none) ∧ u = .frz (scrO vs) (.lst (ns.map V.int)) := by
  unfold scrH at h
  split at h
  · rename_i c
    exact ⟨c, (Option.some.inj h).symm⟩
  · cases h
theorem scrH_none {b : Addr} (h : ¬ (b = a ∧ K.lookup a = none)) : scrH K a vs ns b = none := if_neg h
theorem law_callP (inK : K.In s₁.heap) (top : s₁.heap.Ns mainGlobals mg) (blt : s₁.heap.Ns builtinsNs mb) (std : ∀ x : Str, x ≠ "__name__" → mb x = bootBuiltins x) (lim : s₁.heap.NoLimit) (quiet : s₁.gens = #[])
    (at_a : s₁.heap.get? a = some (scrO vs)) (hints : IntsAre vs ns) (few : ns.length ≤ 63) (room : Room k callerA)
    (F : ∀ base : Heap, K.In base → base.Ns mainGlobals mg → FnOk P w K mg base CX0 k fa fd [x] (spLaw K)) (bind : ∀ (s : Shared) (u : Value), BindsTo s fd ⟨[u], []⟩ [(x, u)]) :
    codeAny (model P w) callerA (.call (.ref fa) ⟨[.ref a], []⟩) (fun r s' => r = .ok (.ret (.bool true)) ∧ OldK s₁.heap s'.heap ∧ s'.os = s₁.os ∧ AllBare s'.gens) s₁ := by
  have line : ns.length ≤ sizeLine := Nat.le_trans few (by decide)
  have rel := vals_ints hints
  have size := hints.length
  -- a dict is never tracked
  have free : ∀ (b : Addr) (o : Obj) (es : Array DictEntry) (ep : Nat), s₁.heap.get? b = some o → o.data = .dict es ep → scrH K a vs ns b = none := fun b o es ep q d => by
    refine scrH_none fun c => ?_
    rw [c.1, at_a] at q
    rw [← Option.some.inj q] at d
    cases d
  have names : ∀ {b : Addr} {m : Str → Option Value}, s₁.heap.Ns b m → (hidT s₁.heap (scrH K a vs ns)).Ns b m := fun {b m} z => by
    obtain ⟨o, es, ep, q, d, r⟩ := z
    exact ⟨o, es, ep, hidT_get q (free b o es ep q d), d, r⟩
  have inB : K.In (hidT s₁.heap (scrH K a vs ns)) := fun b o q => hidT_get (inK b o q) (scrH_none fun c => by
    rw [c.1, c.2] at q
    cases q)
  have limB : (hidT s₁.heap (scrH K a vs ns)).NoLimit := by
    obtain ⟨m, n1, n2⟩ := lim
    exact ⟨m, names n1, n2⟩
  have hok : HOk P w (scrH K a vs ns) s₁.heap := fun b u q => by
    obtain ⟨⟨rfl, _⟩, rfl⟩ := scrH_some q
    exact ⟨at_a, by rw [List.length_map]; exact line, vs, _, rel, at_a⟩
  have start : Env0 P w K mg (hidT s₁.heap (scrH K a vs ns)) callerA [] s₁ (scrH K a vs ns) :=
    { frames := rfl
      mod := ⟨inB, names top, ⟨mb, names blt, std⟩, limB⟩
      bs := fun _ _ q => of_hidT q
      bsz := Nat.le_of_eq (hidT_size _ _)
      funs := trivial
      frf := fun _ hm => nomatch hm
      hok := hok
      bare := .of_eq quiet }
  have seq : SqL K (scrH K a vs ns) a (ns.map V.int) := by
    cases q : K.lookup a with
    | none => exact .inl (.inr ⟨scrO vs, if_pos ⟨rfl, q⟩⟩)
    | some o =>
      have z := inK a o q
      rw [at_a] at z
      cases z
      refine .inr ⟨_, vs.toArray, _, q, rfl, rfl, rfl, ?_, ?_⟩
      · rw [List.size_toArray, size]
        exact line
      · simpa using rel
  have run := (F _ inB (names top)).run callerA room [] s₁ (scrH K a vs ns) ⟨[.ref a], []⟩ [.ref a] [.ref a] (fun v _ => v = .bl true) (fun _ _ _ => False) start (bind s₁ (.ref a)) (.cons rfl .nil) ⟨a, ns, rfl, few, seq, fun _ => rfl⟩
  refine codeAny_mono run fun r s' z => ?_
  match r, z with
  | .ok (.ret u), z =>
    obtain ⟨v, H', os, bare, un, ok', rv, yes⟩ := z
    have yes' : v = .bl true := yes
    subst yes'
    obtain rfl : u = Value.bool true := rv
    refine ⟨rfl, OldK.of_keep fun b o q => ?_, os, bare⟩
    by_cases c : b = a ∧ K.lookup a = none
    · have tr : scrH K a vs ns b = some (.frz (scrO vs) (.lst (ns.map V.int))) := if_pos c
      have o1 := (hok b _ tr).1
      have o2 := (ok' b _ (un.frzs b _ _ tr)).1
      rw [q] at o1
      cases o1
      exact o2
    · exact un.keep b o q (scrH_none c) (fun hm => nomatch hm) (fun hm => nomatch hm)
  | .error e, z => exact z.elim
  | .ok .next, z => exact z.elim
  | .ok .brk, z => exact z.elim
  | .ok .cont, z => exact z.elim
end
theorem walk_ofP {l : PySem.W.OpenLaw} {k : Nat} {q : Program} {loose : List Str} {XP : (Str → Option Value) → Heap → Prop} {YP : World → Heap → Prop} {d : DefRec} {K : Params → PySem.W.Frag} {x : Str}
    (most : l.most = some 63) (plain : d.params.defaults = []) (room : Room k callerA) (inK : ∀ (w : World) (h : Heap), YP w h → (K w.params).In h)
    (F : ∀ (w : World) (mg : Str → Option Value) (fa : Addr) (h : Heap), (K w.params).In h → h.Ns mainGlobals mg → mg d.name = some (.ref fa) →
      ∃ fd : FuncData, (∀ (s : Shared) (u : Value), BindsTo s fd ⟨[u], []⟩ [(x, u)]) ∧ ∀ base : Heap, (K w.params).In base → base.Ns mainGlobals mg → FnOk l.prog w (K w.params) mg base CX0 k fa fd [x] (spLaw (K w.params))) :
    PySem.W.WalkO q loose XP YP l.row.toRowW d [] (fun f vs => PySem.call f vs) := by
  refine Att.attach_call most plain fun w s₀ s₁ mg mb fa o pm cd doc a vs ns G Y ho hd hcd hmg hobj hints hlen hg => ?_
  obtain ⟨fd, hb, hF⟩ := F w mg fa _ (inK w _ Y) G.T.g hmg
  exact law_callP (inK w _ Y) G.T.g G.T.b G.T.builtins G.T.nolimit hg hobj hints hlen room hF hb
end Pm
namespace Pm
open PySem PySem.Spec PyProof.Rows L2
variable {ι : Type} {X : ι → Cx} {K : Fr} {a b e : Expr} {es : List Expr} {wa wb we : WE} {pos : Pos}
/-! ### repr of lists and tuples -/
abbrev shOk (d : PyData) : Prop := d.canLay0 = true ∧ isDisplay d = true ∧ d.showable = true ∧ d.hasDict = false ∧ d.depth ≤ 60 ∧ d.shown.length ≤ sizeLine
def rRepr (K : Fr) : List V → Hp → VK → Prop := fun xs H Q => ∃ x d, xs = [x] ∧ Dp K H x d ∧ shOk d ∧ Q (.str d.shown) H
theorem call_repr {Y : Cx} (hg : Y.A.guards = some []) (hu : Y.A.units + 64 < cLine) : CallR Y (.builtin "repr") (rRepr Y.K) := by
  intro pins s σ H xs us Q I r h
  obtain ⟨x, d, rfl, hd, ⟨_, h1, h2, h3, h4, h5⟩, q⟩ := h
  obtain ⟨u, rfl, r1⟩ := vals1 r
  obtain ⟨as, rd⟩ := Dp.reads I d x u hd r1
  obtain ⟨p, rfl⟩ := isRef_of_reads rd h1
  exact repr_of_reads' rd h2 (PyData.noDict_hsm h3) hg (by omega) (fun _ _ e => e) (fun h' u' tk hk => ⟨.str d.shown, H, I.kept hk, ⟨_, rfl⟩, q⟩) h5
def fRepr : F1 := fun d P => shOk d ∧ P (.str d.shown)
theorem cd_repr : CallD K (rRepr K) fRepr := by
  intro M H x v P Q dom r f k
  exact ⟨v, x, rfl, r.dp f.1.1, f.1, k _ _ H f.2 (Same.refl _) (.str _)⟩
theorem de_repr {p : Pos} (hm : ∀ i, (X i).mg "repr" = none) (hg0 : ∀ i, (X i).A.guards = some []) (hu : ∀ i, (X i).A.units + 64 < cLine) (h : DV X K e we) (hK : ∀ i, (X i).K = K := by intro i; rfl) (hg : ∀ i, Gl (X i) "repr" := by intro i; rfl)
    (he : ∀ i, starEach (e :: []) (X i).env = (false, eval e (X i).env) :: starEach [] (X i).env := by intro i; rfl) : DE X K (.Call (.Name "repr" p) [e] [] pos) (wU fRepr we) :=
  de_u (fun i t h => by rw [← hK i]; exact pe_callB (call_repr (hg0 i) (hu i)) (hg i) (hm i) (by decide +kernel) (pa_cons h pa_nil (he i)) (by decide) (by decide) (he i) rfl) cd_repr h
/-! ### min of two numbers -/
def fMin2 : F2 := fI0 fun i j => .int (if j < i then j else i)
def rMin2 : List V → Hp → VK → Prop := fun xs H Q => ∃ i j, xs = [.int i, .int j] ∧ Q (.int (if j < i then j else i)) H
theorem de_min2 {p : Pos} (hm : ∀ i, (X i).mg "min" = none) (ha : DE X K a wa) (hb : DE X K b wb) (hc : ∀ i, (X i).calm = true := by intro i; rfl) (hg : ∀ i, Gl (X i) "min" := by intro i; rfl)
    (he : ∀ i, starEach (a :: [b]) (X i).env = (false, eval a (X i).env) :: starEach [b] (X i).env := by intro i; rfl) (he2 : ∀ i, starEach (b :: []) (X i).env = (false, eval b (X i).env) :: starEach [] (X i).env := by intro i; rfl) (hpl : ∀ i, (backTo pos (starEach [b] (X i).env)).any (·.1) = false := by intro i; rfl) : DE X K (.Call (.Name "min" p) [a, b] [] pos) (wOp fMin2 wa wb) := by
  obtain ⟨ta, a1, a2⟩ := ha
  obtain ⟨tb, b1, b2⟩ := hb
  refine ⟨tCB rMin2 (tCons ta (tCons tb tNil)), fun i => pe_callB (call_min2 (hc i)) (hg i) (hm i) (by decide +kernel) (pa_cons (a1 i) (pa_cons (b1 i) pa_nil (he2 i)) (he i)) (by decide) (by decide) (he i) (hpl i), fun M0 M B σ H ρ P Q E w k => ?_⟩
  refine a2 M0 M B σ H ρ _ _ E w fun ρ1 x v H1 w1 x1 E1 r1 => ?_
  refine b2 M0 M B σ H1 ρ1 _ _ E1 w1 fun ρ2 y u H2 w2 x2 E2 r2 => ?_
  cases x with
  | int n =>
    cases y with
    | int m =>
      rw [Dt.isInt r1, Dt.isInt r2]
      exact ⟨n, m, rfl, k ρ2 _ _ H2 w2 (x1.trans x2) E2 (.int _)⟩
    | _ => exact w2.elim
  | _ => exact w2.elim
/-! ### a list backwards -/
def fRev : F1
  | .list ds, P => P (.list ds.reverse)
  | _, _ => False
theorem dt_rev {H : Hp} : ∀ {vs : List V} {ds : List PyData}, DtAll K H vs ds → DtAll K H vs.reverse ds.reverse
  | _, _, .nil => .nil
  | _, _, .cons h r => by
    rw [List.reverse_cons, List.reverse_cons]
    exact DtAll.app (dt_rev r) (.cons h .nil)
theorem de_rev {k : Nat} {p1 p2 p3 : Pos} (h : DV X K e we) (hK : ∀ i, (X i).K = K := by intro i; rfl) : DE X K (.Subscript e (.Slice none none (some (.UnaryOp .USub (.Constant (.int 1) k p1) p2)) p3) pos) (wU fRev we) := by
  obtain ⟨t, a1, a2⟩ := h
  refine ⟨tRevL K t, fun i => by rw [← hK i]; exact pe_revL (a1 i), fun M0 M B σ H ρ P Q E w k => ?_⟩
  refine a2 M0 M B σ H ρ _ _ E w fun ρ1 d v H1 w1 x1 E1 r1 => ?_
  cases d with
  | list ds =>
    obtain ⟨p, vs, rfl, h1, h2⟩ := RV.isLst r1
    exact ⟨p, vs, rfl, SqL.of h1, fun q nq => k ρ1 _ _ _ w1 (x1.trans (Ext.same (same_new nq))) (E1.same (same_new nq)) (E1.newl nq (dt_rev h2))⟩
  | _ => exact w1.elim
/-! ### f(g(..)), g makes the list that f may change -/
def wCallWF (S : SpW) (SF : SpF) (w : WA) : WE := fun ρ P => w ρ fun ρ1 ds => SF ds fun ws => S ws [] fun _ d => P ρ1 d
theorem de_callWF {x y : Str} {S : SpW} {SF : SpF} {w : WA} {p p2 pos2 : Pos} (cW : ∀ i, CallOk (X i) x (spW K S)) (cF : ∀ i, CallOk (X i) y (spF K SF)) (h : DA X K (e :: es) w)
    (hg : ∀ i, Gl (X i) x := by intro i; rfl) (hdb : (x == ("__debug__" : Str)) = false := by decide) (hg2 : ∀ i, Gl (X i) y := by intro i; rfl) (hdb2 : (y == ("__debug__" : Str)) = false := by decide)
    (he : ∀ i, starEach (e :: es) (X i).env = (false, eval e (X i).env) :: starEach es (X i).env := by intro i; rfl) (hpl : ∀ i, (backTo pos2 (starEach es (X i).env)).any (·.1) = false := by intro i; rfl)
    (he2 : ∀ i, starEach [.Call (.Name y p2) (e :: es) [] pos2] (X i).env = (false, eval (.Call (.Name y p2) (e :: es) [] pos2) (X i).env) :: starEach [] (X i).env := by intro i; rfl) (hpl2 : ∀ i, (backTo pos (starEach [] (X i).env)).any (·.1) = false := by intro i; rfl) :
    DE X K (.Call (.Name x p) [.Call (.Name y p2) (e :: es) [] pos2] [] pos) (wCallWF S SF w) := by
  obtain ⟨t, a1, a2⟩ := h
  refine ⟨tCall (spW K S) [] E0 (tCons (tCall (spF K SF) [] E0 t) tNil), fun i => ?_, fun M0 M B σ H ρ P Q E w k => ?_⟩
  · obtain ⟨k, f, fd, ps, F, hr, hm, hk, hb⟩ := cW i
    obtain ⟨k2, f2, fd2, ps2, F2, hr2, hm2, hk2, hb2⟩ := cF i
    exact pe_call F hr (hg i) hm hk hb .nil pass0 (pa_cons (pe_call F2 hr2 (hg2 i) hm2 hk2 hb2 .nil pass0 (a1 i) hdb2 (he i) (hpl i)) pa_nil (he2 i)) hdb (he2 i) (hpl2 i)
  · refine a2 M0 M B σ H ρ _ _ E w fun ρ1 ds vs H1 w1 x1 E1 r1 => ?_
    refine ⟨M, ds, _, E1.dom, by rw [List.append_nil]; exact r1, w1, fun ws z xs H2 w2 np sm hz r2 => ?_⟩
    refine ⟨z :: M, z, [], xs, ws, [], _, rfl, fun a ha => ?_, List.mem_cons_self .., hz, r2, .nil, w2, fun ws' d v H3 xs' p3 kp hz3 r3 rv => ?_⟩
    · rcases List.mem_cons.mp ha with rfl | ha
      · rw [hz]; simp
      · intro q
        cases hq : H1 a with
        | none => exact E1.dom a ha hq
        | some o => rw [sm a o hq] at q; cases q
    · have all : Same H1 H3 := fun a o q => kp a o (fun c => by rw [c, np] at q; cases q) (sm a o q)
      exact k ρ1 d v H3 p3 (x1.trans (Ext.same all)) (E1.same all) (Dt.up (rm_sub fun a ha => List.mem_cons_of_mem _ ha) rv)
end Pm
namespace Pm.Q
open PySem PySem.Spec PyProof.Rows L2 TL Pm
instance shOkDec (d : PyData) : Decidable (shOk d) := inferInstance
def gRepr : G1 := fun d => if shOk d then some (.str d.shown) else none
theorem k_repr : fit1 fRepr gRepr := by
  intro x d h P p
  obtain ⟨c, rfl⟩ := of_if h
  exact ⟨c, p⟩
def qCallWF (f : FW) (g : FN) (a : FA) : FE := fun ρ => (a ρ).bind fun r => (g r.2).bind fun ws => (f ws []).bind fun q => some (r.1, q.2)
theorem c_callWF {o : Option Addr} {S : SpW} {SF : SpF} {f : FW} {g : FN} {w : WA} {a : FA} (hf : fitW S f) (hg : fitN SF g) (ha : cA o w a) : cE o (wCallWF S SF w) (qCallWF f g a) := by
  intro ρ r h P p
  simp only [qCallWF, Option.bind_eq_some_iff] at h
  obtain ⟨r1, h1, ws, h2, q, h3, h4⟩ := h
  cases h4
  exact ha ρ r1 h1 _ (hg _ _ h2 _ (hf _ _ _ h3 _ p))
abbrev gMin2 : G2 := gI0 fun i j => .int (if j < i then j else i)
theorem k_min2 : fit2 fMin2 gMin2 := k_I0
def gRev : G1
  | .list ds => some (.list ds.reverse)
  | _ => none
theorem k_rev : fit1 fRev gRev := by
  intro x d h P p
  cases x <;> first | (cases h; exact p) | cases h
end Pm.Q
/-! The layer of objects: a world of cells (lists, instances) by numbers, values that may refer to them. -/
namespace Pm.Ob
open PySem PySem.Spec PyProof.Rows L2 Pm
inductive OV where
  | d (x : PyData)
  | r (n : Nat)
  | t (xs : List OV)
  | q (xs : List OV)
  | x (C : Addr) (f : Option (Nat × PyData))
inductive Cell where
  | lst (xs : List OV)
  | obj (c : Nat) (fs : List (Nat × OV))
/-- the names of all fields; a field is told by its place here -/
def fl : List Str := ["index", "place", "is_image", "is_active", "is_passed", "text", "definitions", "spot", "pieces", "brackets", "sign", "length", "left", "opens", "closes", "word", "first", "last", "inner", "lines", "more", "node", "count", "top", "chain"]
abbrev Wd := List Cell
abbrev OEnv := List (Option OV)
mutual
inductive Ov (K : Fr) (H : Hp) (as : List Addr) : V → OV → Prop
  | d {v : V} {x : PyData} : Dt K H v x → Ov K H as v (.d x)
  | r {a : Addr} {n : Nat} : as[n]? = some a → Ov K H as (.ref a) (.r n)
  | t {a : Addr} {vs : List V} {xs : List OV} : SqT K H a vs → OvAll K H as vs xs → Ov K H as (.ref a) (.t xs)
  | q {a : Addr} {vs : List V} {xs : List OV} : SqL K H a vs → OvAll K H as vs xs → Ov K H as (.ref a) (.q xs)
  | x0 {a C : Addr} : H a = some (exo a C none) → Ov K H as (.ref a) (.x C none)
  | x1 {a C dx : Addr} {i : Nat} {f : Str} {v : V} {p : PyData} : H a = some (exo a C (some dx)) → H dx = some (exd dx [(f, v)]) → fl[i]? = some f → Dt K H v p → Ov K H as (.ref a) (.x C (some (i, p)))
inductive OvAll (K : Fr) (H : Hp) (as : List Addr) : List V → List OV → Prop
  | nil : OvAll K H as [] []
  | cons {v : V} {vs : List V} {x : OV} {xs : List OV} : Ov K H as v x → OvAll K H as vs xs → OvAll K H as (v :: vs) (x :: xs)
end
abbrev Pre (as as' : List Addr) : Prop := ∀ (n : Nat) (a : Addr), as[n]? = some a → as'[n]? = some a
mutual
theorem Ov.up {K : Fr} {H H' : Hp} {as as' : List Addr} (e : Same H H') (p : Pre as as') : ∀ {v : V} {x : OV}, Ov K H as v x → Ov K H' as' v x
  | _, _, .d h => .d (Dt.up e h)
  | _, _, .r h => .r (p _ _ h)
  | _, _, .t h r => .t (same_t e h) (OvAll.up e p r)
  | _, _, .q h r => .q (same_l e h) (OvAll.up e p r)
  | _, _, .x0 h => .x0 (e _ _ h)
  | _, _, .x1 h1 h2 h3 h4 => .x1 (e _ _ h1) (e _ _ h2) h3 (Dt.up e h4)
theorem OvAll.up {K : Fr} {H H' : Hp} {as as' : List Addr} (e : Same H H') (p : Pre as as') : ∀ {v : List V} {x : List OV}, OvAll K H as v x → OvAll K H' as' v x
  | _, _, .nil => .nil
  | _, _, .cons h r => .cons (Ov.up e p h) (OvAll.up e p r)
end
section
variable {K : Fr} {H : Hp} {as : List Addr}
theorem OvAll.len : ∀ {vs : List V} {xs : List OV}, OvAll K H as vs xs → vs.length = xs.length
  | _, _, .nil => rfl
  | _, _, .cons _ r => by rw [List.length_cons, List.length_cons, OvAll.len r]
theorem OvAll.get : ∀ {vs : List V} {xs : List OV} {i : Nat} {x : OV}, OvAll K H as vs xs → xs[i]? = some x → ∃ v, vs[i]? = some v ∧ Ov K H as v x
  | _, _, _, _, .nil, e => by simp at e
  | _, _, 0, _, .cons h _, e => by simp at e; subst e; exact ⟨_, rfl, h⟩
  | _, _, i + 1, x, .cons _ r, e => by
    obtain ⟨v, h1, h2⟩ := OvAll.get (i := i) (x := x) r (by simpa using e)
    exact ⟨v, by simpa using h1, h2⟩
theorem OvAll.app : ∀ {vs us : List V} {xs ys : List OV}, OvAll K H as vs xs → OvAll K H as us ys → OvAll K H as (vs ++ us) (xs ++ ys)
  | _, _, _, _, .nil, s => s
  | _, _, _, _, .cons h r, s => .cons h (OvAll.app r s)
theorem OvAll.take : ∀ {vs : List V} {xs : List OV} (n : Nat), OvAll K H as vs xs → OvAll K H as (vs.take n) (xs.take n)
  | _, _, 0, _ => .nil
  | _, _, _ + 1, .nil => .nil
  | _, _, n + 1, .cons h r => .cons h (OvAll.take n r)
theorem OvAll.drop : ∀ {vs : List V} {xs : List OV} (n : Nat), OvAll K H as vs xs → OvAll K H as (vs.drop n) (xs.drop n)
  | _, _, 0, r => r
  | _, _, _ + 1, .nil => .nil
  | _, _, n + 1, .cons _ r => OvAll.drop n r
theorem OvAll.setAt {v : V} {x : OV} (h : Ov K H as v x) : ∀ {vs : List V} {xs : List OV} (n : Nat), OvAll K H as vs xs → OvAll K H as (vs.set n v) (xs.set n x)
  | _, _, _, .nil => .nil
  | _, _, 0, .cons _ r => .cons h r
  | _, _, n + 1, .cons q r => .cons q (OvAll.setAt h n r)
theorem OvAll.ofD : ∀ {vs : List V} {ds : List PyData}, DtAll K H vs ds → OvAll K H as vs (ds.map .d)
  | _, _, .nil => .nil
  | _, _, .cons h r => .cons (.d h) (OvAll.ofD r)
/-- all are data -/
def allD : List OV → Option (List PyData)
  | [] => some []
  | .d x :: r => (allD r).bind fun ds => some (x :: ds)
  | _ :: _ => none
theorem OvAll.toD : ∀ {vs : List V} {xs : List OV} {ds : List PyData}, OvAll K H as vs xs → allD xs = some ds → DtAll K H vs ds
  | _, _, _, .nil, e => by cases e; exact .nil
  | _, _, ds, .cons (x := .d x) (xs := xs) (.d h) r, e => by
    unfold allD at e
    cases q : allD xs with
    | none => rw [q] at e; cases e
    | some es => rw [q] at e; cases e; exact .cons h (OvAll.toD r q)
theorem allD_map : ∀ ds : List PyData, allD (ds.map .d) = some ds
  | [] => rfl
  | x :: r => by show (allD (r.map .d)).bind _ = _; rw [allD_map r]; rfl
/-! fields -/
end
theorem fl_nd : fl.Nodup := by decide
theorem fl_inj {i j : Nat} {f : Str} (h1 : fl[i]? = some f) (h2 : fl[j]? = some f) : i = j := by
  have l1 := List.getElem?_eq_some_iff.mp h1
  have l2 := List.getElem?_eq_some_iff.mp h2
  rcases Nat.lt_trichotomy i j with q | q | q
  · exact absurd (l1.2.trans l2.2.symm) (List.pairwise_iff_getElem.mp fl_nd _ _ l1.1 l2.1 q)
  · exact q
  · exact absurd (l2.2.trans l1.2.symm) (List.pairwise_iff_getElem.mp fl_nd _ _ l2.1 l1.1 q)
def putO (i : Nat) (x : OV) : List (Nat × OV) → List (Nat × OV)
  | [] => [(i, x)]
  | (j, y) :: r => if j = i then (j, x) :: r else (j, y) :: putO i x r
def lookO (i : Nat) : List (Nat × OV) → Option OV
  | [] => none
  | (j, y) :: r => if j = i then some y else lookO i r
inductive FsOk (K : Fr) (H : Hp) (as : List Addr) : List (Str × V) → List (Nat × OV) → Prop
  | nil : FsOk K H as [] []
  | cons {i : Nat} {f : Str} {v : V} {gs : List (Str × V)} {x : OV} {fs : List (Nat × OV)} : fl[i]? = some f → Ov K H as v x → FsOk K H as gs fs → FsOk K H as ((f, v) :: gs) ((i, x) :: fs)
section
variable {K : Fr} {H : Hp} {as : List Addr}
theorem FsOk.up {H' : Hp} {as' : List Addr} (e : Same H H') (p : Pre as as') : ∀ {gs : List (Str × V)} {fs : List (Nat × OV)}, FsOk K H as gs fs → FsOk K H' as' gs fs
  | _, _, .nil => .nil
  | _, _, .cons n h r => .cons n (Ov.up e p h) (FsOk.up e p r)
theorem FsOk.put {i : Nat} {f : Str} {v : V} {x : OV} (hi : fl[i]? = some f) (h : Ov K H as v x) : ∀ {gs : List (Str × V)} {fs : List (Nat × OV)}, FsOk K H as gs fs → FsOk K H as (putF f v gs) (putO i x fs)
  | _, _, .nil => .cons hi h .nil
  | _, _, .cons (i := j) (f := g) n q r => by
    unfold putF putO
    by_cases c : j = i
    · have e : g = f := by subst c; exact Option.some.inj (n.symm.trans hi)
      rw [if_pos c, if_pos e]; exact .cons n h r
    · have e : ¬ g = f := fun e => c (fl_inj n (e ▸ hi))
      rw [if_neg c, if_neg e]; exact .cons n q (FsOk.put hi h r)
theorem FsOk.look {i : Nat} {f : Str} {x : OV} (hi : fl[i]? = some f) : ∀ {gs : List (Str × V)} {fs : List (Nat × OV)}, FsOk K H as gs fs → lookO i fs = some x → ∃ v, gs.lookup f = some v ∧ Ov K H as v x
  | _, _, .nil, e => by cases e
  | _, _, .cons (i := j) (f := g) (v := v) (x := y) n q r, e => by
    rw [List.lookup_cons]
    unfold lookO at e
    by_cases c : j = i
    · have eg : g = f := by subst c; exact Option.some.inj (n.symm.trans hi)
      rw [if_pos c] at e
      cases e
      refine ⟨v, ?_, q⟩
      rw [eg]
      simp
    · have eg : ¬ f = g := fun e => c (fl_inj n (e ▸ hi))
      rw [if_neg c] at e
      have ef : (f == g) = false := by simpa using eg
      rw [ef]
      exact FsOk.look hi r e
theorem FsOk.no {m : Str} (hm : m ∉ fl) : ∀ {gs : List (Str × V)} {fs : List (Nat × OV)}, FsOk K H as gs fs → gs.lookup m = none
  | _, _, .nil => rfl
  | _, _, .cons (f := g) n q r => by
    rw [List.lookup_cons]
    have ef : (m == g) = false := by
      have z : ¬ m = g := fun e => hm (e ▸ List.mem_of_getElem? n)
      simpa using z
    rw [ef]
    exact FsOk.no hm r
theorem FsOk.len : ∀ {gs : List (Str × V)} {fs : List (Nat × OV)}, FsOk K H as gs fs → gs.length = fs.length
  | _, _, .nil => rfl
  | _, _, .cons _ _ r => by rw [List.length_cons, List.length_cons, FsOk.len r]
end
/-! ### the world in the heap -/
def CellOk (K : Fr) (G : List Addr) (H Hm : Hp) (as : List Addr) (a : Addr) : Cell → Prop
  | .lst xs => ∃ vs, H a = some (.lst vs) ∧ OvAll K Hm as vs xs
  | .obj c fs => ∃ C dx gs, G[c]? = some C ∧ H a = some (.ins C dx gs) ∧ FsOk K Hm as gs fs
structure WOk (K : Fr) (G : List Addr) (M0 as : List Addr) (H : Hp) (W : Wd) : Prop where
  len : as.length = W.length
  nd : as.Nodup
  apart : ∀ a, a ∈ as → a ∉ M0
  dom0 : ∀ a, a ∈ M0 → H a ≠ none
  cell : ∀ (n : Nat) (a : Addr) (c : Cell), as[n]? = some a → W[n]? = some c → CellOk K G H (rm (M0 ++ as) H) as a c
structure SOk (K : Fr) (G : List Addr) (M0 as : List Addr) (H : Hp) (σ : L2.St) (W : Wd) (ρ : OEnv) : Prop where
  w : WOk K G M0 as H W
  len : σ.length = ρ.length
  slot : ∀ (i : Nat) (x : OV), ρ[i]? = some (some x) → ∃ v, σ[i]? = some (some v) ∧ Ov K (rm (M0 ++ as) H) as v x
/-- how a world goes on -/
structure X2 (M0 as : List Addr) (H : Hp) (as' : List Addr) (H' : Hp) : Prop where
  pre : Pre as as'
  new : ∀ a, a ∈ as' → a ∈ as ∨ H a = none
  keep : ∀ a o, a ∉ as → H a = some o → H' a = some o
  live : ∀ a, H' a = none → H a = none
section
variable {K : Fr} {G : List Addr} {M0 as as1 as' : List Addr} {H H1 H' : Hp} {σ : L2.St} {W W' : Wd} {ρ : OEnv}
theorem X2.refl : X2 M0 as H as H := ⟨fun _ _ h => h, fun _ h => .inl h, fun _ _ _ e => e, fun _ e => e⟩
theorem X2.same (e : Same H H') : X2 M0 as H as H' := ⟨fun _ _ h => h, fun _ h => .inl h, fun a o _ q => e a o q, fun _ q => e.free q⟩
theorem X2.trans (x : X2 M0 as H as1 H1) (y : X2 M0 as1 H1 as' H') : X2 M0 as H as' H' where
  pre := fun n a h => y.pre n a (x.pre n a h)
  new := fun a h => by
    rcases y.new a h with q | q
    · exact x.new a q
    · exact .inr (x.live a q)
  keep := fun a o n e => y.keep a o (fun c => by
    rcases x.new a c with q | q
    · exact n q
    · rw [q] at e; cases e) (x.keep a o n e)
  live := fun a e => x.live a (y.live a e)
theorem X2.rm (x : X2 M0 as H as' H') : Same (rm (M0 ++ as) H) (rm (M0 ++ as') H') := fun a o e => by
  obtain ⟨h1, h2⟩ := rm_to e
  rw [List.mem_append, not_or] at h1
  refine rm_of (fun c => ?_) (x.keep a o h1.2 h2)
  rcases List.mem_append.mp c with c | c
  · exact h1.1 c
  · rcases x.new a c with q | q
    · exact h1.2 q
    · rw [q] at h2; cases h2
theorem X2.ov (x : X2 M0 as H as' H') {v : V} {y : OV} (h : Ov K (Pm.rm (M0 ++ as) H) as v y) : Ov K (Pm.rm (M0 ++ as') H') as' v y := Ov.up x.rm x.pre h
theorem X2.ovs (x : X2 M0 as H as' H') {v : List V} {y : List OV} (h : OvAll K (Pm.rm (M0 ++ as) H) as v y) : OvAll K (Pm.rm (M0 ++ as') H') as' v y := OvAll.up x.rm x.pre h
theorem WOk.at (h : WOk K G M0 as H W) {n : Nat} {c : Cell} (e : W[n]? = some c) : ∃ a, as[n]? = some a ∧ CellOk K G H (rm (M0 ++ as) H) as a c := by
  have l : n < as.length := by rw [h.len]; exact (List.getElem?_eq_some_iff.mp e).1
  have q : as[n]? = some as[n] := List.getElem?_eq_getElem l
  exact ⟨_, q, h.cell n _ c q e⟩
theorem WOk.live (h : WOk K G M0 as H W) {a : Addr} (m : a ∈ as) : H a ≠ none := by
  obtain ⟨n, hn⟩ := List.getElem?_of_mem m
  have l : n < W.length := by rw [← h.len]; exact (List.getElem?_eq_some_iff.mp hn).1
  have q : W[n]? = some W[n] := List.getElem?_eq_getElem l
  have c := h.cell n a _ hn q
  intro e
  cases hc : W[n] with
  | lst xs => rw [hc] at c; obtain ⟨vs, z, _⟩ := c; rw [z] at e; cases e
  | obj k fs => rw [hc] at c; obtain ⟨C, dx, gs, _, z, _⟩ := c; rw [z] at e; cases e
theorem WOk.dom (h : WOk K G M0 as H W) : ∀ a, a ∈ M0 ++ as → H a ≠ none := fun a m => by
  rcases List.mem_append.mp m with m | m
  · exact h.dom0 a m
  · exact h.live m
theorem CellOk.up {Hm Hm' : Hp} {a : Addr} {c : Cell} (e : H a = H' a) (s : Same Hm Hm') (p : Pre as as') (h : CellOk K G H Hm as a c) : CellOk K G H' Hm' as' a c := by
  cases c with
  | lst xs => obtain ⟨vs, z, q⟩ := h; exact ⟨vs, by rw [← e]; exact z, OvAll.up s p q⟩
  | obj k fs => obtain ⟨C, dx, gs, g, z, q⟩ := h; exact ⟨C, dx, gs, g, by rw [← e]; exact z, FsOk.up s p q⟩
/-- the heap grew -/
theorem WOk.same (h : WOk K G M0 as H W) (e : Same H H') : WOk K G M0 as H' W where
  len := h.len
  nd := h.nd
  apart := h.apart
  dom0 := fun a m q => h.dom0 a m (e.free q)
  cell := fun n a c h1 h2 => by
    have z := h.cell n a c h1 h2
    have eq : H a = H' a := by
      cases q : H a with
      | none => exact absurd q (h.live (List.mem_of_getElem? h1))
      | some o => exact (e a o q).symm
    exact CellOk.up eq (X2.same e).rm (fun _ _ h => h) z
theorem SOk.same (h : SOk K G M0 as H σ W ρ) (e : Same H H') : SOk K G M0 as H' σ W ρ :=
  ⟨h.w.same e, h.len, fun i x q => by obtain ⟨v, h1, h2⟩ := h.slot i x q; exact ⟨v, h1, (X2.same e).ov h2⟩⟩
/-- the slots as they go on with a world -/
theorem SOk.go (h : SOk K G M0 as H σ W ρ) (x : X2 M0 as H as' H') (w : WOk K G M0 as' H' W') : SOk K G M0 as' H' σ W' ρ :=
  ⟨w, h.len, fun i y q => by obtain ⟨v, h1, h2⟩ := h.slot i y q; exact ⟨v, h1, x.ov h2⟩⟩
/-- a new cell -/
theorem WOk.new (h : WOk K G M0 as H W) {p : Addr} {c : Cell} (hp : H p = none) (e : Same H H') (hc : CellOk K G H' (rm (M0 ++ (as ++ [p])) H') (as ++ [p]) p c) : WOk K G M0 (as ++ [p]) H' (W ++ [c]) ∧ X2 M0 as H (as ++ [p]) H' := by
  have np : p ∉ as := fun m => h.live m hp
  have x : X2 M0 as H (as ++ [p]) H' := ⟨fun n a q => by rw [List.getElem?_append_left (List.getElem?_eq_some_iff.mp q).1]; exact q, fun a m => by
    rcases List.mem_append.mp m with m | m
    · exact .inl m
    · rw [List.mem_singleton.mp m]; exact .inr hp, fun a o _ q => e a o q, fun a q => e.free q⟩
  refine ⟨⟨by rw [List.length_append, List.length_append, h.len]; rfl, ?_, fun a m => ?_, fun a m q => h.dom0 a m (e.free q), fun n a c' h1 h2 => ?_⟩, x⟩
  · rw [List.nodup_append]
    refine ⟨h.nd, by simp, fun a ha b hb => ?_⟩
    rw [List.mem_singleton.mp hb]
    exact fun q => np (q ▸ ha)
  · rcases List.mem_append.mp m with m | m
    · exact h.apart a m
    · rw [List.mem_singleton.mp m]; exact fun q => h.dom0 p q hp
  · by_cases l : n < as.length
    · rw [List.getElem?_append_left l] at h1
      rw [List.getElem?_append_left (by rw [← h.len]; exact l)] at h2
      have z := h.cell n a c' h1 h2
      have eq : H a = H' a := by
        cases q : H a with
        | none => exact absurd q (h.live (List.mem_of_getElem? h1))
        | some o => exact (e a o q).symm
      exact CellOk.up eq x.rm x.pre z
    · have l2 : n = as.length := by
        have q := (List.getElem?_eq_some_iff.mp h1).1
        rw [List.length_append, List.length_singleton] at q
        omega
      rw [l2, List.getElem?_append_right (Nat.le_refl _), Nat.sub_self] at h1
      rw [l2, h.len, List.getElem?_append_right (Nat.le_refl _), Nat.sub_self] at h2
      cases h1; cases h2; exact hc
theorem WOk.newL (h : WOk K G M0 as H W) {p : Addr} {vs : List V} {xs : List OV} (hp : H p = none) (r : OvAll K (rm (M0 ++ as) H) as vs xs) : WOk K G M0 (as ++ [p]) (upd H p (.lst vs)) (W ++ [.lst xs]) ∧ X2 M0 as H (as ++ [p]) (upd H p (.lst vs)) := by
  have e := same_new (o := .lst vs) hp
  refine h.new hp e ⟨vs, upd_same, ?_⟩
  refine OvAll.up (fun a o q => ?_) (fun n a q => by rw [List.getElem?_append_left (List.getElem?_eq_some_iff.mp q).1]; exact q) r
  obtain ⟨q1, q2⟩ := rm_to q
  refine rm_of (fun c => ?_) (e a o q2)
  rw [← List.append_assoc] at c
  rcases List.mem_append.mp c with c | c
  · exact q1 c
  · rw [List.mem_singleton.mp c, hp] at q2; cases q2
/-- a cell gets another content -/
theorem WOk.put (h : WOk K G M0 as H W) {n : Nat} {a : Addr} {c : Cell} {o : HO} (ha : as[n]? = some a) (hc : CellOk K G (upd H a o) (rm (M0 ++ as) (upd H a o)) as a c) : WOk K G M0 as (upd H a o) (W.set n c) ∧ X2 M0 as H as (upd H a o) := by
  have ma := List.mem_of_getElem? ha
  have x : X2 M0 as H as (upd H a o) := ⟨fun _ _ q => q, fun _ q => .inl q, fun b u nb q => by rw [upd_ne (fun (z : b = a) => nb (by rw [z]; exact ma))]; exact q, fun b q => by
    by_cases z : b = a
    · rw [z, upd_same] at q; cases q
    · rw [upd_ne z] at q; exact q⟩
  refine ⟨⟨by rw [List.length_set]; exact h.len, h.nd, h.apart, fun b m q => h.dom0 b m (x.live b q), fun k b c' h1 h2 => ?_⟩, x⟩
  rcases get_set_some h2 with ⟨rfl, rfl, _⟩ | ⟨nk, h2'⟩
  · rw [ha] at h1; cases h1; exact hc
  · have ne : b ≠ a := fun z => by
      subst z
      have l1 := (List.getElem?_eq_some_iff.mp h1)
      have l2 := (List.getElem?_eq_some_iff.mp ha)
      rcases Nat.lt_or_gt_of_ne nk with q | q
      · exact List.pairwise_iff_getElem.mp h.nd _ _ l2.1 l1.1 q (l2.2.trans l1.2.symm)
      · exact List.pairwise_iff_getElem.mp h.nd _ _ l1.1 l2.1 q (l1.2.trans l2.2.symm)
    refine CellOk.up (upd_ne ne).symm x.rm (fun _ _ q => q) (h.cell k b c' h1 h2')
theorem WOk.putL (h : WOk K G M0 as H W) {n : Nat} {a : Addr} {vs : List V} {xs : List OV} (ha : as[n]? = some a) (r : OvAll K (rm (M0 ++ as) H) as vs xs) : WOk K G M0 as (upd H a (.lst vs)) (W.set n (.lst xs)) ∧ X2 M0 as H as (upd H a (.lst vs)) := by
  refine h.put ha ⟨vs, upd_same, ?_⟩
  rw [rm_upd (List.mem_append_right _ (List.mem_of_getElem? ha))]
  exact r
theorem WOk.putF (h : WOk K G M0 as H W) {n c : Nat} {a dx C : Addr} {gs : List (Str × V)} {fs : List (Nat × OV)} (hC : G[c]? = some C) (ha : as[n]? = some a) (r : FsOk K (rm (M0 ++ as) H) as gs fs) : WOk K G M0 as (upd H a (.ins C dx gs)) (W.set n (.obj c fs)) ∧ X2 M0 as H as (upd H a (.ins C dx gs)) := by
  refine h.put ha ⟨C, dx, gs, hC, upd_same, ?_⟩
  rw [rm_upd (List.mem_append_right _ (List.mem_of_getElem? ha))]
  exact r
theorem SOk.set (h : SOk K G M0 as H σ W ρ) (i : Nat) {v : V} {x : OV} (q : Ov K (rm (M0 ++ as) H) as v x) : SOk K G M0 as H (σ.set i (some v)) W (ρ.set i (some x)) where
  w := h.w
  len := by rw [List.length_set, List.length_set]; exact h.len
  slot := fun j y hj => by
    rcases get_set_some hj with ⟨rfl, e, l⟩ | ⟨n, hj'⟩
    · cases e; exact ⟨v, get_set_eq (by rw [h.len]; exact l), q⟩
    · rw [get_set_ne n]; exact h.slot j y hj'
theorem SOk.forget (h : SOk K G M0 as H σ W ρ) (i : Nat) (o : Option V) : SOk K G M0 as H (σ.set i o) W (ρ.set i none) where
  w := h.w
  len := by rw [List.length_set, List.length_set]; exact h.len
  slot := fun j y hj => by
    rcases get_set_some hj with ⟨rfl, e, l⟩ | ⟨n, hj'⟩
    · cases e
    · rw [get_set_ne n]; exact h.slot j y hj'
/-! ### data within -/
def toS : Option OV → SV
  | some (.d x) => .dat x
  | _ => .un
def toE (ρ : OEnv) : Env := ρ.map toS
theorem SOk.env (h : SOk K G M0 as H σ W ρ) : EnvOk K (M0 ++ as) (M0 ++ as) [] H σ (toE ρ) where
  len := by unfold toE; rw [List.length_map]; exact h.len
  sub := fun a m => by cases m
  dom := h.w.dom
  m0 := fun _ m => m
  slot := fun i s hs => by
    unfold toE at hs
    rw [List.getElem?_map] at hs
    cases e : ρ[i]? with
    | none => rw [e] at hs; cases hs
    | some o =>
      rw [e] at hs
      have q : s = toS o := (Option.some.inj hs).symm
      subst q
      cases o with
      | none => trivial
      | some x =>
        cases x with
        | d x => obtain ⟨v, h1, h2⟩ := h.slot i _ e; cases h2 with | d h2 => exact ⟨v, h1, h2⟩
        | r n => trivial
        | t xs => trivial
        | q xs => trivial
        | x C f => trivial
  sep := fun i j s s' l n h1 h2 l1 l2 s1 s2 => by
    unfold toE at h1
    have m := List.mem_of_getElem? h1
    obtain ⟨o, _, rfl⟩ := List.mem_map.mp m
    cases o with
    | none => cases l1
    | some x => cases x <;> cases l1
/-- a value as data: data, or a list of data -/
def asD (W : Wd) : OV → Option PyData
  | .d x => some x
  | .r n => match W[n]? with
    | some (.lst xs) => (allD xs).bind fun ds => some (.list ds)
    | _ => none
  | _ => none
theorem WOk.rv (h : WOk K G M0 as H W) {v : V} {x : OV} {d : PyData} (q : Ov K (rm (M0 ++ as) H) as v x) (e : asD W x = some d) : RV K (M0 ++ as) H v d := by
  cases q with
  | d q => cases e; exact .inl q
  | @r a n ha =>
    simp only [asD] at e
    cases hw : W[n]? with
    | none => rw [hw] at e; cases e
    | some c =>
      rw [hw] at e
      cases c with
      | obj c fs => cases e
      | lst xs =>
        have z := h.cell n a _ ha hw
        obtain ⟨vs, z1, z2⟩ := z
        cases hd : allD xs with
        | none => simp [hd] at e
        | some ds =>
          simp [hd] at e
          subst e
          exact .inr ⟨a, vs, ds, rfl, rfl, z1, OvAll.toD z2 hd⟩
  | t _ _ => cases e
  | q _ _ => cases e
  | x0 _ => cases e
  | x1 _ _ _ _ => cases e
end
end Pm.Ob
/-! Expressions over a world. -/
namespace Pm.Ob
open PySem PySem.Spec PyProof.Rows L2 Pm
abbrev OFE := Wd → OEnv → Option (Wd × OV)
abbrev OFT := Wd → OEnv → Option (Wd × Bool)
abbrev OFA := Wd → OEnv → Option (Wd × List OV)
abbrev OFO := Wd → OEnv → Option (Wd × Option Int)
variable {ι : Type}
def OE (X : ι → Cx) (K : Fr) (G : List Addr) (e : Expr) (f : OFE) : Prop := ∃ t : TE, (∀ i, PE (X i) e t) ∧ ∀ (M0 as : List Addr) (σ : L2.St) (H : Hp) (W : Wd) (ρ : OEnv) (r : Wd × OV) (Q : VK), SOk K G M0 as H σ W ρ → f W ρ = some r →
  (∀ as' v H', X2 M0 as H as' H' → SOk K G M0 as' H' σ r.1 ρ → Ov K (rm (M0 ++ as') H') as' v r.2 → Q v H') → t σ H Q
def OT (X : ι → Cx) (K : Fr) (G : List Addr) (e : Expr) (f : OFT) : Prop := ∃ t : TT, (∀ i, PT (X i) e t) ∧ ∀ (M0 as : List Addr) (σ : L2.St) (H : Hp) (W : Wd) (ρ : OEnv) (r : Wd × Bool) (Q : Bool → Hp → Prop), SOk K G M0 as H σ W ρ → f W ρ = some r →
  (∀ as' H', X2 M0 as H as' H' → SOk K G M0 as' H' σ r.1 ρ → Q r.2 H') → t σ H Q
def OW (X : ι → Cx) (K : Fr) (G : List Addr) (e : Expr) (f : OFT) : Prop := ∃ t : TT, (∀ i, PW (X i) e t) ∧ ∀ (M0 as : List Addr) (σ : L2.St) (H : Hp) (W : Wd) (ρ : OEnv) (r : Wd × Bool) (Q : Bool → Hp → Prop), SOk K G M0 as H σ W ρ → f W ρ = some r →
  (∀ as' H', X2 M0 as H as' H' → SOk K G M0 as' H' σ r.1 ρ → Q r.2 H') → t σ H Q
def OA (X : ι → Cx) (K : Fr) (G : List Addr) (es : List Expr) (f : OFA) : Prop := ∃ t : TA, (∀ i, PA (X i) es t) ∧ ∀ (M0 as : List Addr) (σ : L2.St) (H : Hp) (W : Wd) (ρ : OEnv) (r : Wd × List OV) (Q : List V → Hp → Prop), SOk K G M0 as H σ W ρ → f W ρ = some r →
  (∀ as' vs H', X2 M0 as H as' H' → SOk K G M0 as' H' σ r.1 ρ → OvAll K (rm (M0 ++ as') H') as' vs r.2 → Q vs H') → t σ H Q
def OO (X : ι → Cx) (K : Fr) (G : List Addr) (e : Option Expr) (f : OFO) : Prop := ∃ t : TO, (∀ i, PO (X i) e t) ∧ ∀ (M0 as : List Addr) (σ : L2.St) (H : Hp) (W : Wd) (ρ : OEnv) (r : Wd × Option Int) (Q : Option Int → Hp → Prop), SOk K G M0 as H σ W ρ → f W ρ = some r →
  (∀ as' H', X2 M0 as H as' H' → SOk K G M0 as' H' σ r.1 ρ → Q r.2 H') → t σ H Q
section
variable {X : ι → Cx} {K : Fr} {G : List Addr} {a b c e : Expr} {es : List Expr} {fa fb fc fe : OFE} {ft fu : OFT} {fs : OFA} {pos : Pos}
theorem bnd {α β : Type} {o : Option α} {f : α → Option β} {r : β} (h : o.bind f = some r) : ∃ x, o = some x ∧ f x = some r := Option.bind_eq_some_iff.mp h
/-- a place that is never reached -/
def oNever : OFE := fun _ _ => none
theorem oe_never : OE X K G e oNever := ⟨fun _ _ _ => False, fun i => ⟨fun _ _ _ _ _ _ h => h.elim⟩, fun _ _ _ _ _ _ _ _ _ h => by cases h⟩
def oNeverT : OFT := fun _ _ => none
theorem ot_never : OT X K G e oNeverT := ⟨fun _ _ _ => False, fun i => ⟨fun _ _ _ _ _ _ h => h.elim⟩, fun _ _ _ _ _ _ _ _ _ h => by cases h⟩
theorem ow_never : OW X K G e oNeverT := ⟨fun _ _ _ => False, fun i => ⟨fun _ _ _ _ _ _ _ h => h.elim⟩, fun _ _ _ _ _ _ _ _ _ h => by cases h⟩
/-- an expression over data alone -/
def oPure (f : FE) : OFE := fun W ρ => (f (toE ρ)).bind fun r => some (W, .d r.2)
theorem oe_pure {w : WE} {f : FE} (c : cE none w f) (h : DE X K e w) : OE X K G e (oPure f) := by
  obtain ⟨t, a1, a2⟩ := h
  refine ⟨t, a1, fun M0 as σ H W ρ r Q S h k => ?_⟩
  obtain ⟨r1, h1, h2⟩ := bnd h
  cases h2
  refine a2 (M0 ++ as) (M0 ++ as) [] σ H (toE ρ) (fun _ d => d = r1.2) Q S.env (c (toE ρ) r1 h1 (fun _ d => d = r1.2) rfl) fun ρ' d v H' p x E' rv => ?_
  subst p
  have s : Same H H' := fun a o q => x.keep a o (by simp) q
  exact k as v H' (X2.same s) (S.same s) (.d rv)
def gv : OEnv → Nat → Option OV
  | [], _ => none
  | x :: _, 0 => x
  | _ :: r, n + 1 => gv r n
theorem gv_get : ∀ {ρ : OEnv} {j : Nat} {x : OV}, gv ρ j = some x → ρ[j]? = some (some x)
  | [], _, _, h => by cases h
  | y :: _, 0, x, h => by have e : y = some x := h; subst e; rfl
  | _ :: r, n + 1, x, h => by have z : gv r n = some x := h; have q := gv_get z; simpa using q
def oVar (j : Nat) : OFE := fun W ρ => (gv ρ j).bind fun x => some (W, x)
theorem oe_v (j : Nat) (h : ∀ i, PE (X i) e (tVar j) := by intro i; exact pv _) : OE X K G e (oVar j) := by
  refine ⟨tVar j, h, fun M0 as σ H W ρ r Q S h k => ?_⟩
  obtain ⟨x, h1, h2⟩ := bnd h
  cases h2
  obtain ⟨v, h3, h4⟩ := S.slot j x (gv_get h1)
  exact ⟨v, h3, k as v H X2.refl S h4⟩
/-- a field -/
def oField (W : Wd) (f : Nat) : OV → Option OV
  | .r n => match W[n]? with
    | some (.obj _ fs) => lookO f fs
    | _ => none
  | _ => none
def oFld (a : OFE) (f : Nat) : OFE := fun W ρ => (a W ρ).bind fun r => (oField r.1 f r.2).bind fun x => some (r.1, x)
theorem field_of {M0 as : List Addr} {H : Hp} {W : Wd} {i : Nat} {f : Str} {x y : OV} {v : V} (hi : fl[i]? = some f) (w : WOk K G M0 as H W) (h : oField W i x = some y) (r : Ov K (rm (M0 ++ as) H) as v x) :
    ∃ n p k C dx gs fs u, x = .r n ∧ v = .ref p ∧ as[n]? = some p ∧ W[n]? = some (.obj k fs) ∧ G[k]? = some C ∧ H p = some (.ins C dx gs) ∧ FsOk K (rm (M0 ++ as) H) as gs fs ∧ gs.lookup f = some u ∧ Ov K (rm (M0 ++ as) H) as u y := by
  cases r with
  | d _ => cases h
  | t _ _ => cases h
  | q _ _ => cases h
  | x0 _ => cases h
  | x1 _ _ _ _ => cases h
  | @r p n hp =>
    unfold oField at h
    simp only at h
    cases hw : W[n]? with
    | none => rw [hw] at h; cases h
    | some c =>
      rw [hw] at h
      cases c with
      | lst xs => cases h
      | obj k fs =>
        obtain ⟨C, dx, gs, z0, z1, z2⟩ := w.cell n p _ hp hw
        obtain ⟨u, z3, z4⟩ := FsOk.look hi z2 h
        exact ⟨n, p, k, C, dx, gs, fs, u, rfl, rfl, hp, hw, z0, z1, z2, z3, z4⟩
/-- the classes: none has a field's name -/
structure Good (K : Fr) (C : Addr) : Prop where
  cl : Cls K C
  no : ∀ f, f ∈ fl → NoAttr K C f
theorem oe_fld (i : Nat) {f : Str} (g : ∀ C, C ∈ G → Good K C) (h : OE X K G a fa) (hf : fl[i]? = some f := by rfl) (hK : ∀ i, (X i).K = K := by intro i; rfl) (hb : ∀ i, attributeBase a f (X i).env (eval a (X i).env) = eval a (X i).env := by intro i; rfl) : OE X K G (.Attribute a f pos) (oFld fa i) := by
  obtain ⟨t, a1, a2⟩ := h
  refine ⟨tFld K t f, fun i => by rw [← hK i]; exact pe_fld (a1 i) (hb i), fun M0 as σ H W ρ r Q S h k => ?_⟩
  obtain ⟨r1, h1, h2⟩ := bnd h
  obtain ⟨y, h3, h4⟩ := bnd h2
  cases h4
  refine a2 M0 as σ H W ρ r1 _ S h1 fun as1 v H1 x1 S1 rv => ?_
  obtain ⟨n, p, c, C, dx, gs, fs, u, _, rfl, _, _, z0, z1, z2, z3, z4⟩ := field_of hf S1.w h3 rv
  have gc := g C (List.mem_of_getElem? z0)
  exact ⟨p, _, dx, gs, u, rfl, z1, gc.cl, gc.no f (List.mem_of_getElem? hf), z3, k as1 u H1 x1 S1 z4⟩
/-! operators on data -/
def oOp (g : G2) (a b : OFE) : OFE := fun W ρ => (a W ρ).bind fun r => (b r.1 ρ).bind fun s => (asD s.1 r.2).bind fun x => (asD s.1 s.2).bind fun y => (g x y).bind fun d => some (s.1, .d d)
theorem oe_op {r : R2} {f : F2} {g : G2} (ft : fit2 f g) (hp : ∀ i ta tb, PE (X i) a ta → PE (X i) b tb → PE (X i) e (tOp r ta tb)) (hr : OpD K r f) (ha : OE X K G a fa) (hb : OE X K G b fb) : OE X K G e (oOp g fa fb) := by
  obtain ⟨ta, a1, a2⟩ := ha
  obtain ⟨tb, b1, b2⟩ := hb
  refine ⟨tOp r ta tb, fun i => hp i ta tb (a1 i) (b1 i), fun M0 as σ H W ρ q Q S h k => ?_⟩
  obtain ⟨r1, h1, h⟩ := bnd h
  obtain ⟨r2, h2, h⟩ := bnd h
  obtain ⟨x, h3, h⟩ := bnd h
  obtain ⟨y, h4, h⟩ := bnd h
  obtain ⟨d, h5, h⟩ := bnd h
  cases h
  refine a2 M0 as σ H W ρ r1 _ S h1 fun as1 v H1 x1 S1 rv => ?_
  refine b2 M0 as1 σ H1 r1.1 ρ r2 _ S1 h2 fun as2 u H2 x2 S2 ru => ?_
  refine hr (M0 ++ as2) H2 x y v u (fun z => z = d) Q S2.w.dom (S2.w.rv (x2.ov rv) h3) (S2.w.rv ru h4) (ft x y d h5 _ rfl) fun d' z H3 p e3 r3 => ?_
  subst p
  exact k as2 z H3 ((x1.trans x2).trans (X2.same e3)) (S2.same e3) (.d r3)
/-- a comparison as a test -/
def oTst (a : OFE) : OFT := fun W ρ => (a W ρ).bind fun r => (asD r.1 r.2).bind fun d => (gB d).bind fun b => some (r.1, b)
theorem ot_op {r : R2} {f : F2} {g : G2} (ft : fit2 f g) (hp : ∀ i ta tb, PE (X i) a ta → PE (X i) b tb → PT (X i) e (tTest (tOp r ta tb))) (hr : OpD K r f) (ha : OE X K G a fa) (hb : OE X K G b fb) : OT X K G e (oTst (oOp g fa fb)) := by
  obtain ⟨ta, a1, a2⟩ := ha
  obtain ⟨tb, b1, b2⟩ := hb
  refine ⟨tTest (tOp r ta tb), fun i => hp i ta tb (a1 i) (b1 i), fun M0 as σ H W ρ q Q S h k => ?_⟩
  obtain ⟨q1, hq, h⟩ := bnd h
  obtain ⟨d0, hd, h⟩ := bnd h
  obtain ⟨bb, hb, h⟩ := bnd h
  cases h
  obtain ⟨r1, h1, h⟩ := bnd hq
  obtain ⟨r2, h2, h⟩ := bnd h
  obtain ⟨x, h3, h⟩ := bnd h
  obtain ⟨y, h4, h⟩ := bnd h
  obtain ⟨d, h5, h⟩ := bnd h
  cases h
  have hd' : d = d0 := Option.some.inj hd
  subst hd'
  refine a2 M0 as σ H W ρ r1 _ S h1 fun as1 v H1 x1 S1 rv => ?_
  refine b2 M0 as1 σ H1 r1.1 ρ r2 _ S1 h2 fun as2 u H2 x2 S2 ru => ?_
  refine hr (M0 ++ as2) H2 x y v u (fun z => z = d) _ S2.w.dom (S2.w.rv (x2.ov rv) h3) (S2.w.rv ru h4) (ft x y d h5 _ rfl) fun d' z H3 p e3 r3 => ?_
  subst p
  cases d' with
  | bool c =>
    cases hb
    exact ⟨_, Dt.isBl r3, k as2 H3 ((x1.trans x2).trans (X2.same e3)) (S2.same e3)⟩
  | _ => cases hb
theorem ot_val (h : OE X K G e fe) (hp : ∀ i t, PE (X i) e t → PT (X i) e (tB t) := by intro i t h; exact pt_val h) : OT X K G e (oTst fe) := by
  obtain ⟨t, a1, a2⟩ := h
  refine ⟨tB t, fun i => hp i t (a1 i), fun M0 as σ H W ρ q Q S h k => ?_⟩
  obtain ⟨r1, h1, h⟩ := bnd h
  obtain ⟨d, hd, h⟩ := bnd h
  obtain ⟨bb, hb, h⟩ := bnd h
  cases h
  refine a2 M0 as σ H W ρ r1 _ S h1 fun as1 v H1 x1 S1 rv => ?_
  cases d with
  | bool c =>
    cases hb
    exact ⟨_, RV.isBl (S1.w.rv rv hd), k as1 H1 x1 S1⟩
  | _ => cases hb
def oAnd (t u : OFT) : OFT := fun W ρ => (t W ρ).bind fun r => if r.2 = true then u r.1 ρ else some (r.1, false)
def oOr (t u : OFT) : OFT := fun W ρ => (t W ρ).bind fun r => if r.2 = true then some (r.1, true) else u r.1 ρ
def oNot (t : OFT) : OFT := fun W ρ => (t W ρ).bind fun r => some (r.1, !r.2)
theorem OW.t (h : OW X K G e ft) : OT X K G e ft := by
  obtain ⟨t, a1, a2⟩ := h
  exact ⟨t, fun i => (a1 i).pt, a2⟩
theorem ot_not (h : OT X K G e ft) (hp : ∀ i t, PT (X i) e t → PT (X i) (.UnaryOp .Not e pos) (tNot t) := by intro i t h; exact pt_not h) : OT X K G (.UnaryOp .Not e pos) (oNot ft) := by
  obtain ⟨t, a1, a2⟩ := h
  refine ⟨tNot t, fun i => hp i t (a1 i), fun M0 as σ H W ρ q Q S h k => ?_⟩
  obtain ⟨r1, h1, h⟩ := bnd h
  cases h
  exact a2 M0 as σ H W ρ r1 _ S h1 fun as1 H1 x1 S1 => k as1 H1 x1 S1
theorem ow_and {rest : List Expr} (h : OT X K G a ft) (hr : OW X K G (.BoolOp .And (c :: rest) pos) fu) (hp : ∀ i t u, PT (X i) a t → PW (X i) (.BoolOp .And (c :: rest) pos) u → PW (X i) (.BoolOp .And (a :: c :: rest) pos) (tAnd t u) := by intro i t u h1 h2; exact pw_and h1 h2) : OW X K G (.BoolOp .And (a :: c :: rest) pos) (oAnd ft fu) := by
  obtain ⟨t, a1, a2⟩ := h
  obtain ⟨u, b1, b2⟩ := hr
  refine ⟨tAnd t u, fun i => hp i t u (a1 i) (b1 i), fun M0 as σ H W ρ q Q S h k => ?_⟩
  obtain ⟨r1, h1, h⟩ := bnd h
  refine a2 M0 as σ H W ρ r1 _ S h1 fun as1 H1 x1 S1 => ite_of (fun e => ?_) (fun e => ?_)
  · rw [if_pos e] at h
    exact b2 M0 as1 σ H1 r1.1 ρ q _ S1 h fun as2 H2 x2 S2 => k as2 H2 (x1.trans x2) S2
  · rw [if_neg (by rw [e]; exact Bool.false_ne_true)] at h
    cases h
    exact k as1 H1 x1 S1
theorem ow_or {rest : List Expr} (h : OT X K G a ft) (hr : OW X K G (.BoolOp .Or (c :: rest) pos) fu) (hp : ∀ i t u, PT (X i) a t → PW (X i) (.BoolOp .Or (c :: rest) pos) u → PW (X i) (.BoolOp .Or (a :: c :: rest) pos) (tOr t u) := by intro i t u h1 h2; exact pw_or h1 h2) : OW X K G (.BoolOp .Or (a :: c :: rest) pos) (oOr ft fu) := by
  obtain ⟨t, a1, a2⟩ := h
  obtain ⟨u, b1, b2⟩ := hr
  refine ⟨tOr t u, fun i => hp i t u (a1 i) (b1 i), fun M0 as σ H W ρ q Q S h k => ?_⟩
  obtain ⟨r1, h1, h⟩ := bnd h
  refine a2 M0 as σ H W ρ r1 _ S h1 fun as1 H1 x1 S1 => ite_of (fun e => ?_) (fun e => ?_)
  · rw [if_pos e] at h
    cases h
    exact k as1 H1 x1 S1
  · rw [if_neg (by rw [e]; exact Bool.false_ne_true)] at h
    exact b2 M0 as1 σ H1 r1.1 ρ q _ S1 h fun as2 H2 x2 S2 => k as2 H2 (x1.trans x2) S2
theorem ow_and1 (h : OT X K G a ft) (hp : ∀ i t, PT (X i) a t → PW (X i) (.BoolOp .And [a] pos) t := by intro i t h1; exact pw_and1 h1) : OW X K G (.BoolOp .And [a] pos) ft := by
  obtain ⟨t, a1, a2⟩ := h
  exact ⟨t, fun i => hp i t (a1 i), a2⟩
theorem ow_or1 (h : OT X K G a ft) (hp : ∀ i t, PT (X i) a t → PW (X i) (.BoolOp .Or [a] pos) t := by intro i t h1; exact pw_or1 h1) : OW X K G (.BoolOp .Or [a] pos) ft := by
  obtain ⟨t, a1, a2⟩ := h
  exact ⟨t, fun i => hp i t (a1 i), a2⟩
def oIte (t : OFT) (a b : OFE) : OFE := fun W ρ => (t W ρ).bind fun r => if r.2 = true then a r.1 ρ else b r.1 ρ
theorem oe_ite (h : OT X K G c ft) (ha : OE X K G a fa) (hb : OE X K G b fb) : OE X K G (.IfExp c a b pos) (oIte ft fa fb) := by
  obtain ⟨t, c1, c2⟩ := h
  obtain ⟨ta, a1, a2⟩ := ha
  obtain ⟨tb, b1, b2⟩ := hb
  refine ⟨tIf t ta tb, fun i => pe_ifExp (c1 i) (a1 i) (b1 i), fun M0 as σ H W ρ q Q S h k => ?_⟩
  obtain ⟨r1, h1, h⟩ := bnd h
  refine c2 M0 as σ H W ρ r1 _ S h1 fun as1 H1 x1 S1 => ite_of (fun e => ?_) (fun e => ?_)
  · rw [if_pos e] at h
    exact a2 M0 as1 σ H1 r1.1 ρ q _ S1 h fun as2 v H2 x2 S2 => k as2 v H2 (x1.trans x2) S2
  · rw [if_neg (by rw [e]; exact Bool.false_ne_true)] at h
    exact b2 M0 as1 σ H1 r1.1 ρ q _ S1 h fun as2 v H2 x2 S2 => k as2 v H2 (x1.trans x2) S2
/-! values of and, or, not: truths -/
def oAndV (a b : OFE) : OFE := fun W ρ => (a W ρ).bind fun r => (asD r.1 r.2).bind fun d => (gB d).bind fun c => if c = true then b r.1 ρ else some (r.1, .d (.bool false))
def oOrV (a b : OFE) : OFE := fun W ρ => (a W ρ).bind fun r => (asD r.1 r.2).bind fun d => (gB d).bind fun c => if c = true then some (r.1, .d (.bool true)) else b r.1 ρ
def oNotV (a : OFE) : OFE := fun W ρ => (a W ρ).bind fun r => (asD r.1 r.2).bind fun d => (gB d).bind fun c => some (r.1, .d (.bool (!c)))
theorem oe_one {op : BoolOp} (h : OE X K G a fa) : OE X K G (.BoolOp op [a] pos) fa := by
  obtain ⟨t, a1, a2⟩ := h
  exact ⟨t, fun i => pe_one (a1 i), a2⟩
theorem gB_of {d : PyData} {c : Bool} (h : gB d = some c) : d = .bool c := by cases d <;> first | (cases h; rfl) | cases h
theorem oe_and {rest : List Expr} (ha : OE X K G a fa) (hb : OE X K G (.BoolOp .And (b :: rest) pos) fb) : OE X K G (.BoolOp .And (a :: b :: rest) pos) (oAndV fa fb) := by
  obtain ⟨t, a1, a2⟩ := ha
  obtain ⟨u, b1, b2⟩ := hb
  refine ⟨tAndV t u, fun i => pe_and (a1 i) (b1 i), fun M0 as σ H W ρ q Q S h k => ?_⟩
  obtain ⟨r1, h1, h⟩ := bnd h
  obtain ⟨d, hd, h⟩ := bnd h
  obtain ⟨bb, hb, h⟩ := bnd h
  refine a2 M0 as σ H W ρ r1 _ S h1 fun as1 v H1 x1 S1 rv => ?_
  refine ⟨bb, RV.isBl (gB_of hb ▸ S1.w.rv rv hd), ite_of (fun e => ?_) (fun e => ?_)⟩
  · rw [if_pos e] at h
    exact b2 M0 as1 σ H1 r1.1 ρ q _ S1 h fun as2 v H2 x2 S2 => k as2 v H2 (x1.trans x2) S2
  · rw [if_neg (by rw [e]; exact Bool.false_ne_true)] at h
    cases h
    exact k as1 _ H1 x1 S1 (.d (.bl _))
theorem oe_or {rest : List Expr} (ha : OE X K G a fa) (hb : OE X K G (.BoolOp .Or (b :: rest) pos) fb) : OE X K G (.BoolOp .Or (a :: b :: rest) pos) (oOrV fa fb) := by
  obtain ⟨t, a1, a2⟩ := ha
  obtain ⟨u, b1, b2⟩ := hb
  refine ⟨tOrV t u, fun i => pe_or (a1 i) (b1 i), fun M0 as σ H W ρ q Q S h k => ?_⟩
  obtain ⟨r1, h1, h⟩ := bnd h
  obtain ⟨d, hd, h⟩ := bnd h
  obtain ⟨bb, hb, h⟩ := bnd h
  refine a2 M0 as σ H W ρ r1 _ S h1 fun as1 v H1 x1 S1 rv => ?_
  refine ⟨bb, RV.isBl (gB_of hb ▸ S1.w.rv rv hd), ite_of (fun e => ?_) (fun e => ?_)⟩
  · rw [if_pos e] at h
    cases h
    exact k as1 _ H1 x1 S1 (.d (.bl _))
  · rw [if_neg (by rw [e]; exact Bool.false_ne_true)] at h
    exact b2 M0 as1 σ H1 r1.1 ρ q _ S1 h fun as2 v H2 x2 S2 => k as2 v H2 (x1.trans x2) S2
theorem oe_not (ha : OE X K G a fa) : OE X K G (.UnaryOp .Not a pos) (oNotV fa) := by
  obtain ⟨t, a1, a2⟩ := ha
  refine ⟨tNotV t, fun i => pe_not (a1 i), fun M0 as σ H W ρ q Q S h k => ?_⟩
  obtain ⟨r1, h1, h⟩ := bnd h
  obtain ⟨d, hd, h⟩ := bnd h
  obtain ⟨bb, hb, h⟩ := bnd h
  cases h
  refine a2 M0 as σ H W ρ r1 _ S h1 fun as1 v H1 x1 S1 rv => ?_
  exact ⟨bb, RV.isBl (gB_of hb ▸ S1.w.rv rv hd), k as1 _ H1 x1 S1 (.d (.bl _))⟩
/-! arguments, displays -/
def oNil : OFA := fun W _ => some (W, [])
def oCons (a : OFE) (b : OFA) : OFA := fun W ρ => (a W ρ).bind fun r => (b r.1 ρ).bind fun s => some (s.1, r.2 :: s.2)
theorem oa_nil : OA X K G [] oNil := ⟨tNil, fun i => pa_nil, fun M0 as σ H W ρ q Q S h k => by cases h; exact k as [] H X2.refl S .nil⟩
theorem oa_cons (h : OE X K G e fe) (hs : OA X K G es fs) (he : ∀ i, starEach (e :: es) (X i).env = (false, eval e (X i).env) :: starEach es (X i).env := by intro i; rfl) : OA X K G (e :: es) (oCons fe fs) := by
  obtain ⟨ta, a1, a2⟩ := h
  obtain ⟨tb, b1, b2⟩ := hs
  refine ⟨tCons ta tb, fun i => pa_cons (a1 i) (b1 i) (he i), fun M0 as σ H W ρ q Q S h k => ?_⟩
  obtain ⟨r1, h1, h⟩ := bnd h
  obtain ⟨r2, h2, h⟩ := bnd h
  cases h
  refine a2 M0 as σ H W ρ r1 _ S h1 fun as1 v H1 x1 S1 rv => ?_
  refine b2 M0 as1 σ H1 r1.1 ρ r2 _ S1 h2 fun as2 vs H2 x2 S2 rs => ?_
  exact k as2 _ H2 (x1.trans x2) S2 (.cons (x2.ov rv) rs)
def mkT (xs : List OV) : OV := match allD xs with
  | some ds => .d (.tuple ds)
  | none => .t xs
def oTup (a : OFA) : OFE := fun W ρ => (a W ρ).bind fun r => if r.2.length ≤ 16777216 then some (r.1, mkT r.2) else none
def oLst (a : OFA) : OFE := fun W ρ => (a W ρ).bind fun r => if r.2.length ≤ 16777216 then some (r.1 ++ [.lst r.2], .r r.1.length) else none
theorem ov_tup {M0 as : List Addr} {H : Hp} {p : Addr} {vs : List V} {xs : List OV} (np : p ∉ M0 ++ as) (h : H p = some (.tup vs)) (r : OvAll K (rm (M0 ++ as) H) as vs xs) : Ov K (rm (M0 ++ as) H) as (.ref p) (mkT xs) := by
  have q : SqT K (rm (M0 ++ as) H) p vs := .inl (.inl (rm_of np h))
  unfold mkT
  cases e : allD xs with
  | some ds => exact .d (.tup q (OvAll.toD r e))
  | none => exact .t q r
theorem oe_tup {cc : Nat} (h : OA X K G es fs) (hp : ∀ i t, PA (X i) es t → PE (X i) (.Tuple es cc pos) (tTup t) := by intro i t h; exact pe_tup h) : OE X K G (.Tuple es cc pos) (oTup fs) := by
  obtain ⟨t, a1, a2⟩ := h
  refine ⟨tTup t, fun i => hp i t (a1 i), fun M0 as σ H W ρ q Q S h k => ?_⟩
  obtain ⟨r1, h1, h⟩ := bnd h
  by_cases c : r1.2.length ≤ 16777216
  · rw [if_pos c] at h
    cases h
    refine a2 M0 as σ H W ρ r1 _ S h1 fun as1 vs H1 x1 S1 rs => ?_
    refine ⟨by rw [OvAll.len rs]; exact c, fun p np => ?_⟩
    have s := same_new (o := .tup vs) np
    have x2 := X2.same (M0 := M0) (as := as1) s
    exact k as1 _ _ (x1.trans x2) (S1.same s) (ov_tup (fun m => S1.w.dom p m np) upd_same (x2.ovs rs))
  · rw [if_neg c] at h; cases h
theorem oe_lst (h : OA X K G es fs) (hp : ∀ i t, PA (X i) es t → PE (X i) (.List es pos) (tLst t) := by intro i t h; exact pe_lst h) : OE X K G (.List es pos) (oLst fs) := by
  obtain ⟨t, a1, a2⟩ := h
  refine ⟨tLst t, fun i => hp i t (a1 i), fun M0 as σ H W ρ q Q S h k => ?_⟩
  obtain ⟨r1, h1, h⟩ := bnd h
  by_cases c : r1.2.length ≤ 16777216
  · rw [if_pos c] at h
    cases h
    refine a2 M0 as σ H W ρ r1 _ S h1 fun as1 vs H1 x1 S1 rs => ?_
    refine ⟨by rw [OvAll.len rs]; exact c, fun p np => ?_⟩
    obtain ⟨w2, x2⟩ := S1.w.newL np rs
    exact k _ _ _ (x1.trans x2) (S1.go x2 w2) (.r (by rw [← S1.w.len]; simp))
  · rw [if_neg c] at h; cases h
/-! slices' bounds -/
def oNo : OFO := fun W _ => some (W, none)
def oSo (a : OFE) : OFO := fun W ρ => (a W ρ).bind fun r => (asD r.1 r.2).bind fun d => (gI d).bind fun i => some (r.1, some i)
theorem oo_no (hp : ∀ i, PO (X i) none tNoPart := by intro i; exact po_none) : OO X K G none oNo := ⟨tNoPart, hp, fun M0 as σ H W ρ q Q S h k => by cases h; exact k as H X2.refl S⟩
theorem gI_of {d : PyData} {i : Int} (h : gI d = some i) : d = .int i := by cases d <;> first | (cases h; rfl) | cases h
theorem oo_so (h : OE X K G e fe) : OO X K G (some e) (oSo fe) := by
  obtain ⟨t, a1, a2⟩ := h
  refine ⟨tPart t, fun i => po_some (a1 i), fun M0 as σ H W ρ q Q S h k => ?_⟩
  obtain ⟨r1, h1, h⟩ := bnd h
  obtain ⟨d, hd, h⟩ := bnd h
  obtain ⟨n, hn, h⟩ := bnd h
  cases h
  refine a2 M0 as σ H W ρ r1 _ S h1 fun as1 v H1 x1 S1 rv => ?_
  exact ⟨n, RV.isInt (gI_of hn ▸ S1.w.rv rv hd), k as1 H1 x1 S1⟩
end
end Pm.Ob
/-! Operators, built-ins and methods of texts over a world (printed by tools/oblift.py). -/
namespace Pm.Ob
open PySem PySem.Spec PyProof.Rows L2 Pm
section
variable {ι : Type} {X : ι → Cx} {K : Fr} {G : List Addr} {a b c e e2 e3 : Expr} {es : List Expr} {fa fb fc fe : OFE} {fs : OFA} {fl fh : OFO} {pos apos cpos : Pos}
theorem oe_add (ha : OE X K G a fa) (hb : OE X K G b fb) (hK : ∀ i, (X i).K = K := by intro i; rfl) : OE X K G (.BinOp a .Add b pos) (oOp gAdd fa fb) := oe_op k_add (fun i ta tb h1 h2 => pe_op (by rw [← hK i]; exact op_addAny) h1 h2) od_add ha hb
theorem oe_sub (ha : OE X K G a fa) (hb : OE X K G b fb)  : OE X K G (.BinOp a .Sub b pos) (oOp gSub fa fb) := oe_op k_sub (fun i ta tb h1 h2 => pe_op op_sub h1 h2) (od_I0 fun _ _ _ => .int _) ha hb
theorem oe_mod (ha : OE X K G a fa) (hb : OE X K G b fb)  : OE X K G (.BinOp a .Mod b pos) (oOp gMod fa fb) := oe_op k_mod (fun i ta tb h1 h2 => pe_op op_mod h1 h2) (od_I fun _ _ _ => .int _) ha hb
theorem oe_lt (ha : OE X K G a fa) (hb : OE X K G b fb)  : OE X K G (.Compare a [.Lt] [b] pos) (oOp gLt fa fb) := oe_op k_lt (fun i ta tb h1 h2 => pe_cmpR op_lt h1 h2 (nomark _)) (od_I0 fun _ _ _ => .bl _) ha hb
theorem ot_lt (ha : OE X K G a fa) (hb : OE X K G b fb)  : OT X K G (.Compare a [.Lt] [b] pos) (oTst (oOp gLt fa fb)) := ot_op k_lt (fun i ta tb h1 h2 => pt_cmpR op_lt h1 h2 (nomark _)) (od_I0 fun _ _ _ => .bl _) ha hb
theorem oe_le (ha : OE X K G a fa) (hb : OE X K G b fb)  : OE X K G (.Compare a [.LtE] [b] pos) (oOp gLe fa fb) := oe_op k_le (fun i ta tb h1 h2 => pe_cmpR op_le h1 h2 (nomark _)) (od_I0 fun _ _ _ => .bl _) ha hb
theorem ot_le (ha : OE X K G a fa) (hb : OE X K G b fb)  : OT X K G (.Compare a [.LtE] [b] pos) (oTst (oOp gLe fa fb)) := ot_op k_le (fun i ta tb h1 h2 => pt_cmpR op_le h1 h2 (nomark _)) (od_I0 fun _ _ _ => .bl _) ha hb
theorem oe_gt (ha : OE X K G a fa) (hb : OE X K G b fb)  : OE X K G (.Compare a [.Gt] [b] pos) (oOp gGt fa fb) := oe_op k_gt (fun i ta tb h1 h2 => pe_cmpR op_gt h1 h2 (nomark _)) (od_I0 fun _ _ _ => .bl _) ha hb
theorem ot_gt (ha : OE X K G a fa) (hb : OE X K G b fb)  : OT X K G (.Compare a [.Gt] [b] pos) (oTst (oOp gGt fa fb)) := ot_op k_gt (fun i ta tb h1 h2 => pt_cmpR op_gt h1 h2 (nomark _)) (od_I0 fun _ _ _ => .bl _) ha hb
theorem oe_ge (ha : OE X K G a fa) (hb : OE X K G b fb)  : OE X K G (.Compare a [.GtE] [b] pos) (oOp gGe fa fb) := oe_op k_ge (fun i ta tb h1 h2 => pe_cmpR op_ge h1 h2 (nomark _)) (od_I0 fun _ _ _ => .bl _) ha hb
theorem ot_ge (ha : OE X K G a fa) (hb : OE X K G b fb)  : OT X K G (.Compare a [.GtE] [b] pos) (oTst (oOp gGe fa fb)) := ot_op k_ge (fun i ta tb h1 h2 => pt_cmpR op_ge h1 h2 (nomark _)) (od_I0 fun _ _ _ => .bl _) ha hb
theorem oe_eq (ha : OE X K G a fa) (hb : OE X K G b fb) (hu : ∀ i, (X i).A.units + 64 < cLine) (hK : ∀ i, (X i).K = K := by intro i; rfl) : OE X K G (.Compare a [.Eq] [b] pos) (oOp (gEq false) fa fb) := oe_op k_eq (fun i ta tb h1 h2 => pe_cmpR (by rw [← hK i]; exact op_eqAny (hu i)) h1 h2 (nomark _)) od_eq ha hb
theorem ot_eq (ha : OE X K G a fa) (hb : OE X K G b fb) (hu : ∀ i, (X i).A.units + 64 < cLine) (hK : ∀ i, (X i).K = K := by intro i; rfl) : OT X K G (.Compare a [.Eq] [b] pos) (oTst (oOp (gEq false) fa fb)) := ot_op k_eq (fun i ta tb h1 h2 => pt_cmpR (by rw [← hK i]; exact op_eqAny (hu i)) h1 h2 (nomark _)) od_eq ha hb
theorem oe_ne (ha : OE X K G a fa) (hb : OE X K G b fb) (hu : ∀ i, (X i).A.units + 64 < cLine) (hK : ∀ i, (X i).K = K := by intro i; rfl) : OE X K G (.Compare a [.NotEq] [b] pos) (oOp (gEq true) fa fb) := oe_op k_eq (fun i ta tb h1 h2 => pe_cmpR (by rw [← hK i]; exact op_neAny (hu i)) h1 h2 (nomark _)) od_eq ha hb
theorem ot_ne (ha : OE X K G a fa) (hb : OE X K G b fb) (hu : ∀ i, (X i).A.units + 64 < cLine) (hK : ∀ i, (X i).K = K := by intro i; rfl) : OT X K G (.Compare a [.NotEq] [b] pos) (oTst (oOp (gEq true) fa fb)) := ot_op k_eq (fun i ta tb h1 h2 => pt_cmpR (by rw [← hK i]; exact op_neAny (hu i)) h1 h2 (nomark _)) od_eq ha hb
theorem oe_in (ha : OE X K G a fa) (hb : OE X K G b fb) (hm : behindInMarks .In b = false := by rfl) (hK : ∀ i, (X i).K = K := by intro i; rfl) : OE X K G (.Compare a [.In] [b] pos) (oOp (gIn false) fa fb) := oe_op k_in (fun i ta tb h1 h2 => pe_cmpR (by rw [← hK i]; exact op_orR op_inS' op_in_seq) h1 h2 hm) od_in ha hb
theorem ot_in (ha : OE X K G a fa) (hb : OE X K G b fb) (hm : behindInMarks .In b = false := by rfl) (hK : ∀ i, (X i).K = K := by intro i; rfl) : OT X K G (.Compare a [.In] [b] pos) (oTst (oOp (gIn false) fa fb)) := ot_op k_in (fun i ta tb h1 h2 => pt_cmpR (by rw [← hK i]; exact op_orR op_inS' op_in_seq) h1 h2 hm) od_in ha hb
theorem oe_notin (ha : OE X K G a fa) (hb : OE X K G b fb) (hm : behindInMarks .NotIn b = false := by rfl) (hK : ∀ i, (X i).K = K := by intro i; rfl) : OE X K G (.Compare a [.NotIn] [b] pos) (oOp (gIn true) fa fb) := oe_op k_in (fun i ta tb h1 h2 => pe_cmpR (by rw [← hK i]; exact op_orR op_notinS' op_notIn_seq) h1 h2 hm) od_in ha hb
theorem ot_notin (ha : OE X K G a fa) (hb : OE X K G b fb) (hm : behindInMarks .NotIn b = false := by rfl) (hK : ∀ i, (X i).K = K := by intro i; rfl) : OT X K G (.Compare a [.NotIn] [b] pos) (oTst (oOp (gIn true) fa fb)) := ot_op k_in (fun i ta tb h1 h2 => pt_cmpR (by rw [← hK i]; exact op_orR op_notinS' op_notIn_seq) h1 h2 hm) od_in ha hb
/-! built-ins of one argument -/
def oU (g : G1) (a : OFE) : OFE := fun W ρ => (a W ρ).bind fun r => (asD r.1 r.2).bind fun x => (g x).bind fun d => some (r.1, .d d)
theorem oe_u {r : List V → Hp → VK → Prop} {f : F1} {g : G1} (ft : fit1 f g) (hp : ∀ i t, PE (X i) e t → PE (X i) c (tCB r (tCons t tNil))) (cd : CallD K r f) (h : OE X K G e fe) : OE X K G c (oU g fe) := by
  obtain ⟨t, a1, a2⟩ := h
  refine ⟨tCB r (tCons t tNil), fun i => hp i t (a1 i), fun M0 as σ H W ρ q Q S h k => ?_⟩
  obtain ⟨r1, h1, h⟩ := bnd h
  obtain ⟨x, h2, h⟩ := bnd h
  obtain ⟨d, h3, h⟩ := bnd h
  cases h
  refine a2 M0 as σ H W ρ r1 _ S h1 fun as1 v H1 x1 S1 rv => ?_
  refine cd (M0 ++ as1) H1 x v (fun z => z = d) Q S1.w.dom (S1.w.rv rv h2) (ft x d h3 _ rfl) fun d' z H2 p e2 r2 => ?_
  subst p
  exact k as1 z H2 (x1.trans (X2.same e2)) (S1.same e2) (.d r2)
/-- len: of cells, too -/
def oLenV (W : Wd) : OV → Option Int
  | .d x => (gLen x).bind gI
  | .r n => match W[n]? with
    | some (.lst xs) => some xs.length
    | _ => none
  | .t xs => some xs.length
  | .q xs => some xs.length
  | .x _ _ => none
def oLen (a : OFE) : OFE := fun W ρ => (a W ρ).bind fun r => (oLenV r.1 r.2).bind fun n => some (r.1, .d (.int n))
theorem oe_len {p : Pos} (hm : ∀ i, (X i).mg "len" = none) (h : OE X K G e fe) (hK : ∀ i, (X i).K = K := by intro i; rfl) (hg : ∀ i, Gl (X i) "len" := by intro i; rfl) (he : ∀ i, starEach (e :: []) (X i).env = (false, eval e (X i).env) :: starEach [] (X i).env := by intro i; rfl) : OE X K G (.Call (.Name "len" p) [e] [] pos) (oLen fe) := by
  obtain ⟨t, a1, a2⟩ := h
  refine ⟨tCB (fun xs H Q => ∃ x n, xs = [x] ∧ LenV K x H n ∧ Q (.int n) H) (tCons t tNil), fun i => by rw [← hK i]; exact pe_callB call_len (hg i) (hm i) PySem.boot_len (pa_cons (a1 i) pa_nil (he i)) (by decide) (by decide) (he i) rfl, fun M0 as σ H W ρ q Q S h k => ?_⟩
  obtain ⟨r1, h1, h⟩ := bnd h
  obtain ⟨n, h2, h⟩ := bnd h
  cases h
  refine a2 M0 as σ H W ρ r1 _ S h1 fun as1 v H1 x1 S1 rv => ?_
  obtain ⟨W1, y⟩ := r1
  cases rv with
  | @d v x hv =>
    obtain ⟨z, h3, h4⟩ := bnd h2
    refine cd_len (M0 ++ as1) H1 x v (fun w => w = z) Q S1.w.dom (.inl hv) (k_len x z h3 _ rfl) fun d' u H2 p e2 r2 => ?_
    subst p
    have e := gI_of h4
    subst e
    exact k as1 u H2 (x1.trans (X2.same e2)) (S1.same e2) (.d r2)
  | @r p m hp =>
    simp only [oLenV] at h2
    cases hw : W1[m]? with
    | none => rw [hw] at h2; cases h2
    | some c =>
      rw [hw] at h2
      cases c with
      | obj c fs => cases h2
      | lst xs =>
        cases h2
        obtain ⟨vs, z1, z2⟩ := S1.w.cell m p _ hp hw
        exact ⟨_, _, rfl, .inl ⟨vs, SqL.of z1, rfl⟩, by rw [OvAll.len z2]; exact k as1 _ H1 x1 S1 (.d (.int _))⟩
  | @t p vs xs hp hs =>
    cases h2
    exact ⟨_, _, rfl, .inr ⟨vs, same_t rm_le hp, rfl⟩, by rw [OvAll.len hs]; exact k as1 _ H1 x1 S1 (.d (.int _))⟩
  | @q p vs xs hp hs =>
    cases h2
    exact ⟨_, _, rfl, .inl ⟨vs, same_l rm_le hp, rfl⟩, by rw [OvAll.len hs]; exact k as1 _ H1 x1 S1 (.d (.int _))⟩
  | x0 _ => cases h2
  | x1 _ _ _ _ => cases h2
theorem oe_toInt {p : Pos} (hm : ∀ i, (X i).mg "int" = none) (h : OE X K G e fe) (hK : ∀ i, (X i).K = K := by intro i; rfl) (hg : ∀ i, Gl (X i) "int" := by intro i; rfl)  (he : ∀ i, starEach (e :: []) (X i).env = (false, eval e (X i).env) :: starEach [] (X i).env := by intro i; rfl) : OE X K G (.Call (.Name "int" p) [e] [] pos) (oU gInt fe) :=
  oe_u k_int (fun i t h => by exact pe_callTy call_int1 (hg i) (hm i) (by decide +kernel) (pa_cons h pa_nil (he i)) (by decide) (by decide) (he i) rfl) cd_int h
theorem oe_any {p : Pos} (hm : ∀ i, (X i).mg "any" = none) (h : OE X K G e fe) (hK : ∀ i, (X i).K = K := by intro i; rfl) (hg : ∀ i, Gl (X i) "any" := by intro i; rfl) (hc : ∀ i, (X i).calm = true := by intro i; rfl) (he : ∀ i, starEach (e :: []) (X i).env = (false, eval e (X i).env) :: starEach [] (X i).env := by intro i; rfl) : OE X K G (.Call (.Name "any" p) [e] [] pos) (oU gAny fe) :=
  oe_u k_any (fun i t h => by rw [← hK i]; exact pe_callB (cr_any (hc i)) (hg i) (hm i) (by decide +kernel) (pa_cons h pa_nil (he i)) (by decide) (by decide) (he i) rfl) cd_any h
theorem oe_all {p : Pos} (hm : ∀ i, (X i).mg "all" = none) (h : OE X K G e fe) (hK : ∀ i, (X i).K = K := by intro i; rfl) (hg : ∀ i, Gl (X i) "all" := by intro i; rfl) (hc : ∀ i, (X i).calm = true := by intro i; rfl) (he : ∀ i, starEach (e :: []) (X i).env = (false, eval e (X i).env) :: starEach [] (X i).env := by intro i; rfl) : OE X K G (.Call (.Name "all" p) [e] [] pos) (oU gAll fe) :=
  oe_u k_all (fun i t h => by rw [← hK i]; exact pe_callB (cr_all (hc i)) (hg i) (hm i) (by decide +kernel) (pa_cons h pa_nil (he i)) (by decide) (by decide) (he i) rfl) cd_all h
/-! methods of texts -/
def oM (g : GM) (a : OFE) (b : OFA) : OFE := fun W ρ => (a W ρ).bind fun r => (asD r.1 r.2).bind fun d => (gS d).bind fun s => (b r.1 ρ).bind fun t => (allD t.2).bind fun ds => (g s ds).bind fun d => some (t.1, .d d)
theorem gS_of {d : PyData} {s : Str} (h : gS d = some s) : d = .str s := by cases d <;> first | (cases h; rfl) | cases h
theorem oe_m {r : V → List V → Hp → VK → Prop} {f : FM} {g : GM} (ft : fitM f g) (hp : ∀ i t u, PE (X i) a t → PA (X i) es u → PE (X i) c (tBM K "str" r t u)) (md : MtD K r f) (h : OE X K G a fa) (ha : OA X K G es fs) : OE X K G c (oM g fa fs) := by
  obtain ⟨t, a1, a2⟩ := h
  obtain ⟨u, b1, b2⟩ := ha
  refine ⟨_, fun i => hp i t u (a1 i) (b1 i), fun M0 as σ H W ρ q Q S h k => ?_⟩
  obtain ⟨r1, h1, h⟩ := bnd h
  obtain ⟨x, h2, h⟩ := bnd h
  obtain ⟨s, h3, h⟩ := bnd h
  obtain ⟨r2, h4, h⟩ := bnd h
  obtain ⟨ds, h5, h⟩ := bnd h
  obtain ⟨d, h6, h⟩ := bnd h
  cases h
  have e := gS_of h3
  subst e
  refine a2 M0 as σ H W ρ r1 _ S h1 fun as1 v H1 x1 S1 rv => ?_
  rw [RV.isStr (S1.w.rv rv h2)]
  refine ⟨rfl, b2 M0 as1 σ H1 r1.1 ρ r2 _ S1 h4 fun as2 vs H2 x2 S2 rs => ?_⟩
  refine md (M0 ++ as2) H2 s ds vs (fun z => z = d) Q S2.w.dom (OvAll.toD rs h5) (ft s ds d h6 _ rfl) fun d' z H3 p e3 r3 => ?_
  subst p
  exact k as2 z H3 ((x1.trans x2).trans (X2.same e3)) (S2.same e3) (.d r3)
theorem oe_strip (h : OE X K G a fa) (ha : OA X K G [e] fs) (hK : ∀ i, (X i).K = K := by intro i; rfl)
    (hp : ∀ i t u, PE (X i) a t → PA (X i) [e] u → PE (X i) (.Call (.Attribute a "strip" apos) [e] [] cpos) (tBM (X i).K "str" (fun x xs H Q => ∃ (a b : Str), x = .str a ∧ xs = [.str b] ∧ a.length ≤ sizeLine ∧ Q (.str (Txt.stripChars a b)) H) t u) := by intro i t u h1 h2; exact pe_bm PySem.F.plainAttrs_str PySem.F.slot_str_strip PySem.F.type_str_strip mt_stripChars h1 h2) :
    OE X K G (.Call (.Attribute a "strip" apos) [e] [] cpos) (oM gStrip fa fs) :=
  oe_m k_strip (fun i t u h1 h2 => by rw [← hK i]; exact hp i t u h1 h2) md_strip h ha
theorem oe_lstrip (h : OE X K G a fa) (ha : OA X K G [e] fs) (hK : ∀ i, (X i).K = K := by intro i; rfl)
    (hp : ∀ i t u, PE (X i) a t → PA (X i) [e] u → PE (X i) (.Call (.Attribute a "lstrip" apos) [e] [] cpos) (tBM (X i).K "str" (fun x xs H Q => ∃ (a b : Str), x = .str a ∧ xs = [.str b] ∧ a.length ≤ sizeLine ∧ Q (.str (Txt.lstripChars a b)) H) t u) := by intro i t u h1 h2; exact pe_bm PySem.F.plainAttrs_str PySem.F.slot_str_lstrip PySem.F.type_str_lstrip mt_lstripChars h1 h2) :
    OE X K G (.Call (.Attribute a "lstrip" apos) [e] [] cpos) (oM gLstrip fa fs) :=
  oe_m k_lstrip (fun i t u h1 h2 => by rw [← hK i]; exact hp i t u h1 h2) md_lstrip h ha
theorem oe_rstrip (h : OE X K G a fa) (ha : OA X K G [e] fs) (hK : ∀ i, (X i).K = K := by intro i; rfl)
    (hp : ∀ i t u, PE (X i) a t → PA (X i) [e] u → PE (X i) (.Call (.Attribute a "rstrip" apos) [e] [] cpos) (tBM (X i).K "str" (fun x xs H Q => ∃ (a b : Str), x = .str a ∧ xs = [.str b] ∧ a.length ≤ sizeLine ∧ Q (.str (Txt.rstripChars a b)) H) t u) := by intro i t u h1 h2; exact pe_bm PySem.F.plainAttrs_str PySem.F.slot_str_rstrip PySem.F.type_str_rstrip mt_rstripChars h1 h2) :
    OE X K G (.Call (.Attribute a "rstrip" apos) [e] [] cpos) (oM gRstrip fa fs) :=
  oe_m k_rstrip (fun i t u h1 h2 => by rw [← hK i]; exact hp i t u h1 h2) md_rstrip h ha
theorem oe_startswith (h : OE X K G a fa) (ha : OA X K G [e] fs) (hK : ∀ i, (X i).K = K := by intro i; rfl)
    (hp : ∀ i t u, PE (X i) a t → PA (X i) [e] u → PE (X i) (.Call (.Attribute a "startswith" apos) [e] [] cpos) (tBM (X i).K "str" (fun x xs H Q => ∃ (a b : Str), x = .str a ∧ xs = [.str b] ∧ Q (.bl (Txt.startswith a b)) H) t u) := by intro i t u h1 h2; exact pe_bm PySem.F.plainAttrs_str PySem.F.slot_str_startswith PySem.F.type_str_startswith mt_startswith h1 h2) :
    OE X K G (.Call (.Attribute a "startswith" apos) [e] [] cpos) (oM gStarts fa fs) :=
  oe_m k_starts (fun i t u h1 h2 => by rw [← hK i]; exact hp i t u h1 h2) md_startswith h ha
theorem oe_endswith (h : OE X K G a fa) (ha : OA X K G [e] fs) (hK : ∀ i, (X i).K = K := by intro i; rfl)
    (hp : ∀ i t u, PE (X i) a t → PA (X i) [e] u → PE (X i) (.Call (.Attribute a "endswith" apos) [e] [] cpos) (tBM (X i).K "str" (fun x xs H Q => ∃ (a b : Str), x = .str a ∧ xs = [.str b] ∧ Q (.bl (Txt.endswith a b)) H) t u) := by intro i t u h1 h2; exact pe_bm PySem.F.plainAttrs_str PySem.F.slot_str_endswith PySem.F.type_str_endswith mt_endswith h1 h2) :
    OE X K G (.Call (.Attribute a "endswith" apos) [e] [] cpos) (oM gEnds fa fs) :=
  oe_m k_ends (fun i t u h1 h2 => by rw [← hK i]; exact hp i t u h1 h2) md_endswith h ha
theorem oe_find (h : OE X K G a fa) (ha : OA X K G [e] fs) (hK : ∀ i, (X i).K = K := by intro i; rfl)
    (hp : ∀ i t u, PE (X i) a t → PA (X i) [e] u → PE (X i) (.Call (.Attribute a "find" apos) [e] [] cpos) (tBM (X i).K "str" (fun x xs H Q => ∃ (a b : Str), x = .str a ∧ xs = [.str b] ∧ Q (.int (Txt.find a b)) H) t u) := by intro i t u h1 h2; exact pe_bm PySem.F.plainAttrs_str PySem.F.slot_str_find PySem.F.type_str_find mt_find h1 h2) :
    OE X K G (.Call (.Attribute a "find" apos) [e] [] cpos) (oM gFind fa fs) :=
  oe_m k_find (fun i t u h1 h2 => by rw [← hK i]; exact hp i t u h1 h2) md_find h ha
theorem oe_find3 (h : OE X K G a fa) (ha : OA X K G [e, e2] fs) (hK : ∀ i, (X i).K = K := by intro i; rfl)
    (hp : ∀ i t u, PE (X i) a t → PA (X i) [e, e2] u → PE (X i) (.Call (.Attribute a "find" apos) [e, e2] [] cpos) (tBM (X i).K "str" (fun x xs H Q => ∃ (a b : Str) (i : Int), x = .str a ∧ xs = [.str b, .int i] ∧ Q (.int (Txt.find3 a b i)) H) t u) := by intro i t u h1 h2; exact pe_bm PySem.F.plainAttrs_str PySem.F.slot_str_find PySem.F.type_str_find mt_find3 h1 h2) :
    OE X K G (.Call (.Attribute a "find" apos) [e, e2] [] cpos) (oM gFind3 fa fs) :=
  oe_m k_find3 (fun i t u h1 h2 => by rw [← hK i]; exact hp i t u h1 h2) md_find3 h ha
theorem oe_count (h : OE X K G a fa) (ha : OA X K G [e] fs) (hK : ∀ i, (X i).K = K := by intro i; rfl)
    (hp : ∀ i t u, PE (X i) a t → PA (X i) [e] u → PE (X i) (.Call (.Attribute a "count" apos) [e] [] cpos) (tBM (X i).K "str" (fun x xs H Q => ∃ (a b : Str), x = .str a ∧ xs = [.str b] ∧ Q (.int (Txt.count a b)) H) t u) := by intro i t u h1 h2; exact pe_bm PySem.F.plainAttrs_str PySem.F.slot_str_count PySem.F.type_str_count mt_count h1 h2) :
    OE X K G (.Call (.Attribute a "count" apos) [e] [] cpos) (oM gCount fa fs) :=
  oe_m k_count (fun i t u h1 h2 => by rw [← hK i]; exact hp i t u h1 h2) md_count h ha
/-! sep.join -/
def oJoin (a b : OFE) : OFE := fun W ρ => (a W ρ).bind fun r => (asD r.1 r.2).bind fun d => (gS d).bind fun s => (b r.1 ρ).bind fun t => (asD t.1 t.2).bind fun x => (gJoin s x).bind fun d => some (t.1, .d d)
theorem oe_join (h : OE X K G a fa) (ha : OE X K G e fe) (hK : ∀ i, (X i).K = K := by intro i; rfl) (he : ∀ i, starEach (e :: []) (X i).env = (false, eval e (X i).env) :: starEach [] (X i).env := by intro i; rfl)
    (hp : ∀ i t u, PE (X i) a t → PA (X i) [e] u → PE (X i) (.Call (.Attribute a "join" apos) [e] [] cpos) (tBM (X i).K "str" (fun x xs H Q => ∃ a p, ∃ ys : List Str, x = .str a ∧ xs = [.ref p] ∧ (SqL (X i).K H p (ys.map V.str) ∨ SqT (X i).K H p (ys.map V.str)) ∧ (ys.map (·.length)).sum + ys.length * a.length ≤ 16777216 ∧ Q (.str (Txt.join a ys)) H) t u) := by intro i t u h1 h2; exact pe_bm PySem.F.plainAttrs_str PySem.F.slot_str_join PySem.F.type_str_join mt_join h1 h2) :
    OE X K G (.Call (.Attribute a "join" apos) [e] [] cpos) (oJoin fa fe) := by
  obtain ⟨t, a1, a2⟩ := h
  obtain ⟨u, b1, b2⟩ := ha
  refine ⟨tBM K "str" (fun x xs H Q => ∃ a p, ∃ ys : List Str, x = .str a ∧ xs = [.ref p] ∧ (SqL K H p (ys.map V.str) ∨ SqT K H p (ys.map V.str)) ∧ (ys.map (·.length)).sum + ys.length * a.length ≤ 16777216 ∧ Q (.str (Txt.join a ys)) H) t (tCons u tNil), fun i => by rw [← hK i]; exact hp i t _ (a1 i) (pa_cons (b1 i) pa_nil (he i)), fun M0 as σ H W ρ q Q S h k => ?_⟩
  obtain ⟨r1, h1, h⟩ := bnd h
  obtain ⟨x, h2, h⟩ := bnd h
  obtain ⟨s, h3, h⟩ := bnd h
  obtain ⟨r2, h4, h⟩ := bnd h
  obtain ⟨y, h5, h⟩ := bnd h
  obtain ⟨d, h6, h⟩ := bnd h
  cases h
  have e := gS_of h3
  subst e
  refine a2 M0 as σ H W ρ r1 _ S h1 fun as1 v H1 x1 S1 rv => ?_
  rw [RV.isStr (S1.w.rv rv h2)]
  refine ⟨rfl, b2 M0 as1 σ H1 r1.1 ρ r2 _ S1 h4 fun as2 v H2 x2 S2 rs => ?_⟩
  have r2 := S2.w.rv rs h5
  obtain ⟨ys, hd, hz, w2⟩ := fit_join y d h6 (fun z => z = d) rfl
  subst w2
  rcases hd with rfl | rfl
  · obtain ⟨p, vs, rfl, h1, h2⟩ := RV.isLst r2
    exact ⟨s, p, ys, rfl, rfl, .inl (SqL.of (by rw [← dt_strs h2]; exact h1)), hz, k as2 _ H2 (x1.trans x2) S2 (.d (.str _))⟩
  · obtain ⟨p, vs, rfl, h1, h2⟩ := RV.isTup r2
    exact ⟨s, p, ys, rfl, rfl, .inr (by rw [← dt_strs h2]; exact h1), hz, k as2 _ H2 (x1.trans x2) S2 (.d (.str _))⟩
/-! x[i] -/
def oIxV (W : Wd) (y : PyData) : OV → Option OV
  | .d x => (gIx x y).bind fun d => some (.d d)
  | .r n => match W[n]?, y with
    | some (.lst xs), .int i => atI xs i
    | _, _ => none
  | .t xs => match y with
    | .int i => atI xs i
    | _ => none
  | .q xs => match y with
    | .int i => atI xs i
    | _ => none
  | .x _ _ => none
def oIx (a b : OFE) : OFE := fun W ρ => (a W ρ).bind fun r => (b r.1 ρ).bind fun s => (asD s.1 s.2).bind fun y => (oIxV s.1 y r.2).bind fun x => some (s.1, x)
theorem at_ov {H : Hp} {as : List Addr} {vs : List V} {xs : List OV} {i : Int} {x : OV} (r : OvAll K H as vs xs) (h : atI xs i = some x) : ∃ v, atI vs i = some v ∧ Ov K H as v x := by
  unfold atI at h ⊢
  rw [OvAll.len r]
  cases hn : ixN xs.length i with
  | none => rw [hn] at h; cases h
  | some j =>
    rw [hn] at h
    exact OvAll.get r (show xs[j]? = some x from h)
theorem oe_ix (ha : OE X K G a fa) (hb : OE X K G b fb) (hs : PlainIx b := by exact fun _ _ => rfl) (hK : ∀ i, (X i).K = K := by intro i; rfl) : OE X K G (.Subscript a b pos) (oIx fa fb) := by
  obtain ⟨ta, a1, a2⟩ := ha
  obtain ⟨tb, b1, b2⟩ := hb
  refine ⟨tOp (rIx K) ta tb, fun i => by rw [← hK i]; exact pe_ix ix_seq (a1 i) (b1 i) hs, fun M0 as σ H W ρ q Q S h k => ?_⟩
  obtain ⟨r1, h1, h⟩ := bnd h
  obtain ⟨r2, h2, h⟩ := bnd h
  obtain ⟨y, h4, h⟩ := bnd h
  obtain ⟨z, h5, h⟩ := bnd h
  cases h
  refine a2 M0 as σ H W ρ r1 _ S h1 fun as1 v H1 x1 S1 rv => ?_
  refine b2 M0 as1 σ H1 r1.1 ρ r2 _ S1 h2 fun as2 u H2 x2 S2 ru => ?_
  have ry := S2.w.rv ru h4
  have rx := x2.ov rv
  have xx := x1.trans x2
  revert h5 rx
  generalize r1.2 = o
  intro h5 rx
  cases rx with
  | @d v x hv =>
    obtain ⟨d, h6, h7⟩ := bnd h5
    cases h7
    refine od_ix (M0 ++ as2) H2 x y v u (fun z => z = d) Q S2.w.dom (.inl hv) ry (k_ix x y d h6 _ rfl) fun d' z H3 p e3 r3 => ?_
    subst p
    exact k as2 z H3 (xx.trans (X2.same e3)) (S2.same e3) (.d r3)
  | @r p m hp =>
    simp only [oIxV] at h5
    cases hw : r2.1[m]? with
    | none => rw [hw] at h5; cases h5
    | some c =>
      rw [hw] at h5
      cases c with
      | obj c fs => cases h5
      | lst xs =>
        cases y with
        | int i =>
          obtain ⟨vs, z1, z2⟩ := S2.w.cell m p _ hp hw
          obtain ⟨w, z3, z4⟩ := at_ov z2 h5
          rw [RV.isInt ry]
          exact .inl ⟨p, vs, i, w, rfl, rfl, SqL.of z1, z3, k as2 w H2 xx S2 z4⟩
        | _ => cases h5
  | @t p vs xs hp hs =>
    simp only [oIxV] at h5
    cases y with
    | int i =>
      obtain ⟨w, z3, z4⟩ := at_ov hs h5
      rw [RV.isInt ry]
      exact .inr (.inl ⟨p, vs, i, w, rfl, rfl, same_t rm_le hp, z3, k as2 w H2 xx S2 z4⟩)
    | _ => cases h5
  | @q p vs xs hp hs =>
    simp only [oIxV] at h5
    cases y with
    | int i =>
      obtain ⟨w, z3, z4⟩ := at_ov hs h5
      rw [RV.isInt ry]
      exact .inl ⟨p, vs, i, w, rfl, rfl, same_l rm_le hp, z3, k as2 w H2 xx S2 z4⟩
    | _ => cases h5
  | x0 _ => cases h5
  | x1 _ _ _ _ => cases h5
/-! x[lo:hi]: of a list that is a cell a new cell -/
def oSlV (W : Wd) (lo hi : Option Int) : OV → Option (Wd × OV)
  | .d x => (gSl x lo hi).bind fun d => some (W, .d d)
  | .r n => match W[n]? with
    | some (.lst xs) => some (W ++ [.lst (cutD xs lo hi)], .r W.length)
    | _ => none
  | .q xs => some (W ++ [.lst (cutD xs lo hi)], .r W.length)
  | .t _ => none
  | .x _ _ => none
def oSl (a : OFE) (l h : OFO) : OFE := fun W ρ => (a W ρ).bind fun r => (l r.1 ρ).bind fun s => (h s.1 ρ).bind fun t => oSlV t.1 s.2 t.2 r.2
theorem OvAll.cut {H : Hp} {as : List Addr} {vs : List V} {xs : List OV} (r : OvAll K H as vs xs) (lo hi : Option Int) : OvAll K H as (cutV vs lo hi) (cutD xs lo hi) := by
  unfold cutV cutD
  rw [OvAll.len r]
  exact OvAll.take _ (OvAll.drop _ r)
theorem oe_sl {lo hi : Option Expr} {p2 : Pos} (ha : OE X K G a fa) (hl : OO X K G lo fl) (hh : OO X K G hi fh) (hK : ∀ i, (X i).K = K := by intro i; rfl) : OE X K G (.Subscript a (.Slice lo hi none p2) pos) (oSl fa fl fh) := by
  obtain ⟨t, a1, a2⟩ := ha
  obtain ⟨tl, l1, l2⟩ := hl
  obtain ⟨th, h1, h2⟩ := hh
  refine ⟨tSl (rSlAny K) t tl th, fun i => by rw [← hK i]; exact pe_slice sl_any (a1 i) (l1 i) (h1 i), fun M0 as σ H W ρ q Q S h k => ?_⟩
  obtain ⟨r1, e1, h⟩ := bnd h
  obtain ⟨r2, e2, h⟩ := bnd h
  obtain ⟨r3, e3, h⟩ := bnd h
  refine a2 M0 as σ H W ρ r1 _ S e1 fun as1 v H1 x1 S1 rv => ?_
  refine l2 M0 as1 σ H1 r1.1 ρ r2 _ S1 e2 fun as2 H2 x2 S2 => ?_
  refine h2 M0 as2 σ H2 r2.1 ρ r3 _ S2 e3 fun as3 H3 x3 S3 => ?_
  have rx := (x2.trans x3).ov rv
  have xx := x1.trans (x2.trans x3)
  revert h rx
  generalize r1.2 = o
  intro h rx
  cases rx with
  | @d v x hv =>
    obtain ⟨d, h6, h7⟩ := bnd h
    cases h7
    refine sl_d S3.w.dom (.inl hv) (fit_sl h6 (P := fun z => z = d) rfl) fun d' z H4 p e4 r4 => ?_
    subst p
    exact k as3 z H4 (xx.trans (X2.same e4)) (S3.same e4) (.d r4)
  | @r p m hp =>
    simp only [oSlV] at h
    cases hw : r3.1[m]? with
    | none => rw [hw] at h; cases h
    | some c =>
      rw [hw] at h
      cases c with
      | obj c fs => cases h
      | lst xs =>
        cases h
        obtain ⟨vs, z1, z2⟩ := S3.w.cell m p _ hp hw
        refine .inr (.inl ⟨p, vs, rfl, SqL.of z1, fun q nq => ?_⟩)
        obtain ⟨w2, x4⟩ := S3.w.newL nq (OvAll.cut z2 r2.2 r3.2)
        exact k _ _ _ (xx.trans x4) (S3.go x4 w2) (.r (by rw [← S3.w.len]; simp))
  | @t p vs xs hp hs => cases h
  | @q p vs xs hp hs =>
    cases h
    refine .inr (.inl ⟨p, vs, rfl, same_l rm_le hp, fun q nq => ?_⟩)
    obtain ⟨w2, x4⟩ := S3.w.newL nq (OvAll.cut hs r2.2 r3.2)
    exact k _ _ _ (xx.trans x4) (S3.go x4 w2) (.r (by rw [← S3.w.len]; simp))
  | x0 _ => cases h
  | x1 _ _ _ _ => cases h
end
end Pm.Ob
/-! Calls, methods, new instances over a world. -/
namespace Pm.Ob
open PySem PySem.Spec PyProof.Rows L2 Pm
section
variable {X : Cx} {CX : CXT} {k : Nat} {f C : Addr} {fd : FuncData} {ps : List Str} {sp : Sp} {dvs : List V} {ds : List Value} {E : XK} {x m : Str} {p pos apos : Pos} {e o : Expr} {es : List Expr} {ta : TE} {t : TA}
/-- the tree of o.m(..) -/
abbrev MTree (X : Cx) (o : Expr) (m : Str) (apos : Pos) (es : List Expr) (pos : Pos) (pl : Sem Bool) : Prop :=
  eval (.Call (.Attribute o m apos) es [] pos) X.env = (do
      let ov ← eval o X.env
      standAt apos.atName
      let (f, first) ← holding [ov] (getMethod ov m pl)
      callWith pos f first (backTo pos (starEach es X.env)) (backToKw pos (keywordEach [] X.env)))
theorem po_meth {pl : Sem Bool} (ho : PE X o ta) (cl : Cls X.K C) (mt : Meth X.K C m f) (F : FnOk X.prog X.w X.K X.mg X.base CX k f fd ps sp) (room : Room k X.A) (bind : Binds X.K fd ps ds) (hd : Vals dvs ds) (hx : Passes CX X E) (ha : PA X (e :: es) t)
    (st : starEach (e :: es) X.env = (false, eval e X.env) :: starEach es X.env) (np : (backTo pos (starEach es X.env)).any (·.1) = false) (tr : MTree X o m apos (e :: es) pos pl) : PE X (.Call (.Attribute o m apos) (e :: es) [] pos) (tMeth C m sp dvs E ta t) :=
  ⟨fun pins s σ H Q I want => PySem.W.methodCall_KW (pl := pl) (thn (ho.run pins s σ H _ I want) fun u s1 ⟨x, H1, J, rx, a, dx, fs, ex, ea, l, q⟩ => by
    subst ex
    cases (show u = Value.ref a from rx)
    exact getmeth_ok J ea cl mt l (PySem.W.callWith_K (first := [.ref a]) (h₀ := X.base) I.ok.mod.kin mt.kp (thn (ha.run pos pins s1 σ H1 _ J q) fun us s2 ⟨vs, H2, J2, r, q2⟩ => ⟨J2.kIn, runF (us := .ref a :: us) (vs := .ref a :: vs) F room bind hd hx J2 (.cons rfl r) q2⟩) st np)) tr⟩
theorem po_meth0 {pl : Sem Bool} (ho : PE X o ta) (cl : Cls X.K C) (mt : Meth X.K C m f) (F : FnOk X.prog X.w X.K X.mg X.base CX k f fd ps sp) (room : Room k X.A) (bind : Binds X.K fd ps ds) (hd : Vals dvs ds) (hx : Passes CX X E) (tr : MTree X o m apos [] pos pl) : PE X (.Call (.Attribute o m apos) [] [] pos) (tMeth C m sp dvs E ta tNil) :=
  ⟨fun pins s σ H Q I want => PySem.W.methodCall_KW (pl := pl) (thn (ho.run pins s σ H _ I want) fun u s1 ⟨x, H1, J, rx, a, dx, fs, ex, ea, l, q⟩ => by
    subst ex
    cases (show u = Value.ref a from rx)
    exact getmeth_ok J ea cl mt l (PySem.W.callWith_K0 (first := [.ref a]) J.kIn mt.kp (runF (us := [.ref a]) (vs := [.ref a]) F room bind hd hx J (.cons rfl .nil) q))) tr⟩
theorem roomMk {k : Nat} {A : Around} (r : Room (k + 1) A) (C : Addr) (us : List Value) : Room k (A.under (.builtin "type.__call__" ⟨.ref C :: us, []⟩)) :=
  ⟨r.hd, by have a := r.dp; rw [make_depth]; omega, by have a := r.un; rw [make_units]; omega, by first | exact r.gd | (simpa [Around.under, Code.guards, pushGuards, Code.isFrame] using r.gd)⟩
/-- C(..) -/
theorem runMk {pins : List (Addr × Obj)} {σ : L2.St} {H : Hp} {s : Shared} {Q : VK} {us : List Value} {vs : List V} (M : Mk X.K C f) (F : FnOk X.prog X.w X.K X.mg X.base CX k f fd ps sp) (room : Room (k + 1) X.A) (bind : Binds X.K fd ps ds) (hd : Vals dvs ds)
    (hx : Passes CX X E) (I : Inv X pins σ H s) (r : Vals vs us) (want : ∀ y dx, H y = none → H dx = none → dx ≠ y → sp (.ref y :: (vs ++ dvs)) (upd (upd H dx (.own y)) y (.ins C dx [])) (fun v H2 => v = .non ∧ Q (.ref y) H2) E) :
    wpAny (model X.prog X.w) X.A (call (.ref C) us) (EP X pins σ Q) X.xe s := by
  have J := Inv.made (C := C) I
  have w0 := want (s.heap.objs.size + 1) s.heap.objs.size (I.hok.fresh (Nat.le_succ _)) (I.hok.fresh (Nat.le_refl _)) (Nat.ne_of_lt (Nat.lt_succ_self _))
  have both : Vals (V.ref (s.heap.objs.size + 1) :: (vs ++ dvs)) (Value.ref (s.heap.objs.size + 1) :: (us ++ ds)) := .cons rfl (r.append hd)
  have len : (Value.ref (s.heap.objs.size + 1) :: us ++ ds).length = ps.length := both.length.symm.trans (F.len _ _ _ _ w0)
  have go := F.run _ (roomMk room C us) X.stack _ _ ⟨Value.ref (s.heap.objs.size + 1) :: us, []⟩ (Value.ref (s.heap.objs.size + 1) :: (us ++ ds)) _ _ E (J.env0.make C us []) (bind _ (Value.ref (s.heap.objs.size + 1) :: us) J.kIn len) both w0
  refine wpAny_call (make_map (f := f) I.kIn M.makes M.init (beq_iff_eq.mp M.fn) (codeAny_mono go fun res s' q => ?_))
  match res, q with
  | .error u, q => exact hx pins σ _ _ u s' J q
  | .ok (.ret u), q =>
    obtain ⟨v, H', J2, rv, ev, q3⟩ := J.after q
    subst ev
    exact ⟨rv, ⟨V.ref (s.heap.objs.size + 1), H', J2, rfl, q3⟩⟩
  | .ok .next, q => exact q.elim
  | .ok .brk, q => exact q.elim
  | .ok .cont, q => exact q.elim
theorem po_make (M : Mk X.K C f) (F : FnOk X.prog X.w X.K X.mg X.base CX k f fd ps sp) (room : Room (k + 1) X.A) (hg : Gl X x) (hm : X.mg x = some (.ref C)) (bind : Binds X.K fd ps ds) (hd : Vals dvs ds) (hx : Passes CX X E)
    (ha : PA X (e :: es) t) (nb : (x == ("__debug__" : Str)) = false) (st : starEach (e :: es) X.env = (false, eval e X.env) :: starEach es X.env) (np : (backTo pos (starEach es X.env)).any (·.1) = false) : PE X (.Call (.Name x p) (e :: es) [] pos) (tMake C sp dvs E t) :=
  ⟨fun pins s σ H Q I want => wpAny_Call_Name_kw (ld_glob I hg hm (PySem.W.callWith_K (h₀ := X.base) I.ok.mod.kin M.kp (thn (ha.run pos pins s σ H _ I want) fun us s1 ⟨vs, H1, J, r, q⟩ => ⟨J.kIn, runMk M F room bind hd hx J r q⟩) st np) nb)⟩
theorem po_make0 (M : Mk X.K C f) (F : FnOk X.prog X.w X.K X.mg X.base CX k f fd ps sp) (room : Room (k + 1) X.A) (hg : Gl X x) (hm : X.mg x = some (.ref C)) (bind : Binds X.K fd ps ds) (hd : Vals dvs ds) (hx : Passes CX X E) (nb : (x == ("__debug__" : Str)) = false) : PE X (.Call (.Name x p) [] [] pos) (tMake C sp dvs E tNil) :=
  ⟨fun pins s σ H Q I want => wpAny_Call_Name_kw (ld_glob I hg hm (PySem.W.callWith_K0 I.kIn M.kp (runMk (us := []) M F room bind hd hx I .nil want)) nb)⟩
end
end Pm.Ob
/-! Calls and tests of kinds over a world. -/
namespace Pm.Ob
open PySem PySem.Spec PyProof.Rows L2 Pm
abbrev FO' := Wd → List OV → Option (Wd × OV)
/-- a def over a world -/
def spO (K : Fr) (G : List Addr) (F : FO') : Sp := fun vs H Q _ => ∃ (M0 as : List Addr) (W : Wd) (xs : List OV) (r : Wd × OV), WOk K G M0 as H W ∧ OvAll K (rm (M0 ++ as) H) as vs xs ∧ F W xs = some r ∧
  ∀ as' v H', X2 M0 as H as' H' → WOk K G M0 as' H' r.1 → Ov K (rm (M0 ++ as') H') as' v r.2 → Q v H'
def MethOk (Y : Cx) (C : Addr) (m : Str) (sp : Sp) : Prop := ∃ (k : Nat) (f : Addr) (fd : FuncData) (ps : List Str), FnOk Y.prog Y.w Y.K Y.mg Y.base CX0 k f fd ps sp ∧ Room k Y.A ∧ Meth Y.K C m f ∧ Binds Y.K fd ps []
def MakeOk (Y : Cx) (x : Str) (C : Addr) (sp : Sp) (dvs : List V) : Prop := ∃ (k : Nat) (f : Addr) (fd : FuncData) (ps : List Str) (ds : List Value), FnOk Y.prog Y.w Y.K Y.mg Y.base CX0 k f fd ps sp ∧ Room (k + 1) Y.A ∧ Mk Y.K C f ∧ Y.mg x = some (.ref C) ∧ Binds Y.K fd ps ds ∧ Vals dvs ds
section
variable {ι : Type} {X : ι → Cx} {K : Fr} {G : List Addr} {a b c e e2 e3 : Expr} {es : List Expr} {fa fb fc fe : OFE} {fs : OFA} {pos apos cpos p : Pos} {x m : Str} {F : FO'}
/-! a def over data alone -/
def oCallP (F : FP) (a : OFA) : OFE := fun W ρ => (a W ρ).bind fun r => (allD r.2).bind fun ds => (F ds).bind fun d => some (r.1, .d d)
theorem oe_callP {S : SpD} {f : FP} (ft : fitP S f) (cl : ∀ i, CallOk (X i) x (spP K S)) (h : OA X K G (e :: es) fs) (hg : ∀ i, Gl (X i) x := by intro i; rfl) (hdb : (x == ("__debug__" : Str)) = false := by decide)
    (he : ∀ i, starEach (e :: es) (X i).env = (false, eval e (X i).env) :: starEach es (X i).env := by intro i; rfl) (hpl : ∀ i, (backTo pos (starEach es (X i).env)).any (·.1) = false := by intro i; rfl) : OE X K G (.Call (.Name x p) (e :: es) [] pos) (oCallP f fs) := by
  obtain ⟨t, a1, a2⟩ := h
  refine ⟨tCall (spP K S) [] E0 t, fun i => ?_, fun M0 as σ H W ρ q Q Z h k => ?_⟩
  · obtain ⟨k, f, fd, ps, F, hr, hm, hk, hb⟩ := cl i
    exact pe_call F hr (hg i) hm hk hb .nil pass0 (a1 i) hdb (he i) (hpl i)
  · obtain ⟨r1, h1, h⟩ := bnd h
    obtain ⟨ds, h2, h⟩ := bnd h
    obtain ⟨d, h3, h⟩ := bnd h
    cases h
    refine a2 M0 as σ H W ρ r1 _ Z h1 fun as1 vs H1 x1 S1 rs => ?_
    refine ⟨M0 ++ as1, ds, (fun z => z = d), S1.w.dom, by rw [List.append_nil]; exact OvAll.toD rs h2, ft ds d h3 _ rfl, fun d' v H2 p e2 r2 => ?_⟩
    subst p
    exact k as1 v H2 (x1.trans (X2.same e2)) (S1.same e2) (.d r2)
/-! a def over the world -/
def oCall (F : FO') (a : OFA) : OFE := fun W ρ => (a W ρ).bind fun r => F r.1 r.2
theorem oe_callO (cl : ∀ i, CallOk (X i) x (spO K G F)) (h : OA X K G (e :: es) fs) (hg : ∀ i, Gl (X i) x := by intro i; rfl) (hdb : (x == ("__debug__" : Str)) = false := by decide)
    (he : ∀ i, starEach (e :: es) (X i).env = (false, eval e (X i).env) :: starEach es (X i).env := by intro i; rfl) (hpl : ∀ i, (backTo pos (starEach es (X i).env)).any (·.1) = false := by intro i; rfl) : OE X K G (.Call (.Name x p) (e :: es) [] pos) (oCall F fs) := by
  obtain ⟨t, a1, a2⟩ := h
  refine ⟨tCall (spO K G F) [] E0 t, fun i => ?_, fun M0 as σ H W ρ q Q Z h k => ?_⟩
  · obtain ⟨k, f, fd, ps, F, hr, hm, hk, hb⟩ := cl i
    exact pe_call F hr (hg i) hm hk hb .nil pass0 (a1 i) hdb (he i) (hpl i)
  · obtain ⟨r1, h1, h⟩ := bnd h
    refine a2 M0 as σ H W ρ r1 _ Z h1 fun as1 vs H1 x1 S1 rs => ?_
    refine ⟨M0, as1, r1.1, r1.2, q, S1.w, by rw [List.append_nil]; exact rs, h, fun as2 v H2 x2 w2 r2 => ?_⟩
    exact k as2 v H2 (x1.trans x2) (S1.go x2 w2) r2
/-! methods -/
def isO (c : Nat) (W : Wd) : OV → Option Unit
  | .r n => match W[n]? with
    | some (.obj k _) => if k = c then some () else none
    | _ => none
  | _ => none
theorem isO_of {k : Nat} {M0 as : List Addr} {H : Hp} {W : Wd} {y : OV} {v : V} {C : Addr} (hC : G[k]? = some C) (w : WOk K G M0 as H W) (h : isO k W y = some ()) (r : Ov K (rm (M0 ++ as) H) as v y) :
    ∃ p dx gs fs, v = .ref p ∧ H p = some (.ins C dx gs) ∧ FsOk K (rm (M0 ++ as) H) as gs fs := by
  cases r with
  | d _ => cases h
  | t _ _ => cases h
  | q _ _ => cases h
  | x0 _ => cases h
  | x1 _ _ _ _ => cases h
  | @r p n hp =>
    simp only [isO] at h
    cases hw : W[n]? with
    | none => rw [hw] at h; cases h
    | some c =>
      rw [hw] at h
      cases c with
      | lst xs => cases h
      | obj j fs =>
        by_cases z : j = k
        · subst z
          obtain ⟨D, dx, gs, z0, z1, z2⟩ := w.cell n p _ hp hw
          rw [hC] at z0
          cases z0
          exact ⟨p, dx, gs, fs, rfl, z1, z2⟩
        · simp [z] at h
def oMeth (k : Nat) (F : FO') (a : OFE) (b : OFA) : OFE := fun W ρ => (a W ρ).bind fun r => (isO k r.1 r.2).bind fun _ => (b r.1 ρ).bind fun s => F s.1 (r.2 :: s.2)
theorem oe_meth {k : Nat} {C : Addr} {pl : Sem Bool} (hC : G[k]? = some C) (g : ∀ C, C ∈ G → Good K C) (cl : ∀ i, MethOk (X i) C m (spO K G F)) (ho : OE X K G a fa) (h : OA X K G (e :: es) fs) (hm : m ∉ fl := by decide) (hK : ∀ i, (X i).K = K := by intro i; rfl)
    (he : ∀ i, starEach (e :: es) (X i).env = (false, eval e (X i).env) :: starEach es (X i).env := by intro i; rfl) (hpl : ∀ i, (backTo pos (starEach es (X i).env)).any (·.1) = false := by intro i; rfl) (tr : ∀ i, MTree (X i) a m apos (e :: es) pos pl := by intro i; rfl) : OE X K G (.Call (.Attribute a m apos) (e :: es) [] pos) (oMeth k F fa fs) := by
  obtain ⟨to, o1, o2⟩ := ho
  obtain ⟨t, a1, a2⟩ := h
  refine ⟨tMeth C m (spO K G F) [] E0 to t, fun i => ?_, fun M0 as σ H W ρ q Q Z h kk => ?_⟩
  · obtain ⟨k, f, fd, ps, F, hr, mt, hb⟩ := cl i
    exact po_meth (o1 i) (by rw [hK i]; exact (g C (List.mem_of_getElem? hC)).cl) mt F hr hb .nil pass0 (a1 i) (he i) (hpl i) (tr i)
  · obtain ⟨r1, h1, h⟩ := bnd h
    obtain ⟨_, h2, h⟩ := bnd h
    obtain ⟨r3, h3, h⟩ := bnd h
    refine o2 M0 as σ H W ρ r1 _ Z h1 fun as1 v H1 x1 S1 rv => ?_
    obtain ⟨p, dx, gs, fs, rfl, z1, z2⟩ := isO_of hC S1.w h2 rv
    refine ⟨p, dx, gs, rfl, z1, FsOk.no hm z2, ?_⟩
    refine a2 M0 as1 σ H1 r1.1 ρ r3 _ S1 h3 fun as2 vs H2 x2 S2 rs => ?_
    refine ⟨M0, as2, r3.1, r1.2 :: r3.2, q, S2.w, by rw [List.append_nil]; exact .cons (x2.ov rv) rs, h, fun as3 v H3 x3 w3 r3 => ?_⟩
    exact kk as3 v H3 ((x1.trans x2).trans x3) (S2.go x3 w3) r3
theorem oe_meth0 {k : Nat} {C : Addr} {pl : Sem Bool} (hC : G[k]? = some C) (g : ∀ C, C ∈ G → Good K C) (cl : ∀ i, MethOk (X i) C m (spO K G F)) (ho : OE X K G a fa) (hm : m ∉ fl := by decide) (hK : ∀ i, (X i).K = K := by intro i; rfl)
    (tr : ∀ i, MTree (X i) a m apos [] pos pl := by intro i; rfl) : OE X K G (.Call (.Attribute a m apos) [] [] pos) (oMeth k F fa oNil) := by
  obtain ⟨to, o1, o2⟩ := ho
  refine ⟨tMeth C m (spO K G F) [] E0 to tNil, fun i => ?_, fun M0 as σ H W ρ q Q Z h kk => ?_⟩
  · obtain ⟨k, f, fd, ps, F, hr, mt, hb⟩ := cl i
    exact po_meth0 (o1 i) (by rw [hK i]; exact (g C (List.mem_of_getElem? hC)).cl) mt F hr hb .nil pass0 (tr i)
  · obtain ⟨r1, h1, h⟩ := bnd h
    obtain ⟨_, h2, h⟩ := bnd h
    obtain ⟨r3, h3, h⟩ := bnd h
    cases h3
    refine o2 M0 as σ H W ρ r1 _ Z h1 fun as1 v H1 x1 S1 rv => ?_
    obtain ⟨p, dx, gs, fs, rfl, z1, z2⟩ := isO_of hC S1.w h2 rv
    refine ⟨p, dx, gs, rfl, z1, FsOk.no hm z2, ?_⟩
    refine ⟨M0, as1, r1.1, [r1.2], q, S1.w, .cons rv .nil, h, fun as3 v H3 x3 w3 r3 => ?_⟩
    exact kk as3 v H3 (x1.trans x3) (S1.go x3 w3) r3
/-! a new instance -/
def isNo : OV → Option Unit
  | .d .none => some ()
  | _ => none
def oMake (k : Nat) (F : FO') (dd : List PyData) (b : OFA) : OFE := fun W ρ => (b W ρ).bind fun s => (F (s.1 ++ [.obj k []]) (.r s.1.length :: (s.2 ++ dd.map .d))).bind fun r => (isNo r.2).bind fun _ => some (r.1, .r s.1.length)
theorem make_ok {M0 as : List Addr} {H : Hp} {W : Wd} {k : Nat} {C y dx : Addr} (w : WOk K G M0 as H W) (hC : G[k]? = some C) (hy : H y = none) (hdx : H dx = none) (ne : dx ≠ y) :
    WOk K G M0 (as ++ [y]) (upd (upd H dx (.own y)) y (.ins C dx [])) (W ++ [.obj k []]) ∧ X2 M0 as H (as ++ [y]) (upd (upd H dx (.own y)) y (.ins C dx [])) := by
  refine w.new hy (fun b o q => ?_) ⟨C, dx, [], hC, upd_same, .nil⟩
  rw [upd_ne (ne_of_none q hy), upd_ne (ne_of_none q hdx)]
  exact q
theorem isNo_of {x : OV} (h : isNo x = some ()) : x = .d .none := by
  cases x with
  | d x => cases x <;> first | rfl | cases h
  | _ => cases h
theorem oe_make {k : Nat} {C : Addr} {dvs : List V} {dd : List PyData} (hC : G[k]? = some C) (cl : ∀ i, MakeOk (X i) x C (spO K G F) dvs) (hd : ∀ H, DtAll K H dvs dd) (h : OA X K G (e :: es) fs) (hg : ∀ i, Gl (X i) x := by intro i; rfl) (hdb : (x == ("__debug__" : Str)) = false := by decide)
    (he : ∀ i, starEach (e :: es) (X i).env = (false, eval e (X i).env) :: starEach es (X i).env := by intro i; rfl) (hpl : ∀ i, (backTo pos (starEach es (X i).env)).any (·.1) = false := by intro i; rfl) : OE X K G (.Call (.Name x p) (e :: es) [] pos) (oMake k F dd fs) := by
  obtain ⟨t, a1, a2⟩ := h
  refine ⟨tMake C (spO K G F) dvs E0 t, fun i => ?_, fun M0 as σ H W ρ q Q Z h kk => ?_⟩
  · obtain ⟨k, f, fd, ps, ds, F, hr, mk, hm, hb, hv⟩ := cl i
    exact po_make mk F hr (hg i) hm hb hv pass0 (a1 i) hdb (he i) (hpl i)
  · obtain ⟨r1, h1, h⟩ := bnd h
    obtain ⟨r2, h2, h⟩ := bnd h
    obtain ⟨_, h3, h⟩ := bnd h
    cases h
    refine a2 M0 as σ H W ρ r1 _ Z h1 fun as1 vs H1 x1 S1 rs => fun y dx hy hdx ne => ?_
    obtain ⟨w2, x2⟩ := make_ok S1.w hC hy hdx ne
    have ry : (as1 ++ [y])[r1.1.length]? = some y := by rw [← S1.w.len]; simp
    refine ⟨M0, as1 ++ [y], _, _, r2, w2, .cons (.r ry) (OvAll.app (x2.ovs rs) (OvAll.ofD (hd _))), h2, fun as3 v H3 x3 w3 r3 => ?_⟩
    have e := isNo_of h3
    rw [e] at r3
    cases r3 with
    | d r3 => exact ⟨Dt.isNon r3, kk as3 _ H3 ((x1.trans x2).trans x3) (S1.go (x2.trans x3) w3) (.r (x3.pre _ _ ry))⟩
theorem oe_make0 {k : Nat} {C : Addr} {dvs : List V} {dd : List PyData} (hC : G[k]? = some C) (cl : ∀ i, MakeOk (X i) x C (spO K G F) dvs) (hd : ∀ H, DtAll K H dvs dd) (hg : ∀ i, Gl (X i) x := by intro i; rfl) (hdb : (x == ("__debug__" : Str)) = false := by decide) : OE X K G (.Call (.Name x p) [] [] pos) (oMake k F dd oNil) := by
  refine ⟨tMake C (spO K G F) dvs E0 tNil, fun i => ?_, fun M0 as σ H W ρ q Q Z h kk => ?_⟩
  · obtain ⟨k, f, fd, ps, ds, F, hr, mk, hm, hb, hv⟩ := cl i
    exact po_make0 mk F hr (hg i) hm hb hv pass0 hdb
  · obtain ⟨r1, h1, h⟩ := bnd h
    cases h1
    obtain ⟨r2, h2, h⟩ := bnd h
    obtain ⟨_, h3, h⟩ := bnd h
    cases h
    refine fun y dx hy hdx ne => ?_
    obtain ⟨w2, x2⟩ := make_ok Z.w hC hy hdx ne
    have ry : (as ++ [y])[W.length]? = some y := by rw [← Z.w.len]; simp
    refine ⟨M0, as ++ [y], _, _, r2, w2, .cons (.r ry) (OvAll.ofD (hd _)), h2, fun as3 v H3 x3 w3 r3 => ?_⟩
    have e := isNo_of h3
    rw [e] at r3
    cases r3 with
    | d r3 => exact ⟨Dt.isNon r3, kk as3 _ H3 (x2.trans x3) (Z.go (x2.trans x3) w3) (.r (x3.pre _ _ ry))⟩
/-! is None, is not None -/
def isNO : OV → Bool
  | .d x => isN x
  | _ => false
theorem ov_isN {H : Hp} {as : List Addr} {v : V} {y : OV} (r : Ov K H as v y) : decide (v = .non) = isNO y := by
  cases r with
  | d r => cases r <;> simp [isNO, isN]
  | r _ => simp [isNO]
  | t _ _ => simp [isNO]
  | q _ _ => simp [isNO]
  | x0 _ => simp [isNO]
  | x1 _ _ _ _ => simp [isNO]
def oIs (neg : Bool) (a : OFE) : OFE := fun W ρ => (a W ρ).bind fun r => some (r.1, .d (.bool (neg ^^ isNO r.2)))
section
variable {k0 : Nat} {p2 : Pos}
theorem oe_is (ha : OE X K G a fa) : OE X K G (.Compare a [.Is] [.Constant .none k0 p2] pos) (oIs false fa) := by
  obtain ⟨ta, a1, a2⟩ := ha
  refine ⟨_, fun i => pe_cmpR op_isN (a1 i) pe_non (nomark _), fun M0 as σ H W ρ q Q Z h k => ?_⟩
  obtain ⟨r1, h1, h⟩ := bnd h
  cases h
  refine a2 M0 as σ H W ρ r1 _ Z h1 fun as1 v H1 x1 S1 rv => ⟨rfl, ?_⟩
  rw [ov_isN rv]
  exact k as1 _ H1 x1 S1 (.d (by simpa using Dt.bl _))
theorem oe_isnot (ha : OE X K G a fa) : OE X K G (.Compare a [.IsNot] [.Constant .none k0 p2] pos) (oIs true fa) := by
  obtain ⟨ta, a1, a2⟩ := ha
  refine ⟨_, fun i => pe_cmpR op_notN (a1 i) pe_non (nomark _), fun M0 as σ H W ρ q Q Z h k => ?_⟩
  obtain ⟨r1, h1, h⟩ := bnd h
  cases h
  refine a2 M0 as σ H W ρ r1 _ Z h1 fun as1 v H1 x1 S1 rv => ⟨rfl, ?_⟩
  rw [ov_isN rv]
  exact k as1 _ H1 x1 S1 (.d (by simpa using Dt.bl _))
theorem ot_is (ha : OE X K G a fa) : OT X K G (.Compare a [.Is] [.Constant .none k0 p2] pos) (oTst (oIs false fa)) := by
  obtain ⟨ta, a1, a2⟩ := ha
  refine ⟨_, fun i => pt_cmpR op_isN (a1 i) pe_non (nomark _), fun M0 as σ H W ρ q Q Z h k => ?_⟩
  obtain ⟨q1, hq, h⟩ := bnd h
  obtain ⟨r1, h1, h2⟩ := bnd hq
  cases h2
  obtain ⟨d, hd, h⟩ := bnd h
  cases hd
  obtain ⟨bb, hb, h⟩ := bnd h
  cases hb
  cases h
  refine a2 M0 as σ H W ρ r1 _ Z h1 fun as1 v H1 x1 S1 rv => ⟨rfl, ?_⟩
  rw [ov_isN rv]
  exact ⟨_, rfl, by simpa using k as1 H1 x1 S1⟩
theorem ot_isnot (ha : OE X K G a fa) : OT X K G (.Compare a [.IsNot] [.Constant .none k0 p2] pos) (oTst (oIs true fa)) := by
  obtain ⟨ta, a1, a2⟩ := ha
  refine ⟨_, fun i => pt_cmpR op_notN (a1 i) pe_non (nomark _), fun M0 as σ H W ρ q Q Z h k => ?_⟩
  obtain ⟨q1, hq, h⟩ := bnd h
  obtain ⟨r1, h1, h2⟩ := bnd hq
  cases h2
  obtain ⟨d, hd, h⟩ := bnd h
  cases hd
  obtain ⟨bb, hb, h⟩ := bnd h
  cases hb
  cases h
  refine a2 M0 as σ H W ρ r1 _ Z h1 fun as1 v H1 x1 S1 rv => ⟨rfl, ?_⟩
  rw [ov_isN rv]
  exact ⟨_, rfl, by simpa using k as1 H1 x1 S1⟩
end
/-! isinstance -/
structure IsiOk (K : Fr) (G : List Addr) : Prop where
  ins : ∀ C, C ∈ G → PySem.W.findIn K (.ref C) "__class__" = some (some (.builtin "object.__class__")) ∧ PySem.W.specialIn K (.builtin "object.__class__") "__get__" = some (some (.builtin "getset_descriptor.__get__")) ∧ PySem.W.takesIn K (.builtin "object.__class__") = some true ∧ PySem.W.mroIn K C (.type "object") = some true
  ty : ∀ C, C ∈ G → ∀ T : Ty, PySem.W.kitOne K (.ref C) (.type T.s) = some false
  own : ∀ (i j : Nat) (C D : Addr), G[i]? = some C → G[j]? = some D → PySem.W.kitOne K (.ref C) (.ref D) = some (i == j)
  dat : ∀ C, C ∈ G → ∀ s, s ∈ ["NoneType", "bool", "int", "str", "list", "tuple", "dict"] → PySem.W.kitOne K (.type s) (.ref C) = some false
def isiO (k : Nat) (W : Wd) : OV → Option Bool
  | .r n => match W[n]? with
    | some (.obj j _) => some (j == k)
    | some (.lst _) => some false
    | none => none
  | .q _ => none
  | .x _ _ => none
  | _ => some false
def isiTO (T : Ty) (W : Wd) : OV → Option Bool
  | .d x => some (isiD T x)
  | .t _ => some (isiD T (.tuple []))
  | .r n => match W[n]? with
    | some (.obj _ _) => some false
    | some (.lst _) => some (isiD T (.list []))
    | none => none
  | .q _ => none
  | .x _ _ => none
theorem ty_tup {H : Hp} {p : Addr} {vs : List V} (h : SqT K H p vs) : TyX K H (.ref p) (.type "tuple") := by
  rcases h with (h | ⟨o, h⟩) | ⟨o, its, n, h1, h2, _⟩
  · exact .base (.tup h)
  · exact .fTuple h
  · exact .kTuple h1 h2
/-- a value's kind -/
theorem ov_ty {M0 as : List Addr} {H : Hp} {W : Wd} {v : V} {y : OV} (i : IsiOk K G) (g : ∀ C, C ∈ G → Good K C) (w : WOk K G M0 as H W) (r : Ov K (rm (M0 ++ as) H) as v y) :
    (∃ s, s ∈ ["NoneType", "bool", "int", "str", "list", "tuple", "dict"] ∧ TyX K H v (.type s) ∧ (∀ k b, isiO k W y = some b → b = false) ∧ ∀ T b, isiTO T W y = some b → kitB s T.s = some b) ∨
    (∃ j C, G[j]? = some C ∧ TyX K H v (.ref C) ∧ (∀ k b, isiO k W y = some b → b = (j == k)) ∧ ∀ T b, isiTO T W y = some b → b = false) ∨ ((∀ k, isiO k W y = none) ∧ ∀ T, isiTO T W y = none) := by
  cases r with
  | @d v x r =>
    refine .inl ⟨tyD x, by cases x <;> simp [tyD], ty_of (M := M0 ++ as) (.inl r), fun k b h => by cases h; rfl, fun T b h => by cases h; exact kit_data⟩
  | @t p vs xs h _ =>
    refine .inl ⟨"tuple", by simp, ty_tup (same_t rm_le h), fun k b h => by cases h; rfl, fun T b h => by cases h; exact kit_data (d := .tuple [])⟩
  | q _ _ => exact .inr (.inr ⟨fun _ => rfl, fun _ => rfl⟩)
  | x0 _ => exact .inr (.inr ⟨fun _ => rfl, fun _ => rfl⟩)
  | x1 _ _ _ _ => exact .inr (.inr ⟨fun _ => rfl, fun _ => rfl⟩)
  | @r p n hp =>
    simp only [isiO, isiTO]
    cases hw : W[n]? with
    | none => exact .inr (.inr ⟨fun _ => rfl, fun _ => rfl⟩)
    | some c =>
      cases c with
      | lst xs =>
        obtain ⟨vs, z1, z2⟩ := w.cell n p _ hp hw
        exact .inl ⟨"list", by simp, .base (.lst z1), fun k b h => by cases h; rfl, fun T b h => by cases h; exact kit_data (d := .list [])⟩
      | obj j fs =>
        obtain ⟨C, dx, gs, z0, z1, z2⟩ := w.cell n p _ hp hw
        have mc := List.mem_of_getElem? z0
        obtain ⟨q1, q2, q3, q4⟩ := i.ins C mc
        exact .inr (.inl ⟨j, C, z0, .base (.ins z1 (g C mc).cl q1 q2 q3 q4), fun k b h => by cases h; rfl, fun T b h => by cases h; rfl⟩)
def oIsiC (k : Nat) (a : OFE) : OFE := fun W ρ => (a W ρ).bind fun r => (isiO k r.1 r.2).bind fun b => some (r.1, .d (.bool b))
def oIsi (T : Ty) (a : OFE) : OFE := fun W ρ => (a W ρ).bind fun r => (isiTO T r.1 r.2).bind fun b => some (r.1, .d (.bool b))
theorem oe_isiC {k : Nat} {C : Addr} {p2 : Pos} (hC : G[k]? = some C) (i : IsiOk K G) (g : ∀ C, C ∈ G → Good K C) (hm : ∀ i, (X i).mg "isinstance" = none) (hx : ∀ i, (X i).mg x = some (.ref C)) (h : OE X K G e fe) (hK : ∀ i, (X i).K = K := by intro i; rfl) (hg : ∀ i, Gl (X i) "isinstance" := by intro i; rfl) (hg2 : ∀ i, Gl (X i) x := by intro i; rfl)
    (hd : (x == ("__debug__" : Str)) = false := by decide) (he : ∀ i, starEach [e, .Name x p2] (X i).env = (false, eval e (X i).env) :: starEach [.Name x p2] (X i).env := by intro i; rfl) (he2 : ∀ i, starEach [.Name x p2] (X i).env = (false, eval (.Name x p2) (X i).env) :: starEach [] (X i).env := by intro i; rfl)
    (hpl : ∀ i, (backTo pos (starEach [.Name x p2] (X i).env)).any (·.1) = false := by intro i; rfl) : OE X K G (.Call (.Name "isinstance" p) [e, .Name x p2] [] pos) (oIsiC k fe) := by
  obtain ⟨t, a1, a2⟩ := h
  refine ⟨tCB (rIsi K) (tCons t (tCons (tC (.ref C)) tNil)), fun i => by rw [← hK i]; exact pe_callB call_isi (hg i) (hm i) PyProof.Rows.boot_isinstance (pa_cons (a1 i) (pa_cons (pe_glob (hg2 i) (hx i) rfl hd) pa_nil (he2 i)) (he i)) (by decide) (by decide) (he i) (hpl i), fun M0 as σ H W ρ q Q Z h kk => ?_⟩
  obtain ⟨r1, h1, h⟩ := bnd h
  obtain ⟨bb, h2, h⟩ := bnd h
  cases h
  refine a2 M0 as σ H W ρ r1 _ Z h1 fun as1 v H1 x1 S1 rv => ?_
  have mc := List.mem_of_getElem? hC
  rcases ov_ty i g S1.w rv with ⟨s, hs, ty, hb, _⟩ | ⟨j, D, hj, ty, hb, _⟩ | ⟨hn, _⟩
  · have e := hb k bb h2
    subst e
    exact ⟨v, .ref C, _, _, _, rfl, .own C, ty, i.dat C mc s hs, kk as1 _ H1 x1 S1 (.d (.bl _))⟩
  · have e := hb k bb h2
    subst e
    exact ⟨v, .ref C, _, _, _, rfl, .own C, ty, i.own j k D C hj hC, kk as1 _ H1 x1 S1 (.d (.bl _))⟩
  · rw [hn] at h2; cases h2
theorem oe_isi (T : Ty) {p2 : Pos} (i : IsiOk K G) (g : ∀ C, C ∈ G → Good K C) (hm : ∀ i, (X i).mg "isinstance" = none) (hx : ∀ i, (X i).mg x = none) (h : OE X K G e fe) (hv : bootBuiltins x = some (.type T.s) := by decide +kernel) (hK : ∀ i, (X i).K = K := by intro i; rfl) (hg : ∀ i, Gl (X i) "isinstance" := by intro i; rfl) (hg2 : ∀ i, Gl (X i) x := by intro i; rfl)
    (hn : x ≠ "__name__" := by decide) (hd : (x == ("__debug__" : Str)) = false := by decide) (he : ∀ i, starEach [e, .Name x p2] (X i).env = (false, eval e (X i).env) :: starEach [.Name x p2] (X i).env := by intro i; rfl) (he2 : ∀ i, starEach [.Name x p2] (X i).env = (false, eval (.Name x p2) (X i).env) :: starEach [] (X i).env := by intro i; rfl)
    (hpl : ∀ i, (backTo pos (starEach [.Name x p2] (X i).env)).any (·.1) = false := by intro i; rfl) : OE X K G (.Call (.Name "isinstance" p) [e, .Name x p2] [] pos) (oIsi T fe) := by
  obtain ⟨t, a1, a2⟩ := h
  refine ⟨tCB (rIsi K) (tCons t (tCons (tC (.ty T.s)) tNil)), fun i => by rw [← hK i]; exact pe_callB call_isi (hg i) (hm i) PyProof.Rows.boot_isinstance (pa_cons (a1 i) (pa_cons (pe_bltn (hg2 i) (hx i) hv rfl hn hd) pa_nil (he2 i)) (he i)) (by decide) (by decide) (he i) (hpl i), fun M0 as σ H W ρ q Q Z h kk => ?_⟩
  obtain ⟨r1, h1, h⟩ := bnd h
  obtain ⟨bb, h2, h⟩ := bnd h
  cases h
  refine a2 M0 as σ H W ρ r1 _ Z h1 fun as1 v H1 x1 S1 rv => ?_
  rcases ov_ty i g S1.w rv with ⟨s, hs, ty, _, hb⟩ | ⟨j, D, hj, ty, _, hb⟩ | ⟨_, hn⟩
  · exact ⟨v, .ty T.s, _, _, _, rfl, .ty T.s, ty, kit_ty (hb T bb h2), kk as1 _ H1 x1 S1 (.d (.bl _))⟩
  · have e := hb T bb h2
    subst e
    exact ⟨v, .ty T.s, _, _, _, rfl, .ty T.s, ty, i.ty D (List.mem_of_getElem? hj) T, kk as1 _ H1 x1 S1 (.d (.bl _))⟩
  · rw [hn] at h2; cases h2
/-! list(x), tuple(x) -/
def oItems (W : Wd) : OV → Option (List OV)
  | .d (.list ds) => some (ds.map .d)
  | .d (.tuple ds) => some (ds.map .d)
  | .r n => match W[n]? with
    | some (.lst xs) => some xs
    | _ => none
  | .t xs => some xs
  | .q xs => some xs
  | _ => none
theorem items_of {M0 as : List Addr} {H : Hp} {W : Wd} {v : V} {y : OV} {xs : List OV} (w : WOk K G M0 as H W) (r : Ov K (rm (M0 ++ as) H) as v y) (h : oItems W y = some xs) : ∃ p vs, v = .ref p ∧ (SqL K H p vs ∨ SqT K H p vs) ∧ OvAll K (rm (M0 ++ as) H) as vs xs := by
  cases r with
  | @d v x r =>
    cases x with
    | list ds => cases h; obtain ⟨p, vs, rfl, h1, h2⟩ := Dt.isLst r; exact ⟨p, vs, rfl, .inl (SqL.of (rm_le _ _ h1)), OvAll.ofD h2⟩
    | tuple ds => cases h; obtain ⟨p, vs, rfl, h1, h2⟩ := Dt.isTup r; exact ⟨p, vs, rfl, .inr (same_t rm_le h1), OvAll.ofD h2⟩
    | _ => cases h
  | @t p vs ys h1 h2 => cases h; exact ⟨p, vs, rfl, .inr (same_t rm_le h1), h2⟩
  | @q p vs ys h1 h2 => cases h; exact ⟨p, vs, rfl, .inl (same_l rm_le h1), h2⟩
  | x0 _ => cases h
  | x1 _ _ _ _ => cases h
  | @r p n hp =>
    simp only [oItems] at h
    cases hw : W[n]? with
    | none => rw [hw] at h; cases h
    | some c =>
      rw [hw] at h
      cases c with
      | obj j fs => cases h
      | lst ys => cases h; obtain ⟨vs, z1, z2⟩ := w.cell n p _ hp hw; exact ⟨p, vs, rfl, .inl (SqL.of z1), z2⟩
def oList (a : OFE) : OFE := fun W ρ => (a W ρ).bind fun r => (oItems r.1 r.2).bind fun xs => some (r.1 ++ [.lst xs], .r r.1.length)
theorem oe_list (hm : ∀ i, (X i).mg "list" = none) (h : OE X K G e fe) (hK : ∀ i, (X i).K = K := by intro i; rfl) (hg : ∀ i, Gl (X i) "list" := by intro i; rfl) (he : ∀ i, starEach (e :: []) (X i).env = (false, eval e (X i).env) :: starEach [] (X i).env := by intro i; rfl) : OE X K G (.Call (.Name "list" p) [e] [] pos) (oList fe) := by
  obtain ⟨t, a1, a2⟩ := h
  refine ⟨tCB (fun xs H Q => ∃ p ys, xs = [.ref p] ∧ (SqL K H p ys ∨ SqT K H p ys) ∧ ∀ l, H l = none → Q (.ref l) (upd H l (.lst ys))) (tCons t tNil), fun i => by rw [← hK i]; exact pe_callTy call_list_of (hg i) (hm i) (by decide +kernel) (pa_cons (a1 i) pa_nil (he i)) (by decide) (by decide) (he i) rfl, fun M0 as σ H W ρ q Q Z h k => ?_⟩
  obtain ⟨r1, h1, h⟩ := bnd h
  obtain ⟨xs, h2, h⟩ := bnd h
  cases h
  refine a2 M0 as σ H W ρ r1 _ Z h1 fun as1 v H1 x1 S1 rv => ?_
  obtain ⟨p, vs, rfl, z1, z2⟩ := items_of S1.w rv h2
  refine ⟨p, vs, rfl, z1, fun l nl => ?_⟩
  obtain ⟨w2, x2⟩ := S1.w.newL nl z2
  exact k _ _ _ (x1.trans x2) (S1.go x2 w2) (.r (by rw [← S1.w.len]; simp))
/-- tuple(x) of a list -/
def oItemsL (W : Wd) : OV → Option (List OV)
  | .d (.list ds) => some (ds.map .d)
  | .q xs => some xs
  | .r n => match W[n]? with
    | some (.lst xs) => some xs
    | _ => none
  | _ => none
theorem itemsL_of {M0 as : List Addr} {H : Hp} {W : Wd} {v : V} {y : OV} {xs : List OV} (w : WOk K G M0 as H W) (r : Ov K (rm (M0 ++ as) H) as v y) (h : oItemsL W y = some xs) : ∃ p vs, v = .ref p ∧ SqL K H p vs ∧ OvAll K (rm (M0 ++ as) H) as vs xs := by
  cases r with
  | @d v x r =>
    cases x with
    | list ds => cases h; obtain ⟨p, vs, rfl, h1, h2⟩ := Dt.isLst r; exact ⟨p, vs, rfl, SqL.of (rm_le _ _ h1), OvAll.ofD h2⟩
    | _ => cases h
  | @t p vs ys h1 h2 => cases h
  | @q p vs ys h1 h2 => cases h; exact ⟨p, vs, rfl, same_l rm_le h1, h2⟩
  | x0 _ => cases h
  | x1 _ _ _ _ => cases h
  | @r p n hp =>
    simp only [oItemsL] at h
    cases hw : W[n]? with
    | none => rw [hw] at h; cases h
    | some c =>
      rw [hw] at h
      cases c with
      | obj j fs => cases h
      | lst ys => cases h; obtain ⟨vs, z1, z2⟩ := w.cell n p _ hp hw; exact ⟨p, vs, rfl, SqL.of z1, z2⟩
def oTuple (a : OFE) : OFE := fun W ρ => (a W ρ).bind fun r => (oItemsL r.1 r.2).bind fun xs => some (r.1, mkT xs)
theorem oe_tuple (hm : ∀ i, (X i).mg "tuple" = none) (h : OE X K G e fe) (hK : ∀ i, (X i).K = K := by intro i; rfl) (hg : ∀ i, Gl (X i) "tuple" := by intro i; rfl) (he : ∀ i, starEach (e :: []) (X i).env = (false, eval e (X i).env) :: starEach [] (X i).env := by intro i; rfl) : OE X K G (.Call (.Name "tuple" p) [e] [] pos) (oTuple fe) := by
  obtain ⟨t, a1, a2⟩ := h
  refine ⟨tCB (fun xs H Q => ∃ p ys, xs = [.ref p] ∧ ((SqL K H p ys ∧ ∀ l, H l = none → Q (.ref l) (upd H l (.tup ys))) ∨ (SqT K H p ys ∧ Q (.ref p) H))) (tCons t tNil), fun i => by rw [← hK i]; exact pe_callTy call_tuple_of (hg i) (hm i) (by decide +kernel) (pa_cons (a1 i) pa_nil (he i)) (by decide) (by decide) (he i) rfl, fun M0 as σ H W ρ q Q Z h k => ?_⟩
  obtain ⟨r1, h1, h⟩ := bnd h
  obtain ⟨xs, h2, h⟩ := bnd h
  cases h
  refine a2 M0 as σ H W ρ r1 _ Z h1 fun as1 v H1 x1 S1 rv => ?_
  obtain ⟨p, vs, rfl, z1, z2⟩ := itemsL_of S1.w rv h2
  refine ⟨p, vs, rfl, .inl ⟨z1, fun l nl => ?_⟩⟩
  have s := same_new (o := .tup vs) nl
  have x2 := X2.same (M0 := M0) (as := as1) s
  exact k as1 _ _ (x1.trans x2) (S1.same s) (ov_tup (fun m => S1.w.dom l m nl) upd_same (x2.ovs z2))
end
end Pm.Ob
/-! Statements and defs over a world. -/
namespace Pm.Ob
open PySem PySem.Spec PyProof.Rows L2 Pm
inductive OFl where
  | nx (W : Wd) (ρ : OEnv) | bk (W : Wd) (ρ : OEnv) | ct (W : Wd) (ρ : OEnv) | rt (W : Wd) (x : OV)
abbrev OFS := Wd → OEnv → Option OFl
def OFits (K : Fr) (G : List Addr) (M0 as : List Addr) (H : Hp) (D : Ends) : OFl → Prop
  | .nx W ρ => ∀ as' σ' H', X2 M0 as H as' H' → SOk K G M0 as' H' σ' W ρ → D.nx σ' H'
  | .bk W ρ => ∀ as' σ' H', X2 M0 as H as' H' → SOk K G M0 as' H' σ' W ρ → D.bk σ' H'
  | .ct W ρ => ∀ as' σ' H', X2 M0 as H as' H' → SOk K G M0 as' H' σ' W ρ → D.ct σ' H'
  | .rt W x => ∀ as' v H', X2 M0 as H as' H' → WOk K G M0 as' H' W → Ov K (rm (M0 ++ as') H') as' v x → D.rt v H'
theorem OFits.go {K : Fr} {G M0 as as1 : List Addr} {H H1 : Hp} {D : Ends} {fl : OFl} (x : X2 M0 as H as1 H1) (F : OFits K G M0 as H D fl) : OFits K G M0 as1 H1 D fl := by
  cases fl with
  | nx W ρ => exact fun as' σ' H' y => F as' σ' H' (x.trans y)
  | bk W ρ => exact fun as' σ' H' y => F as' σ' H' (x.trans y)
  | ct W ρ => exact fun as' σ' H' y => F as' σ' H' (x.trans y)
  | rt W z => exact fun as' v H' y => F as' v H' (x.trans y)
def OS (Y : Cx) (K : Fr) (G : List Addr) (st : Stmt) (f : OFS) : Prop := ∃ t : TS, PS Y st t ∧ ∀ (M0 as : List Addr) (σ : L2.St) (H : Hp) (W : Wd) (ρ : OEnv) (fl : OFl) (D : Ends), SOk K G M0 as H σ W ρ → f W ρ = some fl → OFits K G M0 as H D fl → t D σ H
def OSs (Y : Cx) (K : Fr) (G : List Addr) (st : List Stmt) (f : OFS) : Prop := ∃ t : TS, PSs Y st t ∧ ∀ (M0 as : List Addr) (σ : L2.St) (H : Hp) (W : Wd) (ρ : OEnv) (fl : OFl) (D : Ends), SOk K G M0 as H σ W ρ → f W ρ = some fl → OFits K G M0 as H D fl → t D σ H
section
variable {Y : Cx} {K : Fr} {G : List Addr} {a b c e o tg iter : Expr} {es : List Expr} {st : Stmt} {rest x y body : List Stmt} {f g h : OFS} {fa fb fe fo : OFE} {ft : OFT} {pos p px apos cpos : Pos}
def oSeq (f g : OFS) : OFS := fun W ρ => (f W ρ).bind fun fl => match fl with
  | .nx W1 ρ1 => g W1 ρ1
  | o => some o
theorem oss_cons (h1 : OS Y K G st f) (h2 : OSs Y K G rest g) : OSs Y K G (st :: rest) (oSeq f g) := by
  obtain ⟨t, a1, a2⟩ := h1
  obtain ⟨s, b1, b2⟩ := h2
  refine ⟨tSeq t s, pss_cons a1 b1, fun M0 as σ H W ρ fl D S h F => ?_⟩
  obtain ⟨f1, e1, h⟩ := bnd h
  cases f1 with
  | nx W1 ρ1 => exact a2 M0 as σ H W ρ _ _ S e1 fun as' σ' H' x S' => b2 M0 as' σ' H' W1 ρ1 fl D S' h (F.go x)
  | bk W1 ρ1 => cases h; exact a2 M0 as σ H W ρ _ { D with nx := s D } S e1 F
  | ct W1 ρ1 => cases h; exact a2 M0 as σ H W ρ _ { D with nx := s D } S e1 F
  | rt W1 z => cases h; exact a2 M0 as σ H W ρ _ { D with nx := s D } S e1 F
theorem oss_one (h1 : OS Y K G st f) : OSs Y K G [st] f := by
  obtain ⟨t, a1, a2⟩ := h1
  exact ⟨t, pss_one a1, a2⟩
def oSkip : OFS := fun W ρ => some (.nx W ρ)
def oBreak : OFS := fun W ρ => some (.bk W ρ)
def oCont : OFS := fun W ρ => some (.ct W ρ)
def oNeverS : OFS := fun _ _ => none
theorem oss_nil : OSs Y K G [] oSkip := ⟨tNext, pss_nil, fun M0 as σ H W ρ fl D S h F => by cases h; exact F as σ H X2.refl S⟩
theorem os_pass : OS Y K G (.Pass p) oSkip := ⟨_, ps_pass, fun M0 as σ H W ρ fl D S h F => by cases h; exact F as σ H X2.refl S⟩
theorem os_break : OS Y K G (.Break p) oBreak := ⟨_, ps_break, fun M0 as σ H W ρ fl D S h F => by cases h; exact F as σ H X2.refl S⟩
theorem os_continue : OS Y K G (.Continue p) oCont := ⟨_, ps_continue, fun M0 as σ H W ρ fl D S h F => by cases h; exact F as σ H X2.refl S⟩
theorem os_never : OS Y K G st oNeverS := ⟨fun _ _ _ => False, ⟨fun _ _ _ _ _ _ h => h.elim⟩, fun _ _ _ _ _ _ _ _ _ h => by cases h⟩
theorem oss_never : OSs Y K G rest oNeverS := ⟨fun _ _ _ => False, ⟨fun _ _ _ _ _ _ h => h.elim⟩, fun _ _ _ _ _ _ _ _ _ h => by cases h⟩
def oRet (a : OFE) : OFS := fun W ρ => (a W ρ).bind fun r => some (.rt r.1 r.2)
def oRetN : OFS := fun W _ => some (.rt W (.d .none))
theorem os_ret (h : OE (one Y) K G e fe) : OS Y K G (.Return (some e) pos) (oRet fe) := by
  obtain ⟨t, a1, a2⟩ := h
  refine ⟨tRet t, ps_ret (a1 ()), fun M0 as σ H W ρ fl D S h F => ?_⟩
  obtain ⟨r1, h1, h⟩ := bnd h
  cases h
  exact a2 M0 as σ H W ρ r1 _ S h1 fun as1 v H1 x1 S1 rv => F as1 v H1 x1 S1.w rv
theorem os_retN : OS Y K G (.Return none pos) oRetN := ⟨tRetN, ps_retN, fun M0 as σ H W ρ fl D S h F => by cases h; exact F as _ H X2.refl S.w (.d .non)⟩
def oIf (t : OFT) (f g : OFS) : OFS := fun W ρ => (t W ρ).bind fun r => if r.2 = true then f r.1 ρ else g r.1 ρ
theorem os_if (hc : OT (one Y) K G c ft) (h1 : OSs Y K G x f) (h2 : OSs Y K G y g) : OS Y K G (.If c x y pos) (oIf ft f g) := by
  obtain ⟨t, c1, c2⟩ := hc
  obtain ⟨s1, a1, a2⟩ := h1
  obtain ⟨s2, b1, b2⟩ := h2
  refine ⟨tIfS t s1 s2, ps_if (c1 ()) a1 b1, fun M0 as σ H W ρ fl D S h F => ?_⟩
  obtain ⟨r1, e1, h⟩ := bnd h
  refine c2 M0 as σ H W ρ r1 _ S e1 fun as1 H1 x1 S1 => ite_of (fun e => ?_) (fun e => ?_)
  · rw [if_pos e] at h
    exact a2 M0 as1 σ H1 r1.1 ρ fl D S1 h (F.go x1)
  · rw [if_neg (by rw [e]; exact Bool.false_ne_true)] at h
    exact b2 M0 as1 σ H1 r1.1 ρ fl D S1 h (F.go x1)
def oSet (i : Nat) (a : OFE) : OFS := fun W ρ => (a W ρ).bind fun r => some (.nx r.1 (ρ.set i (some r.2)))
theorem os_set (i : Nat) {z : Str} (nd : Y.N.Nodup) (h : OE (one Y) K G e fe) (hp : Y.N.Nodup → ∀ t, PE Y e t → PS Y (.Assign [.Name z px] e pos) (tAsg t (gName i)) := by intro nd t h; exact ps_set nd rfl (by first | exact Or.inl rfl | exact Or.inr rfl) h) : OS Y K G (.Assign [.Name z px] e pos) (oSet i fe) := by
  obtain ⟨t, a1, a2⟩ := h
  refine ⟨tAsg t (gName i), hp nd t (a1 ()), fun M0 as σ H W ρ fl D S h F => ?_⟩
  obtain ⟨r1, h1, h⟩ := bnd h
  cases h
  exact a2 M0 as σ H W ρ r1 _ S h1 fun as1 v H1 x1 S1 rv => F as1 _ H1 x1 (S1.set i rv)
def oDrop (a : OFE) : OFS := fun W ρ => (a W ρ).bind fun r => some (.nx r.1 ρ)
theorem os_expr (h : OE (one Y) K G e fe) (hp : ∀ t, PE Y e t → PS Y (.Expr e pos) (tDrop t) := by intro t h; exact ps_expr h) : OS Y K G (.Expr e pos) (oDrop fe) := by
  obtain ⟨t, a1, a2⟩ := h
  refine ⟨tDrop t, hp t (a1 ()), fun M0 as σ H W ρ fl D S h F => ?_⟩
  obtain ⟨r1, h1, h⟩ := bnd h
  cases h
  exact a2 M0 as σ H W ρ r1 _ S h1 fun as1 v H1 x1 S1 rv => F as1 _ H1 x1 S1
/-! o.f = e -/
def setF (W : Wd) (i : Nat) (y : OV) : OV → Option Wd
  | .r n => match W[n]? with
    | some (.obj c fs) => if fs.length < 900 then some (W.set n (.obj c (putO i y fs))) else none
    | _ => none
  | _ => none
def oSetFld (a : OFE) (i : Nat) (v : OFE) : OFS := fun W ρ => (v W ρ).bind fun r => (a r.1 ρ).bind fun s => (setF s.1 i r.2 s.2).bind fun W' => some (.nx W' ρ)
theorem setF_of {M0 as : List Addr} {H : Hp} {W W' : Wd} {i : Nat} {f : Str} {x y : OV} {v u : V} (hi : fl[i]? = some f) (w : WOk K G M0 as H W) (h : setF W i y x = some W') (r : Ov K (rm (M0 ++ as) H) as v x) (ry : Ov K (rm (M0 ++ as) H) as u y) :
    ∃ p C dx gs, v = .ref p ∧ C ∈ G ∧ H p = some (.ins C dx gs) ∧ gs.length < 1000 ∧ WOk K G M0 as (upd H p (.ins C dx (putF f u gs))) W' ∧ X2 M0 as H as (upd H p (.ins C dx (putF f u gs))) := by
  cases r with
  | d _ => cases h
  | t _ _ => cases h
  | q _ _ => cases h
  | x0 _ => cases h
  | x1 _ _ _ _ => cases h
  | @r p n hp =>
    simp only [setF] at h
    cases hw : W[n]? with
    | none => rw [hw] at h; cases h
    | some c =>
      rw [hw] at h
      cases c with
      | lst xs => cases h
      | obj k fs =>
        obtain ⟨C, dx, gs, z0, z1, z2⟩ := w.cell n p _ hp hw
        by_cases l : fs.length < 900
        · simp only [if_pos l] at h
          cases h
          obtain ⟨w2, x2⟩ := w.putF (dx := dx) z0 hp (FsOk.put hi ry z2)
          exact ⟨p, C, dx, gs, rfl, List.mem_of_getElem? z0, z1, by rw [FsOk.len z2]; omega, w2, x2⟩
        · simp only [if_neg l] at h
          cases h
theorem os_fld (i : Nat) {f : Str} (g : ∀ C, C ∈ G → Good K C) (ho : OE (one Y) K G o fo) (he : OE (one Y) K G e fe) (hi : fl[i]? = some f := by rfl) (hK : Y.K = K := by rfl) (hs : swapsWith e (some (.Attribute o f p)) pos.line Y.env = pure false := by rfl) : OS Y K G (.Assign [.Attribute o f p] e pos) (oSetFld fo i fe) := by
  obtain ⟨to, o1, o2⟩ := ho
  obtain ⟨t, a1, a2⟩ := he
  refine ⟨sFld K to t f, by rw [← hK]; exact ps_fld (o1 ()) (a1 ()) hs, fun M0 as σ H W ρ fl' D S h F => ?_⟩
  obtain ⟨r1, h1, h⟩ := bnd h
  obtain ⟨r2, h2, h⟩ := bnd h
  obtain ⟨W', h3, h⟩ := bnd h
  cases h
  refine a2 M0 as σ H W ρ r1 _ S h1 fun as1 v H1 x1 S1 rv => ?_
  refine o2 M0 as1 σ H1 r1.1 ρ r2 _ S1 h2 fun as2 u H2 x2 S2 ru => ?_
  obtain ⟨p, C, dx, gs, rfl, mc, z1, z2, w3, x3⟩ := setF_of hi S2.w h3 ru (x2.ov rv)
  exact ⟨p, C, dx, gs, rfl, z1, (g C mc).cl, (g C mc).no f (List.mem_of_getElem? hi), z2, F as2 _ _ ((x1.trans x2).trans x3) (S2.go x3 w3)⟩
/-! o.append(e) -/
def appL (W : Wd) (y : OV) : OV → Option Wd
  | .r n => match W[n]? with
    | some (.lst xs) => if xs.length < 16777216 then some (W.set n (.lst (xs ++ [y]))) else none
    | _ => none
  | _ => none
def isL (W : Wd) : OV → Option Unit
  | .r n => match W[n]? with
    | some (.lst _) => some ()
    | _ => none
  | _ => none
theorem isL_of {M0 as : List Addr} {H : Hp} {W : Wd} {x : OV} {v : V} (w : WOk K G M0 as H W) (h : isL W x = some ()) (r : Ov K (rm (M0 ++ as) H) as v x) : ∃ p n vs xs, x = .r n ∧ v = .ref p ∧ as[n]? = some p ∧ W[n]? = some (.lst xs) ∧ H p = some (.lst vs) ∧ OvAll K (rm (M0 ++ as) H) as vs xs := by
  cases r with
  | d _ => cases h
  | t _ _ => cases h
  | q _ _ => cases h
  | x0 _ => cases h
  | x1 _ _ _ _ => cases h
  | @r p n hp =>
    simp only [isL] at h
    cases hw : W[n]? with
    | none => rw [hw] at h; cases h
    | some c =>
      rw [hw] at h
      cases c with
      | obj k fs => cases h
      | lst xs => obtain ⟨vs, z1, z2⟩ := w.cell n p _ hp hw; exact ⟨p, n, vs, xs, rfl, rfl, hp, hw, z1, z2⟩
def oApp (a b : OFE) : OFE := fun W ρ => (a W ρ).bind fun r => (isL r.1 r.2).bind fun _ => (b r.1 ρ).bind fun s => (appL s.1 s.2 r.2).bind fun W' => some (W', .d .none)
theorem oe_app (ho : OE (one Y) K G o fo) (he : OE (one Y) K G e fe) (hK : Y.K = K := by rfl) (hs : starEach (e :: []) Y.env = (false, eval e Y.env) :: starEach [] Y.env := by rfl)
    (hp : ∀ u t, PE Y o u → PA Y [e] t → PE Y (.Call (.Attribute o "append" apos) [e] [] cpos) (tBM Y.K "list" rAppend u t) := by intro u t h1 h2; exact pe_bm PySem.F.plainAttrs_list PySem.F.slot_list_append PySem.F.type_list_append mt_append h1 h2) : OE (one Y) K G (.Call (.Attribute o "append" apos) [e] [] cpos) (oApp fo fe) := by
  obtain ⟨to, o1, o2⟩ := ho
  obtain ⟨t, a1, a2⟩ := he
  refine ⟨tBM K "list" rAppend to (tCons t tNil), fun _ => by rw [← hK]; exact hp _ _ (o1 ()) (pa_cons (a1 ()) pa_nil hs), fun M0 as σ H W ρ q Q S h k => ?_⟩
  obtain ⟨r1, h1, h⟩ := bnd h
  obtain ⟨_, h2, h⟩ := bnd h
  obtain ⟨r3, h3, h⟩ := bnd h
  obtain ⟨W', h4, h⟩ := bnd h
  cases h
  refine o2 M0 as σ H W ρ r1 _ S h1 fun as1 v H1 x1 S1 rv => ?_
  obtain ⟨p, n, vs, xs, en, rfl, hp, hw, z1, z2⟩ := isL_of S1.w h2 rv
  refine ⟨.inl ⟨rfl, vs, SqL.of z1⟩, ?_⟩
  refine a2 M0 as1 σ H1 r1.1 ρ r3 _ S1 h3 fun as2 u H2 x2 S2 ru => ?_
  rw [en] at h4
  simp only [appL] at h4
  cases hw2 : r3.1[n]? with
  | none => rw [hw2] at h4; cases h4
  | some c =>
    rw [hw2] at h4
    cases c with
    | obj k fs => cases h4
    | lst ys =>
      have hp2 := x2.pre n p hp
      obtain ⟨us, z3, z4⟩ := S2.w.cell n p _ hp2 hw2
      by_cases l : ys.length < 16777216
      · simp only [if_pos l] at h4
        cases h4
        obtain ⟨w3, x3⟩ := S2.w.putL hp2 (OvAll.app z4 (.cons ru .nil))
        exact ⟨p, us, u, rfl, rfl, z3, by rw [OvAll.len z4, sizeLine_eq]; exact l, k as2 _ _ ((x1.trans x2).trans x3) (S2.go x3 w3) (.d .non)⟩
      · simp only [if_neg l] at h4
        cases h4
/-! o[k] = e -/
def putL (W : Wd) (y : OV) (i : Int) : OV → Option Wd
  | .r n => match W[n]? with
    | some (.lst xs) => (ixN xs.length i).bind fun m => some (W.set n (.lst (xs.set m y)))
    | _ => none
  | _ => none
def oPut (a k e : OFE) : OFS := fun W ρ => (e W ρ).bind fun r => (a r.1 ρ).bind fun s => (k s.1 ρ).bind fun t => (asD t.1 t.2).bind fun d => (gI d).bind fun i => (putL t.1 r.2 i s.2).bind fun W' => some (.nx W' ρ)
theorem os_put {k : Expr} {fk : OFE} (ho : OE (one Y) K G o fo) (hk : OE (one Y) K G k fk) (he : OE (one Y) K G e fe)
    (hp : ∀ t u v, PE Y e t → PE Y o u → PE Y k v → PS Y (.Assign [.Subscript o k p] e pos) (tAsg t (L2.gSub u v rSetL)) := by intro t u v h1 h2 h3; exact ps_asg h1 (pg_sub h2 h3 set_list)) : OS Y K G (.Assign [.Subscript o k p] e pos) (oPut fo fk fe) := by
  obtain ⟨t, a1, a2⟩ := he
  obtain ⟨to, o1, o2⟩ := ho
  obtain ⟨tk, k1, k2⟩ := hk
  refine ⟨_, hp t to tk (a1 ()) (o1 ()) (k1 ()), fun M0 as σ H W ρ fl' D S h F => ?_⟩
  obtain ⟨r1, h1, h⟩ := bnd h
  obtain ⟨r2, h2, h⟩ := bnd h
  obtain ⟨r3, h3, h⟩ := bnd h
  obtain ⟨d, h4, h⟩ := bnd h
  obtain ⟨i, h5, h⟩ := bnd h
  obtain ⟨W', h6, h⟩ := bnd h
  cases h
  refine a2 M0 as σ H W ρ r1 _ S h1 fun as1 v H1 x1 S1 rv => ?_
  refine o2 M0 as1 σ H1 r1.1 ρ r2 _ S1 h2 fun as2 u H2 x2 S2 ru => ?_
  refine k2 M0 as2 σ H2 r2.1 ρ r3 _ S2 h3 fun as3 w H3 x3 S3 rw' => ?_
  have ei := gI_of h5
  subst ei
  rw [RV.isInt (S3.w.rv rw' h4)]
  have rx := x3.ov ru
  have ry := (x2.trans x3).ov rv
  have xx := x1.trans (x2.trans x3)
  revert h6 rx
  generalize r2.2 = z
  intro h6 rx
  cases rx with
  | d _ => cases h6
  | t _ _ => cases h6
  | q _ _ => cases h6
  | x0 _ => cases h6
  | x1 _ _ _ _ => cases h6
  | @r p n hp =>
    simp only [putL] at h6
    cases hw : r3.1[n]? with
    | none => rw [hw] at h6; cases h6
    | some c =>
      rw [hw] at h6
      cases c with
      | obj k fs => cases h6
      | lst ys =>
        obtain ⟨m, hm, h6⟩ := bnd h6
        cases h6
        obtain ⟨us, z3, z4⟩ := S3.w.cell n p _ hp hw
        obtain ⟨w4, x4⟩ := S3.w.putL hp (OvAll.setAt ry m z4)
        exact ⟨p, us, i, m, rfl, rfl, z3, by rw [OvAll.len z4]; exact hm, F as3 _ _ (xx.trans x4) (S3.go x4 w4)⟩
/-! targets -/
abbrev OFG := OV → OEnv → Option OEnv
abbrev OFGs := List OV → OEnv → Option OEnv
def OG (Y : Cx) (K : Fr) (G : List Addr) (tg : Expr) (w : OFG) : Prop := ∃ g : TG, PG Y tg g ∧ ∀ (M0 as : List Addr) (σ : L2.St) (H : Hp) (W : Wd) (ρ ρ' : OEnv) (x : OV) (v : V) (Q : L2.St → Hp → Prop), SOk K G M0 as H σ W ρ → Ov K (rm (M0 ++ as) H) as v x → w x ρ = some ρ' → (∀ σ', SOk K G M0 as H σ' W ρ' → Q σ' H) → g v σ H Q
def OGs (Y : Cx) (K : Fr) (G : List Addr) (tg : List Expr) (w : OFGs) : Prop := ∃ g : TGs, PGs Y tg g ∧ ∀ (M0 as : List Addr) (σ : L2.St) (H : Hp) (W : Wd) (ρ ρ' : OEnv) (x : List OV) (v : List V) (Q : L2.St → Hp → Prop), SOk K G M0 as H σ W ρ → OvAll K (rm (M0 ++ as) H) as v x → w x ρ = some ρ' → (∀ σ', SOk K G M0 as H σ' W ρ' → Q σ' H) → g v σ H Q
def oN (i : Nat) : OFG := fun x ρ => some (ρ.set i (some x))
theorem og_name (i : Nat) {z : Str} (nd : Y.N.Nodup) (hp : Y.N.Nodup → PG Y (.Name z px) (gName i) := by intro nd; exact pg_name nd rfl (by first | exact Or.inl rfl | exact Or.inr rfl)) : OG Y K G (.Name z px) (oN i) :=
  ⟨gName i, hp nd, fun M0 as σ H W ρ ρ' x v Q S r h k => by cases h; exact k _ (S.set i r)⟩
def oGNil : OFGs
  | [], ρ => some ρ
  | _ :: _, _ => none
def oGCons (g : OFG) (u : OFGs) : OFGs
  | x :: xs, ρ => (g x ρ).bind fun ρ1 => u xs ρ1
  | [], _ => none
theorem ogs_nil : OGs Y K G [] oGNil := ⟨gNil, pgs_nil, fun M0 as σ H W ρ ρ' x v Q S r h k => by
  cases r with
  | nil => cases h; exact ⟨rfl, k _ S⟩
  | cons _ _ => cases h⟩
theorem ogs_cons {w : OFG} {u : OFGs} (h1 : OG Y K G e w) (h2 : OGs Y K G es u) (hs : (assignEach (e :: es) Y.env).map (·.2) = assign e Y.env :: (assignEach es Y.env).map (·.2) := by rfl) : OGs Y K G (e :: es) (oGCons w u) := by
  obtain ⟨g, a1, a2⟩ := h1
  obtain ⟨gs, b1, b2⟩ := h2
  refine ⟨gCons g gs, pgs_cons a1 b1 hs, fun M0 as σ H W ρ ρ' x v Q S r h k => ?_⟩
  cases r with
  | nil => cases h
  | cons r1 r2 =>
    obtain ⟨ρ1, e1, h⟩ := bnd h
    exact ⟨_, _, rfl, a2 M0 as σ H W ρ ρ1 _ _ _ S r1 e1 fun σ1 S1 => b2 M0 as σ1 H W ρ1 ρ' _ _ _ S1 r2 h k⟩
def oT (n : Nat) (u : OFGs) : OFG := fun x ρ => match x with
  | .d (.tuple ds) => if ds.length = n then u (ds.map .d) ρ else none
  | .t xs => if xs.length = n then u xs ρ else none
  | _ => none
theorem og_tup {n cc : Nat} {u : OFGs} (h : OGs Y K G es u) (hK : Y.K = K := by rfl) (hc : Y.calm = true := by rfl) (hn : (assignEach es Y.env).length = n := by rfl) (hst : (assignEach es Y.env).findIdx? (·.1) = none := by rfl) : OG Y K G (.Tuple es cc pos) (oT n u) := by
  obtain ⟨g, a1, a2⟩ := h
  refine ⟨gTup K n g, by rw [← hK]; exact pg_tup hc a1 hn hst, fun M0 as σ H W ρ ρ' x v Q S r h k => ?_⟩
  cases r with
  | @d v x r =>
    cases x with
    | tuple ds =>
      simp only [oT] at h
      by_cases l : ds.length = n
      · rw [if_pos l] at h
        obtain ⟨p, vs, rfl, z1, z2⟩ := Dt.isTup r
        exact ⟨p, vs, rfl, same_t rm_le z1, by rw [DtAll.len z2]; exact l, a2 M0 as σ H W ρ ρ' _ _ _ S (OvAll.ofD z2) h k⟩
      · rw [if_neg l] at h; cases h
    | _ => cases h
  | r _ => cases h
  | @t p vs xs z1 z2 =>
    simp only [oT] at h
    by_cases l : xs.length = n
    · rw [if_pos l] at h
      exact ⟨p, vs, rfl, same_t rm_le z1, by rw [OvAll.len z2]; exact l, a2 M0 as σ H W ρ ρ' _ _ _ S z2 h k⟩
    · rw [if_neg l] at h; cases h
  | q _ _ => cases h
  | x0 _ => cases h
  | x1 _ _ _ _ => cases h
def oAsg (a : OFE) (g : OFG) : OFS := fun W ρ => (a W ρ).bind fun r => (g r.2 ρ).bind fun ρ1 => some (.nx r.1 ρ1)
theorem os_asg {wg : OFG} (h : OE (one Y) K G e fe) (hg : OG Y K G tg wg) (hp : ∀ t g, PE Y e t → PG Y tg g → PS Y (.Assign [tg] e pos) (tAsg t g) := by intro t g h1 h2; exact ps_asg h1 h2) : OS Y K G (.Assign [tg] e pos) (oAsg fe wg) := by
  obtain ⟨t, a1, a2⟩ := h
  obtain ⟨g, b1, b2⟩ := hg
  refine ⟨tAsg t g, hp t g (a1 ()) b1, fun M0 as σ H W ρ fl' D S h F => ?_⟩
  obtain ⟨r1, h1, h⟩ := bnd h
  obtain ⟨ρ1, h2, h⟩ := bnd h
  cases h
  exact a2 M0 as σ H W ρ r1 _ S h1 fun as1 v H1 x1 S1 rv => b2 M0 as1 σ H1 r1.1 ρ ρ1 _ v _ S1 rv h2 fun σ2 S2 => F as1 σ2 H1 x1 S2
/-- a, b = e1, e2 -/
def oPar (i j : Nat) (a : OFA) : OFS := fun W ρ => (a W ρ).bind fun r => match r.2 with
  | [x, y] => some (.nx r.1 ((ρ.set i (some x)).set j (some y)))
  | _ => none
theorem os_par (i j : Nat) {z w : Str} {py pt pt2 : Pos} {kt k2 : Nat} {fs : OFA} (nd : Y.N.Nodup) (h : OA (one Y) K G [a, b] fs)
    (hp : Y.N.Nodup → ∀ t, PA Y [a, b] t → PS Y (.Assign [.Tuple [.Name z px, .Name w py] kt pt] (.Tuple [a, b] k2 pt2) pos) (tPar i j t) := by intro nd t h; exact ps_par (by rfl) nd rfl rfl (by decide) rfl rfl h (by rfl)) :
    OS Y K G (.Assign [.Tuple [.Name z px, .Name w py] kt pt] (.Tuple [a, b] k2 pt2) pos) (oPar i j fs) := by
  obtain ⟨t, a1, a2⟩ := h
  refine ⟨tPar i j t, hp nd t (a1 ()), fun M0 as σ H W ρ fl' D S h F => ?_⟩
  obtain ⟨r1, h1, h⟩ := bnd h
  refine a2 M0 as σ H W ρ r1 _ S h1 fun as1 vs H1 x1 S1 rs => ?_
  revert h rs
  generalize r1.2 = l
  intro h rs
  match l, rs, h with
  | [x, y], .cons q1 (.cons q2 .nil), h => cases h; exact ⟨_, _, rfl, F as1 _ H1 x1 ((S1.set i q1).set j q2)⟩
/-- x += e, numbers -/
def oAug (i : Nat) (g : G2) (a : OFE) : OFS := fun W ρ => (gv ρ i).bind fun x => (a W ρ).bind fun r => (asD r.1 x).bind fun n => (asD r.1 r.2).bind fun m => (g n m).bind fun z => some (.nx r.1 (ρ.set i (some (.d z))))
theorem gAddI_of {x y d : PyData} (h : gAddI x y = some d) : ∃ n m, x = .int n ∧ y = .int m ∧ d = .int (n + m) := by
  cases x with
  | int n => cases y with
    | int m => exact ⟨n, m, rfl, rfl, (Option.some.inj h).symm⟩
    | _ => cases h
  | _ => cases h
theorem os_augI (i : Nat) {z : Str} (nd : Y.N.Nodup) (h : OE (one Y) K G e fe) (hp : Y.N.Nodup → ∀ t, PE Y e t → PS Y (.AugAssign (.Name z px) .Add e pos) (tAug i t (ipI fun i j => i + j)) := by intro nd t h; exact ps_aug nd rfl (by first | exact Or.inl rfl | exact Or.inr rfl) h ip_add) : OS Y K G (.AugAssign (.Name z px) .Add e pos) (oAug i gAddI fe) := by
  obtain ⟨t, a1, a2⟩ := h
  refine ⟨_, hp nd t (a1 ()), fun M0 as σ H W ρ fl' D S h F => ?_⟩
  obtain ⟨x, h0, h⟩ := bnd h
  obtain ⟨r1, h1, h⟩ := bnd h
  obtain ⟨n, h2, h⟩ := bnd h
  obtain ⟨m, h3, h⟩ := bnd h
  obtain ⟨d, h4, h⟩ := bnd h
  cases h
  obtain ⟨n, m, rfl, rfl, rfl⟩ := gAddI_of h4
  obtain ⟨v, hv, rv⟩ := S.slot i x (gv_get h0)
  refine ⟨v, hv, a2 M0 as σ H W ρ r1 _ S h1 fun as1 u H1 x1 S1 ru => ?_⟩
  rw [RV.isInt (S1.w.rv ru h3), RV.isInt (S1.w.rv (x1.ov rv) h2)]
  exact ⟨n, m, rfl, rfl, F as1 _ H1 x1 (S1.set i (.d (.int _)))⟩
/-! loops -/
def whileO (t : OFT) (b : OFS) : Nat → OFS
  | 0, _, _ => none
  | n + 1, W, ρ => (t W ρ).bind fun r => if r.2 = true then (b r.1 ρ).bind fun fl => match fl with
      | .nx W1 ρ1 => whileO t b n W1 ρ1
      | .ct W1 ρ1 => whileO t b n W1 ρ1
      | .bk W1 ρ1 => some (.nx W1 ρ1)
      | .rt W1 x => some (.rt W1 x)
    else some (.nx r.1 ρ)
def oWhile (t : OFT) (b : OFS) : OFS := whileO t b fuel
theorem os_while (hc : OT (one Y) K G c ft) (hb : OSs Y K G body f) (hp : ∀ tc tb, PT Y c tc → PSs Y body tb → PS Y (.While c body [] pos) (tWhile tc tb) := by intro tc tb h1 h2; exact ps_while PassesOwn.never h1 h2) : OS Y K G (.While c body [] pos) (oWhile ft f) := by
  obtain ⟨tc, c1, c2⟩ := hc
  obtain ⟨tb, b1, b2⟩ := hb
  refine ⟨tWhile tc tb, hp tc tb (c1 ()) b1, fun M0 as σ H W ρ fl' D S h F => ?_⟩
  refine ⟨fun m σ1 H1 => ∃ (as1 : List Addr) (W1 : Wd) (ρ1 : OEnv), X2 M0 as H as1 H1 ∧ SOk K G M0 as1 H1 σ1 W1 ρ1 ∧ whileO ft f m W1 ρ1 = some fl', ⟨fuel, as, W, ρ, X2.refl, S, h⟩, ?_⟩
  rintro m σ1 H1 ⟨as1, W1, ρ1, x1, S1, h1⟩
  cases m with
  | zero => cases h1
  | succ m =>
    obtain ⟨r1, e1, h1⟩ := bnd h1
    refine c2 M0 as1 σ1 H1 W1 ρ1 r1 _ S1 e1 fun as2 H2 x2 S2 => ite_of (fun e => ?_) (fun e => ?_)
    · rw [if_pos e] at h1
      obtain ⟨f1, e2, h1⟩ := bnd h1
      refine ⟨fun σ' H' => ∃ m', m' < m + 1 ∧ ∃ (as1 : List Addr) (W1 : Wd) (ρ1 : OEnv), X2 M0 as H as1 H' ∧ SOk K G M0 as1 H' σ' W1 ρ1 ∧ whileO ft f m' W1 ρ1 = some fl', fun _ _ q => q, ?_⟩
      have x3 := x1.trans x2
      refine b2 M0 as2 σ1 H2 r1.1 ρ1 f1 _ S2 e2 ?_
      cases f1 with
      | nx W2 ρ2 => exact fun as' σ' H' y S' => ⟨m, Nat.lt_succ_self m, as', W2, ρ2, x3.trans y, S', h1⟩
      | ct W2 ρ2 => exact fun as' σ' H' y S' => ⟨m, Nat.lt_succ_self m, as', W2, ρ2, x3.trans y, S', h1⟩
      | bk W2 ρ2 => cases h1; exact fun as' σ' H' y S' => F as' σ' H' (x3.trans y) S'
      | rt W2 z => cases h1; exact fun as' v H' y w' r' => F as' v H' (x3.trans y) w' r'
    · rw [if_neg (by rw [e]; exact Bool.false_ne_true)] at h1
      cases h1
      exact F as2 σ1 H2 (x1.trans x2) S2
/-- a loop over things that do not change -/
def forL (g : OFG) (b : OFS) : List OV → OFS
  | [], W, ρ => some (.nx W ρ)
  | x :: xs, W, ρ => (g x ρ).bind fun ρ1 => (b W ρ1).bind fun fl => match fl with
      | .nx W1 ρ1 => forL g b xs W1 ρ1
      | .ct W1 ρ1 => forL g b xs W1 ρ1
      | .bk W1 ρ1 => some (.nx W1 ρ1)
      | .rt W1 x => some (.rt W1 x)
/-- a loop over a list that is a cell, by place -/
def forC (g : OFG) (b : OFS) (n : Nat) : Nat → Nat → OFS
  | 0, _, _, _ => none
  | k + 1, i, W, ρ => match W[n]? with
    | some (.lst ys) => match ys[i]? with
      | none => some (.nx W ρ)
      | some x => (g x ρ).bind fun ρ1 => (b W ρ1).bind fun fl => match fl with
        | .nx W1 ρ1 => forC g b n k (i + 1) W1 ρ1
        | .ct W1 ρ1 => forC g b n k (i + 1) W1 ρ1
        | .bk W1 ρ1 => some (.nx W1 ρ1)
        | .rt W1 x => some (.rt W1 x)
    | _ => none
def lenC (W : Wd) (n : Nat) : Nat := match W[n]? with
  | some (.lst xs) => xs.length
  | _ => 0
def forV (g : OFG) (b : OFS) (x : OV) : OFS := fun W ρ => match x with
  | .r n => forC g b n (lenC W n + 1) 0 W ρ
  | .d x => (gSeq x).bind fun ds => forL g b (ds.map .d) W ρ
  | .t xs => forL g b xs W ρ
  | _ => none
def oFor (a : OFE) (g : OFG) (b : OFS) : OFS := fun W ρ => (a W ρ).bind fun r => forV g b r.2 r.1 ρ
/-- what is left of a loop over things that do not change, by what yields them -/
def ItO (K : Fr) (M0 as : List Addr) (H : Hp) (J : It) (xs : List OV) : Prop := ∀ (as' : List Addr) (H' : Hp), X2 M0 as H as' H' → (∀ a, a ∈ M0 ++ as' → H' a ≠ none) →
  (∀ (i : Nat) (x : OV), xs[i]? = some x → J.go i H' ∧ ∀ v H'', J.yld i H' v H'' → Same H' H'' ∧ Ov K (rm (M0 ++ as') H'') as' v x) ∧ J.stop xs.length H'
theorem itO_of {M0 as : List Addr} {H : Hp} {J : It} {ds : List PyData} (h : IterOk K (M0 ++ as) H J ds) : ItO K M0 as H J (ds.map .d) := fun as' H' x dom => by
  obtain ⟨q1, q2⟩ := h (M0 ++ as') H' x.rm dom
  refine ⟨fun i y hy => ?_, by rw [List.length_map]; exact q2⟩
  rw [List.getElem?_map] at hy
  cases e : ds[i]? with
  | none => rw [e] at hy; cases hy
  | some d =>
    rw [e] at hy
    have ey : y = .d d := (Option.some.inj hy).symm
    subst ey
    obtain ⟨z1, z2⟩ := q1 i d e
    exact ⟨z1, fun v H'' yl => by obtain ⟨w1, w2⟩ := z2 v H'' yl; exact ⟨w1, .d w2⟩⟩
theorem itO_tup {M0 as : List Addr} {H : Hp} {p : Addr} {vs : List V} {xs : List OV} (h : SqT K (rm (M0 ++ as) H) p vs) (r : OvAll K (rm (M0 ++ as) H) as vs xs) : ItO K M0 as H (Itt K p) xs := fun as' H' x dom => by
  have h' : SqT K H' p vs := same_t rm_le (same_t x.rm h)
  refine ⟨fun i y hy => ?_, ⟨vs, h', by rw [OvAll.len r]; exact Nat.le_refl _⟩⟩
  obtain ⟨v, hv, rv⟩ := OvAll.get r hy
  refine ⟨⟨vs, v, h', hv⟩, fun u H'' yl => ?_⟩
  obtain ⟨rfl, hy⟩ := yl
  have e := hy vs h'
  rw [hv] at e
  cases e
  exact ⟨Same.refl _, x.ov rv⟩
theorem for_items {M0 as : List Addr} {σ : L2.St} {H : Hp} {W : Wd} {ρ : OEnv} {fl' : OFl} {D : Ends} {J : It} {xs : List OV} {gt : TG} {tb : TS} {wg : OFG} {f : OFS}
    (g2 : ∀ (M0 as : List Addr) (σ : L2.St) (H : Hp) (W : Wd) (ρ ρ' : OEnv) (x : OV) (v : V) (Q : L2.St → Hp → Prop), SOk K G M0 as H σ W ρ → Ov K (rm (M0 ++ as) H) as v x → wg x ρ = some ρ' → (∀ σ', SOk K G M0 as H σ' W ρ' → Q σ' H) → gt v σ H Q)
    (b2 : ∀ (M0 as : List Addr) (σ : L2.St) (H : Hp) (W : Wd) (ρ : OEnv) (fl : OFl) (D : Ends), SOk K G M0 as H σ W ρ → f W ρ = some fl → OFits K G M0 as H D fl → tb D σ H)
    (it : ItO K M0 as H J xs) (S : SOk K G M0 as H σ W ρ) (h : forL wg f xs W ρ = some fl') (F : OFits K G M0 as H D fl') :
    ∃ P : Nat → Nat → L2.St → Hp → Prop, (∃ m, P 0 m σ H) ∧ ∀ i m σ H, P i m σ H → (J.stop i H ∧ D.nx σ H) ∨ (J.go i H ∧ ∃ N : L2.St → Hp → Prop, (∀ σ' H', N σ' H' → ∃ m', m' < m ∧ P (i + 1) m' σ' H') ∧ ∀ x H', J.yld i H x H' → gt x σ H' fun σ2 H2 => tb { D with nx := N, ct := N, bk := D.nx } σ2 H2) := by
  refine ⟨fun n m σ1 H1 => m = xs.length - n ∧ n ≤ xs.length ∧ ∃ (as1 : List Addr) (W1 : Wd) (ρ1 : OEnv), X2 M0 as H as1 H1 ∧ SOk K G M0 as1 H1 σ1 W1 ρ1 ∧ forL wg f (xs.drop n) W1 ρ1 = some fl', ⟨_, rfl, Nat.zero_le _, as, W, ρ, X2.refl, S, h⟩, ?_⟩
  rintro n m σ1 H1 ⟨rfl, hn, as1, W1, ρ1, x1, S1, h1⟩
  obtain ⟨hgo, hst⟩ := it as1 H1 x1 S1.w.dom
  by_cases hlt : n < xs.length
  · right
    obtain ⟨q1, q2⟩ := hgo n _ (List.getElem?_eq_getElem hlt)
    rw [List.drop_eq_getElem_cons hlt] at h1
    obtain ⟨ρ2, e2, h1⟩ := bnd h1
    obtain ⟨f1, e3, h1⟩ := bnd h1
    refine ⟨q1, fun σ' H' => ∃ (as2 : List Addr) (W2 : Wd) (ρ2 : OEnv), X2 M0 as H as2 H' ∧ SOk K G M0 as2 H' σ' W2 ρ2 ∧ forL wg f (xs.drop (n + 1)) W2 ρ2 = some fl', fun σ' H' ⟨as2, W2, ρ2, p1, p2, p3⟩ => ⟨xs.length - (n + 1), by omega, rfl, hlt, as2, W2, ρ2, p1, p2, p3⟩, fun v H2 yl => ?_⟩
    obtain ⟨s2, rv⟩ := q2 v H2 yl
    refine g2 M0 as1 σ1 H2 W1 ρ1 ρ2 _ v _ (S1.same s2) rv e2 fun σ2 S2 => ?_
    have x3 := x1.trans (X2.same (M0 := M0) (as := as1) s2)
    refine b2 M0 as1 σ2 H2 W1 ρ2 f1 _ S2 e3 ?_
    cases f1 with
    | nx W2 ρ2 => exact fun as' σ' H' y S' => ⟨as', W2, ρ2, x3.trans y, S', h1⟩
    | ct W2 ρ2 => exact fun as' σ' H' y S' => ⟨as', W2, ρ2, x3.trans y, S', h1⟩
    | bk W2 ρ2 => cases h1; exact fun as' σ' H' y S' => F as' σ' H' (x3.trans y) S'
    | rt W2 z => cases h1; exact fun as' v H' y w' r' => F as' v H' (x3.trans y) w' r'
  · left
    have en : n = xs.length := by omega
    rw [en] at h1 ⊢
    rw [List.drop_length] at h1
    cases h1
    exact ⟨hst, F as1 σ1 H1 x1 S1⟩
theorem for_cell {M0 as : List Addr} {σ : L2.St} {H : Hp} {W : Wd} {ρ : OEnv} {fl' : OFl} {D : Ends} {p : Addr} {c k : Nat} {gt : TG} {tb : TS} {wg : OFG} {f : OFS}
    (g2 : ∀ (M0 as : List Addr) (σ : L2.St) (H : Hp) (W : Wd) (ρ ρ' : OEnv) (x : OV) (v : V) (Q : L2.St → Hp → Prop), SOk K G M0 as H σ W ρ → Ov K (rm (M0 ++ as) H) as v x → wg x ρ = some ρ' → (∀ σ', SOk K G M0 as H σ' W ρ' → Q σ' H) → gt v σ H Q)
    (b2 : ∀ (M0 as : List Addr) (σ : L2.St) (H : Hp) (W : Wd) (ρ : OEnv) (fl : OFl) (D : Ends), SOk K G M0 as H σ W ρ → f W ρ = some fl → OFits K G M0 as H D fl → tb D σ H)
    (hp : as[c]? = some p) (S : SOk K G M0 as H σ W ρ) (h : forC wg f c k 0 W ρ = some fl') (F : OFits K G M0 as H D fl') :
    ∃ P : Nat → Nat → L2.St → Hp → Prop, (∃ m, P 0 m σ H) ∧ ∀ i m σ H, P i m σ H → ((Itl K p).stop i H ∧ D.nx σ H) ∨ ((Itl K p).go i H ∧ ∃ N : L2.St → Hp → Prop, (∀ σ' H', N σ' H' → ∃ m', m' < m ∧ P (i + 1) m' σ' H') ∧ ∀ x H', (Itl K p).yld i H x H' → gt x σ H' fun σ2 H2 => tb { D with nx := N, ct := N, bk := D.nx } σ2 H2) := by
  refine ⟨fun n m σ1 H1 => ∃ (as1 : List Addr) (W1 : Wd) (ρ1 : OEnv), X2 M0 as H as1 H1 ∧ SOk K G M0 as1 H1 σ1 W1 ρ1 ∧ forC wg f c m n W1 ρ1 = some fl', ⟨k, as, W, ρ, X2.refl, S, h⟩, ?_⟩
  rintro n m σ1 H1 ⟨as1, W1, ρ1, x1, S1, h1⟩
  cases m with
  | zero => cases h1
  | succ m =>
    simp only [forC] at h1
    cases hw : W1[c]? with
    | none => rw [hw] at h1; cases h1
    | some cc =>
      rw [hw] at h1
      cases cc with
      | obj k fs => cases h1
      | lst ys =>
        obtain ⟨vs, z1, z2⟩ := S1.w.cell c p _ (x1.pre _ _ hp) hw
        have sq : SqL K H1 p vs := SqL.of z1
        cases hy : ys[n]? with
        | none =>
          simp only [hy] at h1
          cases h1
          exact .inl ⟨⟨vs, sq, by rw [OvAll.len z2]; exact List.getElem?_eq_none_iff.mp hy⟩, F as1 σ1 H1 x1 S1⟩
        | some x =>
          simp only [hy] at h1
          obtain ⟨v0, hv0, rv0⟩ := OvAll.get z2 hy
          right
          obtain ⟨ρ2, e2, h1⟩ := bnd h1
          obtain ⟨f1, e3, h1⟩ := bnd h1
          refine ⟨⟨vs, v0, sq, hv0⟩, fun σ' H' => ∃ (as1 : List Addr) (W1 : Wd) (ρ1 : OEnv), X2 M0 as H as1 H' ∧ SOk K G M0 as1 H' σ' W1 ρ1 ∧ forC wg f c m (n + 1) W1 ρ1 = some fl', fun σ' H' q => ⟨m, Nat.lt_succ_self m, q⟩, fun v H2 yl => ?_⟩
          obtain ⟨rfl, hq⟩ := yl
          have ev := hq vs sq
          rw [hv0] at ev
          cases ev
          refine g2 M0 as1 σ1 _ W1 ρ1 ρ2 _ _ _ S1 rv0 e2 fun σ2 S2 => ?_
          refine b2 M0 as1 σ2 _ W1 ρ2 f1 _ S2 e3 ?_
          cases f1 with
          | nx W2 ρ2 => exact fun as' σ' H' y S' => ⟨as', W2, ρ2, x1.trans y, S', h1⟩
          | ct W2 ρ2 => exact fun as' σ' H' y S' => ⟨as', W2, ρ2, x1.trans y, S', h1⟩
          | bk W2 ρ2 => cases h1; exact fun as' σ' H' y S' => F as' σ' H' (x1.trans y) S'
          | rt W2 z => cases h1; exact fun as' v H' y w' r' => F as' v H' (x1.trans y) w' r'
theorem os_for {wg : OFG} (h : OE (one Y) K G iter fe) (hg : OG Y K G tg wg) (hb : OSs Y K G body f) (hK : Y.K = K := by rfl)
    (hp : ∀ ti g tb, PI Y tg iter ti → PG Y tg g → PSs Y body tb → PS Y (.For tg iter body [] pos) (tFor ti g tb) := by intro ti g tb h1 h2 h3; exact ps_for PassesOwn.never rfl h1 h2 h3) : OS Y K G (.For tg iter body [] pos) (oFor fe wg f) := by
  obtain ⟨t, a1, a2⟩ := h
  obtain ⟨g, g1, g2⟩ := hg
  obtain ⟨tb, b1, b2⟩ := hb
  refine ⟨tFor (iAny K t) g tb, hp _ g tb (by rw [← hK]; exact pi_any (a1 ())) g1 b1, fun M0 as σ H W ρ fl' D S h F => ?_⟩
  obtain ⟨r1, h1, h⟩ := bnd h
  refine a2 M0 as σ H W ρ r1 _ S h1 fun as1 v H1 x1 S1 rv => ?_
  have F1 := F.go x1
  revert h rv
  generalize r1.2 = z
  intro h rv
  cases rv with
  | @d v x r =>
    obtain ⟨ds, hd, h⟩ := bnd h
    cases x with
    | list es =>
      cases hd
      obtain ⟨p, vs, rfl, z1, z2⟩ := Dt.isLst r
      exact .inl ⟨p, rfl, ⟨vs, SqL.of (rm_le _ _ z1)⟩, for_items g2 b2 (itO_of (it_list z1 z2)) S1 h F1⟩
    | tuple es =>
      cases hd
      obtain ⟨p, vs, rfl, z1, z2⟩ := Dt.isTup r
      exact .inr (.inl ⟨p, rfl, ⟨vs, same_t rm_le z1⟩, for_items g2 b2 (itO_of (it_tup z1 z2)) S1 h F1⟩)
    | str s =>
      cases hd
      rw [Dt.isStr r]
      exact .inr (.inr ⟨s, rfl, for_items g2 b2 (itO_of it_str) S1 h F1⟩)
    | _ => cases hd
  | @t p vs xs z1 z2 => exact .inr (.inl ⟨p, rfl, ⟨vs, same_t rm_le z1⟩, for_items g2 b2 (itO_tup z1 z2) S1 h F1⟩)
  | q _ _ => cases h
  | x0 _ => cases h
  | x1 _ _ _ _ => cases h
  | @r p n hp =>
    have h' : forC wg f n (lenC r1.1 n + 1) 0 r1.1 ρ = some fl' := h
    have ⟨xs, hw⟩ : ∃ xs, r1.1[n]? = some (.lst xs) := by
      unfold forC at h'
      cases hw : r1.1[n]? with
      | none => rw [hw] at h'; cases h'
      | some c =>
        cases c with
        | lst xs => exact ⟨xs, rfl⟩
        | obj k fs => rw [hw] at h'; cases h'
    obtain ⟨vs, z1, z2⟩ := S1.w.cell n p _ hp hw
    exact .inl ⟨p, rfl, ⟨vs, SqL.of z1⟩, for_cell g2 b2 hp S1 h' F1⟩
/-- a loop over what only data says -/
def oForP (i : FA) (g : OFG) (b : OFS) : OFS := fun W ρ => (i (toE ρ)).bind fun r => forL g b (r.2.map .d) W ρ
theorem os_forP {wi : WI} {fi : FA} {wg : OFG} (c : cA none wi fi) (h : DI (one Y) K tg iter wi) (hg : OG Y K G tg wg) (hb : OSs Y K G body f)
    (hp : ∀ ti g tb, PI Y tg iter ti → PG Y tg g → PSs Y body tb → PS Y (.For tg iter body [] pos) (tFor ti g tb) := by intro ti g tb h1 h2 h3; exact ps_for PassesOwn.never rfl h1 h2 h3) : OS Y K G (.For tg iter body [] pos) (oForP fi wg f) := by
  obtain ⟨ti, i1, i2⟩ := h
  obtain ⟨g, g1, g2⟩ := hg
  obtain ⟨tb, b1, b2⟩ := hb
  refine ⟨tFor ti g tb, hp ti g tb (i1 ()) g1 b1, fun M0 as σ H W ρ fl' D S h F => ?_⟩
  obtain ⟨r1, h1, h⟩ := bnd h
  refine i2 (M0 ++ as) (M0 ++ as) [] σ H (toE ρ) (fun _ ds => ds = r1.2) _ S.env (c (toE ρ) r1 h1 (fun _ ds => ds = r1.2) rfl) fun ρ' items J H' p x E' it => ?_
  subst p
  have s : Same H H' := fun a o q => x.keep a o (by simp) q
  exact for_items g2 b2 (itO_of it) (S.same s) h (F.go (X2.same s))
end
/-! ### defs -/
section
variable {P : Program} {w : World} {K : Fr} {G : List Addr} {mg : Str → Option Value} {base : Heap}
def startO (N : List Str) (xs : List OV) : OEnv := xs.map some ++ List.replicate (N.length - xs.length) none
theorem startO_ok {N : List Str} {M0 as : List Addr} {H : Hp} {W : Wd} {vs : List V} {xs : List OV} (wk : WOk K G M0 as H W) (r : OvAll K (rm (M0 ++ as) H) as vs xs) : SOk K G M0 as H (L2.start N vs) W (startO N xs) where
  w := wk
  len := by unfold L2.start startO; simp [OvAll.len r]
  slot := fun i x h => by
    unfold startO at h
    unfold L2.start
    by_cases c : i < xs.length
    · rw [List.getElem?_append_left (by simpa using c), List.getElem?_map] at h
      cases hd : xs[i]? with
      | none => rw [hd] at h; cases h
      | some y =>
        rw [hd] at h
        have e : x = y := by
          injection h with h; injection h with h; exact h.symm
        subst e
        obtain ⟨v, h1, h2⟩ := OvAll.get r hd
        exact ⟨v, by rw [List.getElem?_append_left (by rw [List.length_map, OvAll.len r]; exact c), List.getElem?_map, h1]; rfl, h2⟩
    · rw [List.getElem?_append_right (by simpa using Nat.le_of_not_lt c), List.getElem?_replicate] at h
      split at h
      · injection h with h; cases h
      · cases h
def retO : Option OFl → Option (Wd × OV)
  | some (.nx W _) => some (W, .d .none)
  | some (.rt W x) => some (W, x)
  | _ => none
/-- a def's function by its body's -/
def ofBody (n : Nat) (N : List Str) (b : OFS) : FO' := fun W xs => if xs.length = n then retO (b W (startO N xs)) else none
theorem fn_obj {x qual : Str} {st : Stmt} {f : Addr} {fd : FuncData} {N ps : List Str} {k : Nat} {wb : OFS} (F : Fun K x qual st f fd) (sc : FnScope N ps (defScope st))
    (hb : ∀ (cdv : Value) (A : Around) (outer : List PySem.Env) (s : Shared) (H : Hp) (E : XK), Room k (A.deeper (envOfC qual (defScope st) s.heap.objs.size f cdv)) → OSs (cxOf CX0 P w K mg base N qual (defScope st) f cdv A outer s H E).nox K G (defBody st) wb) : FnOk P w K mg base CX0 (k + 1) f fd ps (spO K G (ofBody ps.length N wb)) := by
  refine Fun_ok F sc (fun vs H Q E h => ?_) (fun cdv A outer s H vs Q E hr h => ?_)
  · obtain ⟨M0, as, W, xs, r, _, rs, hf, _⟩ := h
    rw [OvAll.len rs]
    unfold ofBody at hf
    by_cases c : xs.length = ps.length
    · exact c
    · rw [if_neg c] at hf; cases hf
  · obtain ⟨M0, as, W, xs, r, wk, rs, hf, q⟩ := h
    obtain ⟨t, a1, a2⟩ := hb cdv A outer s H E hr
    unfold ofBody at hf
    by_cases c : xs.length = ps.length
    · rw [if_pos c] at hf
      cases hfl : wb W (startO N xs) with
      | none => rw [hfl] at hf; cases hf
      | some fl =>
        rw [hfl] at hf
        refine ⟨t, a1, a2 M0 as _ H W _ fl _ (startO_ok wk rs) hfl ?_⟩
        cases fl with
        | nx W1 ρ1 => cases hf; exact fun as' σ' H' x S' => q as' _ H' x S'.w (.d .non)
        | bk W1 ρ1 => cases hf
        | ct W1 ρ1 => cases hf
        | rt W1 y => cases hf; exact fun as' v H' x w' r' => q as' v H' x w' r'
    · rw [if_neg c] at hf; cases hf
/-- a def that takes and hands back data, and works over a world of its own -/
def retD : Option OFl → Option PyData
  | some (.nx _ _) => some .none
  | some (.rt _ (.d x)) => some x
  | _ => none
def ofBodyD (n : Nat) (N : List Str) (b : OFS) : FP := fun ds => if ds.length = n then retD (b [] (startO N (ds.map .d))) else none
theorem fn_data {x qual : Str} {st : Stmt} {f : Addr} {fd : FuncData} {N ps : List Str} {k : Nat} {wb : OFS} (F : Fun K x qual st f fd) (sc : FnScope N ps (defScope st))
    (hb : ∀ (cdv : Value) (A : Around) (outer : List PySem.Env) (s : Shared) (H : Hp) (E : XK), Room k (A.deeper (envOfC qual (defScope st) s.heap.objs.size f cdv)) → OSs (cxOf CX0 P w K mg base N qual (defScope st) f cdv A outer s H E).nox K G (defBody st) wb) : FnOk P w K mg base CX0 (k + 1) f fd ps (spP K (ofP (ofBodyD ps.length N wb))) := by
  refine Fun_ok F sc (fun vs H Q E h => ?_) (fun cdv A outer s H vs Q E hr h => ?_)
  · obtain ⟨M, ds, P', _, rs, ⟨d, hf, _⟩, _⟩ := h
    rw [DtAll.len rs]
    unfold ofBodyD at hf
    by_cases c : ds.length = ps.length
    · exact c
    · rw [if_neg c] at hf; cases hf
  · obtain ⟨M, ds, P', dom, rs, ⟨d, hf, pd⟩, q⟩ := h
    obtain ⟨t, a1, a2⟩ := hb cdv A outer s H E hr
    unfold ofBodyD at hf
    have wk : WOk K G M [] H [] := ⟨rfl, List.nodup_nil, (fun a m => by cases m), dom, (fun n a c e => by simp at e)⟩
    by_cases c : ds.length = ps.length
    · rw [if_pos c] at hf
      cases hfl : wb [] (startO N (ds.map .d)) with
      | none => rw [hfl] at hf; cases hf
      | some fl =>
        rw [hfl] at hf
        refine ⟨t, a1, a2 M [] _ H [] _ fl _ (startO_ok wk (OvAll.ofD (by rw [List.append_nil]; exact rs))) hfl ?_⟩
        cases fl with
        | nx W1 ρ1 => cases hf; exact fun as' σ' H' x S' => q _ _ H' pd (fun a o e => x.keep a o (by simp) e) .non
        | bk W1 ρ1 => cases hf
        | ct W1 ρ1 => cases hf
        | rt W1 y =>
          cases y with
          | d z =>
            cases hf
            refine fun as' v H' x w' r' => ?_
            cases r' with
            | d r' => exact q _ v H' pd (fun a o e => x.keep a o (by simp) e) (Dt.up (rm_sub fun a m => List.mem_append_left _ m) r')
          | r n => cases hf
          | t xs => cases hf
          | q xs => cases hf
          | x C f => cases hf
    · rw [if_neg c] at hf; cases hf
end
end Pm.Ob
/-! Methods, classes and defs with defaults as the top leaves them. -/
namespace Pm.Ob
open PySem PySem.Spec PyProof.Rows L2 Pm
section
variable {P : Program} {w : World} {K : Fr} {mg : Str → Option Value} {base : Heap} {G : List Addr}
abbrev FunS (K : Fr) (x qual : Str) (st : Stmt) (dvs : List V) (f : Addr) (fd : FuncData) : Prop := FunD K x qual (defArgs st) (defBody st) (defScope st) dvs [] f fd
theorem funs_mk {x qual : Str} {st : Stmt} {f : Addr} {oc : Value} {od an : Option Addr} {osl : Array (Option Value)} {kV doc pm cdv ct : Value} (l : K.lookup f = some ⟨oc, od, .func (PySem.W.fnOf x qual (defArgs st) (defBody st) (defScope st) .none kV doc pm an cdv ct), osl⟩)
    (c : PySem.W.codeIn K cdv qual = true) (k : PySem.W.keepIn K (.ref f) = true) : FunS K x qual st [] f (PySem.W.fnOf x qual (defArgs st) (defBody st) (defScope st) .none kV doc pm an cdv ct) := ⟨⟨oc, od, .none, kV, doc, pm, an, cdv, ct, osl, rfl, l, c, .inl ⟨rfl, rfl⟩, .inl rfl⟩, k⟩
theorem funs_mkD {x qual : Str} {st : Stmt} {f T : Addr} {oc : Value} {od an : Option Addr} {osl : Array (Option Value)} {kV doc pm cdv ct : Value} {o : Obj} {its : List Value} {n : Nat} {dvs : List V} (l : K.lookup f = some ⟨oc, od, .func (PySem.W.fnOf x qual (defArgs st) (defBody st) (defScope st) (.ref T) kV doc pm an cdv ct), osl⟩)
    (c : PySem.W.codeIn K cdv qual = true) (k : PySem.W.keepIn K (.ref f) = true) (lt : K.lookup T = some o) (ot : o.data = .seq its.toArray n) (r : Vals dvs its) (ne : dvs ≠ []) : FunS K x qual st dvs f (PySem.W.fnOf x qual (defArgs st) (defBody st) (defScope st) (.ref T) kV doc pm an cdv ct) :=
  ⟨⟨oc, od, .ref T, kV, doc, pm, an, cdv, ct, osl, rfl, l, c, .inr ⟨ne, T, o, its, n, rfl, lt, ot, r⟩, .inl rfl⟩, k⟩
theorem FunS_ok {x qual : Str} {st : Stmt} {f : Addr} {fd : FuncData} {dvs : List V} {N ps : List Str} {k : Nat} {sp : Sp} (F : FunS K x qual st dvs f fd) (sc : FnScope N ps (defScope st)) (len : ∀ vs H Q E, sp vs H Q E → vs.length = ps.length)
    (body : ∀ (cdv : Value) (A : Around) (outer : List PySem.Env) (s : Shared) (H : Hp) (vs : List V) (Q : VK) (E : XK), Room k (A.deeper (envOfC qual (defScope st) s.heap.objs.size f cdv)) → sp vs H Q E →
      ∃ t, PSs (cxOf CX0 P w K mg base N qual (defScope st) f cdv A outer s H E).nox (defBody st) t ∧ t { nx := fun _ H' => Q .non H', rt := Q } (L2.start N vs) H) : FnOk P w K mg base CX0 (k + 1) f fd ps sp where
  len := len
  run := fun A room outer s H as us vs Q E st0 bnd rl want => by
    obtain ⟨oc, od, dV, kV, doc, pm, an, cdv, ct, osl, rfl, look, code, _, _⟩ := F.ex
    have keeps : ∀ b o, base.get? b = some o → s.heap.get? b = some o := fun b o q => (st0.bs b o q).1
    have kin := st0.mod.kin.keeps keeps
    have kinds : ∀ y ∈ ps.zip us, (defScope st).names.lookup y.1 = some .local ∨ ((defScope st).names.lookup y.1 = some .cell ∧ ((cellsFrom (s.heap.objs.size + 1) (defScope st).names []).lookup y.1).isSome = true) := by
      rintro ⟨n, v⟩ hy
      exact (sc.par n (List.of_mem_zip hy).1).imp id fun q => ⟨q, PySem.W.cellsFrom_some _ _ _ (.inl q)⟩
    refine codeAny_call_function room.depth (kin _ _ look) rfl sc.co sc.gen rfl (PySem.W.codeRec_of kin code) (bnd _ _ _ _ ?_)
    refine wpAny_newFunctionEnv_cells sc.kind kinds fun env he s1 x => ?_
    subst he
    refine ⟨(st0.mod.nolimit.keeps keeps).keeps x.toInCall.keep, codeAny_func ?_⟩
    obtain ⟨t, ht, hq⟩ := body cdv A outer s H vs Q E (room.deeper _) want
    have I := inv_start (CX := CX0) (E := E) sc room.hd st0 (len _ _ _ _ want) rl x
    refine wpAny_mono (ht.nox.run [] s1 _ H _ I hq) (fun fl s' o => ?_) fun _ _ o => o
    match fl, o with
    | .ret u, ⟨v, _, H', J, rv, q⟩ => exact ⟨v, H', J.os, J.bare, J.base, J.hok, rv, q⟩
    | .next, ⟨_, H', J, q⟩ => exact ⟨.non, H', J.os, J.bare, J.base, J.hok, rfl, q⟩
    | .brk, ⟨_, _, _, q⟩ => exact q.elim
    | .cont, ⟨_, _, _, q⟩ => exact q.elim
theorem fn_objS {x qual : Str} {st : Stmt} {dvs : List V} {f : Addr} {fd : FuncData} {N ps : List Str} {k : Nat} {wb : OFS} (F : FunS K x qual st dvs f fd) (sc : FnScope N ps (defScope st))
    (hb : ∀ (cdv : Value) (A : Around) (outer : List PySem.Env) (s : Shared) (H : Hp) (E : XK), Room k (A.deeper (envOfC qual (defScope st) s.heap.objs.size f cdv)) → OSs (cxOf CX0 P w K mg base N qual (defScope st) f cdv A outer s H E).nox K G (defBody st) wb) : FnOk P w K mg base CX0 (k + 1) f fd ps (spO K G (ofBody ps.length N wb)) := by
  refine FunS_ok F sc (fun vs H Q E h => ?_) (fun cdv A outer s H vs Q E hr h => ?_)
  · obtain ⟨M0, as, W, xs, r, _, rs, hf, _⟩ := h
    rw [OvAll.len rs]
    unfold ofBody at hf
    by_cases c : xs.length = ps.length
    · exact c
    · rw [if_neg c] at hf; cases hf
  · obtain ⟨M0, as, W, xs, r, wk, rs, hf, q⟩ := h
    obtain ⟨t, a1, a2⟩ := hb cdv A outer s H E hr
    unfold ofBody at hf
    by_cases c : xs.length = ps.length
    · rw [if_pos c] at hf
      cases hfl : wb W (startO N xs) with
      | none => rw [hfl] at hf; cases hf
      | some fl =>
        rw [hfl] at hf
        refine ⟨t, a1, a2 M0 as _ H W _ fl _ (startO_ok wk rs) hfl ?_⟩
        cases fl with
        | nx W1 ρ1 => cases hf; exact fun as' σ' H' x S' => q as' _ H' x S'.w (.d .non)
        | bk W1 ρ1 => cases hf
        | ct W1 ρ1 => cases hf
        | rt W1 y => cases hf; exact fun as' v H' x w' r' => q as' v H' x w' r'
    · rw [if_neg c] at hf; cases hf
theorem fn_pureS {x qual : Str} {st : Stmt} {dvs : List V} {f : Addr} {fd : FuncData} {N ps : List Str} {k : Nat} {S : SpD} {wb : WS} (F : FunS K x qual st dvs f fd) (sc : FnScope N ps (defScope st)) (len : ∀ ds P, S ds P → ds.length = ps.length)
    (hb : ∀ (cdv : Value) (A : Around) (outer : List PySem.Env) (s : Shared) (H : Hp) (E : XK), Room k (A.deeper (envOfC qual (defScope st) s.heap.objs.size f cdv)) → DSs (cxOf CX0 P w K mg base N qual (defScope st) f cdv A outer s H E).nox K (defBody st) wb)
    (hw : ∀ ds Q, S ds Q → wb { nx := fun _ => Q .none, rt := fun _ d => Q d } (startE N ds)) : FnOk P w K mg base CX0 (k + 1) f fd ps (spP K S) := by
  refine FunS_ok F sc (fun vs H Q E h => ?_) (fun cdv A outer s H vs Q E hr h => ?_)
  · obtain ⟨M, ds, P', _, r, hs, _⟩ := h
    rw [DtAll.len r]
    exact len _ _ hs
  · obtain ⟨M, ds, P', dom, r, hs, q⟩ := h
    obtain ⟨t, a1, a2⟩ := hb cdv A outer s H E hr
    refine ⟨t, a1, a2 M M [] _ H _ _ _ (start_ok dom r) (hw ds P' hs) ⟨fun ρ' M' B' σ' H' p x E' => ?_, fun _ _ _ _ _ p => p.elim, fun _ _ _ _ _ p => p.elim, fun ρ' d v M' B' σ' H' p x E' r' => ?_⟩⟩
    · exact q _ _ H' p (fun a o e => x.keep a o (by simp) e) .non
    · exact q d v H' p (fun a o e => x.keep a o (by simp) e) r'
/-! methods -/
structure DefM (K : Fr) (C : Addr) (m qual : Str) (st : Stmt) (ps : List Str) : Prop where
  ex : ∃ (f : Addr) (fd : FuncData), Meth K C m f ∧ FunS K m qual st [] f fd ∧ Binds K fd ps []
def HasM (P : Program) (w : World) (K : Fr) (mg : Str → Option Value) (base : Heap) (k : Nat) (C : Addr) (m : Str) (sp : Sp) : Prop := ∃ (f : Addr) (fd : FuncData) (ps : List Str), FnOk P w K mg base CX0 k f fd ps sp ∧ Meth K C m f ∧ Binds K fd ps []
theorem DefM.has {C : Addr} {m qual : Str} {st : Stmt} {ps : List Str} {k : Nat} {sp : Sp} (D : DefM K C m qual st ps) (h : ∀ (f : Addr) (fd : FuncData), FunS K m qual st [] f fd → FnOk P w K mg base CX0 k f fd ps sp) : HasM P w K mg base k C m sp := by
  obtain ⟨f, fd, h1, h2, h3⟩ := D.ex
  exact ⟨f, fd, ps, h f fd h2, h1, h3⟩
theorem methOk {Y : Cx} {k j : Nat} {C : Addr} {m : Str} {sp : Sp} (h : HasM Y.prog Y.w Y.K Y.mg Y.base k C m sp) (hr : Room j Y.A) (le : k ≤ j) : MethOk Y C m sp := by
  obtain ⟨f, fd, ps, h1, h2, h3⟩ := h
  exact ⟨k, f, fd, ps, h1, hr.mono le, h2, h3⟩
theorem defm_mk {C f : Addr} {m qual : Str} {st : Stmt} {ps : List Str} {oc : Value} {od an : Option Addr} {osl : Array (Option Value)} {kV doc pm cdv ct : Value} (a : PySem.W.findIn K (.ref C) m = some (some (.ref f))) (i : PySem.W.isFn K (.ref f) = true)
    (l : K.lookup f = some ⟨oc, od, .func (PySem.W.fnOf m qual (defArgs st) (defBody st) (defScope st) .none kV doc pm an cdv ct), osl⟩) (c : PySem.W.codeIn K cdv qual = true) (k : PySem.W.keepIn K (.ref f) = true)
    (hb : ∀ (kV doc pm : Value) (an : Option Addr) (cdv ct : Value) (us : List Value), us.length = ps.length → bindArgs (PySem.W.fnOf m qual (defArgs st) (defBody st) (defScope st) .none kV doc pm an cdv ct) ⟨us, []⟩ = pure (ps.zip us)) : DefM K C m qual st ps :=
  ⟨f, _, ⟨a, i, k⟩, funs_mk l c k, .all (hb kV doc pm an cdv ct)⟩
/-! __init__ -/
structure DefI (K : Fr) (mg : Str → Option Value) (x : Str) (C : Addr) (qual : Str) (st : Stmt) (ps : List Str) (dvs : List V) : Prop where
  ex : ∃ (f : Addr) (fd : FuncData) (ds : List Value), Mk K C f ∧ mg x = some (.ref C) ∧ FunS K "__init__" qual st dvs f fd ∧ Binds K fd ps [] ∧ (∃ ds, Binds K fd ps ds ∧ Vals dvs ds)
def HasI (P : Program) (w : World) (K : Fr) (mg : Str → Option Value) (base : Heap) (k : Nat) (x : Str) (C : Addr) (sp : Sp) (dvs : List V) : Prop := ∃ (f : Addr) (fd : FuncData) (ps : List Str), FnOk P w K mg base CX0 k f fd ps sp ∧ Mk K C f ∧ mg x = some (.ref C) ∧ Binds K fd ps [] ∧ (∃ ds, Binds K fd ps ds ∧ Vals dvs ds)
theorem DefI.has {C : Addr} {x qual : Str} {st : Stmt} {ps : List Str} {dvs : List V} {k : Nat} {sp : Sp} (D : DefI K mg x C qual st ps dvs) (h : ∀ (f : Addr) (fd : FuncData), FunS K "__init__" qual st dvs f fd → FnOk P w K mg base CX0 k f fd ps sp) : HasI P w K mg base k x C sp dvs := by
  obtain ⟨f, fd, _, h1, h2, h3, h4, h5⟩ := D.ex
  exact ⟨f, fd, ps, h f fd h3, h1, h2, h4, h5⟩
theorem makeOk {Y : Cx} {k j : Nat} {x : Str} {C : Addr} {sp : Sp} {dvs : List V} (h : HasI Y.prog Y.w Y.K Y.mg Y.base k x C sp dvs) (hr : Room j Y.A) (le : k + 1 ≤ j) : MakeOk Y x C sp [] := by
  obtain ⟨f, fd, ps, h1, h2, h3, h4, _⟩ := h
  exact ⟨k, f, fd, ps, [], h1, hr.mono le, h2, h3, h4, .nil⟩
theorem makeOkD {Y : Cx} {k j : Nat} {x : Str} {C : Addr} {sp : Sp} {dvs : List V} (h : HasI Y.prog Y.w Y.K Y.mg Y.base k x C sp dvs) (hr : Room j Y.A) (le : k + 1 ≤ j) : MakeOk Y x C sp dvs := by
  obtain ⟨f, fd, ps, h1, h2, h3, _, ds, h5, h6⟩ := h
  exact ⟨k, f, fd, ps, ds, h1, hr.mono le, h2, h3, h5, h6⟩
theorem defi_mk {h : Heap} {x qual : Str} {st : Stmt} {ps : List Str} {C f : Addr} {oc : Value} {od an : Option Addr} {osl : Array (Option Value)} {kV doc pm cdv ct : Value} (X : K.In h) (Gl : h.Ns mainGlobals mg) (aC : PySem.W.nsIn K mainGlobals x = some (some (.ref C))) (mk : PySem.W.makesIn K C = true) (kc : PySem.W.keepIn K (.ref C) = true)
    (a : PySem.W.findIn K (.ref C) "__init__" = some (some (.ref f))) (i : PySem.W.isFn K (.ref f) = true) (l : K.lookup f = some ⟨oc, od, .func (PySem.W.fnOf "__init__" qual (defArgs st) (defBody st) (defScope st) .none kV doc pm an cdv ct), osl⟩) (c : PySem.W.codeIn K cdv qual = true) (k : PySem.W.keepIn K (.ref f) = true)
    (hb : ∀ (kV doc pm : Value) (an : Option Addr) (cdv ct : Value) (us : List Value), us.length = ps.length → bindArgs (PySem.W.fnOf "__init__" qual (defArgs st) (defBody st) (defScope st) .none kV doc pm an cdv ct) ⟨us, []⟩ = pure (ps.zip us)) : DefI K mg x C qual st ps [] :=
  have b : Binds K (PySem.W.fnOf "__init__" qual (defArgs st) (defBody st) (defScope st) .none kV doc pm an cdv ct) ps [] := .all (hb kV doc pm an cdv ct)
  ⟨f, _, [], ⟨mk, a, i, kc⟩, PySem.W.mg_of X Gl aC, funs_mk l c k, b, [], b, .nil⟩
/-! defs of the module with defaults -/
structure DefD (K : Fr) (mg : Str → Option Value) (x : Str) (st : Stmt) (ps : List Str) (dvs : List V) : Prop where
  ex : ∃ (f : Addr) (fd : FuncData) (ds : List Value), mg x = some (.ref f) ∧ PySem.W.keepIn K (.ref f) = true ∧ FunS K x x st dvs f fd ∧ Binds K fd ps ds ∧ Vals dvs ds
def HasD (P : Program) (w : World) (K : Fr) (mg : Str → Option Value) (base : Heap) (k : Nat) (x : Str) (sp : Sp) (dvs : List V) : Prop := ∃ (f : Addr) (fd : FuncData) (ps : List Str) (ds : List Value), FnOk P w K mg base CX0 k f fd ps sp ∧ mg x = some (.ref f) ∧ PySem.W.keepIn K (.ref f) = true ∧ Binds K fd ps ds ∧ Vals dvs ds
def CallOkD (Y : Cx) (x : Str) (sp : Sp) (dvs : List V) : Prop := ∃ (k : Nat) (f : Addr) (fd : FuncData) (ps : List Str) (ds : List Value), FnOk Y.prog Y.w Y.K Y.mg Y.base CX0 k f fd ps sp ∧ Room k Y.A ∧ Y.mg x = some (.ref f) ∧ PySem.W.keepIn Y.K (.ref f) = true ∧ Binds Y.K fd ps ds ∧ Vals dvs ds
theorem DefD.has {x : Str} {st : Stmt} {ps : List Str} {dvs : List V} {k : Nat} {sp : Sp} (D : DefD K mg x st ps dvs) (h : ∀ (f : Addr) (fd : FuncData), FunS K x x st dvs f fd → FnOk P w K mg base CX0 k f fd ps sp) : HasD P w K mg base k x sp dvs := by
  obtain ⟨f, fd, ds, h1, h2, h3, h4, h5⟩ := D.ex
  exact ⟨f, fd, ps, ds, h f fd h3, h1, h2, h4, h5⟩
theorem callOkD {Y : Cx} {k j : Nat} {x : Str} {sp : Sp} {dvs : List V} (h : HasD Y.prog Y.w Y.K Y.mg Y.base k x sp dvs) (hr : Room j Y.A) (le : k ≤ j) : CallOkD Y x sp dvs := by
  obtain ⟨f, fd, ps, ds, h1, h2, h3, h4, h5⟩ := h
  exact ⟨k, f, fd, ps, ds, h1, hr.mono le, h2, h3, h4, h5⟩
theorem defd_mk {h : Heap} {x : Str} {st : Stmt} {ps : List Str} {f T : Addr} {oc : Value} {od an : Option Addr} {osl : Array (Option Value)} {kV doc pm cdv ct : Value} {o : Obj} {its : List Value} {n m : Nat} {dvs : List V} (X : K.In h) (Gl : h.Ns mainGlobals mg) (a : PySem.W.nsIn K mainGlobals x = some (some (.ref f)))
    (l : K.lookup f = some ⟨oc, od, .func (PySem.W.fnOf x x (defArgs st) (defBody st) (defScope st) (.ref T) kV doc pm an cdv ct), osl⟩) (c : PySem.W.codeIn K cdv x = true) (k : PySem.W.keepIn K (.ref f) = true) (lt : K.lookup T = some o) (ot : o.data = .seq its.toArray n) (r : Vals dvs its) (ne : dvs ≠ []) (hm : m + dvs.length = ps.length)
    (hb : ∀ (T : Addr) (kV doc pm : Value) (an : Option Addr) (cdv ct : Value) (us its : List Value), us.length = m → its.length = dvs.length →
      ∃ k, bindArgs (PySem.W.fnOf x x (defArgs st) (defBody st) (defScope st) (.ref T) kV doc pm an cdv ct) ⟨us, []⟩ = seqItems? (.ref T) >>= k ∧ k (some its.toArray) = pure (ps.zip (us ++ its.drop 0))) : DefD K mg x st ps dvs := by
  have F : FunS K x x st dvs f _ := funs_mkD l c k lt ot r ne
  obtain ⟨ds, v, b⟩ := FunD.binds1 (ps := ps) F m 0 ne (by rw [Nat.sub_zero]; exact hm) hb
  exact ⟨f, _, ds, PySem.W.mg_of X Gl a, k, F, b, v⟩
end
/-! ### calls with defaults in the data layer -/
section
variable {ι : Type} {X : ι → Cx} {K : Fr} {e : Expr} {es : List Expr} {pos p : Pos} {x : Str}
def wCallD (S : SpD) (dd : List PyData) (wa : WA) : WE := fun ρ P => wa ρ fun ρ1 ds => S (ds ++ dd) fun d => P ρ1 d
theorem de_callD {S : SpD} {w : WA} {dvs : List V} {dd : List PyData} (c : ∀ i, CallOkD (X i) x (spP K S) dvs) (hd : ∀ H, DtAll K H dvs dd) (h : DA X K (e :: es) w) (hg : ∀ i, Gl (X i) x := by intro i; rfl) (hdb : (x == ("__debug__" : Str)) = false := by decide)
    (he : ∀ i, starEach (e :: es) (X i).env = (false, eval e (X i).env) :: starEach es (X i).env := by intro i; rfl) (hpl : ∀ i, (backTo pos (starEach es (X i).env)).any (·.1) = false := by intro i; rfl) : DE X K (.Call (.Name x p) (e :: es) [] pos) (wCallD S dd w) := by
  obtain ⟨t, a1, a2⟩ := h
  refine ⟨tCall (spP K S) dvs E0 t, fun i => ?_, fun M0 M B σ H ρ P Q E w k => ?_⟩
  · obtain ⟨k, f, fd, ps, ds, F, hr, hm, hk, hb, hv⟩ := c i
    exact pe_call F hr (hg i) hm hk hb hv pass0 (a1 i) hdb (he i) (hpl i)
  · refine a2 M0 M B σ H ρ _ _ E w fun ρ1 ds vs H1 w1 x1 E1 r1 => ?_
    refine ⟨M, ds ++ dd, _, E1.dom, DtAll.app r1 (hd _), w1, fun d v H2 p e2 r2 => ?_⟩
    exact k ρ1 d v H2 p (x1.trans (Ext.same e2)) (E1.same e2) r2
def qCallD (F : FP) (dd : List PyData) (a : FA) : FE := fun ρ => (a ρ).bind fun r => (F (r.2 ++ dd)).bind fun d => some (r.1, d)
theorem c_callD {o : Option Addr} {S : SpD} {F : FP} {dd : List PyData} {w : WA} {a : FA} (hs : fitP S F) (ha : cA o w a) : cE o (wCallD S dd w) (qCallD F dd a) := by
  intro ρ r h P p
  simp only [qCallD, Option.bind_eq_some_iff] at h
  obtain ⟨r1, h1, d, h2, h3⟩ := h
  cases h3
  exact ha ρ r1 h1 _ (hs _ _ h2 _ p)
/-- an expression that is never reached -/
def wNeverE : WE := fun _ _ => False
def qNeverE : FE := fun _ => none
theorem de_never : DE X K e wNeverE := ⟨fun _ _ _ => False, fun i => ⟨fun _ _ _ _ _ _ h => h.elim⟩, fun _ _ _ _ _ _ _ _ _ w => w.elim⟩
theorem c_neverE {o : Option Addr} {w : WE} : cE o w qNeverE := by intro ρ r h P p; cases h
end
end Pm.Ob
/-! del xs[a:], xs[a:c] = ys, xs == [] of lists of anything, xs.pop(). -/
namespace Pm
open PySem PySem.Spec PyProof.Rows L2
/-! ### del xs[a:] -/
def keepTo (a n : Nat) (xs : Array Value) : Array Value := (xs.toList.zipIdx.filterMap fun (x, k) => if (if (1 : Int) > 0 then decide ((a : Int) ≤ (k : Nat)) && decide (((k : Nat) : Int) < (n : Int)) && ((((k : Nat) : Int) - (a : Int)) % 1 == 0) else decide ((n : Int) < (k : Nat)) && decide (((k : Nat) : Int) ≤ (a : Int)) && (((a : Int) - (k : Nat)) % (-1) == 0)) = true then none else some x).toArray
theorem keep_run (a n : Nat) : ∀ (xs : List Value) (i : Nat), i + xs.length ≤ n → ((xs.zipIdx i).filterMap fun (p : Value × Nat) => if (if (1 : Int) > 0 then decide ((a : Int) ≤ (p.2 : Nat)) && decide (((p.2 : Nat) : Int) < (n : Int)) && ((((p.2 : Nat) : Int) - (a : Int)) % 1 == 0) else decide ((n : Int) < (p.2 : Nat)) && decide (((p.2 : Nat) : Int) ≤ (a : Int)) && (((a : Int) - (p.2 : Nat)) % (-1) == 0)) = true then none else some p.1) = xs.take (a - i)
  | [], i, _ => by simp
  | x :: xs, i, h => by
    rw [List.zipIdx_cons, List.filterMap_cons]
    rw [List.length_cons] at h
    have ih := keep_run a n xs (i + 1) (by omega)
    simp only [if_pos (show (1 : Int) > 0 by decide)] at ih ⊢
    by_cases c : a ≤ i
    · have e1 : (a : Int) ≤ (i : Nat) := by omega
      have e2 : ((i : Nat) : Int) < (n : Int) := by omega
      have e3 : (((i : Nat) : Int) - (a : Int)) % 1 = 0 := by omega
      rw [show a - i = 0 by omega, List.take_zero]
      rw [show a - (i + 1) = 0 by omega, List.take_zero] at ih
      simp only [e1, e2, e3, decide_true, Bool.and_self, beq_self_eq_true, if_true]
      exact ih
    · have e1 : ¬ (a : Int) ≤ (i : Nat) := by omega
      simp only [e1, decide_false, Bool.false_and, Bool.false_eq_true, if_false]
      rw [show a - i = (a - (i + 1)) + 1 by omega, List.take_succ_cons]
      exact congrArg (x :: ·) ih
theorem keepTo_eq (a : Nat) (its : List Value) : keepTo a its.length its.toArray = (its.take a).toArray := by
  unfold keepTo
  have h := keep_run a its.length its 0 (by simp)
  rw [Nat.sub_zero] at h
  rw [← h]
section
variable {prog : Program} {w : World} {A : Around} {E : Value → Shared → Prop} {s : Shared}
theorem bounds_from {a n : Nat} (h : a ≤ n) : sliceBounds (some (a : Int)) none none n = ((a : Int), (n : Int), 1) := by
  simp only [sliceBounds, Option.getD_none]
  have h1 : ¬ ((a : Int) < 0) := by omega
  simp only [h1, if_false, show (1 : Int) > 0 by decide, if_true]
  congr 1
  omega
theorem delItem_from {l sl : Addr} {items : Array Value} {n : Nat} {vl vu : Value} {a : Nat} {Q : Unit → Shared → Prop} (e : s.heap.get? l = some { cls := .type "list", data := .seq items n }) (hs : s.heap.IsSliceOf sl vl vu .none)
    (pl : IsPart vl (some (a : Int))) (pu : IsPart vu none) (ha : a ≤ items.size) (hz : items.size ≤ sizeLine) (hz' : (keepTo a items.size items).size ≤ sizeLine + 1) (h : Q () { s with heap := s.heap.update l (Obj.mapSeq (keepTo a items.size)) }) : wpAny (model prog w) A (delItem (.ref l) (.ref sl)) Q E s := by
  have hl : s.heap.IsList l items := PySem.IsL.isList e
  obtain ⟨os, hos, hcs, hds⟩ := id hs
  have hTs : s.TypeIs (.ref sl) "slice" := ⟨os, hos, hcs⟩
  have hstep : ¬ ((rawPart none == rawInt 0) = true) := Bool.false_ne_true
  unfold delItem
  try with_reducible refine wpAny_holding ?_
  first | refine wpAny_bind (wpAny_pure ?_) | skip
  refine wpAny_bind (wpAny_sequenceKey hl.typeIs (by decide) ?_)
  refine wpAny_bind (wpAny_callSpecial?_slot (name := Str.ofString "__delitem__") hl.typeIs F.slot_list_delitem
    (wpAny_call_entry F.slot_list_delitem hl.typeIs F.entry_list_delitem ?_ (F.args_list_delitem_2 _ _)))
  show wpAny _ _ (Builtin.List.listSubscript? (.ref sl) >>= _) _ _ s
  refine wpAny_bind ?_
  unfold Builtin.List.listSubscript?
  refine wpAny_bind (wpAny_specialOf hTs slice_no_index ?_)
  simp only [Option.isNone_none, if_true]
  refine wpAny_pure ?_
  show wpAny _ _ (typeOf (.ref sl) >>= _) _ _ s
  refine wpAny_bind (wpAny_typeOf hTs ?_)
  first
    | rw [if_neg (by decide)]
    | refine PySem.W.KFB.if_not (by decide) ?_
  rw [listSliceParts_eq]
  refine wpAny_bind (wpAny_bind (wpAny_field hos hds (x := .none) rfl (wpAny_bind (wpAny_listPart .none ?_))))
  rw [if_neg hstep]
  refine wpAny_bind (wpAny_field hos hds (x := vl) rfl (wpAny_bind (wpAny_listPart pl ?_)))
  refine wpAny_bind (wpAny_field hos hds (x := vu) rfl (wpAny_bind (wpAny_listPart pu (wpAny_pure ?_))))
  unfold Builtin.List.listItems
  refine wpAny_bind (wpAny_bind (wpAny_seqItems e rfl (wpAny_pure ?_)))
  refine wpAny_bind (wpAny_of_eq ((sliceIndices_raw (some (a : Int)) none none items.size (by simp)).trans (congrArg (pure : Int × Int × Int → Sem (Int × Int × Int)) (bounds_from ha))) ?_)
  refine wpAny_bind (wpAny_rule ?_)
  show wpAny _ _ (updateSeq l (keepTo a items.size) >>= _) _ _ s
  refine wpAny_bind (wpAny_updateSeq (hz := hz) (_hz' := hz') e rfl ?_)
  refine wpAny_bind (wpAny_letGo ?_)
  first
    | exact wpAny_bind (wpAny_pure (wpAny_pure ⟨.none, rfl, wpAny_pure h⟩))
    | exact wpAny_pure ⟨.none, rfl, wpAny_pure h⟩
end
section
variable {X : Cx} {o lo hi e : Expr} {to tl th te : TE} {p p2 pos : Pos}
theorem del_from {pins : List (Addr × Obj)} {s : Shared} {σ : L2.St} {H : Hp} {l sl : Addr} {xs : List V} {a : Int} {vl : Value} {Q : Unit → Shared → Prop} (I : Inv X pins σ H s) (hH : H l = some (.lst xs)) (hs : s.heap.IsSliceOf sl vl .none .none) (ra : RelV (.int a) vl) (h0 : 0 ≤ a) (ha : a ≤ xs.length)
    (h : ∀ s', Inv X pins σ (upd H l (.lst (xs.take a.toNat))) s' → Q () s') : wpAny (model X.prog X.w) X.A (delItem (.ref l) (.ref sl)) Q X.xe s := by
  obtain ⟨ta, rfl⟩ := ra
  obtain ⟨z, its, n, r, hl, e⟩ := I.lstM hH
  obtain ⟨a', rfl⟩ := Int.eq_ofNat_of_zero_le h0
  simp only [Int.toNat_natCast] at h
  have ek : keepTo a' its.toArray.size its.toArray = (its.take a').toArray := by
    rw [List.size_toArray]
    exact keepTo_eq a' its
  refine delItem_from (a := a') e hs (.int _ _) .none (by rw [List.size_toArray]; omega) (by rw [List.size_toArray]; omega) (by rw [ek, List.size_toArray, List.length_take]; omega) (h _ ?_)
  refine I.lset (its' := its.take a') (t' := s.toks) hH e ek (r.take _) ?_
  rw [List.length_take]
  omega
def tDelS (to tl : TE) : TS := fun D σ H => to σ H fun x H1 => tl σ H1 fun y H2 => ∃ (l : Addr) (xs : List V) (a : Int), x = .ref l ∧ y = .int a ∧ H2 l = some (.lst xs) ∧ 0 ≤ a ∧ a ≤ xs.length ∧ D.nx σ (upd H2 l (.lst (xs.take a.toNat)))
theorem ps_delS (ho : PE X o to) (hl : PE X lo tl) : PS X (.Delete [.Subscript o (.Slice (some lo) none none p2) p] pos) (tDelS to tl) := by
  refine ⟨fun pins s σ H D I h => ?_⟩
  refine wpAny_Delete (wpAny_deleteEach_cons (wpAny_delete_Subscript (thn (ho.run pins s σ H _ I h) fun u s1 ⟨x, H1, I1, rx, q1⟩ => ?_)))
  refine wpAny_Slice (thn (show wpAny (model X.prog X.w) X.A (evalPart (some lo) X.env) (EP X pins σ _) X.xe s1 from hl.run pins s1 σ H1 _ I1 q1) ?_)
  · rintro vl s2 ⟨y, H2, I2, ry, l, xs, a, rfl, rfl, hH, h0, ha, q⟩
    rw [evalPart_none]
    refine wpAny_pure ?_
    refine wpAny_pure ?_
    cases (show u = Value.ref l from rx)
    have I3 : Inv X pins σ H2 { s2 with heap := s2.heap.push { cls := .type "slice", data := .fields #[vl, .none, .none] } } := I2.kept (t' := s2.toks) fun b ob q => Heap.get?_push_of_some _ q
    exact del_from I3 hH (Heap.IsSliceOf.new ..) ry h0 ha fun s3 I4 => wpAny_deleteEach_nil ⟨σ, _, I4, q⟩
/-! ### xs[a:c] = ys -/
def tSetS (te to tl th : TE) : TS := fun D σ H => te σ H fun v H1 => to σ H1 fun x H2 => tl σ H2 fun y H3 => th σ H3 fun z H4 => ∃ (l b : Addr) (xs ys : List V) (a c : Int), x = .ref l ∧ v = .ref b ∧ y = .int a ∧ z = .int c ∧ H4 l = some (.lst xs) ∧ H4 b = some (.lst ys) ∧ l ≠ b ∧ 0 ≤ a ∧ a ≤ c ∧ c ≤ xs.length ∧ xs.length + ys.length ≤ sizeLine ∧
  D.nx σ (upd H4 l (.lst (xs.take a.toNat ++ ys ++ xs.drop c.toNat)))
theorem ps_setS (he : PE X e te) (ho : PE X o to) (hl : PE X lo tl) (hh : PE X hi th) (hs : swapsWithSole [.Subscript o (.Slice (some lo) (some hi) none p2) p] e pos.line X.env = pure false) (hw : swappedStores [.Subscript o (.Slice (some lo) (some hi) none p2) p] e X.env = pure none)
    (h1 : (assignEach [.Subscript o (.Slice (some lo) (some hi) none p2) p] X.env).map (·.2) = [assign (.Subscript o (.Slice (some lo) (some hi) none p2) p) X.env])
    (ha : ∀ v, assign (.Subscript o (.Slice (some lo) (some hi) none p2) p) X.env v = (do
      let ov ← holding [v] (eval o X.env)
      let iv ← holding [v, ov] (eval (.Slice (some lo) (some hi) none p2) X.env)
      standAt p
      holding [v, ov, iv] (setItem ov iv v)
      release [iv, v, ov] [])) : PS X (.Assign [.Subscript o (.Slice (some lo) (some hi) none p2) p] e pos) (tSetS te to tl th) := by
  refine ⟨fun pins s σ H D I h => ?_⟩
  refine wpAny_Assign_stores (thn (he.run pins s σ H _ I h) fun v s1 ⟨x, H1, I1, r1, q1⟩ => ?_) hs hw
  rw [h1]
  refine thn (show wpAny (model X.prog X.w) X.A (assign (.Subscript o (.Slice (some lo) (some hi) none p2) p) X.env v) (fun _ s' => ∃ σ' H', Inv X pins σ' H' s' ∧ D.nx σ' H') X.xe s1 from ?_) fun _ s2 q => q
  rw [ha]
  refine wpAny_bind (wpAny_holding (thn (ho.run pins s1 σ H1 _ I1 q1) fun ov s2 ⟨y, H2, I2, r2, q2⟩ => ?_))
  refine wpAny_bind (wpAny_holding (wpAny_Slice (thn (show wpAny (model X.prog X.w) X.A (evalPart (some lo) X.env) (EP X pins σ _) X.xe s2 from hl.run pins s2 σ H2 _ I2 q2) ?_)))
  rintro vl s3 ⟨z, H3, I3, r3, q3⟩
  refine thn (show wpAny (model X.prog X.w) X.A (evalPart (some hi) X.env) (EP X pins σ _) X.xe s3 from hh.run pins s3 σ H3 _ I3 q3) ?_
  rintro vu s4 ⟨z2, H4, I4, r4, l, b, xs, ys, a, c, rfl, rfl, rfl, rfl, hH, hB, ne, h0, hac, hc, hz, q⟩
  rw [evalPart_none]
  refine wpAny_pure ?_
  cases (show ov = Value.ref l from r2)
  cases (show v = Value.ref b from r1)
  have I5 : Inv X pins σ H4 { s4 with heap := s4.heap.push { cls := .type "slice", data := .fields #[vl, vu, .none] } } := I4.kept (t' := s4.toks) fun b ob q => Heap.get?_push_of_some _ q
  refine wpAny_bind (wpAny_standAt (wpAny_bind (wpAny_holding (set_slice I5 hH hB ne (Heap.IsSliceOf.new ..) r3 r4 h0 hac hc hz fun s5 I6 => ?_))))
  exact wpAny_release ⟨σ, _, I6, q⟩
/-! ### == [], != [] of a list of anything -/
def rNil (K : Fr) (neg : Bool) : R2 := fun x y H Q => ∃ a b xs, x = .ref a ∧ y = .ref b ∧ SqL K H a xs ∧ SqL K H b [] ∧ Q (.bl (neg ^^ xs.isEmpty)) H
theorem op_eqNil {Y : Cx} (hu : Y.A.units + 64 < cLine) : OpR Y (compareOp .Eq) (rNil Y.K false) := by
  intro pins s σ H x y v u Q I rx ry h
  obtain ⟨a, b, xs, rfl, rfl, h1, h2, q⟩ := h
  cases (show v = Value.ref a from rx)
  cases (show u = Value.ref b from ry)
  obtain ⟨its, rv, p, hz⟩ := I.list h1
  obtain ⟨its2, rv2, p2, hz2⟩ := I.list h2
  have e2 : its2 = [] := by cases rv2; rfl
  subst e2
  cases xs with
  | nil =>
    have e1 : its = [] := by cases rv; rfl
    subst e1
    exact SeqAt.RcAt.lists (e := fun _ => true) p.isList p2.isList rfl (by omega) (fun j j1 => by simp at j1) _ _ _ _ ⟨.bl _, H, I, rfl, q⟩
  | cons z zs =>
    have hl : its.length = (z :: zs).length := rv.length.symm
    exact SeqAt.RcAt.lists_lengths p.isList p2.isList (by rw [List.size_toArray, hl]; simp) (by omega) _ _ _ _ ⟨.bl _, H, I, rfl, q⟩
theorem op_neNil {Y : Cx} (hu : Y.A.units + 64 < cLine) : OpR Y (compareOp .NotEq) (rNil Y.K true) := by
  intro pins s σ H x y v u Q I rx ry h
  obtain ⟨a, b, xs, rfl, rfl, h1, h2, q⟩ := h
  cases (show v = Value.ref a from rx)
  cases (show u = Value.ref b from ry)
  obtain ⟨its, rv, p, hz⟩ := I.list h1
  obtain ⟨its2, rv2, p2, hz2⟩ := I.list h2
  have e2 : its2 = [] := by cases rv2; rfl
  subst e2
  cases xs with
  | nil =>
    have e1 : its = [] := by cases rv; rfl
    subst e1
    exact SeqAt.RcNeAt.lists (e := fun _ => true) p.isList p2.isList rfl (by omega) (fun j j1 => by simp at j1) _ _ _ _ ⟨.bl _, H, I, rfl, q⟩
  | cons z zs =>
    have hl : its.length = (z :: zs).length := rv.length.symm
    exact SeqAt.RcNeAt.lists_lengths p.isList p2.isList (by rw [List.size_toArray, hl]; simp) (by omega) _ _ _ _ ⟨.bl _, H, I, rfl, q⟩
end
end Pm
/-! What is walked over a world; comprehensions. -/
namespace Pm.Ob
open PySem PySem.Spec PyProof.Rows L2 RZ Pm
structure Src where
  nxt : Wd → Nat → Option (Option OV)
  many : Nat
def nxtL (xs : List OV) : Wd → Nat → Option (Option OV) := fun _ k => if k ≤ xs.length then some xs[k]? else none
def srcL (xs : List OV) : Src := ⟨nxtL xs, xs.length + 1⟩
def nxtC (n : Nat) : Wd → Nat → Option (Option OV) := fun W k => match W[n]? with
  | some (.lst ys) => some ys[k]?
  | _ => none
def srcC (W : Wd) (n : Nat) : Src := ⟨nxtC n, lenC W n + 1⟩
def srcV (W : Wd) : OV → Option Src
  | .r n => match W[n]? with
    | some (.lst _) => some (srcC W n)
    | _ => none
  | .d x => (gSeq x).bind fun ds => some (srcL (ds.map .d))
  | .t xs => some (srcL xs)
  | .q _ => none
  | .x _ _ => none
def nxtE (n : Nat) : Wd → Nat → Option (Option OV) := fun W k => match W[n]? with
  | some (.lst ys) => some (ys[k]?.map fun x => mkT [.d (.int (k : Nat)), x])
  | _ => none
def nxtZ (n m : Nat) : Wd → Nat → Option (Option OV) := fun W k => match W[n]?, W[m]? with
  | some (.lst ys), some (.lst zs) => match ys[k]?, zs[k]? with
    | some x, some y => some (some (mkT [x, y]))
    | _, _ => some none
  | _, _ => none
/-- what is yielded while a world goes on -/
def ItS (K : Fr) (G M0 as : List Addr) (H : Hp) (J : It) (nxt : Wd → Nat → Option (Option OV)) : Prop := ∀ (M1 as' : List Addr) (H' : Hp) (W' : Wd), Pre as as' → Same (rm (M0 ++ as) H) (rm (M1 ++ as') H') → WOk K G M1 as' H' W' → ∀ k,
  (nxt W' k = some none → J.stop k H') ∧ ∀ x, nxt W' k = some (some x) → J.go k H' ∧ ∀ v H'', J.yld k H' v H'' → Same H' H'' ∧ Ov K (rm (M1 ++ as') H'') as' v x
theorem nxtL_stop {xs : List OV} {W : Wd} {k : Nat} (h : nxtL xs W k = some none) : k = xs.length := by
  unfold nxtL at h
  by_cases c : k ≤ xs.length
  · rw [if_pos c] at h
    have e : xs[k]? = none := by injection h
    have := List.getElem?_eq_none_iff.mp e
    omega
  · rw [if_neg c] at h; cases h
theorem nxtL_go {xs : List OV} {W : Wd} {k : Nat} {x : OV} (h : nxtL xs W k = some (some x)) : xs[k]? = some x := by
  unfold nxtL at h
  by_cases c : k ≤ xs.length
  · rw [if_pos c] at h
    injection h
  · rw [if_neg c] at h; cases h
section
variable {K : Fr} {G M0 as : List Addr} {H : Hp}
theorem its_data {J : It} {ds : List PyData} (h : IterOk K (M0 ++ as) H J ds) : ItS K G M0 as H J (nxtL (ds.map .d)) := fun M1 as' H' W' pre sm w k => by
  obtain ⟨q1, q2⟩ := h (M1 ++ as') H' sm w.dom
  refine ⟨fun e => ?_, fun x e => ?_⟩
  · rw [nxtL_stop e, List.length_map]
    exact q2
  · have e' := nxtL_go e
    rw [List.getElem?_map] at e'
    cases hd : ds[k]? with
    | none => rw [hd] at e'; cases e'
    | some d =>
      rw [hd] at e'
      have ex : x = .d d := (Option.some.inj e').symm
      subst ex
      obtain ⟨z1, z2⟩ := q1 k d hd
      exact ⟨z1, fun v H'' y => by obtain ⟨w1, w2⟩ := z2 v H'' y; exact ⟨w1, .d w2⟩⟩
theorem its_tup {p : Addr} {vs : List V} {xs : List OV} (h : SqT K (rm (M0 ++ as) H) p vs) (r : OvAll K (rm (M0 ++ as) H) as vs xs) : ItS K G M0 as H (Itt K p) (nxtL xs) := fun M1 as' H' W' pre sm w k => by
  have h' : SqT K H' p vs := same_t rm_le (same_t sm h)
  refine ⟨fun e => ?_, fun x e => ?_⟩
  · rw [nxtL_stop e]
    exact ⟨vs, h', by rw [OvAll.len r]; exact Nat.le_refl _⟩
  · obtain ⟨v, hv, rv⟩ := OvAll.get r (nxtL_go e)
    refine ⟨⟨vs, v, h', hv⟩, fun u H'' y => ?_⟩
    obtain ⟨rfl, hy⟩ := y
    have ev := hy vs h'
    rw [hv] at ev
    cases ev
    exact ⟨Same.refl _, Ov.up sm pre rv⟩
theorem its_cell {p : Addr} {n : Nat} (hp : as[n]? = some p) : ItS K G M0 as H (Itl K p) (nxtC n) := fun M1 as' H' W' pre sm w k => by
  unfold nxtC
  cases hw : W'[n]? with
  | none => exact ⟨fun e => (by cases e), fun x e => (by cases e)⟩
  | some c =>
    cases c with
    | obj j fs => exact ⟨fun e => (by cases e), fun x e => (by cases e)⟩
    | lst ys =>
      obtain ⟨vs, z1, z2⟩ := w.cell n p _ (pre _ _ hp) hw
      have sq : SqL K H' p vs := SqL.of z1
      refine ⟨fun e => ?_, fun x e => ?_⟩
      · have e' : ys[k]? = none := by injection e
        exact ⟨vs, sq, by rw [OvAll.len z2]; exact List.getElem?_eq_none_iff.mp e'⟩
      · have e' : ys[k]? = some x := by injection e
        obtain ⟨v, hv, rv⟩ := OvAll.get z2 e'
        refine ⟨⟨vs, v, sq, hv⟩, fun u H'' y => ?_⟩
        obtain ⟨rfl, hy⟩ := y
        have ev := hy vs sq
        rw [hv] at ev
        cases ev
        exact ⟨Same.refl _, rv⟩
theorem its_enum {p : Addr} {n : Nat} (hp : as[n]? = some p) : ItS K G M0 as H (Ite K p) (nxtE n) := fun M1 as' H' W' pre sm w k => by
  unfold nxtE
  cases hw : W'[n]? with
  | none => exact ⟨fun e => (by cases e), fun x e => (by cases e)⟩
  | some c =>
    cases c with
    | obj j fs => exact ⟨fun e => (by cases e), fun x e => (by cases e)⟩
    | lst ys =>
      obtain ⟨vs, z1, z2⟩ := w.cell n p _ (pre _ _ hp) hw
      have sq : SqL K H' p vs := SqL.of z1
      refine ⟨fun e => ?_, fun x e => ?_⟩
      · have e' : ys[k]? = none := by
          cases hy : ys[k]? with
          | none => rfl
          | some y => simp [hy] at e
        exact ⟨vs, sq, by rw [OvAll.len z2]; exact List.getElem?_eq_none_iff.mp e'⟩
      · cases hy : ys[k]? with
        | none => simp [hy] at e
        | some y =>
          have ex : x = mkT [.d (.int (k : Nat)), y] := by simpa [hy] using e.symm
          subst ex
          obtain ⟨v, hv, rv⟩ := OvAll.get z2 hy
          refine ⟨⟨vs, v, sq, hv⟩, fun u H'' yl => ?_⟩
          obtain ⟨T, x', rfl, nT, rfl, q⟩ := yl
          have ev := q vs sq
          rw [hv] at ev
          cases ev
          have s := same_new (o := .tup [.int (k : Nat), v]) nT
          have xx := X2.same (M0 := M1) (as := as') s
          exact ⟨s, ov_tup (fun m => w.dom T m nT) upd_same (.cons (.d (.int _)) (.cons (xx.ov rv) .nil))⟩
theorem its_zip {p q : Addr} {n m : Nat} (hp : as[n]? = some p) (hq : as[m]? = some q) : ItS K G M0 as H (Itz K p q) (nxtZ n m) := fun M1 as' H' W' pre sm w k => by
  unfold nxtZ
  cases hw : W'[n]? with
  | none => exact ⟨fun e => (by cases e), fun x e => (by cases e)⟩
  | some c =>
    cases c with
    | obj j fs => exact ⟨fun e => (by cases e), fun x e => (by cases e)⟩
    | lst ys =>
      cases hw2 : W'[m]? with
      | none => exact ⟨fun e => (by cases e), fun x e => (by cases e)⟩
      | some c2 =>
        cases c2 with
        | obj j fs => exact ⟨fun e => (by cases e), fun x e => (by cases e)⟩
        | lst zs =>
          obtain ⟨vs, z1, z2⟩ := w.cell n p _ (pre _ _ hp) hw
          obtain ⟨us, y1, y2⟩ := w.cell m q _ (pre _ _ hq) hw2
          have sq : SqL K H' p vs := SqL.of z1
          have sq2 : SqL K H' q us := SqL.of y1
          cases hy : ys[k]? with
          | none => exact ⟨fun e => ⟨vs, us, sq, sq2, .inl (by rw [OvAll.len z2]; exact List.getElem?_eq_none_iff.mp hy)⟩, fun x e => by simp [hy] at e⟩
          | some y =>
            cases hz : zs[k]? with
            | none => exact ⟨fun e => ⟨vs, us, sq, sq2, .inr (by rw [OvAll.len y2]; exact List.getElem?_eq_none_iff.mp hz)⟩, fun x e => by simp [hy, hz] at e⟩
            | some z =>
              refine ⟨fun e => (by simp [hy, hz] at e), fun x e => ?_⟩
              have ex : x = mkT [y, z] := by simpa [hy, hz] using e.symm
              subst ex
              obtain ⟨v, hv, rv⟩ := OvAll.get z2 hy
              obtain ⟨u, hu, ru⟩ := OvAll.get y2 hz
              refine ⟨⟨vs, us, v, u, sq, sq2, hv, hu⟩, fun t H'' yl => ?_⟩
              obtain ⟨T, x', y', rfl, nT, rfl, q1, q2⟩ := yl
              have ev := q1 vs sq
              have eu := q2 us sq2
              rw [hv] at ev
              rw [hu] at eu
              cases ev
              cases eu
              have s := same_new (o := .tup [v, u]) nT
              have xx := X2.same (M0 := M1) (as := as') s
              exact ⟨s, ov_tup (fun m => w.dom T m nT) upd_same (.cons (xx.ov rv) (.cons (xx.ov ru) .nil))⟩
end
variable {ι : Type}
abbrev OFI := Wd → OEnv → Option (Wd × Src)
def OI (X : ι → Cx) (K : Fr) (G : List Addr) (tg iter : Expr) (f : OFI) : Prop := ∃ t : TI, (∀ i, PI (X i) tg iter t) ∧ ∀ (M0 as : List Addr) (σ : L2.St) (H : Hp) (W : Wd) (ρ : OEnv) (r : Wd × Src) (R : It → Hp → Prop), SOk K G M0 as H σ W ρ → f W ρ = some r →
  (∀ as' J H', X2 M0 as H as' H' → SOk K G M0 as' H' σ r.1 ρ → ItS K G M0 as' H' J r.2.nxt → R J H') → t σ H R
section
variable {X : ι → Cx} {K : Fr} {G : List Addr} {a b c e tg iter elt : Expr} {es : List Expr} {fa fb fe : OFE} {ft : OFT} {fi : OFI} {pos p : Pos}
def oIPure (f : FA) : OFI := fun W ρ => (f (toE ρ)).bind fun r => some (W, srcL (r.2.map .d))
theorem oi_pure {wi : WI} {f : FA} (c : cA none wi f) (h : DI X K tg iter wi) : OI X K G tg iter (oIPure f) := by
  obtain ⟨ti, i1, i2⟩ := h
  refine ⟨ti, i1, fun M0 as σ H W ρ r R S h k => ?_⟩
  obtain ⟨r1, h1, h⟩ := bnd h
  cases h
  refine i2 (M0 ++ as) (M0 ++ as) [] σ H (toE ρ) (fun _ ds => ds = r1.2) _ S.env (c (toE ρ) r1 h1 (fun _ ds => ds = r1.2) rfl) fun ρ' items J H' p x E' it => ?_
  subst p
  have s : Same H H' := fun a o q => x.keep a o (by simp) q
  exact k as J H' (X2.same s) (S.same s) (its_data it)
def oISeq (a : OFE) : OFI := fun W ρ => (a W ρ).bind fun r => (srcV r.1 r.2).bind fun s => some (r.1, s)
theorem oi_val (h : OE X K G e fe) (hK : ∀ i, (X i).K = K := by intro i; rfl) : OI X K G tg e (oISeq fe) := by
  obtain ⟨t, a1, a2⟩ := h
  refine ⟨iAny K t, fun i => by rw [← hK i]; exact pi_any (a1 i), fun M0 as σ H W ρ r R S h k => ?_⟩
  obtain ⟨r1, h1, h⟩ := bnd h
  obtain ⟨s, h2, h⟩ := bnd h
  cases h
  refine a2 M0 as σ H W ρ r1 _ S h1 fun as1 v H1 x1 S1 rv => ?_
  revert h2 rv
  generalize r1.2 = z
  intro h2 rv
  cases rv with
  | @d v x r =>
    obtain ⟨ds, hd, h2⟩ := bnd h2
    cases h2
    cases x with
    | list es =>
      cases hd
      obtain ⟨p, vs, rfl, z1, z2⟩ := Dt.isLst r
      exact .inl ⟨p, rfl, ⟨vs, SqL.of (rm_le _ _ z1)⟩, k as1 _ H1 x1 S1 (its_data (it_list z1 z2))⟩
    | tuple es =>
      cases hd
      obtain ⟨p, vs, rfl, z1, z2⟩ := Dt.isTup r
      exact .inr (.inl ⟨p, rfl, ⟨vs, same_t rm_le z1⟩, k as1 _ H1 x1 S1 (its_data (it_tup z1 z2))⟩)
    | str s =>
      cases hd
      rw [Dt.isStr r]
      exact .inr (.inr ⟨s, rfl, k as1 _ H1 x1 S1 (its_data it_str)⟩)
    | _ => cases hd
  | @t p vs xs z1 z2 => cases h2; exact .inr (.inl ⟨p, rfl, ⟨vs, same_t rm_le z1⟩, k as1 _ H1 x1 S1 (its_tup z1 z2)⟩)
  | q _ _ => cases h2
  | x0 _ => cases h2
  | x1 _ _ _ _ => cases h2
  | @r p n hp =>
    simp only [srcV] at h2
    cases hw : r1.1[n]? with
    | none => rw [hw] at h2; cases h2
    | some c =>
      rw [hw] at h2
      cases c with
      | obj k fs => cases h2
      | lst xs =>
        cases h2
        obtain ⟨vs, z1, z2⟩ := S1.w.cell n p _ hp hw
        exact .inl ⟨p, rfl, ⟨vs, SqL.of z1⟩, k as1 _ H1 x1 S1 (its_cell hp)⟩
/-- enumerate of a list that is a cell -/
def srcE (W : Wd) : OV → Option Src
  | .r n => match W[n]? with
    | some (.lst _) => some ⟨nxtE n, lenC W n + 1⟩
    | _ => none
  | _ => none
def oIEnum (a : OFE) : OFI := fun W ρ => (a W ρ).bind fun r => (srcE r.1 r.2).bind fun s => some (r.1, s)
theorem oi_enum {tpos : Pos} {elts : List Expr} {kk : Nat} (hm : ∀ i, (X i).mg "enumerate" = none) (h : OE X K G e fe) (hK : ∀ i, (X i).K = K := by intro i; rfl) (hg : ∀ i, Gl (X i) "enumerate" := by intro i; rfl) (hs : ∀ i, starEach [e] (X i).env = [(false, eval e (X i).env)] := by intro i; rfl)
    (he : ∀ i, starEach (e :: []) (X i).env = (false, eval e (X i).env) :: starEach [] (X i).env := by intro i; rfl) : OI X K G (.Tuple elts kk tpos) (.Call (.Name "enumerate" p) [e] [] pos) (oIEnum fe) := by
  obtain ⟨t, a1, a2⟩ := h
  refine ⟨iEnum K (tCons t tNil), fun i => by rw [← hK i]; exact pi_enum (hg i) (hm i) (pa_cons (a1 i) pa_nil (he i)) (hs i), fun M0 as σ H W ρ r R S h k => ?_⟩
  obtain ⟨r1, h1, h⟩ := bnd h
  obtain ⟨s, h2, h⟩ := bnd h
  cases h
  refine a2 M0 as σ H W ρ r1 _ S h1 fun as1 v H1 x1 S1 rv => ?_
  revert h2 rv
  generalize r1.2 = z
  intro h2 rv
  cases rv with
  | d _ => cases h2
  | t _ _ => cases h2
  | q _ _ => cases h2
  | x0 _ => cases h2
  | x1 _ _ _ _ => cases h2
  | @r p n hp =>
    simp only [srcE] at h2
    cases hw : r1.1[n]? with
    | none => rw [hw] at h2; cases h2
    | some c =>
      rw [hw] at h2
      cases c with
      | obj k fs => cases h2
      | lst xs =>
        cases h2
        obtain ⟨vs, z1, z2⟩ := S1.w.cell n p _ hp hw
        exact ⟨p, vs, rfl, SqL.of z1, k as1 _ H1 x1 S1 (its_enum hp)⟩
/-- zip of two lists that are cells -/
def srcZ (W : Wd) : OV → OV → Option Src
  | .r n, .r m => match W[n]?, W[m]? with
    | some (.lst _), some (.lst _) => some ⟨nxtZ n m, lenC W n + 1⟩
    | _, _ => none
  | _, _ => none
def oIZip (a b : OFE) : OFI := fun W ρ => (a W ρ).bind fun r => (b r.1 ρ).bind fun t => (srcZ t.1 r.2 t.2).bind fun s => some (t.1, s)
theorem oi_zip {tpos : Pos} {elts : List Expr} {kk : Nat} (hm : ∀ i, (X i).mg "zip" = none) (ha : OE X K G a fa) (hb : OE X K G b fb) (hK : ∀ i, (X i).K = K := by intro i; rfl) (hg : ∀ i, Gl (X i) "zip" := by intro i; rfl) (hs : ∀ i, starEach [a, b] (X i).env = (false, eval a (X i).env) :: starEach [b] (X i).env := by intro i; rfl)
    (hs2 : ∀ i, starEach [b] (X i).env = (false, eval b (X i).env) :: starEach [] (X i).env := by intro i; rfl) (hpl : ∀ i, (backTo pos (starEach [b] (X i).env)).any (·.1) = false := by intro i; rfl) : OI X K G (.Tuple elts kk tpos) (.Call (.Name "zip" p) [a, b] [] pos) (oIZip fa fb) := by
  obtain ⟨t, a1, a2⟩ := ha
  obtain ⟨u, b1, b2⟩ := hb
  refine ⟨iZipA K (tCons t (tCons u tNil)), fun i => by rw [← hK i]; exact pi_zipA (hg i) (hm i) (pa_cons (a1 i) (pa_cons (b1 i) pa_nil (hs2 i)) (hs i)) (hs i) (hpl i), fun M0 as σ H W ρ r R S h k => ?_⟩
  obtain ⟨r1, h1, h⟩ := bnd h
  obtain ⟨r2, h2, h⟩ := bnd h
  obtain ⟨s, h3, h⟩ := bnd h
  cases h
  refine a2 M0 as σ H W ρ r1 _ S h1 fun as1 v H1 x1 S1 rv => ?_
  refine b2 M0 as1 σ H1 r1.1 ρ r2 _ S1 h2 fun as2 v2 H2 x2 S2 rv2 => ?_
  have rx := x2.ov rv
  have xx := x1.trans x2
  revert h3 rx rv2
  generalize r1.2 = z
  generalize r2.2 = z2
  intro h3 rv2 rx
  cases rx with
  | d _ => cases h3
  | t _ _ => cases h3
  | q _ _ => cases h3
  | x0 _ => cases h3
  | x1 _ _ _ _ => cases h3
  | @r p n hp =>
    cases rv2 with
    | d _ => cases h3
    | t _ _ => cases h3
    | q _ _ => cases h3
    | x0 _ => cases h3
    | x1 _ _ _ _ => cases h3
    | @r q m hq =>
      simp only [srcZ] at h3
      cases hw : r2.1[n]? with
      | none => rw [hw] at h3; cases h3
      | some c =>
        rw [hw] at h3
        cases c with
        | obj k fs => cases h3
        | lst xs =>
          cases hw2 : r2.1[m]? with
          | none => rw [hw2] at h3; cases h3
          | some c2 =>
            rw [hw2] at h3
            cases c2 with
            | obj k fs => cases h3
            | lst ys =>
              cases h3
              obtain ⟨vs, z1, _⟩ := S2.w.cell n p _ hp hw
              obtain ⟨us, y1, _⟩ := S2.w.cell m q _ hq hw2
              exact ⟨p, q, vs, us, rfl, .inl ⟨SqL.of z1, SqL.of y1, k as2 _ H2 xx S2 (its_zip hp hq)⟩⟩
end
/-! ### loops over such -/
def forS (g : OFG) (b : OFS) (nxt : Wd → Nat → Option (Option OV)) : Nat → Nat → OFS
  | 0, _, _, _ => none
  | m + 1, k, W, ρ => (nxt W k).bind fun o => match o with
    | none => some (.nx W ρ)
    | some x => (g x ρ).bind fun ρ1 => (b W ρ1).bind fun fl => match fl with
      | .nx W1 ρ1 => forS g b nxt m (k + 1) W1 ρ1
      | .ct W1 ρ1 => forS g b nxt m (k + 1) W1 ρ1
      | .bk W1 ρ1 => some (.nx W1 ρ1)
      | .rt W1 x => some (.rt W1 x)
def oForI (i : OFI) (g : OFG) (b : OFS) : OFS := fun W ρ => (i W ρ).bind fun r => forS g b r.2.nxt r.2.many 0 r.1 ρ
section
variable {Y : Cx} {K : Fr} {G : List Addr} {tg iter : Expr} {body : List Stmt} {fi : OFI} {f : OFS} {wg : OFG} {pos : Pos}
theorem os_forI (h : OI (one Y) K G tg iter fi) (hg : OG Y K G tg wg) (hb : OSs Y K G body f)
    (hp : ∀ ti g tb, PI Y tg iter ti → PG Y tg g → PSs Y body tb → PS Y (.For tg iter body [] pos) (tFor ti g tb) := by intro ti g tb h1 h2 h3; exact ps_for PassesOwn.never rfl h1 h2 h3) : OS Y K G (.For tg iter body [] pos) (oForI fi wg f) := by
  obtain ⟨ti, i1, i2⟩ := h
  obtain ⟨g, g1, g2⟩ := hg
  obtain ⟨tb, b1, b2⟩ := hb
  refine ⟨tFor ti g tb, hp ti g tb (i1 ()) g1 b1, fun M0 as σ H W ρ fl' D S h F => ?_⟩
  obtain ⟨r1, h1, h⟩ := bnd h
  refine i2 M0 as σ H W ρ r1 _ S h1 fun as1 J H1 x1 S1 it => ?_
  have F1 := F.go x1
  refine ⟨fun n m σ2 H2 => ∃ (as2 : List Addr) (W2 : Wd) (ρ2 : OEnv), X2 M0 as1 H1 as2 H2 ∧ SOk K G M0 as2 H2 σ2 W2 ρ2 ∧ forS wg f r1.2.nxt m n W2 ρ2 = some fl', ⟨r1.2.many, as1, r1.1, ρ, X2.refl, S1, h⟩, ?_⟩
  rintro n m σ2 H2 ⟨as2, W2, ρ2, x2, S2, h2⟩
  cases m with
  | zero => cases h2
  | succ m =>
    obtain ⟨o, h3, h2⟩ := bnd h2
    obtain ⟨stop, go⟩ := it M0 as2 H2 W2 x2.pre x2.rm S2.w n
    cases o with
    | none => cases h2; exact .inl ⟨stop h3, F1 as2 σ2 H2 x2 S2⟩
    | some x =>
      right
      obtain ⟨q1, q2⟩ := go x h3
      obtain ⟨ρ3, e2, h2⟩ := bnd h2
      obtain ⟨f1, e3, h2⟩ := bnd h2
      refine ⟨q1, fun σ' H' => ∃ (as2 : List Addr) (W2 : Wd) (ρ2 : OEnv), X2 M0 as1 H1 as2 H' ∧ SOk K G M0 as2 H' σ' W2 ρ2 ∧ forS wg f r1.2.nxt m (n + 1) W2 ρ2 = some fl', fun σ' H' q => ⟨m, Nat.lt_succ_self m, q⟩, fun v H3 yl => ?_⟩
      obtain ⟨s3, rv⟩ := q2 v H3 yl
      refine g2 M0 as2 σ2 H3 W2 ρ2 ρ3 _ v _ (S2.same s3) rv e2 fun σ3 S3 => ?_
      have x3 := x2.trans (X2.same (M0 := M0) (as := as2) s3)
      refine b2 M0 as2 σ3 H3 W2 ρ3 f1 _ S3 e3 ?_
      cases f1 with
      | nx W2 ρ2 => exact fun as' σ' H' y S' => ⟨as', W2, ρ2, x3.trans y, S', h2⟩
      | ct W2 ρ2 => exact fun as' σ' H' y S' => ⟨as', W2, ρ2, x3.trans y, S', h2⟩
      | bk W2 ρ2 => cases h2; exact fun as' σ' H' y S' => F1 as' σ' H' (x3.trans y) S'
      | rt W2 z => cases h2; exact fun as' v H' y w' r' => F1 as' v H' (x3.trans y) w' r'
end
end Pm.Ob
/-! Errors of the program's own classes, held as values (not raised): made by place or by name. -/
namespace Pm.Ob
open PySem PySem.Spec PyProof.Rows L2 Pm
/-! ### a class of errors called with keywords -/
section
variable {P : Program} {w : World} {A : Around} {E : Value → Shared → Prop} {R : Result → Shared → Prop} {hp : Heap} {gn : Array GenState} {dr : Drawn} {tk : Nat} {os : OsState} {nm qn : Str} {C N fI : Addr} {bs bm bt : List Value} {hd : Bool} {sn : List Str} {sb : List Value} {ab : Bool} {co : Option Bool} {dd : Option Addr} {k0 k1 k2 k3 k5 : Option Value} {B nw ini : String} {us : List Value} {kw : List (Str × Value)}
theorem kwCheck {M : Model} (F : ExcBaseFacts B nw ini bt) (hT : ∀ Z : String, bm.contains (.type Z) = bt.contains (.type Z)) {Q : Unit → Shared → Prop} (hC : hp.get? C = some (excClassObj nm qn C N bs bm hd sn sb ab co dd k0 k1 k2 k3 k5 nw)) (hq : Q () ⟨hp, gn, dr, tk, os⟩) :
    wpAny M A (checkBuiltinCall nw ⟨.ref C :: us, kw⟩) Q E ⟨hp, gn, dr, tk, os⟩ := by
  have hc : (Value.ref C :: bm).contains (.type B) = true := by rw [List.contains_cons, hT, F.hasB, Bool.or_true]
  have hs := F.noStar; simp only [checkBuiltinCall, F.newKind, F.newSplit, F.newRow]
  repeat (first | (refine wpAny_isSubtype_exc hC ?_; rw [hc]) | refine wpAny_loadPart_at hC ?_ | refine wpAny_madeBy_exc hC ?_ | refine wpAny_staticBase_exc hC ?_ | simp only [bne_self_eq_false, Bool.false_eq_true, if_false] | wp_step)
  exact hq
theorem kwNew (F : ExcBaseFacts B nw ini bt) (hT : ∀ Z : String, bm.contains (.type Z) = bt.contains (.type Z)) (hC : hp.get? C = some (excClassObj nm qn C N bs bm hd sn sb ab co dd k0 k1 k2 k3 k5 nw))
    (hq : R (.ok (.ret (.ref (hp.objs.size + 1)))) ⟨(hp.push { cls := .type "tuple", data := .seq us.toArray }).push { cls := .ref C, data := .fields #[.ref hp.objs.size, .none, .none, .none, .bool false, .none] }, gn, dr, tk, os⟩) (hl : us.length ≤ sizeLine) :
    codeAny (model P w) A (.builtin nw ⟨.ref C :: us, kw⟩) R ⟨hp, gn, dr, tk, os⟩ := by
  have he := F.ends
  have c1 : (Value.ref C :: bm).contains (.type B) = true := by rw [List.contains_cons, hT, F.hasB, Bool.or_true]
  have c2 : (Value.ref C :: bm).contains (.type "AttributeError") = false := by rw [List.contains_cons, hT, F.noAttr]; rfl
  have c3 : (Value.ref C :: bm).contains (.type "NameError") = false := by rw [List.contains_cons, hT, F.noName]; rfl
  apply codeAny_builtinAt F.entry
  unfold Builtin.«BaseException.__new__»
  refine PySem.wpAt_bind ?_
  show PySem.wpAt _ _ _ (stack >>= _) _ _ _
  refine PySem.wpAt_bind (PySem.wpAt_stack fun pp bl => PySem.wpAt_of_wpAny ?_)
  wp_walk
  refine PySem.wpAt_of_wpAny ?_
  rw [F.owner]
  repeat (first | with_reducible refine wpAny_madeHere_exc F.canon hC ?_ | with_reducible refine wpAny_loadPart_at hC ?_ | (with_reducible refine wpAny_isSubtype_exc hC ?_; first | rw [c1] | rw [c2] | rw [c3]) | wp_step)
  show R _ _
  rw [Heap.size_push]
  exact hq
theorem kwCheckCall {M : Model} {Q : Unit → Shared → Prop} (hC : hp.get? C = some (excClassObj nm qn C N bs bm hd sn sb ab co dd k0 k1 k2 k3 k5 nw)) (hq : Q () ⟨hp, gn, dr, tk, os⟩) : wpAny M A (checkBuiltinCall "type.__call__" ⟨.ref C :: us, kw⟩) Q E ⟨hp, gn, dr, tk, os⟩ := by
  have z := tc_sub
  have ty : (⟨hp, gn, dr, tk, os⟩ : Shared).TypeIs (.ref C) "type" := ⟨_, hC, rfl⟩
  simp only [checkBuiltinCall, tc_kind, tc_split]
  repeat (any_goals (first | assumption | with_reducible refine wpAny_onRaise ?_ | with_reducible refine wpAny_map ?_ | with_reducible refine wpAny_loadPart_at hC ?_ | wp_step))
theorem kwTypeCall (F : ExcBaseFacts B nw ini bt) (hT : ∀ Z : String, bm.contains (.type Z) = bt.contains (.type Z)) {Q : Fin → Shared → Prop} (hC : hp.get? C = some (excClassObj nm qn C N bs bm hd sn sb ab co dd k0 k1 k2 k3 k5 nw))
    (hi : W.Looks (model P w) hp (typeLookup (.ref C) "__init__") (some (.ref fI))) (hb : ∀ u, W.Looks (model P w) hp (bindSpecial (.ref fI) u) (.ref fI, [u])) (hl : us.length ≤ sizeLine)
    (hq : codeAny (model P w) A (.call (.ref fI) ⟨.ref (hp.objs.size + 1) :: us, kw⟩) (fun r s' => match r with | .ok (.ret v) => v = .none ∧ Q (.done (.ret (.ref (hp.objs.size + 1)))) s' | .ok _ => False | .error e => E e s') ⟨(hp.push (W.kdv_tup us)).push (HandSPX.excO C hp.objs.size), gn, dr, tk, os⟩) :
    wpAny (model P w) A (Builtin.«type.__call__» ⟨.ref C :: us, kw⟩) Q E ⟨hp, gn, dr, tk, os⟩ := by
  repeat (first | with_reducible refine wpAny_madeBy_exc hC ?_ | with_reducible refine wpAny_loadPart_at hC ?_ | wp_step)
  refine codeAny_call_builtin_code (Code.quiet_builtin _ F.quiet) (kwCheck F hT hC (kwNew F hT hC ?_ hl))
  show wpAny _ _ _ _ _ _
  have k : ∀ b o, hp.get? b = some o → ((hp.push (W.kdv_tup us)).push (HandSPX.excO C hp.objs.size)).get? b = some o := fun b o e => Heap.get?_push_of_some _ (Heap.get?_push_of_some _ e)
  have hC1 := k _ _ hC
  have hx : ((hp.push (W.kdv_tup us)).push (HandSPX.excO C hp.objs.size)).get? (hp.objs.size + 1) = some (HandSPX.excO C hp.objs.size) := by heap_get
  have c0 : (Value.ref C :: bm).contains (.ref C) = true := by simp
  have j1 := hi.keeps k
  have j2 := (hb (.ref (hp.objs.size + 1))).keeps k
  unfold isInstance
  repeat (first | with_reducible refine wpAny_loadPart_at hx ?_ | (with_reducible refine wpAny_isSubtype_exc hC1 ?_; rw [c0]) | wp_step)
  show wpAny _ _ (typeLookup (.ref C) _) _ _ _
  refine j1.at (wpAny_holding (wpAny_bind (j2.at ?_)))
  refine wpAny_bind (wpAny_call (codeAny_mono hq fun r s' z => ?_))
  rcases r with e | (v | _ | _ | _) <;> first | exact z | exact z.elim | skip
  obtain ⟨rfl, z⟩ := z
  first | exact wpAny_pure (wpAny_pure z) | (wp_walk; exact z)
theorem kwCall (F : ExcBaseFacts B nw ini bt) (hT : ∀ Z : String, bm.contains (.type Z) = bt.contains (.type Z)) (hC : hp.get? C = some (excClassObj nm qn C N bs bm hd sn sb ab co dd k0 k1 k2 k3 k5 nw))
    (hi : W.Looks (model P w) hp (typeLookup (.ref C) "__init__") (some (.ref fI))) (hb : ∀ u, W.Looks (model P w) hp (bindSpecial (.ref fI) u) (.ref fI, [u])) (hl : us.length ≤ sizeLine)
    (hq : codeAny (model P w) (A.under (.builtin "type.__call__" ⟨.ref C :: us, kw⟩)) (.call (.ref fI) ⟨.ref (hp.objs.size + 1) :: us, kw⟩) (W.InitBack (hp.objs.size + 1) R) ⟨(hp.push (W.kdv_tup us)).push (HandSPX.excO C hp.objs.size), gn, dr, tk, os⟩) :
    codeAny (model P w) A (.call (.ref C) ⟨us, kw⟩) R ⟨hp, gn, dr, tk, os⟩ := by
  have y1 := tc_lookup
  have y2 := tc_bind (.ref C)
  have ty : (⟨hp, gn, dr, tk, os⟩ : Shared).TypeIs (.ref C) "type" := ⟨_, hC, rfl⟩
  apply codeAny_of_tree
  show wpAny _ _ (callAny (.ref C) _) _ _ _
  repeat (any_goals (first | assumption | with_reducible refine wpAny_loadPart_at hC ?_ | wp_step))
  refine ⟨rfl, codeAny_call_builtin_at (Code.quiet_builtin _ (by decide +kernel)) entry_typeCall (kwCheckCall hC (kwTypeCall F hT hC hi hb hl ?_))⟩
  refine codeAny_mono hq fun r s' z => ?_
  rcases r with e | (v | _ | _ | _) <;> exact z
end
end Pm.Ob
/-! Errors held as values: rules for making them, their fields, isinstance. -/
namespace Pm.Ob
open PySem PySem.Spec PyProof.Rows L2 Pm
/-- a class of errors with an own __init__ -/
structure ExI (K : Fr) (C fI : Addr) : Prop where
  T : OexC K C
  iC : PySem.W.findIn K (.ref C) "__init__" = some (some (.ref fI))
  tI : PySem.W.typeIn K (.ref fI) = some (.type "function")
section
variable {X : Cx} {k : Nat} {fI C : Addr} {fd : FuncData} {ps : List Str} {sp : Sp} {x f : Str} {p pos : Pos} {e : Expr} {te : TE}
theorem roomMkW {k : Nat} {A : Around} (r : Room (k + 1) A) (C : Addr) (us : List Value) (kw : List (Str × Value)) : Room k (A.under (.builtin "type.__call__" ⟨.ref C :: us, kw⟩)) :=
  ⟨r.hd, by have a := r.dp; rw [make_depth]; omega, by have a := r.un; rw [make_units]; omega, by first | exact r.gd | (simpa [Around.under, Code.guards, pushGuards, Code.isFrame] using r.gd)⟩
theorem runOex {pins : List (Addr × Obj)} {σ : L2.St} {H : Hp} {s : Shared} {Q : VK} {us ws : List Value} {vs : List V} {kw : List (Str × Value)} (T : ExI X.K C fI) (F : FnOk X.prog X.w X.K X.mg X.base CX0 k fI fd ps sp) (room : Room (k + 1) X.A) (hx : Passes CX0 X (fun _ _ _ => False)) (I : Inv X pins σ H s) (hl : us.length ≤ sizeLine)
    (bind : ∀ (s : Shared) (a : Addr), X.K.In s.heap → BindsTo s fd ⟨.ref a :: us, kw⟩ (ps.zip (.ref a :: ws))) (r : Vals vs ws) (want : ∀ a, H a = none → sp (.ref a :: vs) (upd H a (exo a C none)) (fun v H2 => v = .non ∧ Q (.ref a) H2) (fun _ _ _ => False)) :
    wpAny (model X.prog X.w) X.A (call (.ref C) us kw) (EP X pins σ Q) X.xe s := by
  obtain ⟨nm, q, N, bs, bm, sn, sub, ab, col, dd, k0, k1, k2, k3, k5, hC, hbm⟩ := T.T.cls
  obtain ⟨hp, g, dr, tk, os⟩ := s
  have sz : hp.objs.size ≤ hp.objs.size + 1 := Nat.le_succ _
  have w0 := want (hp.objs.size + 1) (I.hok.fresh sz)
  have kk : ∀ b o, hp.get? b = some o → ((hp.push (PySem.W.kdv_tup us)).push (PySem.HandSPX.excO C hp.objs.size)).get? b = some o := fun b o z => Heap.get?_push_of_some _ (Heap.get?_push_of_some _ z)
  have at1 : ((hp.push (PySem.W.kdv_tup us)).push (PySem.HandSPX.excO C hp.objs.size)).get? (hp.objs.size + 1) = some (PySem.HandSPX.excO C hp.objs.size) := by heap_get
  have J : Inv X pins σ (upd H (hp.objs.size + 1) (exo (hp.objs.size + 1) C none)) ⟨(hp.push (PySem.W.kdv_tup us)).push (PySem.HandSPX.excO C hp.objs.size), g, dr, tk, os⟩ :=
    I.laid (t' := tk) (a := hp.objs.size + 1) (o := exo (hp.objs.size + 1) C none) (h' := (hp.push (PySem.W.kdv_tup us)).push (PySem.HandSPX.excO C hp.objs.size)) kk sz (exo_ok at1)
  have both : Vals (V.ref (hp.objs.size + 1) :: vs) (Value.ref (hp.objs.size + 1) :: ws) := .cons rfl r
  have go := F.run _ (roomMkW room C us kw) X.stack _ _ ⟨Value.ref (hp.objs.size + 1) :: us, kw⟩ (Value.ref (hp.objs.size + 1) :: ws) _ _ (fun _ _ _ => False) (J.env0.make C us kw) (bind _ _ J.kIn) both w0
  refine wpAny_call (kwCall PySem.F.excBase_ValueError (fun Y => PySem.HandSPX.refsVE_contains Y bm hbm) (I.kIn _ _ hC) (PySem.W.looks_findIn I.kIn T.iC) (fun u => PySem.W.bind_fn I.kIn u T.tI) hl (codeAny_mono go fun res s' q => ?_))
  match res, q with
  | .error u, q => exact hx pins σ _ _ u s' J q
  | .ok (.ret u), q =>
    obtain ⟨v, H', J2, rv, ev, q3⟩ := J.after q
    subst ev
    exact ⟨rv, ⟨V.ref (hp.objs.size + 1), H', J2, rfl, q3⟩⟩
  | .ok .next, q => exact q.elim
  | .ok .brk, q => exact q.elim
  | .ok .cont, q => exact q.elim
/-- __init__ that keeps its one argument under a name -/
def spI (C : Addr) (f : Str) : Sp := fun vs H Q _ => ∃ (a : Addr) (v : V), vs = [.ref a, v] ∧ H a = some (exo a C none) ∧ ∀ dx, H dx = none → dx ≠ a → Q .non (upd (upd H dx (exd dx [(f, v)])) a (exo a C (some dx)))
/-- C(e), the error as a value -/
def tOex (C : Addr) (f : Str) (te : TE) : TE := fun σ H Q => te σ H fun v H1 => ∀ a dx H2, H1 a = none → H1 dx = none → Same H1 H2 → H2 a = some (exo a C (some dx)) → H2 dx = some (exd dx [(f, v)]) → Q (.ref a) H2
theorem oex_want {H1 : Hp} {v : V} {Q : VK} (q : ∀ a dx H2, H1 a = none → H1 dx = none → Same H1 H2 → H2 a = some (exo a C (some dx)) → H2 dx = some (exd dx [(f, v)]) → Q (.ref a) H2) (a : Addr) (na : H1 a = none) :
    spI C f [.ref a, v] (upd H1 a (exo a C none)) (fun u H2 => u = .non ∧ Q (.ref a) H2) (fun _ _ _ => False) := by
  refine ⟨a, v, rfl, upd_same, fun dx nd ne => ⟨rfl, ?_⟩⟩
  rw [upd_ne ne] at nd
  refine q a dx _ na nd (fun b o z => ?_) upd_same ?_
  · rw [upd_ne (ne_of_none z na), upd_ne (ne_of_none z nd), upd_ne (ne_of_none z na)]; exact z
  · rw [upd_ne ne, upd_same]
def post1 (C : Addr) (f : Str) (Q : VK) : List V → Hp → Prop := fun vs H1 => match vs with
  | [v] => ∀ a dx H2, H1 a = none → H1 dx = none → Same H1 H2 → H2 a = some (exo a C (some dx)) → H2 dx = some (exd dx [(f, v)]) → Q (.ref a) H2
  | _ => False
theorem pe_oex1 (T : ExI X.K C fI) (F : FnOk X.prog X.w X.K X.mg X.base CX0 k fI fd ps (spI C f)) (room : Room (k + 1) X.A) (hx : Passes CX0 X (fun _ _ _ => False)) (hb : Binds X.K fd ps []) (hl : ps.length = 2) (hg : Gl X x) (hm : X.mg x = some (.ref C)) (ha : PE X e te)
    (nb : (x == ("__debug__" : Str)) = false := by decide) (st : starEach [e] X.env = (false, eval e X.env) :: starEach [] X.env := by rfl) : PE X (.Call (.Name x p) [e] [] pos) (tOex C f te) := by
  refine ⟨fun pins s σ H Q I want => wpAny_Call_Name_kw (ld_glob I hg hm (PySem.W.callWith_K (h₀ := X.base) I.ok.mod.kin T.T.kC (thn ((pa_cons ha pa_nil st).run pos pins s σ H (post1 C f Q) I want) fun us s1 z => ?_) st rfl) nb)⟩
  obtain ⟨vs, H1, J, r, q⟩ := z
  match vs, q, r with
  | [v], q, .cons (b := u) r .nil =>
    refine ⟨J.kIn, runOex (us := [u]) (ws := [u]) (vs := [v]) T F room hx J (by simp [sizeLine_eq]) (fun s' a i => ?_) (.cons r .nil) fun a na => oex_want q a na⟩
    have z := hb s' [.ref a, u] i (by rw [hl]; rfl)
    simpa using z
theorem pe_oexK {q : Str} {kp : Pos} (T : ExI X.K C fI) (F : FnOk X.prog X.w X.K X.mg X.base CX0 k fI fd ps (spI C f)) (room : Room (k + 1) X.A) (hx : Passes CX0 X (fun _ _ _ => False)) (hb : ∀ (s : Shared) (u v : Value), BindsTo s fd ⟨[u], [(q, v)]⟩ (ps.zip [u, v])) (hg : Gl X x) (hm : X.mg x = some (.ref C)) (ha : PE X e te)
    (nb : (x == ("__debug__" : Str)) = false := by decide) (hall : (backToKw pos (keywordEach [⟨some q, e, kp⟩] X.env)).all (·.1.isSome) = true := by rfl) (hks : (backToKw pos (keywordEach [⟨some q, e, kp⟩] X.env)).filterMap (·.1) = [q] := by rfl)
    (hpl : ((backTo pos (starEach [] X.env)).any (·.1) || (backToKw pos (keywordEach [⟨some q, e, kp⟩] X.env)).any (·.1.isNone)) = false := by rfl) : PE X (.Call (.Name x p) [] [⟨some q, e, kp⟩] pos) (tOex C f te) := by
  refine ⟨fun pins s σ H Q I want => ?_⟩
  refine wpAny_Call_Name_kw (ld_glob I hg hm (PySem.W.callWith_KW0 (h₀ := X.base) I.ok.mod.kin T.T.kC hall ?_ hpl) nb)
  show wpAny _ _ (evalAll ((do let v ← eval e X.env; standAt pos; pure v) :: [])) _ _ s
  refine wpAny_evalAll_cons (wpAny_bind (thn (ha.run pins s σ H _ I want) fun u s1 z => ?_))
  obtain ⟨v, H1, I1, r1, q1⟩ := z
  refine wpAny_bind (wpAny_standAt (wpAny_pure (wpAny_evalAll_nil ⟨I1.kIn, ?_⟩)))
  rw [hks]
  exact runOex (us := []) (ws := [u]) (vs := [v]) (kw := [(q, u)]) T F room hx I1 (by simp [sizeLine_eq]) (fun s' a i => hb s' (.ref a) u) (.cons r1 .nil) fun a na => oex_want q1 a na
/-- C(), C without an __init__ of its own -/
def tEx0 (C : Addr) : TE := fun _ H Q => ∀ a, H a = none → Q (.ref a) (upd H a (exo a C none))
theorem pe_ex0 {bt : List Value} {B nw ini : String} (F : ExcBaseFacts B nw ini bt) (q : PySem.W.excIn X.K C bt nw = true) (hm : X.mg x = some (.ref C)) (kC : PySem.W.keepIn X.K (.ref C) = true) (hg : Gl X x) (nb : (x == ("__debug__" : Str)) = false := by decide) : PE X (.Call (.Name x p) [] [] pos) (tEx0 C) := by
  refine ⟨fun pins s σ H Q I want => wpAny_Call_Name_kw (ld_glob I hg hm (PySem.W.callWith_K0 I.kIn kC ?_) nb)⟩
  show wpAny _ _ (call (.ref C) []) _ _ _
  obtain ⟨bm, N, nm, qn, bs, hd, sn, sub, ab, col, dd, k0, k1, k2, k3, k5, mN, hC, hN, hni, T⟩ := exc_obj I.kIn q
  refine wpAny_call_exc_subT F T hC hN hni (fun h' a made => ?_) (Nat.zero_le _)
  have hn : H a = none := I.hok.gone made.new
  obtain ⟨t, ht, _, _⟩ := made.there
  exact ⟨.ref a, upd H a (exo a C none), I.laidN made.keeps made.new hn (exo_ok ht), rfl, want a hn⟩
end
/-! ### __init__ itself -/
theorem fn_excI {P : Program} {w : World} {K : Fr} {mg : Str → Option Value} {base : Heap} {x qual fn : Str} {st : Stmt} {f C : Addr} {fd : FuncData} {N ps : List Str} {k : Nat} (T : OexC K C) (hno : PySem.W.findIn K (.ref C) fn = some none) (F : FunS K x qual st [] f fd) (sc : FnScope N ps (defScope st)) (hl : ps.length = 2) (hs : ∀ u v, (L2.start N [u, v])[0]? = some (some u) ∧ (L2.start N [u, v])[1]? = some (some v))
    (hb : ∀ (cdv : Value) (A : Around) (outer : List PySem.Env) (s : Shared) (H : Hp) (E : XK), PSs (cxOf CX0 P w K mg base N qual (defScope st) f cdv A outer s H E).nox (defBody st) (tOst K fn (tVar 0) (tVar 1))) : FnOk P w K mg base CX0 (k + 1) f fd ps (spI C fn) := by
  refine FunS_ok F sc (fun vs H Q E h => ?_) (fun cdv A outer s H vs Q E hr h => ?_)
  · obtain ⟨a, v, rfl, _⟩ := h; exact hl.symm
  · obtain ⟨a, v, rfl, ha, q⟩ := h
    refine ⟨_, hb cdv A outer s H E, ?_⟩
    exact ⟨v, (hs _ _).2, .ref a, (hs _ _).1, a, C, rfl, T, hno, .inl ⟨ha, fun dx n ne => q dx n ne⟩⟩
end Pm.Ob
/-! Errors held as values: isinstance and fields. -/
namespace Pm.Ob
open PySem PySem.Spec PyProof.Rows PySem.W
section
variable {P : Program} {w : World} {A : Around} {E : Value → Shared → Prop} {s : Shared} {K : Frag} {x D : Addr} {ox : Obj} {od : Option Obj}
theorem find_data {C : Addr} {n : Str} {a g : Value} (hc : (clsIn K C).isSome = true) (ha : findIn K (.ref C) n = some (some a)) (hg : specialIn K a "__get__" = some (some g)) (ht : takesIn K a = some true) : findObj K C od n = some (.bind g a) := by
  obtain ⟨cd, hc⟩ := Option.isSome_iff_exists.mp hc
  unfold findObj; rw [hc, Option.bind_some, ha, Option.bind_some]; simp [hg, ht]
theorem err_class {Q : Option Value → Shared → Prop} (T : L2.ExcC K D) (X : K.In s.heap) (I : InstAt s.heap x ox D od) (h : Q (some (.ref D)) { s with toks := s.toks + 1 }) : wpAny (model P w) A (getAttr? (.ref x) "__class__") Q E s := by
  have hf : findObj K D od "__class__" = some (.bind (.builtin "getset_descriptor.__get__") (.builtin "object.__class__")) := find_data (by obtain ⟨cd, hc, _⟩ := any_some T.hd; rw [hc]; rfl) T.ha T.hn T.ht
  obtain ⟨hp, g, d, t, os⟩ := s
  have l0 := I.type (M := model P w)
  have l1 := looks_findIn (M := model P w) X T.hg
  have l2 := looks_findIn (M := model P w) X T.hk
  have l3 := looks_find (M := model P w) X I hf
  have sb : Looks (model P w) hp (isInstance (.ref x) (.type "BaseException")) true := l0.andThen (looks_subIn X T.hs)
  have x0 : (false && onTheHeap (Value.builtin "BaseException.__getattribute__")) = false := rfl
  have x2 : (Value.builtin "BaseException.__getattribute__" == Value.builtin "object.__getattribute__") = false := by decide +kernel
  have x1 : (onTheHeap (Value.ref D) && Value.builtin "BaseException.__getattribute__" == Value.builtin "object.__getattribute__") = false := by rw [x2]; rfl
  unfold getAttr? getAttrBy? getAttrBy
  refine wpAny_bind (wpAny_mkText (wpAny_bind (wpAny_attempt (wpAny_holding (wpAny_bind (l0.at (wpAny_bind (l1.at ?_))))))))
  show wpAny _ _ (if (onTheHeap (Value.ref D) && Value.builtin "BaseException.__getattribute__" == Value.builtin "object.__getattribute__") = true then _ else _) _ _ _
  rw [x1, if_neg Bool.false_ne_true]; unfold getAttrByItsOwn hookBefore
  refine wpAny_bind (show _ from ?_)
  rw [if_pos (show onTheHeap (Value.ref D) = true from rfl)]; refine l2.at (wpAny_bind (wpAny_attempt (wpAny_holding ?_)))
  unfold callGetattribute
  rw [x0, if_neg Bool.false_ne_true]; unfold boundAndCalled; rw [PySem.F.excAttr_ValueError.ga.bind (.ref x)]
  refine wpAny_bind (wpAny_pure (show _ from ?_))
  show wpAny _ _ (call (.builtin "BaseException.__getattribute__") [.ref x, .str "__class__" t]) _ _ _
  refine wpAny_call (codeAny_call_builtin PySem.F.excAttr_ValueError.ga.plain PySem.F.entry_bexc_ga (show _ from ?_))
  refine @check_slot (model P w) _ _ ⟨hp, g, d, t + 1, os⟩ "BaseException.__getattribute__" "BaseException" "__getattribute__" (.ref x) [.str "__class__" t] [] _ (by decide +kernel) (by decide +kernel) sb (PySem.F.args_bexc_ga (.ref x) (.str "__class__" t)) ?_
  unfold Builtin.«object.__getattribute__»
  refine wpAny_bind (wpAny_of_eq (a := ((Value.ref x : Value), [Value.str "__class__" t])) (by first | rfl | (simp only [slotArgs]; rfl)) (wpAny_bind (wpAny_pure (wpAny_bind (l0.at (wpAny_bind (l3.at ?_)))))))
  show wpAny _ _ (holding [Value.builtin "object.__class__"] (call (.builtin "getset_descriptor.__get__") [.builtin "object.__class__", .ref x, .ref D]) >>= ret) _ _ _
  refine wpAny_bind (wpAny_holding (wpAny_call (class_get (s := ⟨hp, g, d, t + 1, os⟩) (ox := ox) (od := od) X I T.hm (wpAny_pure ?_))))
  show wpAny _ _ (handedOut (.ref D)) _ _ _
  rw [handedOut_of (v := .ref D) rfl]
  first | exact wpAny_pure h | exact wpAny_pure (wpAny_pure h) | exact wpAny_pure (wpAny_bind (wpAny_pure (wpAny_pure h)))
theorem err_kit (T : L2.ExcC K D) : KitX K (.ref x) (.ref D) (fun h => InstAt h x ox D od) where
  ty := fun _ _ _ I => I.type
  it := fun _ _ X _ => by
    obtain ⟨cd, hc, _⟩ := any_some T.hd
    unfold clsIn at hc
    split at hc
    · rename_i c' d' cd' sl' ho
      intro A' Q' E' s' k q
      unfold isType loadHead; exact wpAny_bind (wpAny_loadPart (k _ _ (X _ _ ho)) (wpAny_pure q))
    · cases hc
  ne := fun h tp dd its n sl X htp => by
    obtain ⟨cd, hc, _⟩ := any_some T.hd
    refine Bool.eq_false_iff.mpr fun q => ?_
    have e : D = tp := Value.ref.inj (beq_iff_eq.mp q)
    subst e; unfold clsIn at hc
    split at hc
    · rename_i c' d' cd' sl' ho
      cases (X _ _ ho).symm.trans htp
    · cases hc
  ca := fun X I k => err_class T X I k
end
end Pm.Ob
namespace Pm.Ob
open PySem PySem.Spec PyProof.Rows L2 Pm
/-- an error that is tracked -/
def ErrAt (H : Hp) (a D : Addr) : Prop := H a = some (exo a D none) ∨ ∃ dx fs, H a = some (exo a D (some dx)) ∧ H dx = some (exd dx fs)
theorem ErrAt.inst {P : Program} {w : World} {H : Hp} {h : Heap} {a D : Addr} (hok : HOk P w H h) (e : ErrAt H a D) : ∃ ox od, PySem.W.InstAt h a ox D od := by
  rcases e with e | ⟨dx, fs, e, ed⟩
  · obtain ⟨t, q⟩ := exo_at hok e
    exact ⟨_, none, q, rfl, rfl, trivial⟩
  · obtain ⟨t, q⟩ := exo_at hok e
    obtain ⟨mA, ⟨o, es, ep, ho, _⟩, _⟩ := exd_at hok ed
    exact ⟨_, some o, q, rfl, rfl, ho⟩
def rIsX (K : Fr) : List V → Hp → VK → Prop := fun xs H Q => ∃ (a D : Addr) (c : V) (cv : Value) (b : Bool), xs = [.ref a, c] ∧ ErrAt H a D ∧ ExcC K D ∧ (∀ u, RelV c u → u = cv) ∧ PySem.W.kitOne K (.ref D) cv = some b ∧ Q (.bl b) H
theorem call_isX {X : Cx} : CallR X (.builtin "isinstance") (rIsX X.K) := by
  intro pins s σ H xs us Q I r h
  obtain ⟨a, D, c, cv, b, rfl, ea, T, hcv, e, q⟩ := h
  cases r with
  | cons rx rr =>
    cases rr with
    | cons rt rr =>
      cases rr
      cases rx
      have ec := hcv _ rt
      subst ec
      obtain ⟨ox, od, J⟩ := ea.inst I.hok
      exact PySem.W.kia_one (err_kit T) I.kIn J e (fun z => nomatch z) fun tk => ⟨.bl b, H, I.kept (t' := tk) fun _ _ z => z, rfl, q⟩
/-- e.f, e an error -/
def tXfV (K : Fr) (f : Str) (te : TE) : TE := fun σ H Q => te σ H fun x H1 => ∃ (a C dx : Addr) (fs : List (Str × V)) (v : V), x = .ref a ∧ XfC K C ∧ PySem.W.findIn K (.ref C) f = some none ∧ H1 a = some (exo a C (some dx)) ∧ H1 dx = some (exd dx fs) ∧ fs.lookup f = some v ∧ Q v H1
theorem pe_xfV {X : Cx} {e : Expr} {te : TE} {pos : Pos} {n : Str} (he : PE X e te) (hb : attributeBase e n X.env (eval e X.env) = eval e X.env) : PE X (.Attribute e n pos) (tXfV X.K n te) := by
  refine ⟨fun pins s σ H Q I want => attr_of hb (thn (he.run pins s σ H _ I want) fun u s1 hh => ?_)⟩
  obtain ⟨x, H1, I1, rx, a, C, dx, fs, v, ex, T, hno, ea, ed, l, q⟩ := hh
  subst ex
  cases (show u = Value.ref a from rx)
  obtain ⟨t, ha⟩ := exo_at I1.hok ea
  obtain ⟨mA, hns, hr⟩ := exd_at I1.hok ed
  obtain ⟨od, ho, hl⟩ := lookIn_ns hns
  obtain ⟨u, hu, ru⟩ := RelO.some_of (v := v) (o := mA n) (by rw [← l]; exact hr n)
  have J : PySem.W.InstAt s1.heap a _ C (some od) := ⟨ha, rfl, rfl, ho⟩
  exact HandSPX.exc_get I1.kIn J T.ga T.gg T.exC (PySem.W.findObj_own T.hdC hno rfl (by rw [hl, hu])) (handed_of ru) ⟨v, H1, I1.tok _, ru, q⟩
end Pm.Ob
/-! Errors held as values, over a world; the law's own def over a world. -/
namespace Pm.Ob
open PySem PySem.Spec PyProof.Rows L2 Pm
def datO : OV → Option PyData
  | .d x => some x
  | _ => none
/-- the class x of errors keeps its one argument (named q) under f -/
def ErrOk (Y : Cx) (x : Str) (C : Addr) (f q : Str) : Prop := ∃ (k : Nat) (fI : Addr) (fd : FuncData) (ps : List Str), ExI Y.K C fI ∧ FnOk Y.prog Y.w Y.K Y.mg Y.base CX0 k fI fd ps (spI C f) ∧ Room (k + 1) Y.A ∧ Y.mg x = some (.ref C) ∧ Binds Y.K fd ps [] ∧ ps.length = 2 ∧ ∀ (s : Shared) (u v : Value), BindsTo s fd ⟨[u], [(q, v)]⟩ (ps.zip [u, v])
section
variable {ι : Type} {X : ι → Cx} {K : Fr} {G : List Addr} {e : Expr} {fe : OFE} {pos p p2 : Pos} {x : Str} {C : Addr}
def oErr1 (C : Addr) (i : Nat) (a : OFE) : OFE := fun W ρ => (a W ρ).bind fun r => (datO r.2).bind fun d => some (r.1, .x C (some (i, d)))
theorem datO_of {H : Hp} {as : List Addr} {v : V} {y : OV} {d : PyData} (r : Ov K H as v y) (h : datO y = some d) : Dt K H v d := by
  cases r with
  | d r => cases h; exact r
  | r _ => cases h
  | t _ _ => cases h
  | q _ _ => cases h
  | x0 _ => cases h
  | x1 _ _ _ _ => cases h
theorem err1_k {t : TE} {i : Nat} {f : Str} (hf : fl[i]? = some f)
    (a2 : ∀ (M0 as : List Addr) (σ : L2.St) (H : Hp) (W : Wd) (ρ : OEnv) (r : Wd × OV) (Q : VK), SOk K G M0 as H σ W ρ → fe W ρ = some r → (∀ as' v H', X2 M0 as H as' H' → SOk K G M0 as' H' σ r.1 ρ → Ov K (rm (M0 ++ as') H') as' v r.2 → Q v H') → t σ H Q)
    (M0 as : List Addr) (σ : L2.St) (H : Hp) (W : Wd) (ρ : OEnv) (r : Wd × OV) (Q : VK) (S : SOk K G M0 as H σ W ρ) (h : oErr1 C i fe W ρ = some r) (k : ∀ as' v H', X2 M0 as H as' H' → SOk K G M0 as' H' σ r.1 ρ → Ov K (rm (M0 ++ as') H') as' v r.2 → Q v H') : tOex C f t σ H Q := by
  obtain ⟨r1, h1, h⟩ := bnd h
  obtain ⟨d, h2, h⟩ := bnd h
  cases h
  refine a2 M0 as σ H W ρ r1 _ S h1 fun as1 v H1 x1 S1 rv => fun a dx H2 na nd sm ea ed => ?_
  have dm : ∀ b, b ∈ M0 ++ as1 → H1 b ≠ none := S1.w.dom
  exact k as1 _ H2 (x1.trans (X2.same sm)) (S1.same sm) (.x1 (rm_of (fun m => dm a m na) ea) (rm_of (fun m => dm dx m nd) ed) hf (Dt.up (X2.same sm).rm (datO_of rv h2)))
theorem oe_err1 (i : Nat) {f q : Str} (cl : ∀ j, ErrOk (X j) x C f q) (h : OE X K G e fe) (hf : fl[i]? = some f := by rfl) (hg : ∀ i, Gl (X i) x := by intro i; rfl) (nb : (x == ("__debug__" : Str)) = false := by decide)
    (st : ∀ i, starEach [e] (X i).env = (false, eval e (X i).env) :: starEach [] (X i).env := by intro i; rfl) : OE X K G (.Call (.Name x p) [e] [] pos) (oErr1 C i fe) := by
  obtain ⟨t, a1, a2⟩ := h
  refine ⟨tOex C f t, fun j => ?_, err1_k hf a2⟩
  obtain ⟨k, fI, fd, ps, T, F, room, hm, hb, hl, _⟩ := cl j
  exact pe_oex1 T F room pass0 hb hl (hg j) hm (a1 j) nb (st j)
theorem oe_errK (i : Nat) {f q : Str} {kp : Pos} (cl : ∀ j, ErrOk (X j) x C f q) (h : OE X K G e fe) (hf : fl[i]? = some f := by rfl) (hg : ∀ i, Gl (X i) x := by intro i; rfl) (nb : (x == ("__debug__" : Str)) = false := by decide)
    (hall : ∀ i, (backToKw pos (keywordEach [⟨some q, e, kp⟩] (X i).env)).all (·.1.isSome) = true := by intro i; rfl) (hks : ∀ i, (backToKw pos (keywordEach [⟨some q, e, kp⟩] (X i).env)).filterMap (·.1) = [q] := by intro i; rfl)
    (hpl : ∀ i, ((backTo pos (starEach [] (X i).env)).any (·.1) || (backToKw pos (keywordEach [⟨some q, e, kp⟩] (X i).env)).any (·.1.isNone)) = false := by intro i; rfl) : OE X K G (.Call (.Name x p) [] [⟨some q, e, kp⟩] pos) (oErr1 C i fe) := by
  obtain ⟨t, a1, a2⟩ := h
  refine ⟨tOex C f t, fun j => ?_, err1_k hf a2⟩
  obtain ⟨k, fI, fd, ps, T, F, room, hm, _, _, hb⟩ := cl j
  exact pe_oexK T F room pass0 hb (hg j) hm (a1 j) nb (hall j) (hks j) (hpl j)
def oErr0 (C : Addr) : OFE := fun W _ => some (W, .x C none)
theorem oe_err0 {bt : List Value} {B nw ini : String} (F : ExcBaseFacts B nw ini bt) (q : PySem.W.excIn K C bt nw = true) (hm : ∀ i, (X i).mg x = some (.ref C)) (kC : PySem.W.keepIn K (.ref C) = true) (hK : ∀ i, (X i).K = K := by intro i; rfl) (hg : ∀ i, Gl (X i) x := by intro i; rfl) (nb : (x == ("__debug__" : Str)) = false := by decide) :
    OE X K G (.Call (.Name x p) [] [] pos) (oErr0 C) := by
  refine ⟨tEx0 C, fun i => pe_ex0 F (by rw [hK i]; exact q) (hm i) (by rw [hK i]; exact kC) (hg i) nb, fun M0 as σ H W ρ r Q S h k => ?_⟩
  cases h
  refine fun a na => ?_
  have sm := same_new (o := exo a C none) na
  exact k as _ _ (X2.same sm) (S.same sm) (.x0 (rm_of (fun m => S.w.dom a m na) upd_same))
/-! isinstance of an error -/
def oIsX (tb : Addr → Option Bool) (a : OFE) : OFE := fun W ρ => (a W ρ).bind fun r => match r.2 with
  | .x D _ => (tb D).bind fun b => some (r.1, .d (.bool b))
  | _ => none
theorem errAt_of {M0 as : List Addr} {H : Hp} {v : V} {D : Addr} {f : Option (Nat × PyData)} (r : Ov K (rm (M0 ++ as) H) as v (.x D f)) : ∃ a, v = .ref a ∧ ErrAt H a D := by
  cases r with
  | x0 h => exact ⟨_, rfl, .inl (rm_le _ _ h)⟩
  | x1 h1 h2 _ _ => exact ⟨_, rfl, .inr ⟨_, _, rm_le _ _ h1, rm_le _ _ h2⟩⟩
theorem isX_k {tb : Addr → Option Bool} {t : TE} {c : V} {cv : Value} (hc : ∀ u, RelV c u → u = cv) (ht : ∀ D b, tb D = some b → ExcC K D ∧ PySem.W.kitOne K (.ref D) cv = some b)
    (a2 : ∀ (M0 as : List Addr) (σ : L2.St) (H : Hp) (W : Wd) (ρ : OEnv) (r : Wd × OV) (Q : VK), SOk K G M0 as H σ W ρ → fe W ρ = some r → (∀ as' v H', X2 M0 as H as' H' → SOk K G M0 as' H' σ r.1 ρ → Ov K (rm (M0 ++ as') H') as' v r.2 → Q v H') → t σ H Q)
    (M0 as : List Addr) (σ : L2.St) (H : Hp) (W : Wd) (ρ : OEnv) (r : Wd × OV) (Q : VK) (S : SOk K G M0 as H σ W ρ) (h : oIsX tb fe W ρ = some r) (k : ∀ as' v H', X2 M0 as H as' H' → SOk K G M0 as' H' σ r.1 ρ → Ov K (rm (M0 ++ as') H') as' v r.2 → Q v H') : tCB (rIsX K) (tCons t (tCons (tC c) tNil)) σ H Q := by
  obtain ⟨⟨W1, y⟩, h1, h⟩ := bnd h
  cases y with
  | x D f =>
    obtain ⟨b, h2, h⟩ := bnd h
    cases h
    refine a2 M0 as σ H W ρ _ _ S h1 fun as1 v H1 x1 S1 rv => ?_
    obtain ⟨a, rfl, ea⟩ := errAt_of rv
    exact ⟨a, D, c, cv, b, rfl, ea, (ht D b h2).1, hc, (ht D b h2).2, k as1 _ H1 x1 S1 (.d (.bl _))⟩
  | _ => cases h
theorem oe_isX {tb : Addr → Option Bool} (ht : ∀ D b, tb D = some b → ExcC K D ∧ PySem.W.kitOne K (.ref D) (.ref C) = some b) (hm : ∀ i, (X i).mg "isinstance" = none) (hx : ∀ i, (X i).mg x = some (.ref C)) (h : OE X K G e fe) (hK : ∀ i, (X i).K = K := by intro i; rfl) (hg : ∀ i, Gl (X i) "isinstance" := by intro i; rfl) (hg2 : ∀ i, Gl (X i) x := by intro i; rfl)
    (hd : (x == ("__debug__" : Str)) = false := by decide) (he : ∀ i, starEach [e, .Name x p2] (X i).env = (false, eval e (X i).env) :: starEach [.Name x p2] (X i).env := by intro i; rfl) (he2 : ∀ i, starEach [.Name x p2] (X i).env = (false, eval (.Name x p2) (X i).env) :: starEach [] (X i).env := by intro i; rfl)
    (hpl : ∀ i, (backTo pos (starEach [.Name x p2] (X i).env)).any (·.1) = false := by intro i; rfl) : OE X K G (.Call (.Name "isinstance" p) [e, .Name x p2] [] pos) (oIsX tb fe) := by
  obtain ⟨t, a1, a2⟩ := h
  exact ⟨tCB (rIsX K) (tCons t (tCons (tC (.ref C)) tNil)), fun i => by rw [← hK i]; exact pe_callB call_isX (hg i) (hm i) PyProof.Rows.boot_isinstance (pa_cons (a1 i) (pa_cons (pe_glob (hg2 i) (hx i) rfl hd) pa_nil (he2 i)) (he i)) (by decide) (by decide) (he i) (hpl i), isX_k (fun u r => r) ht a2⟩
theorem oe_isXT {tb : Addr → Option Bool} {s : String} (ht : ∀ D b, tb D = some b → ExcC K D ∧ PySem.W.kitOne K (.ref D) (.type s) = some b) (hm : ∀ i, (X i).mg "isinstance" = none) (hx : ∀ i, (X i).mg x = none) (h : OE X K G e fe) (hv : bootBuiltins x = some (.type s) := by decide +kernel) (hK : ∀ i, (X i).K = K := by intro i; rfl) (hg : ∀ i, Gl (X i) "isinstance" := by intro i; rfl) (hg2 : ∀ i, Gl (X i) x := by intro i; rfl)
    (hn : x ≠ "__name__" := by decide) (hd : (x == ("__debug__" : Str)) = false := by decide) (he : ∀ i, starEach [e, .Name x p2] (X i).env = (false, eval e (X i).env) :: starEach [.Name x p2] (X i).env := by intro i; rfl) (he2 : ∀ i, starEach [.Name x p2] (X i).env = (false, eval (.Name x p2) (X i).env) :: starEach [] (X i).env := by intro i; rfl)
    (hpl : ∀ i, (backTo pos (starEach [.Name x p2] (X i).env)).any (·.1) = false := by intro i; rfl) : OE X K G (.Call (.Name "isinstance" p) [e, .Name x p2] [] pos) (oIsX tb fe) := by
  obtain ⟨t, a1, a2⟩ := h
  exact ⟨tCB (rIsX K) (tCons t (tCons (tC (.ty s)) tNil)), fun i => by rw [← hK i]; exact pe_callB call_isX (hg i) (hm i) PyProof.Rows.boot_isinstance (pa_cons (a1 i) (pa_cons (pe_bltn (hg2 i) (hx i) hv rfl hn hd) pa_nil (he2 i)) (he i)) (by decide) (by decide) (he i) (hpl i), isX_k (fun u r => r) ht a2⟩
/-! a field of an error -/
def oXf (i : Nat) (ok : Addr → Bool) (a : OFE) : OFE := fun W ρ => (a W ρ).bind fun r => match r.2 with
  | .x C (some (j, d)) => if j = i ∧ ok C = true then some (r.1, .d d) else none
  | _ => none
theorem oe_xf (i : Nat) {f : Str} {ok : Addr → Bool} (hok : ∀ C, ok C = true → XfC K C ∧ PySem.W.findIn K (.ref C) f = some none) (h : OE X K G e fe) (hf : fl[i]? = some f := by rfl) (hK : ∀ i, (X i).K = K := by intro i; rfl) (hb : ∀ i, attributeBase e f (X i).env (eval e (X i).env) = eval e (X i).env := by intro i; rfl) : OE X K G (.Attribute e f pos) (oXf i ok fe) := by
  obtain ⟨t, a1, a2⟩ := h
  refine ⟨tXfV K f t, fun i => by rw [← hK i]; exact pe_xfV (a1 i) (hb i), fun M0 as σ H W ρ r Q S h k => ?_⟩
  obtain ⟨⟨W1, y⟩, h1, h2⟩ := bnd h
  clear h
  cases y with
  | x C o =>
    cases o with
    | none => cases h2
    | some jd =>
      obtain ⟨j, d⟩ := jd
      simp only at h2
      split at h2
      · rename_i hc
        obtain ⟨rfl, ho⟩ := hc
        cases h2
        refine a2 M0 as σ H W ρ _ _ S h1 fun as1 v H1 x1 S1 rv => ?_
        cases rv with
        | @x1 a C dx i f' v p z1 z2 z3 z4 =>
          rw [hf] at z3
          cases z3
          obtain ⟨o1, o2⟩ := hok C ho
          exact ⟨a, C, dx, _, v, rfl, o1, o2, rm_le _ _ z1, rm_le _ _ z2, by simp, k as1 v H1 x1 S1 (.d z4)⟩
      · cases h2
  | _ => cases h2
end
/-! the law's own def -/
theorem fn_lawO {P : Program} {w : World} {K : Fr} {mg : Str → Option Value} {base : Heap} {G : List Addr} {x qual z : Str} {st : Stmt} {f : Addr} {fd : FuncData} {N : List Str} {k : Nat} {wb : OFS} (F : Fun K x qual st f fd) (sc : FnScope N [z] (defScope st))
    (hb : ∀ (cdv : Value) (A : Around) (outer : List PySem.Env) (s : Shared) (H : Hp) (E : XK), Room k (A.deeper (envOfC qual (defScope st) s.heap.objs.size f cdv)) → OSs (cxOf CX0 P w K mg base N qual (defScope st) f cdv A outer s H E).nox K G (defBody st) wb)
    (hw : ∀ ns : List Int, ns.length ≤ 63 → ∃ W, wb [] (startO N [.q (ns.map fun n => .d (.int n))]) = some (.rt W (.d (.bool true)))) : FnOk P w K mg base CX0 (k + 1) f fd [z] (spLaw K) := by
  refine Fun_ok F sc (fun vs H Q E h => ?_) (fun cdv A outer s H vs Q E hr h => ?_)
  · obtain ⟨a, ns, rfl, _⟩ := h; rfl
  · obtain ⟨a, ns, rfl, few, sq, q⟩ := h
    obtain ⟨t, a1, a2⟩ := hb cdv A outer s H E hr
    have wk : WOk K G [] [] H [] := ⟨rfl, List.nodup_nil, (fun a m => by cases m), (fun a m => by cases m), (fun n a c e => by simp at e)⟩
    obtain ⟨W, e⟩ := hw ns few
    have itg : ∀ (H : Hp) (l : List Int), OvAll K H [] (l.map V.int) (l.map fun n => OV.d (.int n)) := fun H l => by
      induction l with
      | nil => exact .nil
      | cons n l ih => exact .cons (.d (.int n)) ih
    refine ⟨t, a1, a2 [] [] _ H [] _ _ _ (startO_ok wk (.cons (.q (same_l (fun b o z => rm_of (by simp) z) sq) (itg _ ns)) .nil)) e ?_⟩
    intro as' v H' x' w' r'
    cases r' with
    | d r' => rw [show v = .bl true from Dt.isBl r']; exact q _
end Pm.Ob
/-! k03: what its defs compute. -/
namespace Pm.Q
open PySem PySem.Spec PyProof.Rows L2 TL Pm Pm.Ob
def w_law_e1 : WE := (wOp (fEq false) (wVar 8) (wVar 6))
def q_law_e1 (ρ : Env) : Option (Env × PyData) := (qOp (gEq false) (qVar 8) (qVar 6)) ρ
theorem c_law_e1 : cE none w_law_e1 q_law_e1 := (c_op k_eq c_var c_var)
def tab (cs : List Addr) (bs : List Bool) (D : Addr) : Option Bool := match cs, bs with
  | c :: cs, b :: bs => if c = D then some b else tab cs bs D
  | _, _ => none
def row (j : Nat) : List Bool := (List.range 6).map (· == j)
def yes6 : List Bool := [true, true, true, true, true, true]
def isE (cs : List Addr) (j : Nat) : OFE := oIsX (tab cs (row j)) (oVar 0)
def q_k_kinds (cs : List Addr) : OFS :=
  oSeq (oSet 1 (oLst (oCons (isE cs 0) (oCons (isE cs 1) (oCons (isE cs 2) oNil)))))
    (oRet (oOp gAdd (oVar 1) (oLst (oCons (isE cs 3) (oCons (isE cs 4) (oCons (isE cs 5) oNil))))))
def F_k_kinds (cs : List Addr) : FO' := ofBody 1 ["_law_err", "_law_found"] (q_k_kinds cs)
def q_false : OFS := oRet (oPure (qC (.bool false)))
def q_law_b1 (cs : List Addr) : OFS :=
  oSeq (oIf (oOr (oNot (oTst (oIsX (tab cs yes6) (oVar 7)))) (oNot (oTst (oIsX (tab cs yes6) (oVar 7))))) q_false oSkip)
    (oIf (oTst (oOp (gEq true) (oCall (F_k_kinds cs) (oCons (oVar 7) oNil)) (oPure (qLc 8 (qRange1 (qCons (qC (.int 6)) qNil)) qYes q_law_e1)))) q_false oSkip)
def okX (cs : List Addr) (C : Addr) : Bool := (tab cs yes6 C).isSome
def q_law_b2 (cs : List Addr) : OFS :=
  oSeq (oForI (oIEnum (oVar 5)) (oT 2 (oGCons (oN 6) (oGCons (oN 7) oGNil))) (q_law_b1 cs))
    (oIf (oOr (oTst (oOp (gEq true) (oXf 1 (okX cs) (oIx (oVar 5) (oPure (qC (.int 0))))) (oVar 2))) (oTst (oOp (gEq true) (oXf 0 (okX cs) (oIx (oVar 5) (oPure (qC (.int 5))))) (oVar 2)))) q_false oSkip)
def q_num : FE := (qOp gSub (qOp gMod (qU gInt (qVar 1)) (qOp gAdd (qOp gMul (qC (.int 2)) (qOp gPow (qC (.int 10)) (qC (.int 40)))) (qC (.int 1)))) (qOp gPow (qC (.int 10)) (qC (.int 40))))
def q_errs (c0 c1 c2 c3 c4 c5 : Addr) : OFE := oLst (oCons (oErr1 c0 1 (oVar 2)) (oCons (oErr0 c1) (oCons (oErr0 c2) (oCons (oErr0 c3) (oCons (oErr0 c4) (oCons (oErr1 c5 0 (oVar 2)) oNil))))))
def q_law_b3 (c0 c1 c2 c3 c4 c5 : Addr) : OFS :=
  oSeq (oSet 2 (oPure q_num)) (oSeq (oSet 3 (q_errs c0 c1 c2 c3 c4 c5)) (oSeq (oSet 4 (q_errs c0 c1 c2 c3 c4 c5))
    (oFor (oLst (oCons (oVar 3) (oCons (oVar 4) oNil))) (oN 5) (q_law_b2 [c0, c1, c2, c3, c4, c5]))))
def q_law (c0 c1 c2 c3 c4 c5 : Addr) : OFS :=
  oSeq (oFor (oOp gAdd (oSl (oVar 0) oNo (oSo (oPure (qC (.int 8))))) (oLst (oCons (oPure (qC (.int 0))) oNil))) (oN 1) (q_law_b3 c0 c1 c2 c3 c4 c5)) (oRet (oPure (qC (.bool true))))
/-! ### what comes of it -/
section
variable {cs : List Addr} {c : Addr} {f : Option (Nat × PyData)} {b0 b1 b2 b3 b4 b5 : Bool} {W : Wd}
theorem kinds_ok (h0 : tab cs (row 0) c = some b0) (h1 : tab cs (row 1) c = some b1) (h2 : tab cs (row 2) c = some b2) (h3 : tab cs (row 3) c = some b3) (h4 : tab cs (row 4) c = some b4) (h5 : tab cs (row 5) c = some b5) :
    F_k_kinds cs W [.x c f] = some ((W ++ [.lst [.d (.bool b0), .d (.bool b1), .d (.bool b2)]]) ++ [.lst [.d (.bool b3), .d (.bool b4), .d (.bool b5)]], .d (.list [.bool b0, .bool b1, .bool b2, .bool b3, .bool b4, .bool b5])) := by
  simp [F_k_kinds, ofBody, startO, q_k_kinds, oSeq, oSet, oRet, oLst, oCons, oNil, isE, oIsX, oVar, gv, oOp, asD, h0, h1, h2, h3, h4, h5, allD, gAdd, retO, List.getElem?_append]
/-- the class at c is the one of number j -/
structure At (cs : List Addr) (c : Addr) (j : Nat) : Prop where
  y : tab cs yes6 c = some true
  h : ∀ i, i < 6 → tab cs (row i) c = some (i == j)
theorem g_eq_l {z : Bool} {a b : List PyData} : gEq z (.list a) (.list b) = if eqOk (.list a) (.list b) = true then some (.bool (z ^^ PyData.eqv (.list a) (.list b))) else none := rfl
theorem comp_ok {j : Nat} (hj : j < 6) {x0 x1 x2 x3 x4 x5 x7 x8 : SV} : qLc 8 (qRange1 (qCons (qC (.int 6)) qNil)) qYes q_law_e1 [x0, x1, x2, x3, x4, x5, .dat (.int (j : Nat)), x7, x8] = some ([x0, x1, x2, x3, x4, x5, .dat (.int (j : Nat)), x7, .un], .list [.bool (0 == j), .bool (1 == j), .bool (2 == j), .bool (3 == j), .bool (4 == j), .bool (5 == j)]) := by
  have r6 : gRange1 [.int 6] = some [.int 0, .int 1, .int 2, .int 3, .int 4, .int 5] := rfl
  have q : ∀ n : Nat, decide ((n : Int) = (j : Int)) = (n == j) := fun n => by
    by_cases e : n = j
    · subst e; simp
    · have e2 : ¬ (n : Int) = (j : Int) := by omega
      rw [decide_eq_false e2]; simp [e]
  unfold qLc qRange1 qYes
  simp only [fxs, fxs2, isN, isiD, gOwn, List.set_cons_zero, List.set_cons_succ, List.length_cons, List.length_nil, Option.map_some, Option.map_none, ↓reduceIte, Bool.false_eq_true, Bool.true_eq_false, Bool.false_xor, Bool.true_xor, Bool.not_true, Bool.not_false, decide_true, decide_false, Bool.not_eq_true', decide_eq_true_eq, decide_eq_false_iff_not, Nat.reduceAdd, Nat.reduceLeDiff, Nat.reduceLT, Int.reduceAdd]
  simp only [Option.bind_some, r6, lcQ, List.set_cons_succ, List.set_cons_zero, q_law_e1]
  simp only [fxs, fxs2, isN, isiD, gOwn, List.set_cons_zero, List.set_cons_succ, List.length_cons, List.length_nil, Option.map_some, Option.map_none, ↓reduceIte, Bool.false_eq_true, Bool.true_eq_false, Bool.false_xor, Bool.true_xor, Bool.not_true, Bool.not_false, decide_true, decide_false, Bool.not_eq_true', decide_eq_true_eq, decide_eq_false_iff_not, Nat.reduceAdd, Nat.reduceLeDiff, Nat.reduceLT, Int.reduceAdd, Option.bind_some]
  simp only [List.length_append, List.length_cons, List.length_nil, Nat.reduceAdd, Nat.reduceLT, ↓reduceIte, List.nil_append, List.cons_append]
  rw [Option.bind_some, show decide ((0 : Int) = (j : Int)) = (0 == j) from q 0, show decide ((1 : Int) = (j : Int)) = (1 == j) from q 1, show decide ((2 : Int) = (j : Int)) = (2 == j) from q 2, show decide ((3 : Int) = (j : Int)) = (3 == j) from q 3, show decide ((4 : Int) = (j : Int)) = (4 == j) from q 4, show decide ((5 : Int) = (j : Int)) = (5 == j) from q 5]
theorem b1_ok {j : Nat} (hj : j < 6) (h : At cs c j) {a0 a1 a2 a3 a4 a5 a8 : Option OV} : ∃ J, q_law_b1 cs W [a0, a1, a2, a3, a4, a5, some (.d (.int (j : Nat))), some (.x c f), a8] = some (.nx (W ++ J) [a0, a1, a2, a3, a4, a5, some (.d (.int (j : Nat))), some (.x c f), a8]) := by
  have k := kinds_ok (W := W) (f := f) (h.h 0 (by decide)) (h.h 1 (by decide)) (h.h 2 (by decide)) (h.h 3 (by decide)) (h.h 4 (by decide)) (h.h 5 (by decide))
  rw [List.append_assoc] at k
  generalize ([Cell.lst [OV.d (PyData.bool (0 == j)), OV.d (PyData.bool (1 == j)), OV.d (PyData.bool (2 == j))]] ++ [Cell.lst [OV.d (PyData.bool (3 == j)), OV.d (PyData.bool (4 == j)), OV.d (PyData.bool (5 == j))]] : List Cell) = J at k
  refine ⟨J, ?_⟩
  have e := comp_ok hj (x0 := toS a0) (x1 := toS a1) (x2 := toS a2) (x3 := toS a3) (x4 := toS a4) (x5 := toS a5) (x7 := toS (some (.x c f))) (x8 := toS a8)
  unfold q_law_b1
  have e2 : gEq true (.list [.bool (0 == j), .bool (1 == j), .bool (2 == j), .bool (3 == j), .bool (4 == j), .bool (5 == j)]) (.list [.bool (0 == j), .bool (1 == j), .bool (2 == j), .bool (3 == j), .bool (4 == j), .bool (5 == j)]) = some (.bool false) := by
    have l0 : ∀ b0 b1 b2 b3 b4 b5 : Bool, (PyData.list [.bool b0, .bool b1, .bool b2, .bool b3, .bool b4, .bool b5]).canLay0 = true := fun _ _ _ _ _ _ => rfl
    have l1 : eqOk (PyData.list [.bool (0 == j), .bool (1 == j), .bool (2 == j), .bool (3 == j), .bool (4 == j), .bool (5 == j)]) (PyData.list [.bool (0 == j), .bool (1 == j), .bool (2 == j), .bool (3 == j), .bool (4 == j), .bool (5 == j)]) = true := by
      unfold eqOk; rw [l0]; rfl
    rw [g_eq_l, if_pos l1, SeqAt.eqv_refl _ (l0 _ _ _ _ _ _)]; rfl
  have e3 : toE [a0, a1, a2, a3, a4, a5, some (.d (.int (j : Nat))), some (.x c f), a8] = [toS a0, toS a1, toS a2, toS a3, toS a4, toS a5, .dat (.int (j : Nat)), toS (some (.x c f)), toS a8] := rfl
  simp only [oSeq, oIf, oOr, oNot, oTst, oIsX, oVar, gv, Option.bind_some, h.y, asD, gB, Bool.not_true, Bool.false_eq_true, ↓reduceIte, oSkip, oOp, oCall, oCons, oNil, k, oPure, e3, e, e2]
abbrev tgt : OFG := oT 2 (oGCons (oN 6) (oGCons (oN 7) oGNil))
theorem get_app {W J : Wd} {n : Nat} {o : Cell} (h : W[n]? = some o) : (W ++ J)[n]? = some o := by
  rw [List.getElem?_append_left (List.getElem?_eq_some_iff.mp h).1]; exact h
theorem loop1 {n : Nat} {xs : List OV} (hl : xs.length = 6) (hx : ∀ k, k < 6 → ∃ c f, xs[k]? = some (.x c f) ∧ At cs c k) {a0 a1 a2 a3 a4 a5 a8 : Option OV} : ∀ (m k : Nat) (W : Wd) (a6 a7 : Option OV), k + m = 7 → k ≤ 6 → W[n]? = some (.lst xs) →
    ∃ J b6 b7, forS tgt (q_law_b1 cs) (nxtE n) m k W [a0, a1, a2, a3, a4, a5, a6, a7, a8] = some (.nx (W ++ J) [a0, a1, a2, a3, a4, a5, b6, b7, a8])
  | 0, k, W, a6, a7, e, le, hw => by omega
  | m + 1, k, W, a6, a7, e, le, hw => by
    by_cases c6 : k = 6
    · have hn : xs[k]? = none := List.getElem?_eq_none (by omega)
      refine ⟨[], a6, a7, ?_⟩
      simp only [forS, nxtE, hw, hn, Option.map_none, Option.bind_some, List.append_nil]
    · obtain ⟨c, f, h1, h2⟩ := hx k (by omega)
      obtain ⟨J, hJ⟩ := b1_ok (W := W) (f := f) (j := k) (by omega) h2 (a0 := a0) (a1 := a1) (a2 := a2) (a3 := a3) (a4 := a4) (a5 := a5) (a8 := a8)
      obtain ⟨J2, b6, b7, hJ2⟩ := loop1 hl hx (a0 := a0) (a1 := a1) (a2 := a2) (a3 := a3) (a4 := a4) (a5 := a5) (a8 := a8) m (k + 1) (W ++ J) (some (.d (.int (k : Nat)))) (some (.x c f)) (by omega) (by omega) (get_app hw)
      refine ⟨J ++ J2, b6, b7, ?_⟩
      rw [← List.append_assoc, ← hJ2]
      have e2 : tgt (mkT [.d (.int (k : Nat)), .x c f]) [a0, a1, a2, a3, a4, a5, a6, a7, a8] = some [a0, a1, a2, a3, a4, a5, some (.d (.int (k : Nat))), some (.x c f), a8] := rfl
      simp only [forS, nxtE, hw, h1, Option.map_some, Option.bind_some, e2, hJ]
/-- one batch -/
theorem b2_ok {n : Nat} {xs : List OV} {z : Int} (hl : xs.length = 6) (hx : ∀ k, k < 6 → ∃ c f, xs[k]? = some (.x c f) ∧ At cs c k) {c0 c5 : Addr} (h0 : xs[0]? = some (.x c0 (some (1, .int z)))) (h5 : xs[5]? = some (.x c5 (some (0, .int z)))) (o0 : okX cs c0 = true) (o5 : okX cs c5 = true)
    {a0 a1 a3 a4 a6 a7 a8 : Option OV} (hw : W[n]? = some (.lst xs)) : ∃ J b6 b7, q_law_b2 cs W [a0, a1, some (.d (.int z)), a3, a4, some (.r n), a6, a7, a8] = some (.nx (W ++ J) [a0, a1, some (.d (.int z)), a3, a4, some (.r n), b6, b7, a8]) := by
  obtain ⟨J, b6, b7, h⟩ := loop1 hl hx (a0 := a0) (a1 := a1) (a2 := some (.d (.int z))) (a3 := a3) (a4 := a4) (a5 := some (.r n)) (a8 := a8) 7 0 W a6 a7 rfl (by decide) hw
  refine ⟨J, b6, b7, ?_⟩
  have hw2 : (W ++ J)[n]? = some (.lst xs) := get_app hw
  have i0 : atI xs 0 = some (.x c0 (some (1, .int z))) := by
    match xs, hl, h0 with
    | [_, _, _, _, _, _], _, h => exact h
  have i5 : atI xs 5 = some (.x c5 (some (0, .int z))) := by
    match xs, hl, h5 with
    | [_, _, _, _, _, _], _, h => exact h
  have f1 : oForI (oIEnum (oVar 5)) tgt (q_law_b1 cs) W [a0, a1, some (.d (.int z)), a3, a4, some (.r n), a6, a7, a8] = some (.nx (W ++ J) [a0, a1, some (.d (.int z)), a3, a4, some (.r n), b6, b7, a8]) := by
    rw [← h]
    simp only [oForI, oIEnum, oVar, gv, Option.bind_some, srcE, hw, lenC, hl]
  unfold q_law_b2
  simp only [oSeq, f1, Option.bind_some, oIf, oOr, oTst, oOp, oXf, oIx, oVar, gv, oPure, qC, asD, oIxV, hw2, i0, i5, o0, o5, gEq, and_self, ↓reduceIte, gB, decide_true, Bool.bne_true, Bool.not_true, Bool.true_xor, Bool.false_eq_true, oSkip]
theorem tab_row {c0 c1 c2 c3 c4 c5 : Addr} (hn : [c0, c1, c2, c3, c4, c5].Nodup) : At [c0, c1, c2, c3, c4, c5] c0 0 ∧ At [c0, c1, c2, c3, c4, c5] c1 1 ∧ At [c0, c1, c2, c3, c4, c5] c2 2 ∧ At [c0, c1, c2, c3, c4, c5] c3 3 ∧ At [c0, c1, c2, c3, c4, c5] c4 4 ∧ At [c0, c1, c2, c3, c4, c5] c5 5 := by
  simp only [List.nodup_cons, List.mem_cons, not_or, List.not_mem_nil, not_false_eq_true, List.nodup_nil, and_true] at hn
  obtain ⟨⟨n01, n02, n03, n04, n05⟩, ⟨n12, n13, n14, n15⟩, ⟨n23, n24, n25⟩, ⟨n34, n35⟩, n45⟩ := hn
  have k : ∀ i, i < 6 → i = 0 ∨ i = 1 ∨ i = 2 ∨ i = 3 ∨ i = 4 ∨ i = 5 := fun i h => by omega
  refine ⟨⟨?_, fun i h => ?_⟩, ⟨?_, fun i h => ?_⟩, ⟨?_, fun i h => ?_⟩, ⟨?_, fun i h => ?_⟩, ⟨?_, fun i h => ?_⟩, ⟨?_, fun i h => ?_⟩⟩
  all_goals first
    | (simp only [tab, yes6, n01, n02, n03, n04, n05, n12, n13, n14, n15, n23, n24, n25, n34, n35, n45, ↓reduceIte]; done)
    | (rcases k i h with rfl | rfl | rfl | rfl | rfl | rfl <;> simp only [tab, show row 0 = [true, false, false, false, false, false] from rfl, show row 1 = [false, true, false, false, false, false] from rfl, show row 2 = [false, false, true, false, false, false] from rfl, show row 3 = [false, false, false, true, false, false] from rfl, show row 4 = [false, false, false, false, true, false] from rfl, show row 5 = [false, false, false, false, false, true] from rfl, n01, n02, n03, n04, n05, n12, n13, n14, n15, n23, n24, n25, n34, n35, n45, ↓reduceIte] <;> rfl)
theorem num_ok {x : Int} {x0 x2 x3 x4 x5 x6 x7 x8 : SV} : ∃ z E, q_num [x0, .dat (.int x), x2, x3, x4, x5, x6, x7, x8] = some (E, .int z) := by
  have c0 : (0 ≤ (40 : Int) ∧ (40 : Int) ≤ 1000000 ∧ (10 : Int).natAbs < 2 ^ 64) = True := eq_true (by decide)
  have c1 : ∀ y : Int, gMul (.int 2) (.int y) = some (.int (2 * y)) := fun y => by
    show (if (-(2 ^ 64) < (2 : Int) ∧ (2 : Int) < 2 ^ 64) ∨ (-(2 ^ 64) < y ∧ y < 2 ^ 64) then some (PyData.int (2 * y)) else none) = _
    rw [if_pos (Or.inl (by decide))]
  have c2 : (0 < (2 : Int) * 10 ^ (40 : Int).toNat + 1) = True := eq_true (by decide)
  unfold q_num
  simp only [fxs, fxs2, isN, isiD, gOwn, List.set_cons_zero, List.set_cons_succ, List.length_cons, List.length_nil, Option.map_some, Option.map_none, ↓reduceIte, Bool.false_eq_true, Bool.true_eq_false, Bool.false_xor, Bool.true_xor, Bool.not_true, Bool.not_false, decide_true, decide_false, Bool.not_eq_true', decide_eq_true_eq, decide_eq_false_iff_not, Nat.reduceAdd, Nat.reduceLeDiff, Nat.reduceLT, Int.reduceAdd, c0, c1, c2]
  exact ⟨_, _, rfl⟩
abbrev errs (c0 c1 c2 c3 c4 c5 : Addr) (z : Int) : List OV := [.x c0 (some (1, .int z)), .x c1 none, .x c2 none, .x c3 none, .x c4 none, .x c5 (some (0, .int z))]
theorem errs_ok {c0 c1 c2 c3 c4 c5 : Addr} {z : Int} {a0 a1 a3 a4 a5 a6 a7 a8 : Option OV} : q_errs c0 c1 c2 c3 c4 c5 W [a0, a1, some (.d (.int z)), a3, a4, a5, a6, a7, a8] = some (W ++ [.lst (errs c0 c1 c2 c3 c4 c5 z)], .r W.length) := by
  simp [q_errs, oLst, oCons, oNil, oErr1, oErr0, oVar, gv, datO]
theorem loop2 {xs : List OV} {n1 n2 n3 : Nat} {W3 : Wd} {a0 a1 a2 a3 a4 a5 a6 a7 a8 : Option OV} (st : ∀ (W1 : Wd) (n : Nat) (a6 a7 : Option OV), W1[n]? = some (.lst xs) → ∃ J b6 b7, q_law_b2 cs W1 [a0, a1, a2, a3, a4, some (.r n), a6, a7, a8] = some (.nx (W1 ++ J) [a0, a1, a2, a3, a4, some (.r n), b6, b7, a8]))
    (q1 : W3[n1]? = some (.lst xs)) (q2 : W3[n2]? = some (.lst xs)) (q3 : W3[n3]? = some (.lst [.r n1, .r n2])) : ∃ W' b5 b6 b7, forC (oN 5) (q_law_b2 cs) n3 (lenC W3 n3 + 1) 0 W3 [a0, a1, a2, a3, a4, a5, a6, a7, a8] = some (.nx W' [a0, a1, a2, a3, a4, b5, b6, b7, a8]) := by
  obtain ⟨J, b6, b7, s1⟩ := st W3 n1 a6 a7 q1
  obtain ⟨J2, d6, d7, s2⟩ := st _ n2 b6 b7 (get_app (J := J) q2)
  have q4 := get_app (J := J) q3
  have q5 := get_app (J := J2) q4
  have l3 : lenC W3 n3 = 2 := by unfold lenC; rw [q3]; rfl
  refine ⟨(W3 ++ J) ++ J2, some (.r n2), d6, d7, ?_⟩
  rw [l3]
  simp only [forC, q3, oN, Option.bind_some, List.set_cons_succ, List.set_cons_zero, s1, q4, s2, q5, List.getElem?_cons_zero, List.getElem?_cons_succ, List.getElem?_nil]
/-- one cell of the script -/
theorem b3_ok {c0 c1 c2 c3 c4 c5 : Addr} (hn : [c0, c1, c2, c3, c4, c5].Nodup) {x : Int} {a0 a2 a3 a4 a5 a6 a7 a8 : Option OV} : ∃ W' b2 b3 b4 b5 b6 b7, q_law_b3 c0 c1 c2 c3 c4 c5 W [a0, some (.d (.int x)), a2, a3, a4, a5, a6, a7, a8] = some (.nx W' [a0, some (.d (.int x)), b2, b3, b4, b5, b6, b7, a8]) := by
  obtain ⟨t0, t1, t2, t3, t4, t5⟩ := tab_row hn
  obtain ⟨z, E, ez⟩ := num_ok (x := x) (x0 := toS a0) (x2 := toS a2) (x3 := toS a3) (x4 := toS a4) (x5 := toS a5) (x6 := toS a6) (x7 := toS a7) (x8 := toS a8)
  have hx : ∀ k, k < 6 → ∃ c f, (errs c0 c1 c2 c3 c4 c5 z)[k]? = some (.x c f) ∧ At [c0, c1, c2, c3, c4, c5] c k := fun k h => by
    match k, h with
    | 0, _ => exact ⟨_, _, rfl, t0⟩
    | 1, _ => exact ⟨_, _, rfl, t1⟩
    | 2, _ => exact ⟨_, _, rfl, t2⟩
    | 3, _ => exact ⟨_, _, rfl, t3⟩
    | 4, _ => exact ⟨_, _, rfl, t4⟩
    | 5, _ => exact ⟨_, _, rfl, t5⟩
  have o0 : okX [c0, c1, c2, c3, c4, c5] c0 = true := by unfold okX; rw [t0.y]; rfl
  have o5 : okX [c0, c1, c2, c3, c4, c5] c5 = true := by unfold okX; rw [t5.y]; rfl
  have e3 : toE [a0, some (.d (.int x)), a2, a3, a4, a5, a6, a7, a8] = [toS a0, .dat (.int x), toS a2, toS a3, toS a4, toS a5, toS a6, toS a7, toS a8] := rfl
  obtain ⟨W', b5, b6, b7, h⟩ := loop2 (cs := [c0, c1, c2, c3, c4, c5]) (xs := errs c0 c1 c2 c3 c4 c5 z) (n1 := W.length) (n2 := (W ++ [Cell.lst (errs c0 c1 c2 c3 c4 c5 z)]).length) (n3 := ((W ++ [Cell.lst (errs c0 c1 c2 c3 c4 c5 z)]) ++ [Cell.lst (errs c0 c1 c2 c3 c4 c5 z)]).length)
    (W3 := ((W ++ [Cell.lst (errs c0 c1 c2 c3 c4 c5 z)]) ++ [Cell.lst (errs c0 c1 c2 c3 c4 c5 z)]) ++ [Cell.lst [.r W.length, .r (W ++ [Cell.lst (errs c0 c1 c2 c3 c4 c5 z)]).length]]) (a0 := a0) (a1 := some (.d (.int x))) (a2 := some (.d (.int z))) (a3 := some (.r W.length)) (a4 := some (.r (W ++ [Cell.lst (errs c0 c1 c2 c3 c4 c5 z)]).length)) (a5 := a5) (a6 := a6) (a7 := a7) (a8 := a8)
    (fun W1 n a6 a7 hw => b2_ok rfl hx rfl rfl o0 o5 hw) (by simp) (by simp) (by simp)
  refine ⟨W', some (.d (.int z)), some (.r W.length), some (.r (W ++ [Cell.lst (errs c0 c1 c2 c3 c4 c5 z)]).length), b5, b6, b7, ?_⟩
  unfold q_law_b3
  simp only [oSeq, oSet, oPure, e3, ez, Option.bind_some, List.set_cons_succ, List.set_cons_zero, errs_ok, oFor, oLst, oCons, oNil, oVar, gv, List.length_cons, List.length_nil, Nat.reduceAdd, Nat.reduceLeDiff, ↓reduceIte, forV, Nat.zero_add]
  exact h
theorem cells_ok {c0 c1 c2 c3 c4 c5 : Addr} (hn : [c0, c1, c2, c3, c4, c5].Nodup) {a0 a8 : Option OV} : ∀ (ns : List Int) (W : Wd) (a1 a2 a3 a4 a5 a6 a7 : Option OV), ∃ W' b1 b2 b3 b4 b5 b6 b7, forL (oN 1) (q_law_b3 c0 c1 c2 c3 c4 c5) (ns.map fun n => .d (.int n)) W [a0, a1, a2, a3, a4, a5, a6, a7, a8] = some (.nx W' [a0, b1, b2, b3, b4, b5, b6, b7, a8])
  | [], W, a1, a2, a3, a4, a5, a6, a7 => ⟨W, a1, a2, a3, a4, a5, a6, a7, rfl⟩
  | n :: ns, W, a1, a2, a3, a4, a5, a6, a7 => by
    obtain ⟨W', b2, b3, b4, b5, b6, b7, h⟩ := b3_ok (W := W) hn (x := n) (a0 := a0) (a2 := a2) (a3 := a3) (a4 := a4) (a5 := a5) (a6 := a6) (a7 := a7) (a8 := a8)
    obtain ⟨W2, d1, d2, d3, d4, d5, d6, d7, h2⟩ := cells_ok hn (a0 := a0) (a8 := a8) ns W' (some (.d (.int n))) b2 b3 b4 b5 b6 b7
    refine ⟨W2, d1, d2, d3, d4, d5, d6, d7, ?_⟩
    rw [← h2]
    simp only [List.map_cons, forL, oN, List.set_cons_succ, List.set_cons_zero, Option.bind_some, h]
theorem law_okO {c0 c1 c2 c3 c4 c5 : Addr} (hn : [c0, c1, c2, c3, c4, c5].Nodup) (ns : List Int) (h : ns.length ≤ 63) : ∃ W, q_law c0 c1 c2 c3 c4 c5 [] (startO ["_law_script", "_law_cell", "_law_number", "_law_some", "_law_byname", "_law_batch", "_law_k", "_law_err", "_law_other"] [.q (ns.map fun n => .d (.int n))]) = some (.rt W (.d (.bool true))) := by
  have cut : ∃ ms : List Int, ms.length ≤ 63 ∧ cutD (ns.map fun n => OV.d (.int n)) none (some 8) = ms.map fun n => OV.d (.int n) := by
    unfold cutD
    rw [← List.map_drop, ← List.map_take]
    exact ⟨_, by rw [List.length_take, List.length_drop]; omega, rfl⟩
  obtain ⟨ms, hk, hm⟩ := cut
  have aD : ∀ l : List Int, allD (l.map fun n => OV.d (.int n)) = some (l.map .int) := fun l => by
    have q := allD_map (l.map .int)
    rw [List.map_map] at q
    exact q
  have gA : gAdd (.list (ms.map .int)) (.list [.int 0]) = some (.list ((ms ++ [0]).map .int)) := by
    rw [List.map_append]
    exact if_pos (by rw [List.length_map]; show ms.length + 1 ≤ 16777216; omega)
  have mm : (((ms ++ [0]).map PyData.int).map OV.d) = (ms ++ [0]).map fun n => OV.d (.int n) := by rw [List.map_map]; rfl
  obtain ⟨W', b1, b2, b3, b4, b5, b6, b7, h⟩ := cells_ok hn (a0 := some (.q (ns.map fun n => .d (.int n)))) (a8 := none) (ms ++ [0]) [.lst (ms.map fun n => .d (.int n)), .lst [.d (.int 0)]] none none none none none none none
  refine ⟨W', ?_⟩
  have s0 : startO ["_law_script", "_law_cell", "_law_number", "_law_some", "_law_byname", "_law_batch", "_law_k", "_law_err", "_law_other"] [.q (ns.map fun n => .d (.int n))] = [some (.q (ns.map fun n => .d (.int n))), none, none, none, none, none, none, none, none] := rfl
  rw [s0]
  unfold q_law
  simp only [oSeq, oFor, oOp, oSl, oVar, gv, Option.bind_some, oNo, oSo, oPure, qC, asD, gI, oSlV, hm, List.nil_append, oLst, oCons, oNil, List.length_cons, List.length_nil, Nat.reduceAdd, Nat.reduceLeDiff, ↓reduceIte, List.cons_append, List.getElem?_cons_zero, List.getElem?_cons_succ, aD, allD, gA, forV, gSeq, mm, h, oRet]
end
end Pm.Q
namespace Pm.plainmark_k03_errors_apart
open PySem PySem.Spec PyProof.Rows L2 Pm Pm.Q Pm.Ob
def top (i : Nat) : Stmt := PySem.Challenge.pw_plainmark_k03_errors_apart.main.body.getD i (.Pass ⟨0, 0, 0, 0⟩)
def within (st : Stmt) (j : Nat) : Stmt := match st with
  | .ClassDef _ _ _ b _ _ _ _ _ _ _ => b.getD j (.Pass ⟨0, 0, 0, 0⟩)
  | x => x
abbrev s_k_kinds : Stmt := top 9
abbrev s_law : Stmt := top 10
abbrev s_i0 : Stmt := within (top 2) 0
abbrev s_i5 : Stmt := within (top 7) 0
theorem sc_k_kinds : FnScope ["_law_err", "_law_found"] ["_law_err"] (defScope s_k_kinds) := ⟨rfl, rfl, rfl, by decide +kernel, rfl, by decide +kernel, by decide +kernel⟩
theorem sc_law : FnScope ["_law_script", "_law_cell", "_law_number", "_law_some", "_law_byname", "_law_batch", "_law_k", "_law_err", "_law_other"] ["_law_script"] (defScope s_law) := ⟨rfl, rfl, rfl, by decide +kernel, rfl, by decide +kernel, by decide +kernel⟩
theorem sc_i0 : FnScope ["self", "place"] ["self", "place"] (defScope s_i0) := ⟨rfl, rfl, rfl, by decide +kernel, rfl, by decide +kernel, by decide +kernel⟩
theorem sc_i5 : FnScope ["self", "index"] ["self", "index"] (defScope s_i5) := ⟨rfl, rfl, rfl, by decide +kernel, rfl, by decide +kernel, by decide +kernel⟩
/-- a class of errors whose __init__ keeps its one argument -/
def ErrDef (K : Fr) (C : Addr) (qual q : Str) (st : Stmt) : Prop := ∃ (fI : Addr) (fd : FuncData), ExI K C fI ∧ FunS K "__init__" qual st [] fI fd ∧ Binds K fd ["self", q] [] ∧ ∀ (s : Shared) (u v : Value), BindsTo s fd ⟨[u], [(q, v)]⟩ [("self", u), (q, v)]
/-- what the top has written -/
structure Txt (K : Fr) (mg : Str → Option Value) (c0 c1 c2 c3 c4 c5 cP : Addr) : Prop where
  D_k_kinds : Def K mg "_law_kinds" s_k_kinds ["_law_err"]
  D_law : Def K mg "law" s_law ["_law_script"]
  m0 : mg "NoSource" = some (.ref c0)
  m1 : mg "NoDefinitions" = some (.ref c1)
  m2 : mg "NoLabel" = some (.ref c2)
  m3 : mg "NoTree" = some (.ref c3)
  m4 : mg "NoText" = some (.ref c4)
  m5 : mg "NoEdit" = some (.ref c5)
  mP : mg "PlainmarkError" = some (.ref cP)
  nV : mg "ValueError" = none
  n_isinstance : mg "isinstance" = none
  n_int : mg "int" = none
  n_range : mg "range" = none
  n_enumerate : mg "enumerate" = none
  d0 : ErrDef K c0 "NoSource.__init__" "place" s_i0
  d5 : ErrDef K c5 "NoEdit.__init__" "index" s_i5
  x1 : PySem.W.excIn K c1 [.type "ValueError", .type "Exception", .type "BaseException", .type "object"] "ValueError.__new__" = true
  k1 : PySem.W.keepIn K (.ref c1) = true
  x2 : PySem.W.excIn K c2 [.type "ValueError", .type "Exception", .type "BaseException", .type "object"] "ValueError.__new__" = true
  k2 : PySem.W.keepIn K (.ref c2) = true
  x3 : PySem.W.excIn K c3 [.type "ValueError", .type "Exception", .type "BaseException", .type "object"] "ValueError.__new__" = true
  k3 : PySem.W.keepIn K (.ref c3) = true
  x4 : PySem.W.excIn K c4 [.type "ValueError", .type "Exception", .type "BaseException", .type "object"] "ValueError.__new__" = true
  k4 : PySem.W.keepIn K (.ref c4) = true
  e0 : ExcC K c0
  f0 : XfC K c0
  a0 : PySem.W.findIn K (.ref c0) "place" = some none
  b0 : PySem.W.findIn K (.ref c0) "index" = some none
  t00 : PySem.W.kitOne K (.ref c0) (.ref c0) = some true
  t01 : PySem.W.kitOne K (.ref c0) (.ref c1) = some false
  t02 : PySem.W.kitOne K (.ref c0) (.ref c2) = some false
  t03 : PySem.W.kitOne K (.ref c0) (.ref c3) = some false
  t04 : PySem.W.kitOne K (.ref c0) (.ref c4) = some false
  t05 : PySem.W.kitOne K (.ref c0) (.ref c5) = some false
  t0P : PySem.W.kitOne K (.ref c0) (.ref cP) = some true
  t0V : PySem.W.kitOne K (.ref c0) (.type "ValueError") = some true
  e1 : ExcC K c1
  f1 : XfC K c1
  a1 : PySem.W.findIn K (.ref c1) "place" = some none
  b1 : PySem.W.findIn K (.ref c1) "index" = some none
  t10 : PySem.W.kitOne K (.ref c1) (.ref c0) = some false
  t11 : PySem.W.kitOne K (.ref c1) (.ref c1) = some true
  t12 : PySem.W.kitOne K (.ref c1) (.ref c2) = some false
  t13 : PySem.W.kitOne K (.ref c1) (.ref c3) = some false
  t14 : PySem.W.kitOne K (.ref c1) (.ref c4) = some false
  t15 : PySem.W.kitOne K (.ref c1) (.ref c5) = some false
  t1P : PySem.W.kitOne K (.ref c1) (.ref cP) = some true
  t1V : PySem.W.kitOne K (.ref c1) (.type "ValueError") = some true
  e2 : ExcC K c2
  f2 : XfC K c2
  a2 : PySem.W.findIn K (.ref c2) "place" = some none
  b2 : PySem.W.findIn K (.ref c2) "index" = some none
  t20 : PySem.W.kitOne K (.ref c2) (.ref c0) = some false
  t21 : PySem.W.kitOne K (.ref c2) (.ref c1) = some false
  t22 : PySem.W.kitOne K (.ref c2) (.ref c2) = some true
  t23 : PySem.W.kitOne K (.ref c2) (.ref c3) = some false
  t24 : PySem.W.kitOne K (.ref c2) (.ref c4) = some false
  t25 : PySem.W.kitOne K (.ref c2) (.ref c5) = some false
  t2P : PySem.W.kitOne K (.ref c2) (.ref cP) = some true
  t2V : PySem.W.kitOne K (.ref c2) (.type "ValueError") = some true
  e3 : ExcC K c3
  f3 : XfC K c3
  a3 : PySem.W.findIn K (.ref c3) "place" = some none
  b3 : PySem.W.findIn K (.ref c3) "index" = some none
  t30 : PySem.W.kitOne K (.ref c3) (.ref c0) = some false
  t31 : PySem.W.kitOne K (.ref c3) (.ref c1) = some false
  t32 : PySem.W.kitOne K (.ref c3) (.ref c2) = some false
  t33 : PySem.W.kitOne K (.ref c3) (.ref c3) = some true
  t34 : PySem.W.kitOne K (.ref c3) (.ref c4) = some false
  t35 : PySem.W.kitOne K (.ref c3) (.ref c5) = some false
  t3P : PySem.W.kitOne K (.ref c3) (.ref cP) = some true
  t3V : PySem.W.kitOne K (.ref c3) (.type "ValueError") = some true
  e4 : ExcC K c4
  f4 : XfC K c4
  a4 : PySem.W.findIn K (.ref c4) "place" = some none
  b4 : PySem.W.findIn K (.ref c4) "index" = some none
  t40 : PySem.W.kitOne K (.ref c4) (.ref c0) = some false
  t41 : PySem.W.kitOne K (.ref c4) (.ref c1) = some false
  t42 : PySem.W.kitOne K (.ref c4) (.ref c2) = some false
  t43 : PySem.W.kitOne K (.ref c4) (.ref c3) = some false
  t44 : PySem.W.kitOne K (.ref c4) (.ref c4) = some true
  t45 : PySem.W.kitOne K (.ref c4) (.ref c5) = some false
  t4P : PySem.W.kitOne K (.ref c4) (.ref cP) = some true
  t4V : PySem.W.kitOne K (.ref c4) (.type "ValueError") = some true
  e5 : ExcC K c5
  f5 : XfC K c5
  a5 : PySem.W.findIn K (.ref c5) "place" = some none
  b5 : PySem.W.findIn K (.ref c5) "index" = some none
  t50 : PySem.W.kitOne K (.ref c5) (.ref c0) = some false
  t51 : PySem.W.kitOne K (.ref c5) (.ref c1) = some false
  t52 : PySem.W.kitOne K (.ref c5) (.ref c2) = some false
  t53 : PySem.W.kitOne K (.ref c5) (.ref c3) = some false
  t54 : PySem.W.kitOne K (.ref c5) (.ref c4) = some false
  t55 : PySem.W.kitOne K (.ref c5) (.ref c5) = some true
  t5P : PySem.W.kitOne K (.ref c5) (.ref cP) = some true
  t5V : PySem.W.kitOne K (.ref c5) (.type "ValueError") = some true
section
variable {P : Program} {w : World} {K : Fr} {mg : Str → Option Value} {base : Heap} {c0 c1 c2 c3 c4 c5 cP : Addr} (T : Txt K mg c0 c1 c2 c3 c4 c5 cP)
include T
theorem nodup : [c0, c1, c2, c3, c4, c5].Nodup := by
  have go : ∀ {a b : Addr}, PySem.W.kitOne K (.ref a) (.ref b) = some false → PySem.W.kitOne K (.ref b) (.ref b) = some true → ¬ a = b := fun h1 h2 e => by subst e; rw [h1] at h2; cases h2
  simp only [List.nodup_cons, List.mem_cons, not_or, List.not_mem_nil, not_false_eq_true, List.nodup_nil, and_true]
  exact ⟨⟨go T.t01 T.t11, go T.t02 T.t22, go T.t03 T.t33, go T.t04 T.t44, go T.t05 T.t55⟩, ⟨go T.t12 T.t22, go T.t13 T.t33, go T.t14 T.t44, go T.t15 T.t55⟩, ⟨go T.t23 T.t33, go T.t24 T.t44, go T.t25 T.t55⟩, ⟨go T.t34 T.t44, go T.t35 T.t55⟩, go T.t45 T.t55⟩
theorem tab_of {bs : List Bool} {D : Addr} {b : Bool} (h : tab [c0, c1, c2, c3, c4, c5] bs D = some b) (hl : bs.length = 6) : (D = c0 ∧ bs[0]? = some b) ∨ (D = c1 ∧ bs[1]? = some b) ∨ (D = c2 ∧ bs[2]? = some b) ∨ (D = c3 ∧ bs[3]? = some b) ∨ (D = c4 ∧ bs[4]? = some b) ∨ (D = c5 ∧ bs[5]? = some b) := by
  match bs, hl with
  | [b0, b1, b2, b3, b4, b5], _ =>
    simp only [tab] at h
    by_cases h0 : c0 = D
    · rw [if_pos h0] at h; exact .inl ⟨h0.symm, h⟩
    rw [if_neg h0] at h
    by_cases h1 : c1 = D
    · rw [if_pos h1] at h; exact .inr (.inl ⟨h1.symm, h⟩)
    rw [if_neg h1] at h
    by_cases h2 : c2 = D
    · rw [if_pos h2] at h; exact .inr (.inr (.inl ⟨h2.symm, h⟩))
    rw [if_neg h2] at h
    by_cases h3 : c3 = D
    · rw [if_pos h3] at h; exact .inr (.inr (.inr (.inl ⟨h3.symm, h⟩)))
    rw [if_neg h3] at h
    by_cases h4 : c4 = D
    · rw [if_pos h4] at h; exact .inr (.inr (.inr (.inr (.inl ⟨h4.symm, h⟩))))
    rw [if_neg h4] at h
    by_cases h5 : c5 = D
    · rw [if_pos h5] at h; exact .inr (.inr (.inr (.inr (.inr (⟨h5.symm, h⟩)))))
    rw [if_neg h5] at h
    cases h
theorem tb0 : ∀ D b, tab [c0, c1, c2, c3, c4, c5] (row 0) D = some b → ExcC K D ∧ PySem.W.kitOne K (.ref D) (.ref c0) = some b := fun D b h => by
  rcases tab_of T h rfl with ⟨rfl, z⟩ | ⟨rfl, z⟩ | ⟨rfl, z⟩ | ⟨rfl, z⟩ | ⟨rfl, z⟩ | ⟨rfl, z⟩
  · exact ⟨T.e0, T.t00.trans z⟩
  · exact ⟨T.e1, T.t10.trans z⟩
  · exact ⟨T.e2, T.t20.trans z⟩
  · exact ⟨T.e3, T.t30.trans z⟩
  · exact ⟨T.e4, T.t40.trans z⟩
  · exact ⟨T.e5, T.t50.trans z⟩
theorem tb1 : ∀ D b, tab [c0, c1, c2, c3, c4, c5] (row 1) D = some b → ExcC K D ∧ PySem.W.kitOne K (.ref D) (.ref c1) = some b := fun D b h => by
  rcases tab_of T h rfl with ⟨rfl, z⟩ | ⟨rfl, z⟩ | ⟨rfl, z⟩ | ⟨rfl, z⟩ | ⟨rfl, z⟩ | ⟨rfl, z⟩
  · exact ⟨T.e0, T.t01.trans z⟩
  · exact ⟨T.e1, T.t11.trans z⟩
  · exact ⟨T.e2, T.t21.trans z⟩
  · exact ⟨T.e3, T.t31.trans z⟩
  · exact ⟨T.e4, T.t41.trans z⟩
  · exact ⟨T.e5, T.t51.trans z⟩
theorem tb2 : ∀ D b, tab [c0, c1, c2, c3, c4, c5] (row 2) D = some b → ExcC K D ∧ PySem.W.kitOne K (.ref D) (.ref c2) = some b := fun D b h => by
  rcases tab_of T h rfl with ⟨rfl, z⟩ | ⟨rfl, z⟩ | ⟨rfl, z⟩ | ⟨rfl, z⟩ | ⟨rfl, z⟩ | ⟨rfl, z⟩
  · exact ⟨T.e0, T.t02.trans z⟩
  · exact ⟨T.e1, T.t12.trans z⟩
  · exact ⟨T.e2, T.t22.trans z⟩
  · exact ⟨T.e3, T.t32.trans z⟩
  · exact ⟨T.e4, T.t42.trans z⟩
  · exact ⟨T.e5, T.t52.trans z⟩
theorem tb3 : ∀ D b, tab [c0, c1, c2, c3, c4, c5] (row 3) D = some b → ExcC K D ∧ PySem.W.kitOne K (.ref D) (.ref c3) = some b := fun D b h => by
  rcases tab_of T h rfl with ⟨rfl, z⟩ | ⟨rfl, z⟩ | ⟨rfl, z⟩ | ⟨rfl, z⟩ | ⟨rfl, z⟩ | ⟨rfl, z⟩
  · exact ⟨T.e0, T.t03.trans z⟩
  · exact ⟨T.e1, T.t13.trans z⟩
  · exact ⟨T.e2, T.t23.trans z⟩
  · exact ⟨T.e3, T.t33.trans z⟩
  · exact ⟨T.e4, T.t43.trans z⟩
  · exact ⟨T.e5, T.t53.trans z⟩
theorem tb4 : ∀ D b, tab [c0, c1, c2, c3, c4, c5] (row 4) D = some b → ExcC K D ∧ PySem.W.kitOne K (.ref D) (.ref c4) = some b := fun D b h => by
  rcases tab_of T h rfl with ⟨rfl, z⟩ | ⟨rfl, z⟩ | ⟨rfl, z⟩ | ⟨rfl, z⟩ | ⟨rfl, z⟩ | ⟨rfl, z⟩
  · exact ⟨T.e0, T.t04.trans z⟩
  · exact ⟨T.e1, T.t14.trans z⟩
  · exact ⟨T.e2, T.t24.trans z⟩
  · exact ⟨T.e3, T.t34.trans z⟩
  · exact ⟨T.e4, T.t44.trans z⟩
  · exact ⟨T.e5, T.t54.trans z⟩
theorem tb5 : ∀ D b, tab [c0, c1, c2, c3, c4, c5] (row 5) D = some b → ExcC K D ∧ PySem.W.kitOne K (.ref D) (.ref c5) = some b := fun D b h => by
  rcases tab_of T h rfl with ⟨rfl, z⟩ | ⟨rfl, z⟩ | ⟨rfl, z⟩ | ⟨rfl, z⟩ | ⟨rfl, z⟩ | ⟨rfl, z⟩
  · exact ⟨T.e0, T.t05.trans z⟩
  · exact ⟨T.e1, T.t15.trans z⟩
  · exact ⟨T.e2, T.t25.trans z⟩
  · exact ⟨T.e3, T.t35.trans z⟩
  · exact ⟨T.e4, T.t45.trans z⟩
  · exact ⟨T.e5, T.t55.trans z⟩
theorem tbP : ∀ D b, tab [c0, c1, c2, c3, c4, c5] yes6 D = some b → ExcC K D ∧ PySem.W.kitOne K (.ref D) (.ref cP) = some b := fun D b h => by
  rcases tab_of T h rfl with ⟨rfl, z⟩ | ⟨rfl, z⟩ | ⟨rfl, z⟩ | ⟨rfl, z⟩ | ⟨rfl, z⟩ | ⟨rfl, z⟩
  · exact ⟨T.e0, T.t0P.trans z⟩
  · exact ⟨T.e1, T.t1P.trans z⟩
  · exact ⟨T.e2, T.t2P.trans z⟩
  · exact ⟨T.e3, T.t3P.trans z⟩
  · exact ⟨T.e4, T.t4P.trans z⟩
  · exact ⟨T.e5, T.t5P.trans z⟩
theorem tbV : ∀ D b, tab [c0, c1, c2, c3, c4, c5] yes6 D = some b → ExcC K D ∧ PySem.W.kitOne K (.ref D) (.type "ValueError") = some b := fun D b h => by
  rcases tab_of T h rfl with ⟨rfl, z⟩ | ⟨rfl, z⟩ | ⟨rfl, z⟩ | ⟨rfl, z⟩ | ⟨rfl, z⟩ | ⟨rfl, z⟩
  · exact ⟨T.e0, T.t0V.trans z⟩
  · exact ⟨T.e1, T.t1V.trans z⟩
  · exact ⟨T.e2, T.t2V.trans z⟩
  · exact ⟨T.e3, T.t3V.trans z⟩
  · exact ⟨T.e4, T.t4V.trans z⟩
  · exact ⟨T.e5, T.t5V.trans z⟩
theorem okA : ∀ C, okX [c0, c1, c2, c3, c4, c5] C = true → XfC K C ∧ PySem.W.findIn K (.ref C) "place" = some none := fun C h => by
  unfold okX at h
  obtain ⟨b, h⟩ := Option.isSome_iff_exists.mp h
  rcases tab_of T h rfl with ⟨rfl, z⟩ | ⟨rfl, z⟩ | ⟨rfl, z⟩ | ⟨rfl, z⟩ | ⟨rfl, z⟩ | ⟨rfl, z⟩
  · exact ⟨T.f0, T.a0⟩
  · exact ⟨T.f1, T.a1⟩
  · exact ⟨T.f2, T.a2⟩
  · exact ⟨T.f3, T.a3⟩
  · exact ⟨T.f4, T.a4⟩
  · exact ⟨T.f5, T.a5⟩
theorem okB : ∀ C, okX [c0, c1, c2, c3, c4, c5] C = true → XfC K C ∧ PySem.W.findIn K (.ref C) "index" = some none := fun C h => by
  unfold okX at h
  obtain ⟨b, h⟩ := Option.isSome_iff_exists.mp h
  rcases tab_of T h rfl with ⟨rfl, z⟩ | ⟨rfl, z⟩ | ⟨rfl, z⟩ | ⟨rfl, z⟩ | ⟨rfl, z⟩ | ⟨rfl, z⟩
  · exact ⟨T.f0, T.b0⟩
  · exact ⟨T.f1, T.b1⟩
  · exact ⟨T.f2, T.b2⟩
  · exact ⟨T.f3, T.b3⟩
  · exact ⟨T.f4, T.b4⟩
  · exact ⟨T.f5, T.b5⟩
theorem err0 {Y : Cx} {j : Nat} (hK : Y.K = K) (hM : Y.mg = mg) (hr : Room j Y.A) (le : 2 ≤ j) : ErrOk Y "NoSource" c0 "place" "place" := by
  obtain ⟨fI, fd, T0, F0, B0, K0⟩ := T.d0
  subst hK hM
  refine ⟨1, fI, fd, ["self", "place"], T0, ?_, hr.mono le, T.m0, B0, rfl, K0⟩
  exact fn_excI T0.T T.a0 F0 sc_i0 rfl (fun u v => ⟨rfl, rfl⟩) (fun cdv A outer s H E => pss_one (ps_ost (pv 0) (pv 1)))
theorem err5 {Y : Cx} {j : Nat} (hK : Y.K = K) (hM : Y.mg = mg) (hr : Room j Y.A) (le : 2 ≤ j) : ErrOk Y "NoEdit" c5 "index" "index" := by
  obtain ⟨fI, fd, T0, F0, B0, K0⟩ := T.d5
  subst hK hM
  refine ⟨1, fI, fd, ["self", "index"], T0, ?_, hr.mono le, T.m5, B0, rfl, K0⟩
  exact fn_excI T0.T T.b5 F0 sc_i5 rfl (fun u v => ⟨rfl, rfl⟩) (fun cdv A outer s H E => pss_one (ps_ost (pv 0) (pv 1)))
theorem d_k_kinds {f : Addr} {cdv : Value} {A : Around} {outer : List PySem.Env} {s : Shared} {H : Hp} {E : XK} (hr : Room 0 (A.deeper (envOfC "_law_kinds" (defScope s_k_kinds) s.heap.objs.size f cdv))) :
    OSs (cxOf CX0 P w K mg base ["_law_err", "_law_found"] "_law_kinds" (defScope s_k_kinds) f cdv A outer s H E).nox K [] (defBody s_k_kinds) (q_k_kinds [c0, c1, c2, c3, c4, c5]) := by
  have nd := sc_k_kinds.nd
  exact oss_cons (os_set 1 nd (oe_lst (oa_cons (oe_isX (tb0 T) (fun _ => T.n_isinstance) (fun _ => T.m0) (oe_v 0)) (oa_cons (oe_isX (tb1 T) (fun _ => T.n_isinstance) (fun _ => T.m1) (oe_v 0)) (oa_cons (oe_isX (tb2 T) (fun _ => T.n_isinstance) (fun _ => T.m2) (oe_v 0)) oa_nil)))))
    (oss_one (os_ret (oe_add (oe_v 1) (oe_lst (oa_cons (oe_isX (tb3 T) (fun _ => T.n_isinstance) (fun _ => T.m3) (oe_v 0)) (oa_cons (oe_isX (tb4 T) (fun _ => T.n_isinstance) (fun _ => T.m4) (oe_v 0)) (oa_cons (oe_isX (tb5 T) (fun _ => T.n_isinstance) (fun _ => T.m5) (oe_v 0)) oa_nil)))))))
theorem has_k_kinds : Has P w K mg base 1 "_law_kinds" (spO K [] (F_k_kinds [c0, c1, c2, c3, c4, c5])) := T.D_k_kinds.has fun f fd F => fn_obj F sc_k_kinds (fun cdv A outer s H E hr => d_k_kinds T hr)
theorem d_law (C_k_kinds : Has P w K mg base 1 "_law_kinds" (spO K [] (F_k_kinds [c0, c1, c2, c3, c4, c5]))) {f : Addr} {cdv : Value} {A : Around} {outer : List PySem.Env} {s : Shared} {H : Hp} {E : XK} (hr : Room 2 (A.deeper (envOfC "law" (defScope s_law) s.heap.objs.size f cdv))) :
    OSs (cxOf CX0 P w K mg base ["_law_script", "_law_cell", "_law_number", "_law_some", "_law_byname", "_law_batch", "_law_k", "_law_err", "_law_other"] "law" (defScope s_law) f cdv A outer s H E).nox K [] (defBody s_law) (q_law c0 c1 c2 c3 c4 c5) := by
  have nd := sc_law.nd
  exact oss_cons (os_for (oe_add (oe_sl (oe_v 0) oo_no (oo_so (oe_pure (c_c rfl) de_int))) (oe_lst (oa_cons (oe_pure (c_c rfl) de_int) oa_nil))) (og_name 1 nd)
  (oss_cons (os_set 2 nd (oe_pure (c_op k_sub (c_op k_mod (c_u k_int c_var) (c_op k_add (c_op k_mul (c_c rfl) (c_op k_pow (c_c rfl) (c_c rfl))) (c_c rfl))) (c_op k_pow (c_c rfl) (c_c rfl))) (de_sub (de_mod (de_toInt (fun _ => T.n_int) (de_v 1)) (de_add (de_mul de_int (de_pow de_int de_int)) (DE.v de_int))) (de_pow de_int de_int))))
  (oss_cons (os_set 3 nd (oe_lst (oa_cons (oe_err1 1 (fun _ => err0 T rfl rfl hr (by decide)) (oe_v 2)) (oa_cons (oe_err0 PySem.F.excBase_ValueError T.x1 (fun _ => T.m1) T.k1) (oa_cons (oe_err0 PySem.F.excBase_ValueError T.x2 (fun _ => T.m2) T.k2) (oa_cons (oe_err0 PySem.F.excBase_ValueError T.x3 (fun _ => T.m3) T.k3) (oa_cons (oe_err0 PySem.F.excBase_ValueError T.x4 (fun _ => T.m4) T.k4) (oa_cons (oe_err1 0 (fun _ => err5 T rfl rfl hr (by decide)) (oe_v 2)) oa_nil))))))))
  (oss_cons (os_set 4 nd (oe_lst (oa_cons (oe_errK 1 (fun _ => err0 T rfl rfl hr (by decide)) (oe_v 2)) (oa_cons (oe_err0 PySem.F.excBase_ValueError T.x1 (fun _ => T.m1) T.k1) (oa_cons (oe_err0 PySem.F.excBase_ValueError T.x2 (fun _ => T.m2) T.k2) (oa_cons (oe_err0 PySem.F.excBase_ValueError T.x3 (fun _ => T.m3) T.k3) (oa_cons (oe_err0 PySem.F.excBase_ValueError T.x4 (fun _ => T.m4) T.k4) (oa_cons (oe_errK 0 (fun _ => err5 T rfl rfl hr (by decide)) (oe_v 2)) oa_nil))))))))
  (oss_one (os_for (oe_lst (oa_cons (oe_v 3) (oa_cons (oe_v 4) oa_nil))) (og_name 5 nd)
    (oss_cons (os_forI (oi_enum (fun _ => T.n_enumerate) (oe_v 5)) (og_tup (ogs_cons (og_name 6 nd) (ogs_cons (og_name 7 nd) ogs_nil)))
    (oss_cons (os_if (OW.t (ow_or (ot_not (ot_val (oe_isX (tbP T) (fun _ => T.n_isinstance) (fun _ => T.mP) (oe_v 7)))) (ow_or1 (ot_not (ot_val (oe_isXT (tbV T) (fun _ => T.n_isinstance) (fun _ => T.nV) (oe_v 7))))))) (oss_one (os_ret (oe_pure (c_c rfl) de_bl))) oss_nil)
      (oss_one (os_if (ot_ne (oe_callO (fun _ => callOk C_k_kinds hr (by decide)) (oa_cons (oe_v 7) oa_nil)) (oe_pure (c_lc (c_range1 (c_cons (c_c rfl) c_nil)) c_yes c_law_e1) (de_lc 8 (fun _ => nd) (di_range1 (fun _ => T.n_range) (da_cons de_int da_nil)) (de_eq (fun _ => hr.units) (de_v 8) (DE.v (de_v 6))) (ok := fun _ => (by decide +kernel : blkC ["_law_script", "_law_cell", "_law_number", "_law_some", "_law_byname", "_law_batch", "_law_k", "_law_err", "_law_other"] (defScope s_law) _ _ = true)))) (fun _ => hr.units)) (oss_one (os_ret (oe_pure (c_c rfl) de_bl))) oss_nil))))
    (oss_one (os_if (OW.t (ow_or (ot_ne (oe_xf 1 (okA T) (oe_ix (oe_v 5) (oe_pure (c_c rfl) de_int))) (oe_v 2) (fun _ => hr.units)) (ow_or1 (ot_ne (oe_xf 0 (okB T) (oe_ix (oe_v 5) (oe_pure (c_c rfl) de_int))) (oe_v 2) (fun _ => hr.units))))) (oss_one (os_ret (oe_pure (c_c rfl) de_bl))) oss_nil)))))))))
    (oss_one (os_ret (oe_pure (c_c rfl) de_bl)))
theorem all_law {f : Addr} {fd : FuncData} (F : Fun K "law" "law" s_law f fd) : FnOk P w K mg base CX0 3 f fd ["_law_script"] (spLaw K) :=
  fn_lawO F sc_law (fun cdv A outer s H E hr => d_law T (has_k_kinds T) hr) (law_okO (nodup T))
end
theorem all_mk {l : PySem.W.OpenLaw} {w : World} {K : Fr} {h : Heap} {mg : Str → Option Value} {fa : Addr} (X : K.In h) (G : h.Ns mainGlobals mg) (hfa : mg "law" = some (.ref fa))
    {f_k_kinds : Addr} {od_k_kinds an_k_kinds : Option Addr} {sl_k_kinds : Array (Option Value)} {oc_k_kinds kV_k_kinds dc_k_kinds pm_k_kinds cd_k_kinds ct_k_kinds : Value}
    {f_law : Addr} {od_law an_law : Option Addr} {sl_law : Array (Option Value)} {oc_law kV_law dc_law pm_law cd_law ct_law : Value}
    {c0 c1 c2 c3 c4 c5 cP : Addr}
    {nm_z0 q_z0 : Str} {N_z0 fI_z0 b_z0 : Addr} {bs_z0 : List Value} {sn_z0 : List Str} {sub_z0 : List Value} {ab_z0 : Bool} {col_z0 : Option Bool} {dd_z0 : Option Addr} {m0_z0 m1_z0 m2_z0 m3_z0 m5_z0 : Option Value} {od_z0 an_z0 : Option Addr} {sl_z0 : Array (Option Value)} {oc_z0 kV_z0 dc_z0 pm_z0 cd_z0 ct_z0 : Value}
    {nm_z5 q_z5 : Str} {N_z5 fI_z5 b_z5 : Addr} {bs_z5 : List Value} {sn_z5 : List Str} {sub_z5 : List Value} {ab_z5 : Bool} {col_z5 : Option Bool} {dd_z5 : Option Addr} {m0_z5 m1_z5 m2_z5 m3_z5 m5_z5 : Option Value} {od_z5 an_z5 : Option Addr} {sl_z5 : Array (Option Value)} {oc_z5 kV_z5 dc_z5 pm_z5 cd_z5 ct_z5 : Value}
    (a_k_kinds : PySem.W.nsIn K mainGlobals "_law_kinds" = some (some (.ref f_k_kinds))) (l_k_kinds : K.lookup f_k_kinds = some ⟨oc_k_kinds, od_k_kinds, .func (PySem.W.fnOf "_law_kinds" "_law_kinds" (defArgs s_k_kinds) (defBody s_k_kinds) (defScope s_k_kinds) .none kV_k_kinds dc_k_kinds pm_k_kinds an_k_kinds cd_k_kinds ct_k_kinds), sl_k_kinds⟩) (e_k_kinds : PySem.W.codeIn K cd_k_kinds "_law_kinds" = true) (k_k_kinds : PySem.W.keepIn K (.ref f_k_kinds) = true)
    (a_law : PySem.W.nsIn K mainGlobals "law" = some (some (.ref f_law))) (l_law : K.lookup f_law = some ⟨oc_law, od_law, .func (PySem.W.fnOf "law" "law" (defArgs s_law) (defBody s_law) (defScope s_law) .none kV_law dc_law pm_law an_law cd_law ct_law), sl_law⟩) (e_law : PySem.W.codeIn K cd_law "law" = true) (k_law : PySem.W.keepIn K (.ref f_law) = true)
    (m_c0 : PySem.W.nsIn K mainGlobals "NoSource" = some (some (.ref c0)))
    (m_c1 : PySem.W.nsIn K mainGlobals "NoDefinitions" = some (some (.ref c1)))
    (m_c2 : PySem.W.nsIn K mainGlobals "NoLabel" = some (some (.ref c2)))
    (m_c3 : PySem.W.nsIn K mainGlobals "NoTree" = some (some (.ref c3)))
    (m_c4 : PySem.W.nsIn K mainGlobals "NoText" = some (some (.ref c4)))
    (m_c5 : PySem.W.nsIn K mainGlobals "NoEdit" = some (some (.ref c5)))
    (m_cP : PySem.W.nsIn K mainGlobals "PlainmarkError" = some (some (.ref cP)))
    (n_isinstance : PySem.W.nsIn K mainGlobals "isinstance" = some none)
    (n_int : PySem.W.nsIn K mainGlobals "int" = some none)
    (n_range : PySem.W.nsIn K mainGlobals "range" = some none)
    (n_enumerate : PySem.W.nsIn K mainGlobals "enumerate" = some none)
    (n_ValueError : PySem.W.nsIn K mainGlobals "ValueError" = some none)
    (x_z0 : K.lookup c0 = some (excClassObj nm_z0 q_z0 c0 N_z0 bs_z0 [.ref b_z0, .type "ValueError", .type "Exception", .type "BaseException", .type "object"] true sn_z0 sub_z0 ab_z0 col_z0 dd_z0 m0_z0 m1_z0 m2_z0 m3_z0 m5_z0 "ValueError.__new__"))
    (sa_z0 : PySem.W.findIn K (.ref c0) "__setattr__" = some (some (.builtin "object.__setattr__"))) (ex_z0 : PySem.W.subIn K (.ref c0) (.type "BaseException") = some true) (ty_z0 : PySem.W.typeIn K (.ref c0) = some (.type "type")) (kc_z0 : PySem.W.keepIn K (.ref c0) = true) (ii_z0 : PySem.W.findIn K (.ref c0) "__init__" = some (some (.ref fI_z0))) (ti_z0 : PySem.W.typeIn K (.ref fI_z0) = some (.type "function"))
    (l_z0 : K.lookup fI_z0 = some ⟨oc_z0, od_z0, .func (PySem.W.fnOf "__init__" "NoSource.__init__" (defArgs s_i0) (defBody s_i0) (defScope s_i0) .none kV_z0 dc_z0 pm_z0 an_z0 cd_z0 ct_z0), sl_z0⟩) (e_z0 : PySem.W.codeIn K cd_z0 "NoSource.__init__" = true) (k_z0 : PySem.W.keepIn K (.ref fI_z0) = true)
    (x_z5 : K.lookup c5 = some (excClassObj nm_z5 q_z5 c5 N_z5 bs_z5 [.ref b_z5, .type "ValueError", .type "Exception", .type "BaseException", .type "object"] true sn_z5 sub_z5 ab_z5 col_z5 dd_z5 m0_z5 m1_z5 m2_z5 m3_z5 m5_z5 "ValueError.__new__"))
    (sa_z5 : PySem.W.findIn K (.ref c5) "__setattr__" = some (some (.builtin "object.__setattr__"))) (ex_z5 : PySem.W.subIn K (.ref c5) (.type "BaseException") = some true) (ty_z5 : PySem.W.typeIn K (.ref c5) = some (.type "type")) (kc_z5 : PySem.W.keepIn K (.ref c5) = true) (ii_z5 : PySem.W.findIn K (.ref c5) "__init__" = some (some (.ref fI_z5))) (ti_z5 : PySem.W.typeIn K (.ref fI_z5) = some (.type "function"))
    (l_z5 : K.lookup fI_z5 = some ⟨oc_z5, od_z5, .func (PySem.W.fnOf "__init__" "NoEdit.__init__" (defArgs s_i5) (defBody s_i5) (defScope s_i5) .none kV_z5 dc_z5 pm_z5 an_z5 cd_z5 ct_z5), sl_z5⟩) (e_z5 : PySem.W.codeIn K cd_z5 "NoEdit.__init__" = true) (k_z5 : PySem.W.keepIn K (.ref fI_z5) = true)
    (x1 : PySem.W.excIn K c1 [.type "ValueError", .type "Exception", .type "BaseException", .type "object"] "ValueError.__new__" = true) (k1 : PySem.W.keepIn K (.ref c1) = true)
    (x2 : PySem.W.excIn K c2 [.type "ValueError", .type "Exception", .type "BaseException", .type "object"] "ValueError.__new__" = true) (k2 : PySem.W.keepIn K (.ref c2) = true)
    (x3 : PySem.W.excIn K c3 [.type "ValueError", .type "Exception", .type "BaseException", .type "object"] "ValueError.__new__" = true) (k3 : PySem.W.keepIn K (.ref c3) = true)
    (x4 : PySem.W.excIn K c4 [.type "ValueError", .type "Exception", .type "BaseException", .type "object"] "ValueError.__new__" = true) (k4 : PySem.W.keepIn K (.ref c4) = true)
    (g0_hg : PySem.W.findIn K (.ref c0) "__getattribute__" = some (some (.builtin "BaseException.__getattribute__"))) (g0_hk : PySem.W.findIn K (.ref c0) "__getattr__" = some none) (g0_hs : PySem.W.subIn K (.ref c0) (.type "BaseException") = some true) (g0_hd : PySem.W.hasDictIn K c0 = true) (g0_ha : PySem.W.findIn K (.ref c0) "__class__" = some (some (.builtin "object.__class__"))) (g0_hm : PySem.W.mroIn K c0 (.type "object") = some true) (g0_a : PySem.W.findIn K (.ref c0) "place" = some none) (g0_b : PySem.W.findIn K (.ref c0) "index" = some none)
    (t00 : PySem.W.kitOne K (.ref c0) (.ref c0) = some true)
    (t01 : PySem.W.kitOne K (.ref c0) (.ref c1) = some false)
    (t02 : PySem.W.kitOne K (.ref c0) (.ref c2) = some false)
    (t03 : PySem.W.kitOne K (.ref c0) (.ref c3) = some false)
    (t04 : PySem.W.kitOne K (.ref c0) (.ref c4) = some false)
    (t05 : PySem.W.kitOne K (.ref c0) (.ref c5) = some false)
    (t0P : PySem.W.kitOne K (.ref c0) (.ref cP) = some true) (t0V : PySem.W.kitOne K (.ref c0) (.type "ValueError") = some true)
    (g1_hg : PySem.W.findIn K (.ref c1) "__getattribute__" = some (some (.builtin "BaseException.__getattribute__"))) (g1_hk : PySem.W.findIn K (.ref c1) "__getattr__" = some none) (g1_hs : PySem.W.subIn K (.ref c1) (.type "BaseException") = some true) (g1_hd : PySem.W.hasDictIn K c1 = true) (g1_ha : PySem.W.findIn K (.ref c1) "__class__" = some (some (.builtin "object.__class__"))) (g1_hm : PySem.W.mroIn K c1 (.type "object") = some true) (g1_a : PySem.W.findIn K (.ref c1) "place" = some none) (g1_b : PySem.W.findIn K (.ref c1) "index" = some none)
    (t10 : PySem.W.kitOne K (.ref c1) (.ref c0) = some false)
    (t11 : PySem.W.kitOne K (.ref c1) (.ref c1) = some true)
    (t12 : PySem.W.kitOne K (.ref c1) (.ref c2) = some false)
    (t13 : PySem.W.kitOne K (.ref c1) (.ref c3) = some false)
    (t14 : PySem.W.kitOne K (.ref c1) (.ref c4) = some false)
    (t15 : PySem.W.kitOne K (.ref c1) (.ref c5) = some false)
    (t1P : PySem.W.kitOne K (.ref c1) (.ref cP) = some true) (t1V : PySem.W.kitOne K (.ref c1) (.type "ValueError") = some true)
    (g2_hg : PySem.W.findIn K (.ref c2) "__getattribute__" = some (some (.builtin "BaseException.__getattribute__"))) (g2_hk : PySem.W.findIn K (.ref c2) "__getattr__" = some none) (g2_hs : PySem.W.subIn K (.ref c2) (.type "BaseException") = some true) (g2_hd : PySem.W.hasDictIn K c2 = true) (g2_ha : PySem.W.findIn K (.ref c2) "__class__" = some (some (.builtin "object.__class__"))) (g2_hm : PySem.W.mroIn K c2 (.type "object") = some true) (g2_a : PySem.W.findIn K (.ref c2) "place" = some none) (g2_b : PySem.W.findIn K (.ref c2) "index" = some none)
    (t20 : PySem.W.kitOne K (.ref c2) (.ref c0) = some false)
    (t21 : PySem.W.kitOne K (.ref c2) (.ref c1) = some false)
    (t22 : PySem.W.kitOne K (.ref c2) (.ref c2) = some true)
    (t23 : PySem.W.kitOne K (.ref c2) (.ref c3) = some false)
    (t24 : PySem.W.kitOne K (.ref c2) (.ref c4) = some false)
    (t25 : PySem.W.kitOne K (.ref c2) (.ref c5) = some false)
    (t2P : PySem.W.kitOne K (.ref c2) (.ref cP) = some true) (t2V : PySem.W.kitOne K (.ref c2) (.type "ValueError") = some true)
    (g3_hg : PySem.W.findIn K (.ref c3) "__getattribute__" = some (some (.builtin "BaseException.__getattribute__"))) (g3_hk : PySem.W.findIn K (.ref c3) "__getattr__" = some none) (g3_hs : PySem.W.subIn K (.ref c3) (.type "BaseException") = some true) (g3_hd : PySem.W.hasDictIn K c3 = true) (g3_ha : PySem.W.findIn K (.ref c3) "__class__" = some (some (.builtin "object.__class__"))) (g3_hm : PySem.W.mroIn K c3 (.type "object") = some true) (g3_a : PySem.W.findIn K (.ref c3) "place" = some none) (g3_b : PySem.W.findIn K (.ref c3) "index" = some none)
    (t30 : PySem.W.kitOne K (.ref c3) (.ref c0) = some false)
    (t31 : PySem.W.kitOne K (.ref c3) (.ref c1) = some false)
    (t32 : PySem.W.kitOne K (.ref c3) (.ref c2) = some false)
    (t33 : PySem.W.kitOne K (.ref c3) (.ref c3) = some true)
    (t34 : PySem.W.kitOne K (.ref c3) (.ref c4) = some false)
    (t35 : PySem.W.kitOne K (.ref c3) (.ref c5) = some false)
    (t3P : PySem.W.kitOne K (.ref c3) (.ref cP) = some true) (t3V : PySem.W.kitOne K (.ref c3) (.type "ValueError") = some true)
    (g4_hg : PySem.W.findIn K (.ref c4) "__getattribute__" = some (some (.builtin "BaseException.__getattribute__"))) (g4_hk : PySem.W.findIn K (.ref c4) "__getattr__" = some none) (g4_hs : PySem.W.subIn K (.ref c4) (.type "BaseException") = some true) (g4_hd : PySem.W.hasDictIn K c4 = true) (g4_ha : PySem.W.findIn K (.ref c4) "__class__" = some (some (.builtin "object.__class__"))) (g4_hm : PySem.W.mroIn K c4 (.type "object") = some true) (g4_a : PySem.W.findIn K (.ref c4) "place" = some none) (g4_b : PySem.W.findIn K (.ref c4) "index" = some none)
    (t40 : PySem.W.kitOne K (.ref c4) (.ref c0) = some false)
    (t41 : PySem.W.kitOne K (.ref c4) (.ref c1) = some false)
    (t42 : PySem.W.kitOne K (.ref c4) (.ref c2) = some false)
    (t43 : PySem.W.kitOne K (.ref c4) (.ref c3) = some false)
    (t44 : PySem.W.kitOne K (.ref c4) (.ref c4) = some true)
    (t45 : PySem.W.kitOne K (.ref c4) (.ref c5) = some false)
    (t4P : PySem.W.kitOne K (.ref c4) (.ref cP) = some true) (t4V : PySem.W.kitOne K (.ref c4) (.type "ValueError") = some true)
    (g5_hg : PySem.W.findIn K (.ref c5) "__getattribute__" = some (some (.builtin "BaseException.__getattribute__"))) (g5_hk : PySem.W.findIn K (.ref c5) "__getattr__" = some none) (g5_hs : PySem.W.subIn K (.ref c5) (.type "BaseException") = some true) (g5_hd : PySem.W.hasDictIn K c5 = true) (g5_ha : PySem.W.findIn K (.ref c5) "__class__" = some (some (.builtin "object.__class__"))) (g5_hm : PySem.W.mroIn K c5 (.type "object") = some true) (g5_a : PySem.W.findIn K (.ref c5) "place" = some none) (g5_b : PySem.W.findIn K (.ref c5) "index" = some none)
    (t50 : PySem.W.kitOne K (.ref c5) (.ref c0) = some false)
    (t51 : PySem.W.kitOne K (.ref c5) (.ref c1) = some false)
    (t52 : PySem.W.kitOne K (.ref c5) (.ref c2) = some false)
    (t53 : PySem.W.kitOne K (.ref c5) (.ref c3) = some false)
    (t54 : PySem.W.kitOne K (.ref c5) (.ref c4) = some false)
    (t55 : PySem.W.kitOne K (.ref c5) (.ref c5) = some true)
    (t5P : PySem.W.kitOne K (.ref c5) (.ref cP) = some true) (t5V : PySem.W.kitOne K (.ref c5) (.type "ValueError") = some true)
    (hn : PySem.W.specialIn K (.builtin "object.__class__") "__get__" = some (some (.builtin "getset_descriptor.__get__"))) (ht : PySem.W.takesIn K (.builtin "object.__class__") = some true) :
    ∃ fd : FuncData, (∀ (s : Shared) (v : Value), BindsTo s fd ⟨[v], []⟩ [("_law_script", v)]) ∧ ∀ base : Heap, K.In base → base.Ns mainGlobals mg → FnOk l.prog w K mg base CX0 3 fa fd ["_law_script"] (spLaw K) := by
  have e := hfa.symm.trans (PySem.W.mg_of X G a_law)
  cases e
  have T : Txt K mg c0 c1 c2 c3 c4 c5 cP := {
    D_k_kinds := def_mk X G a_k_kinds l_k_kinds e_k_kinds k_k_kinds fun _ _ _ _ _ _ us hl => match us, hl with | [_], _ => rfl,
    D_law := def_mk X G a_law l_law e_law k_law fun _ _ _ _ _ _ us hl => match us, hl with | [_], _ => rfl,
    m0 := PySem.W.mg_of X G m_c0,
    m1 := PySem.W.mg_of X G m_c1,
    m2 := PySem.W.mg_of X G m_c2,
    m3 := PySem.W.mg_of X G m_c3,
    m4 := PySem.W.mg_of X G m_c4,
    m5 := PySem.W.mg_of X G m_c5,
    mP := PySem.W.mg_of X G m_cP,
    nV := PySem.W.mg_none_of X G n_ValueError,
    n_isinstance := PySem.W.mg_none_of X G n_isinstance,
    n_int := PySem.W.mg_none_of X G n_int,
    n_range := PySem.W.mg_none_of X G n_range,
    n_enumerate := PySem.W.mg_none_of X G n_enumerate,
    d0 := ⟨fI_z0, _, ⟨⟨⟨nm_z0, q_z0, N_z0, bs_z0, _, sn_z0, sub_z0, ab_z0, col_z0, dd_z0, m0_z0, m1_z0, m2_z0, m3_z0, m5_z0, x_z0, rfl⟩, sa_z0, ex_z0, ty_z0, kc_z0⟩, ii_z0, ti_z0⟩, funs_mk l_z0 e_z0 k_z0, .all (fun us hl => match us, hl with | [_, _], _ => rfl), fun s u v => .of_eq rfl⟩,
    d5 := ⟨fI_z5, _, ⟨⟨⟨nm_z5, q_z5, N_z5, bs_z5, _, sn_z5, sub_z5, ab_z5, col_z5, dd_z5, m0_z5, m1_z5, m2_z5, m3_z5, m5_z5, x_z5, rfl⟩, sa_z5, ex_z5, ty_z5, kc_z5⟩, ii_z5, ti_z5⟩, funs_mk l_z5 e_z5 k_z5, .all (fun us hl => match us, hl with | [_, _], _ => rfl), fun s u v => .of_eq rfl⟩,
    x1 := x1,
    k1 := k1,
    x2 := x2,
    k2 := k2,
    x3 := x3,
    k3 := k3,
    x4 := x4,
    k4 := k4,
    e0 := ⟨g0_hg, g0_hk, g0_hs, g0_hd, g0_ha, hn, ht, g0_hm⟩,
    f0 := ⟨g0_hg, g0_hk, g0_hs, g0_hd⟩,
    a0 := g0_a,
    b0 := g0_b,
    t00 := t00,
    t01 := t01,
    t02 := t02,
    t03 := t03,
    t04 := t04,
    t05 := t05,
    t0P := t0P,
    t0V := t0V,
    e1 := ⟨g1_hg, g1_hk, g1_hs, g1_hd, g1_ha, hn, ht, g1_hm⟩,
    f1 := ⟨g1_hg, g1_hk, g1_hs, g1_hd⟩,
    a1 := g1_a,
    b1 := g1_b,
    t10 := t10,
    t11 := t11,
    t12 := t12,
    t13 := t13,
    t14 := t14,
    t15 := t15,
    t1P := t1P,
    t1V := t1V,
    e2 := ⟨g2_hg, g2_hk, g2_hs, g2_hd, g2_ha, hn, ht, g2_hm⟩,
    f2 := ⟨g2_hg, g2_hk, g2_hs, g2_hd⟩,
    a2 := g2_a,
    b2 := g2_b,
    t20 := t20,
    t21 := t21,
    t22 := t22,
    t23 := t23,
    t24 := t24,
    t25 := t25,
    t2P := t2P,
    t2V := t2V,
    e3 := ⟨g3_hg, g3_hk, g3_hs, g3_hd, g3_ha, hn, ht, g3_hm⟩,
    f3 := ⟨g3_hg, g3_hk, g3_hs, g3_hd⟩,
    a3 := g3_a,
    b3 := g3_b,
    t30 := t30,
    t31 := t31,
    t32 := t32,
    t33 := t33,
    t34 := t34,
    t35 := t35,
    t3P := t3P,
    t3V := t3V,
    e4 := ⟨g4_hg, g4_hk, g4_hs, g4_hd, g4_ha, hn, ht, g4_hm⟩,
    f4 := ⟨g4_hg, g4_hk, g4_hs, g4_hd⟩,
    a4 := g4_a,
    b4 := g4_b,
    t40 := t40,
    t41 := t41,
    t42 := t42,
    t43 := t43,
    t44 := t44,
    t45 := t45,
    t4P := t4P,
    t4V := t4V,
    e5 := ⟨g5_hg, g5_hk, g5_hs, g5_hd, g5_ha, hn, ht, g5_hm⟩,
    f5 := ⟨g5_hg, g5_hk, g5_hs, g5_hd⟩,
    a5 := g5_a,
    b5 := g5_b,
    t50 := t50,
    t51 := t51,
    t52 := t52,
    t53 := t53,
    t54 := t54,
    t55 := t55,
    t5P := t5P,
    t5V := t5V }
  have F := fun_mk (st := s_law) l_law e_law k_law
  exact ⟨_, fun s v => .of_eq rfl, fun base _ _ => all_law T F⟩
theorem walk {l : PySem.W.OpenLaw} {q : Program} {loose : List Str} {XP : (Str → Option Value) → Heap → Prop} {YP : World → Heap → Prop} {d : DefRec} {K : Params → Fr} (hn : l.most = some 63) (hdf : d.params.defaults = [])
    (hY : ∀ (w : World) (h : Heap), YP w h → (K w.params).In h)
    (F : ∀ (w : World) (mg : Str → Option Value) (fa : Addr) (h : Heap), (K w.params).In h → h.Ns mainGlobals mg → mg d.name = some (.ref fa) →
      ∃ fd : FuncData, (∀ (s : Shared) (u : Value), BindsTo s fd ⟨[u], []⟩ [("_law_script", u)]) ∧ ∀ base : Heap, (K w.params).In base → base.Ns mainGlobals mg → FnOk l.prog w (K w.params) mg base CX0 3 fa fd ["_law_script"] (spLaw (K w.params))) :
    PySem.W.WalkO q loose XP YP l.row.toRowW d [] (fun f vs => PySem.call f vs) :=
  Pm.walk_ofP (k := 3) (x := "_law_script") hn hdf ⟨rfl, by decide, by decide, rfl⟩ hY F
end Pm.plainmark_k03_errors_apart
open PySem PySem.W PyProof.Rows in
set_option maxRecDepth 100000 in
set_option maxHeartbeats 0 in
theorem PySem.Challenge.cw_plainmark_k03_errors_apart_holds : PySem.Challenge.rw_plainmark_k03_errors_apart.Holds := by
  w_on; o_law; k_head; (case hw => w_witness2)
  k_fill
  refine Pm.plainmark_k03_errors_apart.walk (l := PySem.Challenge.rw_plainmark_k03_errors_apart) rfl rfl (fun w h Y => PySem.W.kIn_of Y) ?F
  case F =>
    intro w mg fa h KX G hmg
    refine' Pm.plainmark_k03_errors_apart.all_mk KX G hmg ?a_k_kinds ?l_k_kinds ?e_k_kinds ?k_k_kinds ?a_law ?l_law ?e_law ?k_law ?m_c0 ?m_c1 ?m_c2 ?m_c3 ?m_c4 ?m_c5 ?m_cP ?n_isinstance ?n_int ?n_range ?n_enumerate ?n_ValueError ?x_z0 ?sa_z0 ?ex_z0 ?ty_z0 ?kc_z0 ?ii_z0 ?ti_z0 ?l_z0 ?e_z0 ?k_z0 ?x_z5 ?sa_z5 ?ex_z5 ?ty_z5 ?kc_z5 ?ii_z5 ?ti_z5 ?l_z5 ?e_z5 ?k_z5 ?x1 ?k1 ?x2 ?k2 ?x3 ?k3 ?x4 ?k4 ?g0_hg ?g0_hk ?g0_hs ?g0_hd ?g0_ha ?g0_hm ?g0_a ?g0_b ?t00 ?t01 ?t02 ?t03 ?t04 ?t05 ?t0P ?t0V ?g1_hg ?g1_hk ?g1_hs ?g1_hd ?g1_ha ?g1_hm ?g1_a ?g1_b ?t10 ?t11 ?t12 ?t13 ?t14 ?t15 ?t1P ?t1V ?g2_hg ?g2_hk ?g2_hs ?g2_hd ?g2_ha ?g2_hm ?g2_a ?g2_b ?t20 ?t21 ?t22 ?t23 ?t24 ?t25 ?t2P ?t2V ?g3_hg ?g3_hk ?g3_hs ?g3_hd ?g3_ha ?g3_hm ?g3_a ?g3_b ?t30 ?t31 ?t32 ?t33 ?t34 ?t35 ?t3P ?t3V ?g4_hg ?g4_hk ?g4_hs ?g4_hd ?g4_ha ?g4_hm ?g4_a ?g4_b ?t40 ?t41 ?t42 ?t43 ?t44 ?t45 ?t4P ?t4V ?g5_hg ?g5_hk ?g5_hs ?g5_hd ?g5_ha ?g5_hm ?g5_a ?g5_b ?t50 ?t51 ?t52 ?t53 ?t54 ?t55 ?t5P ?t5V ?hn ?ht
    (case a_k_kinds => first | k_is | k_exc | rfl)
    (case l_k_kinds => first | k_is | k_exc | rfl)
    (case e_k_kinds => first | k_is | k_exc | rfl)
    (case k_k_kinds => first | k_is | k_exc | rfl)
    (case a_law => first | k_is | k_exc | rfl)
    (case l_law => first | k_is | k_exc | rfl)
    (case e_law => first | k_is | k_exc | rfl)
    (case k_law => first | k_is | k_exc | rfl)
    (case m_c0 => first | k_is | k_exc | rfl)
    (case m_c1 => first | k_is | k_exc | rfl)
    (case m_c2 => first | k_is | k_exc | rfl)
    (case m_c3 => first | k_is | k_exc | rfl)
    (case m_c4 => first | k_is | k_exc | rfl)
    (case m_c5 => first | k_is | k_exc | rfl)
    (case m_cP => first | k_is | k_exc | rfl)
    (case n_isinstance => first | k_is | k_exc | rfl)
    (case n_int => first | k_is | k_exc | rfl)
    (case n_range => first | k_is | k_exc | rfl)
    (case n_enumerate => first | k_is | k_exc | rfl)
    (case n_ValueError => first | k_is | k_exc | rfl)
    (case x_z0 => first | k_is | k_exc | rfl)
    (case sa_z0 => first | k_is | k_exc | rfl)
    (case ex_z0 => first | k_is | k_exc | rfl)
    (case ty_z0 => first | k_is | k_exc | rfl)
    (case kc_z0 => first | k_is | k_exc | rfl)
    (case ii_z0 => first | k_is | k_exc | rfl)
    (case ti_z0 => first | k_is | k_exc | rfl)
    (case l_z0 => first | k_is | k_exc | rfl)
    (case e_z0 => first | k_is | k_exc | rfl)
    (case k_z0 => first | k_is | k_exc | rfl)
    (case x_z5 => first | k_is | k_exc | rfl)
    (case sa_z5 => first | k_is | k_exc | rfl)
    (case ex_z5 => first | k_is | k_exc | rfl)
    (case ty_z5 => first | k_is | k_exc | rfl)
    (case kc_z5 => first | k_is | k_exc | rfl)
    (case ii_z5 => first | k_is | k_exc | rfl)
    (case ti_z5 => first | k_is | k_exc | rfl)
    (case l_z5 => first | k_is | k_exc | rfl)
    (case e_z5 => first | k_is | k_exc | rfl)
    (case k_z5 => first | k_is | k_exc | rfl)
    (case x1 => first | k_is | k_exc | rfl)
    (case k1 => first | k_is | k_exc | rfl)
    (case x2 => first | k_is | k_exc | rfl)
    (case k2 => first | k_is | k_exc | rfl)
    (case x3 => first | k_is | k_exc | rfl)
    (case k3 => first | k_is | k_exc | rfl)
    (case x4 => first | k_is | k_exc | rfl)
    (case k4 => first | k_is | k_exc | rfl)
    (case g0_hg => first | k_is | k_exc | rfl)
    (case g0_hk => first | k_is | k_exc | rfl)
    (case g0_hs => first | k_is | k_exc | rfl)
    (case g0_hd => first | k_is | k_exc | rfl)
    (case g0_ha => first | k_is | k_exc | rfl)
    (case g0_hm => first | k_is | k_exc | rfl)
    (case g0_a => first | k_is | k_exc | rfl)
    (case g0_b => first | k_is | k_exc | rfl)
    (case t00 => first | k_is | k_exc | rfl)
    (case t01 => first | k_is | k_exc | rfl)
    (case t02 => first | k_is | k_exc | rfl)
    (case t03 => first | k_is | k_exc | rfl)
    (case t04 => first | k_is | k_exc | rfl)
    (case t05 => first | k_is | k_exc | rfl)
    (case t0P => first | k_is | k_exc | rfl)
    (case t0V => first | k_is | k_exc | rfl)
    (case g1_hg => first | k_is | k_exc | rfl)
    (case g1_hk => first | k_is | k_exc | rfl)
    (case g1_hs => first | k_is | k_exc | rfl)
    (case g1_hd => first | k_is | k_exc | rfl)
    (case g1_ha => first | k_is | k_exc | rfl)
    (case g1_hm => first | k_is | k_exc | rfl)
    (case g1_a => first | k_is | k_exc | rfl)
    (case g1_b => first | k_is | k_exc | rfl)
    (case t10 => first | k_is | k_exc | rfl)
    (case t11 => first | k_is | k_exc | rfl)
    (case t12 => first | k_is | k_exc | rfl)
    (case t13 => first | k_is | k_exc | rfl)
    (case t14 => first | k_is | k_exc | rfl)
    (case t15 => first | k_is | k_exc | rfl)
    (case t1P => first | k_is | k_exc | rfl)
    (case t1V => first | k_is | k_exc | rfl)
    (case g2_hg => first | k_is | k_exc | rfl)
    (case g2_hk => first | k_is | k_exc | rfl)
    (case g2_hs => first | k_is | k_exc | rfl)
    (case g2_hd => first | k_is | k_exc | rfl)
    (case g2_ha => first | k_is | k_exc | rfl)
    (case g2_hm => first | k_is | k_exc | rfl)
    (case g2_a => first | k_is | k_exc | rfl)
    (case g2_b => first | k_is | k_exc | rfl)
    (case t20 => first | k_is | k_exc | rfl)
    (case t21 => first | k_is | k_exc | rfl)
    (case t22 => first | k_is | k_exc | rfl)
    (case t23 => first | k_is | k_exc | rfl)
    (case t24 => first | k_is | k_exc | rfl)
    (case t25 => first | k_is | k_exc | rfl)
    (case t2P => first | k_is | k_exc | rfl)
    (case t2V => first | k_is | k_exc | rfl)
    (case g3_hg => first | k_is | k_exc | rfl)
    (case g3_hk => first | k_is | k_exc | rfl)
    (case g3_hs => first | k_is | k_exc | rfl)
    (case g3_hd => first | k_is | k_exc | rfl)
    (case g3_ha => first | k_is | k_exc | rfl)
    (case g3_hm => first | k_is | k_exc | rfl)
    (case g3_a => first | k_is | k_exc | rfl)
    (case g3_b => first | k_is | k_exc | rfl)
    (case t30 => first | k_is | k_exc | rfl)
    (case t31 => first | k_is | k_exc | rfl)
    (case t32 => first | k_is | k_exc | rfl)
    (case t33 => first | k_is | k_exc | rfl)
    (case t34 => first | k_is | k_exc | rfl)
    (case t35 => first | k_is | k_exc | rfl)
    (case t3P => first | k_is | k_exc | rfl)
    (case t3V => first | k_is | k_exc | rfl)
    (case g4_hg => first | k_is | k_exc | rfl)
    (case g4_hk => first | k_is | k_exc | rfl)
    (case g4_hs => first | k_is | k_exc | rfl)
    (case g4_hd => first | k_is | k_exc | rfl)
    (case g4_ha => first | k_is | k_exc | rfl)
    (case g4_hm => first | k_is | k_exc | rfl)
    (case g4_a => first | k_is | k_exc | rfl)
    (case g4_b => first | k_is | k_exc | rfl)
    (case t40 => first | k_is | k_exc | rfl)
    (case t41 => first | k_is | k_exc | rfl)
    (case t42 => first | k_is | k_exc | rfl)
    (case t43 => first | k_is | k_exc | rfl)
    (case t44 => first | k_is | k_exc | rfl)
    (case t45 => first | k_is | k_exc | rfl)
    (case t4P => first | k_is | k_exc | rfl)
    (case t4V => first | k_is | k_exc | rfl)
    (case g5_hg => first | k_is | k_exc | rfl)
    (case g5_hk => first | k_is | k_exc | rfl)
    (case g5_hs => first | k_is | k_exc | rfl)
    (case g5_hd => first | k_is | k_exc | rfl)
    (case g5_ha => first | k_is | k_exc | rfl)
    (case g5_hm => first | k_is | k_exc | rfl)
    (case g5_a => first | k_is | k_exc | rfl)
    (case g5_b => first | k_is | k_exc | rfl)
    (case t50 => first | k_is | k_exc | rfl)
    (case t51 => first | k_is | k_exc | rfl)
    (case t52 => first | k_is | k_exc | rfl)
    (case t53 => first | k_is | k_exc | rfl)
    (case t54 => first | k_is | k_exc | rfl)
    (case t55 => first | k_is | k_exc | rfl)
    (case t5P => first | k_is | k_exc | rfl)
    (case t5V => first | k_is | k_exc | rfl)
    (case hn => first | k_is | k_exc | rfl)
    (case ht => first | k_is | k_exc | rfl)
