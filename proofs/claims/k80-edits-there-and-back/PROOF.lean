import PyProof.Rows.All
import Wide.All
import OpenK.AllK
import Wide.FinOn
import HandS.ForMost
import KE.GoesMore
import HandS.Wide
import HandS.TupAny
import HandS.StrMore
import HandS.Flow
import HandS.Style
import HandS.IsInst
import HandS.Zip
import KE.KxPercentT
import HandS.Replace
import HandS.More
import HandS.Iter
import PyProof.ReprRoads
import PyProof.Rows.NestShow
import PyProof.ReprLen
import PyProof.P3Eq
import PySem.Challenge.RW_plainmark_k80_edits_there_and_back
set_option Elab.async false
set_option linter.all false
set_option maxRecDepth 100000
set_option maxHeartbeats 2000000
/-! enumerate(text): each sign in a new pair with its place -/
namespace Pm
open PySem PySem.Spec PyProof.Rows L2
def IteS (x : Str) : It :=
  ⟨fun i _ => i < x.cps.size,
   fun i H v H' => ∃ T c, v = .ref T ∧ H T = none ∧ x.cps[i]? = some c ∧ H' = upd H T (.tup [.int (i : Nat), .str ⟨#[c]⟩]),
   fun i _ => x.cps.size ≤ i⟩
theorem turn_enumS {P : Program} {w : World} {K : PySem.W.Frag} {elts : List Expr} {kk : Nat} {tpos : Pos} (x : Str) (t : Tok) (e it : Addr) :
    Turn P w K (.Tuple elts kk tpos) (IteS x) [e, it] e (fun i h => (∃ old, IsEnum h e it ((i : Nat) : Int) old) ∧ h.IsStrIter it (strIterType x) x t i ∧ e ≠ it ∧ i ≤ x.cps.size) where
  mem := by simp
  obj := fun i h st b hb => by
    obtain ⟨⟨old, he⟩, ⟨o, ho, hc, hd⟩, _, _⟩ := st
    have e' : b = e ∨ b = it := by simpa using hb
    rcases e' with z | z
    · rw [z]; exact ⟨_, he, fun v q => nomatch q⟩
    · rw [z]; exact ⟨o, ho, fun v q => by rw [hd] at q; cases q⟩
  keep := fun i h h' st k => let ⟨⟨old, he⟩, ⟨o, ho, r⟩, hne, hle⟩ := st; ⟨⟨old, k e (by simp) _ he⟩, ⟨o, k it (by simp) o ho, r⟩, hne, hle⟩
  item := by
    intro X hP hw hK hc i pins s σ H E I hf st hg
    subst hP hw hK
    obtain ⟨⟨old, he⟩, hit, hne, hle⟩ := st
    have hel : e < s.heap.objs.size := Heap.lt_size he
    have hil : it < s.heap.objs.size := by obtain ⟨_, q, _⟩ := hit; exact Heap.lt_size q
    have D : Draws X.prog X.w X.A.in1 it [it] x.cps.size (fun i v => ∃ c u, x.cps[i]? = some c ∧ v = .str ⟨#[c]⟩ u) (fun i h => h.IsStrIter it (strIterType x) x t i) := Draws.text (show X.A.in1.handled = none from I.ok.hd hc) it x t
    refine wpAny_pyNext_enum_itemD D he hit hg hne (by simpa using hne) fun u h' tk hPx ho hit' hT hsz hk => ?_
    obtain ⟨c, u', hcx, rfl⟩ := hPx
    refine ⟨_, rfl, wpAny_letOwnedTupleGo_enum (s := { s with heap := h', toks := tk + 1 }) ho fun h'' he' sb => ?_⟩
    have hT2 : h''.get? s.heap.objs.size = some { cls := .type "tuple", data := .seq #[.int i tk, .str ⟨#[c]⟩ u'] } := (sb.2 _ (Nat.ne_of_gt hel)).trans hT
    have new : ObjOk X.prog X.w (upd H s.heap.objs.size (.tup [.int (i : Nat), .str ⟨#[c]⟩])) h'' s.heap.objs.size (.tup [.int (i : Nat), .str ⟨#[c]⟩]) :=
      ⟨by show 2 ≤ sizeLine; decide, [.int i tk, .str ⟨#[c]⟩ u'], .cons ⟨_, rfl⟩ (.cons ⟨_, rfl⟩ .nil), ⟨_, hT2, rfl, _, rfl⟩⟩
    have I1 : Inv X pins σ (upd H s.heap.objs.size (.tup [.int (i : Nat), .str ⟨#[c]⟩])) { s with heap := h'', toks := tk + 1 } :=
      I.turnedNew (ch := [e, it]) (fun b ob hb q => (sb.2 b (fun z => hb (by simp [z]))).trans (hk b ob (fun z => hb (by simp [z])) (fun z => hb (by simp [z])) q)) hf (Nat.le_refl _) new
    have e1 : ((i + 1 : Nat) : Int) = (i : Int) + 1 := by omega
    have hgt : i < x.cps.size := hg
    have st2 : h''.IsStrIter it (strIterType x) x t (i + 1) := by
      obtain ⟨o, ho', r⟩ := hit'
      exact ⟨o, (sb.2 it (Ne.symm hne)).trans ho', r⟩
    refine ⟨.ref s.heap.objs.size, _, I1, rfl, ⟨_, c, rfl, I.hok.fresh (Nat.le_refl _), hcx, rfl⟩, ⟨⟨.str ⟨#[c]⟩ u', by rw [e1]; exact he'⟩, st2, hne, hgt⟩, fun b hb => ?_⟩
    · have hb' : b < s.heap.objs.size := by
        have e' : b = e ∨ b = it := by simpa using hb
        rcases e' with z | z
        · rw [z]; exact hel
        · rw [z]; exact hil
      rw [upd_ne (Nat.ne_of_lt hb')]
      exact (hf b hb).1
  done := by
    intro X hP hw hK hc i pins s σ H E I hf st hg
    subst hP hw hK
    obtain ⟨⟨old, he⟩, hit, hne, hle⟩ := st
    obtain ⟨f0, f1, f2, f3, f4, f5⟩ := hf it (by simp)
    have hge : x.cps.size ≤ i := hg
    have hie : i = x.cps.size := Nat.le_antisymm hle hge
    rw [hie] at he hit
    have D : Draws X.prog X.w X.A.in1 it [it] x.cps.size (fun i v => ∃ c u, x.cps[i]? = some c ∧ v = .str ⟨#[c]⟩ u) (fun i h => h.IsStrIter it (strIterType x) x t i) := Draws.text (show X.A.in1.handled = none from I.ok.hd hc) it x t
    exact wpAny_pyNext_enum_endD D he hit fun h' eb => ⟨rfl, I.turned (t' := s.toks) (fun b o hb q => eb b o hb q) f0 f1 f3 f4 f5⟩
  self := fun A i s Q E st h => let ⟨⟨_, he⟩, _⟩ := st; wpAny_pyIter_enum he h
def iEnumS (ta : TA) : TI := fun σ H R => ta σ H fun vs H1 => ∃ x, vs = [.str x] ∧ R (IteS x) H1
theorem pi_enumS {X : Cx} {e : Expr} {ta : TA} {p pos tpos : Pos} {elts : List Expr} {kk : Nat} (hg : Gl X "enumerate") (hm : X.mg "enumerate" = none) (ha : PA X [e] ta) (hs : starEach [e] X.env = [(false, eval e X.env)] := by rfl) :
    PI X (.Tuple elts kk tpos) (.Call (.Name "enumerate" p) [e] [] pos) (iEnumS ta) := by
  refine ⟨fun pins s σ H R I h => ?_⟩
  refine Call_ (ld_blt I hg hm boot_enumerate (PyProof.Rows.callWith_type1 (thn (ha.run pos pins s σ H _ I h) fun us s1 ⟨vs, H1, I1, r1, q1⟩ => ?_) hs rfl))
  obtain ⟨x, ex, q⟩ := q1
  subst ex
  cases r1 with
  | cons r rr =>
    cases rr
    obtain ⟨t, rfl⟩ := r
    refine call_enumerate_str fun h' he hit hsz hk => wpAny_pyIter_enum he ?_
    have I2 : Inv X pins σ H1 { s1 with heap := h' } := I1.kept (t' := s1.toks) hk
    refine ⟨s1.heap.objs.size + 1, [s1.heap.objs.size + 1, s1.heap.objs.size], _, _, H1, rfl, I2, turn_enumS x t (s1.heap.objs.size + 1) s1.heap.objs.size, ⟨⟨.none, he⟩, hit, Nat.succ_ne_self _, Nat.zero_le _⟩, fun b hb => ?_, q⟩
    have e' : b = s1.heap.objs.size + 1 ∨ b = s1.heap.objs.size := by simpa using hb
    have hle : s1.heap.objs.size ≤ b := by
      rcases e' with z | z
      · rw [z]; exact Nat.le_add_right _ _
      · rw [z]; exact Nat.le_refl _
    exact I1.fpOk hle (I1.hok.fresh hle)
end Pm
/-! The data layer: readings over plain data, the heap put away. -/
namespace Pm
open PySem PySem.Spec PyProof.Rows L2
abbrev Fr := PySem.W.Frag
/-- the heap without some addresses -/
def rm (M : List Addr) (H : Hp) : Hp := fun a => if a ∈ M then none else H a
theorem rm_of {M : List Addr} {H : Hp} {a : Addr} {o : HO} (h1 : a ∉ M) (h2 : H a = some o) : rm M H a = some o := by
  unfold rm; rw [if_neg h1]; exact h2
theorem rm_to {M : List Addr} {H : Hp} {a : Addr} {o : HO} (h : rm M H a = some o) : a ∉ M ∧ H a = some o := by
  unfold rm at h
  by_cases c : a ∈ M
  · rw [if_pos c] at h; cases h
  · rw [if_neg c] at h; exact ⟨c, h⟩
theorem rm_le {M : List Addr} {H : Hp} : Same (rm M H) H := fun _ _ e => (rm_to e).2
theorem rm_nil {H : Hp} : rm [] H = H := by funext a; unfold rm; rw [if_neg (by simp)]
theorem rm_upd {M : List Addr} {H : Hp} {a : Addr} {o : HO} (h : a ∈ M) : rm M (upd H a o) = rm M H := by
  funext b; unfold rm
  by_cases c : b ∈ M
  · rw [if_pos c, if_pos c]
  · rw [if_neg c, if_neg c, upd_ne (fun e => c (by rw [e]; exact h))]
theorem same_rd {H H' : Hp} {a : Addr} {u : HO} (e : Same H H') (h : Rd H a u) : Rd H' a u := by
  rcases h with h | ⟨o, h⟩
  · exact .inl (e _ _ h)
  · exact .inr ⟨o, e _ _ h⟩
theorem same_l {K : Fr} {H H' : Hp} {a : Addr} {xs : List V} (e : Same H H') (h : SqL K H a xs) : SqL K H' a xs := by
  rcases h with h | h
  · exact .inl (same_rd e h)
  · exact .inr h
theorem same_t {K : Fr} {H H' : Hp} {a : Addr} {xs : List V} (e : Same H H') (h : SqT K H a xs) : SqT K H' a xs := by
  rcases h with h | h
  · exact .inl (same_rd e h)
  · exact .inr h
/-! data as it stands in the heap: lists are tracked, tuples may be the text its own -/
def kD : Key → PyData
  | .inl i => .int i
  | .inr x => .str x
mutual
inductive Dt (K : Fr) (H : Hp) : V → PyData → Prop
  | non : Dt K H .non .none
  | bl (b : Bool) : Dt K H (.bl b) (.bool b)
  | int (i : Int) : Dt K H (.int i) (.int i)
  | str (x : Str) : Dt K H (.str x) (.str x)
  | lst {a : Addr} {xs : List V} {ds : List PyData} : H a = some (.lst xs) → DtAll K H xs ds → Dt K H (.ref a) (.list ds)
  | tup {a : Addr} {xs : List V} {ds : List PyData} : SqT K H a xs → DtAll K H xs ds → Dt K H (.ref a) (.tuple ds)
  | dic {a : Addr} {o : Obj} {kvs : List (Key × V)} {ds : List (PyData × PyData)} : H a = some (.frz o (.dK kvs)) → DtKv K H kvs ds → Dt K H (.ref a) (.dict ds)
inductive DtAll (K : Fr) (H : Hp) : List V → List PyData → Prop
  | nil : DtAll K H [] []
  | cons {v : V} {vs : List V} {d : PyData} {ds : List PyData} : Dt K H v d → DtAll K H vs ds → DtAll K H (v :: vs) (d :: ds)
inductive DtKv (K : Fr) (H : Hp) : List (Key × V) → List (PyData × PyData) → Prop
  | nil : DtKv K H [] []
  | cons {k : Key} {v : V} {vs : List (Key × V)} {d : PyData} {ds : List (PyData × PyData)} : Dt K H v d → DtKv K H vs ds → DtKv K H ((k, v) :: vs) ((kD k, d) :: ds)
end
mutual
theorem Dt.dp {K : Fr} {H : Hp} : ∀ {v : V} {d : PyData}, Dt K H v d → d.canLay0 = true → Dp K H v d
  | _, _, .non, _ => .non
  | _, _, .bl b, _ => .bl b
  | _, _, .int i, _ => .int i
  | _, _, .str x, _ => .str x
  | _, _, .lst h r, c => .lst (.inl (.inl h)) (DtAll.dp r c)
  | _, _, .tup h r, c => .tup h (DtAll.dp r c)
  | _, _, .dic _ _, c => nomatch c
theorem DtAll.dp {K : Fr} {H : Hp} : ∀ {v : List V} {d : List PyData}, DtAll K H v d → PyData.canLayAll0 d = true → DpAll K H v d
  | _, _, .nil, _ => .nil
  | _, _, .cons h r, c => by
    have q := Bool.and_eq_true_iff.mp (show (_ && _) = true from c)
    exact .cons (Dt.dp h q.1) (DtAll.dp r q.2)
end
mutual
theorem Dt.up {K : Fr} {H H' : Hp} (e : Same H H') : ∀ {v : V} {d : PyData}, Dt K H v d → Dt K H' v d
  | _, _, .non => .non
  | _, _, .bl b => .bl b
  | _, _, .int i => .int i
  | _, _, .str x => .str x
  | _, _, .lst h r => .lst (e _ _ h) (DtAll.up e r)
  | _, _, .tup h r => .tup (same_t e h) (DtAll.up e r)
  | _, _, .dic h r => .dic (e _ _ h) (DtKv.up e r)
theorem DtAll.up {K : Fr} {H H' : Hp} (e : Same H H') : ∀ {v : List V} {d : List PyData}, DtAll K H v d → DtAll K H' v d
  | _, _, .nil => .nil
  | _, _, .cons h r => .cons (Dt.up e h) (DtAll.up e r)
theorem DtKv.up {K : Fr} {H H' : Hp} (e : Same H H') : ∀ {v : List (Key × V)} {d : List (PyData × PyData)}, DtKv K H v d → DtKv K H' v d
  | _, _, .nil => .nil
  | _, _, .cons h r => .cons (Dt.up e h) (DtKv.up e r)
end
theorem DtAll.len {K : Fr} {H : Hp} : ∀ {vs : List V} {ds : List PyData}, DtAll K H vs ds → vs.length = ds.length
  | _, _, .nil => rfl
  | _, _, .cons _ r => by rw [List.length_cons, List.length_cons, DtAll.len r]
theorem DtAll.get {K : Fr} {H : Hp} : ∀ {vs : List V} {ds : List PyData} {i : Nat} {v : V}, DtAll K H vs ds → vs[i]? = some v → ∃ d, ds[i]? = some d ∧ Dt K H v d
  | _, _, _, _, .nil, e => by simp at e
  | _, _, 0, _, .cons h _, e => by simp at e; subst e; exact ⟨_, rfl, h⟩
  | _, _, i + 1, v, .cons _ r, e => by
    obtain ⟨d, h1, h2⟩ := DtAll.get (i := i) (v := v) r (by simpa using e)
    exact ⟨d, by simpa using h1, h2⟩
theorem DtAll.getd {K : Fr} {H : Hp} : ∀ {vs : List V} {ds : List PyData} {i : Nat} {d : PyData}, DtAll K H vs ds → ds[i]? = some d → ∃ v, vs[i]? = some v ∧ Dt K H v d
  | _, _, _, _, .nil, e => by simp at e
  | _, _, 0, _, .cons h _, e => by simp at e; subst e; exact ⟨_, rfl, h⟩
  | _, _, i + 1, d, .cons _ r, e => by
    obtain ⟨v, h1, h2⟩ := DtAll.getd (i := i) (d := d) r (by simpa using e)
    exact ⟨v, by simpa using h1, h2⟩
theorem DtAll.app {K : Fr} {H : Hp} : ∀ {vs us : List V} {ds es : List PyData}, DtAll K H vs ds → DtAll K H us es → DtAll K H (vs ++ us) (ds ++ es)
  | _, _, _, _, .nil, s => s
  | _, _, _, _, .cons h r, s => .cons h (DtAll.app r s)
theorem DtAll.take {K : Fr} {H : Hp} : ∀ {vs : List V} {ds : List PyData} (n : Nat), DtAll K H vs ds → DtAll K H (vs.take n) (ds.take n)
  | _, _, 0, _ => .nil
  | _, _, _ + 1, .nil => .nil
  | _, _, n + 1, .cons h r => .cons h (DtAll.take n r)
theorem DtAll.drop {K : Fr} {H : Hp} : ∀ {vs : List V} {ds : List PyData} (n : Nat), DtAll K H vs ds → DtAll K H (vs.drop n) (ds.drop n)
  | _, _, 0, r => r
  | _, _, _ + 1, .nil => .nil
  | _, _, n + 1, .cons _ r => DtAll.drop n r
theorem DtAll.setAt {K : Fr} {H : Hp} {v : V} {d : PyData} (h : Dt K H v d) : ∀ {vs : List V} {ds : List PyData} (n : Nat), DtAll K H vs ds → DtAll K H (vs.set n v) (ds.set n d)
  | _, _, _, .nil => .nil
  | _, _, 0, .cons _ r => .cons h r
  | _, _, n + 1, .cons q r => .cons q (DtAll.setAt h n r)
/-! what a value of some data is -/
theorem Dt.isInt {K : Fr} {H : Hp} {v : V} {i : Int} (h : Dt K H v (.int i)) : v = .int i := by cases h; rfl
theorem Dt.isStr {K : Fr} {H : Hp} {v : V} {x : Str} (h : Dt K H v (.str x)) : v = .str x := by cases h; rfl
theorem Dt.isBl {K : Fr} {H : Hp} {v : V} {b : Bool} (h : Dt K H v (.bool b)) : v = .bl b := by cases h; rfl
theorem Dt.isNon {K : Fr} {H : Hp} {v : V} (h : Dt K H v .none) : v = .non := by cases h; rfl
theorem Dt.isTup {K : Fr} {H : Hp} {v : V} {ds : List PyData} (h : Dt K H v (.tuple ds)) : ∃ a xs, v = .ref a ∧ SqT K H a xs ∧ DtAll K H xs ds := by
  cases h with | tup h r => exact ⟨_, _, rfl, h, r⟩
theorem Dt.isDic {K : Fr} {H : Hp} {v : V} {ds : List (PyData × PyData)} (h : Dt K H v (.dict ds)) : ∃ a o kvs, v = .ref a ∧ H a = some (.frz o (.dK kvs)) ∧ DtKv K H kvs ds := by
  cases h with | dic h r => exact ⟨_, _, _, rfl, h, r⟩
theorem Dt.isLst {K : Fr} {H : Hp} {v : V} {ds : List PyData} (h : Dt K H v (.list ds)) : ∃ a xs, v = .ref a ∧ H a = some (.lst xs) ∧ DtAll K H xs ds := by
  cases h with | lst h r => exact ⟨_, _, rfl, h, r⟩
/-! ### how a state goes on: M the addresses put away, B those that may change -/
structure Ext (M B : List Addr) (H : Hp) (M' B' : List Addr) (H' : Hp) : Prop where
  m : ∀ a, a ∈ M → a ∈ M'
  new : ∀ a, a ∈ M' → a ∈ M ∨ H a = none
  b : ∀ a, a ∈ B → a ∈ B'
  newb : ∀ a, a ∈ B' → a ∈ B ∨ H a = none
  keep : ∀ a o, a ∉ B → H a = some o → H' a = some o
  live : ∀ a, H' a = none → H a = none
theorem Ext.refl (M B : List Addr) (H : Hp) : Ext M B H M B H := ⟨fun _ h => h, fun _ h => .inl h, fun _ h => h, fun _ h => .inl h, fun _ _ _ e => e, fun _ e => e⟩
theorem Ext.trans {M B M1 B1 M2 B2 : List Addr} {H H1 H2 : Hp} (x : Ext M B H M1 B1 H1) (y : Ext M1 B1 H1 M2 B2 H2) : Ext M B H M2 B2 H2 where
  m := fun a h => y.m a (x.m a h)
  new := fun a h => by
    rcases y.new a h with q | q
    · exact x.new a q
    · exact .inr (x.live a q)
  b := fun a h => y.b a (x.b a h)
  newb := fun a h => by
    rcases y.newb a h with q | q
    · exact x.newb a q
    · exact .inr (x.live a q)
  keep := fun a o nb e => y.keep a o (fun hb => by
    rcases x.newb a hb with q | q
    · exact nb q
    · rw [q] at e; cases e) (x.keep a o nb e)
  live := fun a e => x.live a (y.live a e)
theorem Ext.same {M B : List Addr} {H H' : Hp} (e : Same H H') : Ext M B H M B H' := ⟨fun _ h => h, fun _ h => .inl h, fun _ h => h, fun _ h => .inl h, fun a o _ q => e a o q, fun a q => e.free q⟩
theorem same_new {H : Hp} {p : Addr} {o : HO} (h : H p = none) : Same H (upd H p o) := fun a u e => by
  rw [upd_ne (ne_of_none e h)]; exact e
theorem Ext.rm {M B M' B' : List Addr} {H H' : Hp} (x : Ext M B H M' B' H') (hs : ∀ a, a ∈ B → a ∈ M) : Same (rm M H) (rm M' H') := fun a o e => by
  obtain ⟨h1, h2⟩ := rm_to e
  refine rm_of (fun c => ?_) (x.keep a o (fun c => h1 (hs a c)) h2)
  rcases x.new a c with q | q
  · exact h1 q
  · rw [q] at h2; cases h2
/-! ### what stands in a slot -/
inductive SV where
  | un | dat (d : PyData) | own (ds : List PyData) | bor (l : Addr) (ds : List PyData) | scr (ns : List Int)
def SV.isL : SV → Bool
  | .own _ => true
  | .bor _ _ => true
  | _ => false
abbrev Env := List SV
def SlotOk (K : Fr) (M0 M B : List Addr) (H : Hp) (o : Option (Option V)) : SV → Prop
  | .un => True
  | .dat d => ∃ v, o = some (some v) ∧ Dt K (rm M H) v d
  | .scr ns => ∃ a, o = some (some (.ref a)) ∧ SqL K (rm M H) a (ns.map V.int)
  | .own ds => ∃ l xs, o = some (some (.ref l)) ∧ l ∈ B ∧ l ∉ M0 ∧ H l = some (.lst xs) ∧ DtAll K (rm M H) xs ds
  | .bor l ds => ∃ xs, o = some (some (.ref l)) ∧ l ∈ B ∧ l ∈ M0 ∧ H l = some (.lst xs) ∧ DtAll K (rm M H) xs ds
structure EnvOk (K : Fr) (M0 M B : List Addr) (H : Hp) (σ : L2.St) (ρ : Env) : Prop where
  len : σ.length = ρ.length
  sub : ∀ a, a ∈ B → a ∈ M
  dom : ∀ a, a ∈ M → H a ≠ none
  m0 : ∀ a, a ∈ M0 → a ∈ M
  slot : ∀ (i : Nat) (s : SV), ρ[i]? = some s → SlotOk K M0 M B H (σ[i]?) s
  sep : ∀ (i j : Nat) (s s' : SV) (l : Addr), i ≠ j → ρ[i]? = some s → ρ[j]? = some s' → s.isL = true → s'.isL = true → σ[i]? = some (some (.ref l)) → σ[j]? = some (some (.ref l)) → False
section
variable {K : Fr} {M0 M B M' B' : List Addr} {H H' : Hp} {σ : L2.St} {ρ : Env} {i : Nat} {v : V} {d : PyData}
/-- the heap grew only -/
theorem EnvOk.same (E : EnvOk K M0 M B H σ ρ) (e : Same H H') : EnvOk K M0 M B H' σ ρ where
  len := E.len
  sub := E.sub
  dom := fun a h q => E.dom a h (e.free q)
  m0 := E.m0
  slot := fun i s h => by
    have r := (Ext.same (M := M) (B := B) e).rm E.sub
    have z := E.slot i s h
    cases s with
    | un => trivial
    | dat d => obtain ⟨v, h1, h2⟩ := z; exact ⟨v, h1, Dt.up r h2⟩
    | scr ns => obtain ⟨v, h1, h2⟩ := z; exact ⟨v, h1, same_l r h2⟩
    | own ds => obtain ⟨l, xs, h1, h2, h3, h4, h5⟩ := z; exact ⟨l, xs, h1, h2, h3, e _ _ h4, DtAll.up r h5⟩
    | bor l ds => obtain ⟨xs, h1, h2, h3, h4, h5⟩ := z; exact ⟨xs, h1, h2, h3, e _ _ h4, DtAll.up r h5⟩
  sep := E.sep
theorem EnvOk.fresh (E : EnvOk K M0 M B H σ ρ) {p : Addr} (h : H p = none) : p ∉ M := fun c => E.dom p c h
theorem EnvOk.newt (E : EnvOk K M0 M B H σ ρ) {p : Addr} {xs : List V} {ds : List PyData} (h : H p = none) (r : DtAll K (rm M H) xs ds) : Dt K (rm M (upd H p (.tup xs))) (.ref p) (.tuple ds) :=
  .tup (.inl (.inl (rm_of (E.fresh h) upd_same))) (DtAll.up ((Ext.same (M := M) (B := B) (same_new h)).rm E.sub) r)
theorem EnvOk.newl (E : EnvOk K M0 M B H σ ρ) {p : Addr} {xs : List V} {ds : List PyData} (h : H p = none) (r : DtAll K (rm M H) xs ds) : Dt K (rm M (upd H p (.lst xs))) (.ref p) (.list ds) :=
  .lst (rm_of (E.fresh h) upd_same) (DtAll.up ((Ext.same (M := M) (B := B) (same_new h)).rm E.sub) r)
theorem EnvOk.up (E : EnvOk K M0 M B H σ ρ) (x : Ext M B H M' B' H') (h : Dt K (rm M H) v d) : Dt K (rm M' H') v d := Dt.up (x.rm E.sub) h
theorem EnvOk.upA (E : EnvOk K M0 M B H σ ρ) (x : Ext M B H M' B' H') {vs : List V} {ds : List PyData} (h : DtAll K (rm M H) vs ds) : DtAll K (rm M' H') vs ds := DtAll.up (x.rm E.sub) h
theorem get_set_eq {α : Type} {l : List α} {i : Nat} {a : α} (h : i < l.length) : (l.set i a)[i]? = some a := by simp [h]
theorem get_set_ne {α : Type} {l : List α} {i j : Nat} {a : α} (h : i ≠ j) : (l.set i a)[j]? = l[j]? := by simp [h]
theorem get_set_some {α : Type} {l : List α} {i j : Nat} {a s : α} (h : (l.set i a)[j]? = some s) : (i = j ∧ s = a ∧ i < l.length) ∨ (i ≠ j ∧ l[j]? = some s) := by
  by_cases c : i = j
  · subst c
    have hl : i < l.length := by
      have q := (List.getElem?_eq_some_iff.mp h).1
      simpa using q
    rw [get_set_eq hl] at h
    exact .inl ⟨rfl, (Option.some.inj h).symm, hl⟩
  · rw [get_set_ne c] at h
    exact .inr ⟨c, h⟩
/-- a slot gets data -/
theorem EnvOk.set (E : EnvOk K M0 M B H σ ρ) (i : Nat) (h : Dt K (rm M H) v d) : EnvOk K M0 M B H (σ.set i (some v)) (ρ.set i (.dat d)) where
  len := by rw [List.length_set, List.length_set]; exact E.len
  sub := E.sub
  dom := E.dom
  m0 := E.m0
  slot := fun j s hj => by
    rcases get_set_some hj with ⟨rfl, rfl, hl⟩ | ⟨n, hj'⟩
    · exact ⟨v, get_set_eq (by rw [E.len]; exact hl), h⟩
    · rw [get_set_ne n]; exact E.slot j s hj'
  sep := fun j k s s' l n h1 h2 l1 l2 s1 s2 => by
    rcases get_set_some h1 with ⟨rfl, rfl, _⟩ | ⟨n1, h1'⟩
    · cases l1
    · rcases get_set_some h2 with ⟨rfl, rfl, _⟩ | ⟨n2, h2'⟩
      · cases l2
      · rw [get_set_ne n1] at s1
        rw [get_set_ne n2] at s2
        exact E.sep j k s s' l n h1' h2' l1 l2 s1 s2
/-- a slot is forgotten -/
theorem EnvOk.forget (E : EnvOk K M0 M B H σ ρ) (i : Nat) (o : Option V) : EnvOk K M0 M B H (σ.set i o) (ρ.set i .un) where
  len := by rw [List.length_set, List.length_set]; exact E.len
  sub := E.sub
  dom := E.dom
  m0 := E.m0
  slot := fun j s hj => by
    rcases get_set_some hj with ⟨rfl, rfl, hl⟩ | ⟨n, hj'⟩
    · trivial
    · rw [get_set_ne n]; exact E.slot j s hj'
  sep := fun j k s s' l n h1 h2 l1 l2 s1 s2 => by
    rcases get_set_some h1 with ⟨rfl, rfl, _⟩ | ⟨n1, h1'⟩
    · cases l1
    · rcases get_set_some h2 with ⟨rfl, rfl, _⟩ | ⟨n2, h2'⟩
      · cases l2
      · rw [get_set_ne n1] at s1
        rw [get_set_ne n2] at s2
        exact E.sep j k s s' l n h1' h2' l1 l2 s1 s2
/-- a new content of a list that is put away -/
theorem EnvOk.put (E : EnvOk K M0 M B H σ ρ) {i : Nat} {s s' : SV} {l : Addr} {xs : List V} {ds : List PyData} (hs : ρ[i]? = some s) (hL : s.isL = true) (hl : σ[i]? = some (some (.ref l))) (h : H' l = some (.lst xs)) (r : DtAll K (rm M H') xs ds)
    (ks : ∀ a o, a ≠ l → H a = some o → H' a = some o)
    (hs' : (∃ es, s = .own es ∧ s' = .own ds) ∨ ∃ es, s = .bor l es ∧ s' = .bor l ds) : EnvOk K M0 M B H' σ (ρ.set i s') := by
  have hlB : l ∈ B := by
    have z := E.slot i s hs
    cases s with
    | un => cases hL
    | dat d => cases hL
    | scr ns => cases hL
    | own ds =>
      obtain ⟨l2, xs, h1, h2, _⟩ := z
      rw [h1] at hl
      injection hl with e; injection e with e; injection e with e
      exact e ▸ h2
    | bor l2 ds =>
      obtain ⟨xs, h1, h2, _⟩ := z
      rw [h1] at hl
      injection hl with e; injection e with e; injection e with e
      exact e ▸ h2
  have sm : Same (rm M H) (rm M H') := fun a o e => by
    obtain ⟨h1, h2⟩ := rm_to e
    exact rm_of h1 (ks a o (fun q => h1 (q ▸ E.sub _ hlB)) h2)
  refine ⟨by rw [List.length_set]; exact E.len, E.sub, fun a ha q => ?_, E.m0, fun j t hj => ?_, fun j k t t' l' n h1 h2 l1 l2 s1 s2 => ?_⟩
  · by_cases c : a = l
    · rw [c, h] at q; cases q
    · cases e : H a with
      | none => exact E.dom a ha e
      | some o => rw [ks a o c e] at q; cases q
  · rcases get_set_some hj with ⟨rfl, rfl, hl'⟩ | ⟨n, hj'⟩
    · have z := E.slot i s hs
      rcases hs' with ⟨es, rfl, rfl⟩ | ⟨es, rfl, rfl⟩
      · obtain ⟨l2, xs2, h1, h2, h3, _⟩ := z
        have e := h1.symm.trans hl
        injection e with e; injection e with e; injection e with e
        exact ⟨l, xs, hl, hlB, e ▸ h3, h, r⟩
      · obtain ⟨xs2, h1, h2, h3, _⟩ := z
        exact ⟨xs, hl, hlB, h3, h, r⟩
    · have z := E.slot j t hj'
      have apart : t.isL = true → ∀ l2, σ[j]? = some (some (.ref l2)) → l2 ≠ l := fun ht l2 hl2 q => E.sep i j s t l n hs hj' hL ht hl (q ▸ hl2)
      cases t with
      | un => trivial
      | dat d => obtain ⟨v, h1, h2⟩ := z; exact ⟨v, h1, Dt.up sm h2⟩
      | scr ns => obtain ⟨v, h1, h2⟩ := z; exact ⟨v, h1, same_l sm h2⟩
      | own ds => obtain ⟨l2, xs, h1, h2, h3, h4, h5⟩ := z; exact ⟨l2, xs, h1, h2, h3, ks _ _ (apart rfl l2 h1) h4, DtAll.up sm h5⟩
      | bor l2 ds => obtain ⟨xs, h1, h2, h3, h4, h5⟩ := z; exact ⟨xs, h1, h2, h3, ks _ _ (apart rfl l2 h1) h4, DtAll.up sm h5⟩
  · have back : ∀ (j : Nat) (t : SV), (ρ.set i s')[j]? = some t → t.isL = true → ∃ t0, ρ[j]? = some t0 ∧ t0.isL = true := fun j t hj ht => by
      rcases get_set_some hj with ⟨rfl, rfl, _⟩ | ⟨_, hj'⟩
      · exact ⟨s, hs, hL⟩
      · exact ⟨t, hj', ht⟩
    obtain ⟨a, a1, a2⟩ := back j t h1 l1
    obtain ⟨b, b1, b2⟩ := back k t' h2 l2
    exact E.sep j k a b l' n a1 b1 a2 b2 s1 s2
end
end Pm
namespace Pm
open PySem PySem.Spec PyProof.Rows L2
/-! ### the readings over data -/
abbrev WE := Env → (Env → PyData → Prop) → Prop
abbrev WT := Env → (Env → Bool → Prop) → Prop
abbrev WA := Env → (Env → List PyData → Prop) → Prop
def Env.at : Env → Nat → SV
  | [], _ => .un
  | s :: _, 0 => s
  | _ :: r, n + 1 => Env.at r n
theorem Env.at_get : ∀ {ρ : Env} {i : Nat} {s : SV}, ρ.at i = s → s ≠ .un → ρ[i]? = some s
  | [], i, s, h, n => absurd h.symm n
  | a :: r, 0, s, h, n => by have e : a = s := h; subst e; rfl
  | a :: r, i + 1, s, h, n => by
    have z : Env.at r i = s := h
    have q := Env.at_get z n
    simpa using q
def SV.items : SV → Option (List PyData)
  | .own ds => some ds
  | .bor _ ds => some ds
  | _ => none
def SV.put : SV → List PyData → SV
  | .own _, ds => .own ds
  | .bor l _, ds => .bor l ds
  | s, _ => s
/-- a value: data, or a list that is put away, its items data -/
def RV (K : Fr) (M : List Addr) (H : Hp) (v : V) (d : PyData) : Prop :=
  Dt K (rm M H) v d ∨ ∃ l xs ds, v = .ref l ∧ d = .list ds ∧ H l = some (.lst xs) ∧ DtAll K (rm M H) xs ds
abbrev RVs (K : Fr) (M : List Addr) (H : Hp) : List V → List PyData → Prop := Paired (RV K M H)
variable {ι : Type}
def DE (X : ι → Cx) (K : Fr) (e : Expr) (w : WE) : Prop := ∃ t : TE, (∀ i, PE (X i) e t) ∧ ∀ (M0 M B : List Addr) (σ : L2.St) (H : Hp) (ρ : Env) (P : Env → PyData → Prop) (Q : VK), EnvOk K M0 M B H σ ρ → w ρ P →
  (∀ ρ' d v H', P ρ' d → Ext M B H M B H' → EnvOk K M0 M B H' σ ρ' → Dt K (rm M H') v d → Q v H') → t σ H Q
def DV (X : ι → Cx) (K : Fr) (e : Expr) (w : WE) : Prop := ∃ t : TE, (∀ i, PE (X i) e t) ∧ ∀ (M0 M B : List Addr) (σ : L2.St) (H : Hp) (ρ : Env) (P : Env → PyData → Prop) (Q : VK), EnvOk K M0 M B H σ ρ → w ρ P →
  (∀ ρ' d v H', P ρ' d → Ext M B H M B H' → EnvOk K M0 M B H' σ ρ' → RV K M H' v d → Q v H') → t σ H Q
def DT (X : ι → Cx) (K : Fr) (e : Expr) (w : WT) : Prop := ∃ t : TT, (∀ i, PT (X i) e t) ∧ ∀ (M0 M B : List Addr) (σ : L2.St) (H : Hp) (ρ : Env) (P : Env → Bool → Prop) (Q : Bool → Hp → Prop), EnvOk K M0 M B H σ ρ → w ρ P →
  (∀ ρ' b H', P ρ' b → Ext M B H M B H' → EnvOk K M0 M B H' σ ρ' → Q b H') → t σ H Q
def DW (X : ι → Cx) (K : Fr) (e : Expr) (w : WT) : Prop := ∃ t : TT, (∀ i, PW (X i) e t) ∧ ∀ (M0 M B : List Addr) (σ : L2.St) (H : Hp) (ρ : Env) (P : Env → Bool → Prop) (Q : Bool → Hp → Prop), EnvOk K M0 M B H σ ρ → w ρ P →
  (∀ ρ' b H', P ρ' b → Ext M B H M B H' → EnvOk K M0 M B H' σ ρ' → Q b H') → t σ H Q
def DA (X : ι → Cx) (K : Fr) (es : List Expr) (w : WA) : Prop := ∃ t : TA, (∀ i, PA (X i) es t) ∧ ∀ (M0 M B : List Addr) (σ : L2.St) (H : Hp) (ρ : Env) (P : Env → List PyData → Prop) (Q : List V → Hp → Prop), EnvOk K M0 M B H σ ρ → w ρ P →
  (∀ ρ' ds vs H', P ρ' ds → Ext M B H M B H' → EnvOk K M0 M B H' σ ρ' → DtAll K (rm M H') vs ds → Q vs H') → t σ H Q
/-- one argument, a value -/
def DA1 (X : ι → Cx) (K : Fr) (es : List Expr) (w : WE) : Prop := ∃ t : TA, (∀ i, PA (X i) es t) ∧ ∀ (M0 M B : List Addr) (σ : L2.St) (H : Hp) (ρ : Env) (P : Env → PyData → Prop) (Q : List V → Hp → Prop), EnvOk K M0 M B H σ ρ → w ρ P →
  (∀ ρ' d v H', P ρ' d → Ext M B H M B H' → EnvOk K M0 M B H' σ ρ' → RV K M H' v d → Q [v] H') → t σ H Q
section
variable {X : ι → Cx} {K : Fr} {a b e : Expr} {es : List Expr} {wa wb we : WE}
theorem DE.v (h : DE X K e we) : DV X K e we := by
  obtain ⟨t, h1, h2⟩ := h
  exact ⟨t, h1, fun M0 M B σ H ρ P Q E w k => h2 M0 M B σ H ρ P Q E w fun ρ' d v H' p x E' r => k ρ' d v H' p x E' (.inl r)⟩
/-! ### names and constants -/
def wVar (i : Nat) : WE := fun ρ P => ∃ d, ρ.at i = .dat d ∧ P ρ d
def wOwn (i : Nat) : WE := fun ρ P => ∃ ds, (ρ.at i).items = some ds ∧ P ρ (.list ds)
def wC (d : PyData) : WE := fun ρ P => P ρ d
theorem de_v (j : Nat) (h : ∀ i, PE (X i) e (tVar j) := by intro i; exact pv _) : DE X K e (wVar j) := by
  refine ⟨tVar j, h, fun M0 M B σ H ρ P Q E w k => ?_⟩
  obtain ⟨d, h1, p⟩ := w
  obtain ⟨v, h2, r⟩ := E.slot j _ (Env.at_get h1 (by intro z; cases z))
  exact ⟨v, h2, k ρ d v H p (Ext.refl ..) E r⟩
theorem dv_own (j : Nat) (h : ∀ i, PE (X i) e (tVar j) := by intro i; exact pv _) : DV X K e (wOwn j) := by
  refine ⟨tVar j, h, fun M0 M B σ H ρ P Q E w k => ?_⟩
  obtain ⟨ds, h1, p⟩ := w
  have hs : ρ[j]? = some (ρ.at j) := Env.at_get rfl (fun z => by rw [z] at h1; cases h1)
  have z := E.slot j _ hs
  revert h1 z
  cases ρ.at j with
  | un => intro h1; cases h1
  | dat d => intro h1; cases h1
  | scr d => intro h1; cases h1
  | own ds' =>
    intro h1 z
    injection h1 with h1
    subst h1
    obtain ⟨l, xs, h2, _, _, h4, h5⟩ := z
    exact ⟨_, h2, k ρ _ _ H p (Ext.refl ..) E (.inr ⟨l, xs, _, rfl, rfl, h4, h5⟩)⟩
  | bor l ds' =>
    intro h1 z
    injection h1 with h1
    subst h1
    obtain ⟨xs, h2, _, _, h4, h5⟩ := z
    exact ⟨_, h2, k ρ _ _ H p (Ext.refl ..) E (.inr ⟨l, xs, _, rfl, rfl, h4, h5⟩)⟩
theorem de_c {v : V} {d : PyData} (h : ∀ i, PE (X i) e (tC v)) (r : ∀ H, Dt K H v d) : DE X K e (wC d) :=
  ⟨tC v, h, fun M0 M B σ H ρ P Q E w k => k ρ d v H w (Ext.refl ..) E (r _)⟩
theorem de_int {n : Int} {k : Nat} {pos : Pos} : DE X K (.Constant (.int n) k pos) (wC (.int n)) := de_c (fun i => pe_int) fun H => .int n
theorem de_str {n : Str} {k : Nat} {pos : Pos} : DE X K (.Constant (.str n) k pos) (wC (.str n)) := de_c (fun i => pe_str) fun H => .str n
theorem de_bl {n : Bool} {k : Nat} {pos : Pos} : DE X K (.Constant (.bool n) k pos) (wC (.bool n)) := de_c (fun i => pe_bl) fun H => .bl n
theorem de_non {k : Nat} {pos : Pos} : DE X K (.Constant .none k pos) (wC .none) := de_c (fun i => pe_non) fun H => .non
/-- a module's constant: u its Value -/
theorem de_glob {x : Str} {u : Value} {v : V} {d : PyData} {pos : Pos} (hm : ∀ i, (X i).mg x = some u) (r : RelV v u) (hd : ∀ H, Dt K H v d) (hg : ∀ i, Gl (X i) x := by intro i; rfl) (hd1 : (x == ("__debug__" : Str)) = false := by decide) : DE X K (.Name x pos) (wC d) :=
  de_c (fun i => pe_glob (hg i) (hm i) r hd1) hd
/-! ### operators -/
/-- an operation on data is as that on values -/
def OpD (K : Fr) (r : R2) (f : PyData → PyData → (PyData → Prop) → Prop) : Prop := ∀ (M : List Addr) (H : Hp) (x y : PyData) (v u : V) (P : PyData → Prop) (Q : VK), (∀ a, a ∈ M → H a ≠ none) → RV K M H v x → RV K M H u y → f x y P →
  (∀ d z H', P d → Same H H' → Dt K (rm M H') z d → Q z H') → r v u H Q
def wOp (f : PyData → PyData → (PyData → Prop) → Prop) (wa wb : WE) : WE := fun ρ P => wa ρ fun ρ1 x => wb ρ1 fun ρ2 y => f x y fun d => P ρ2 d
theorem RV.up {M0 M B : List Addr} {H H' : Hp} {σ : L2.St} {ρ : Env} {v : V} {d : PyData} (E : EnvOk K M0 M B H σ ρ) (e : Same H H') (h : RV K M H v d) : RV K M H' v d := by
  have s := (Ext.same (M := M) (B := B) e).rm E.sub
  rcases h with h | ⟨l, xs, ds, h1, h2, h3, h4⟩
  · exact .inl (Dt.up s h)
  · exact .inr ⟨l, xs, ds, h1, h2, e _ _ h3, DtAll.up s h4⟩
/-- the second operand's reading keeps the first: it is data, or the second changes nothing that is put away -/
theorem de_op {r : R2} {f : PyData → PyData → (PyData → Prop) → Prop} (hp : ∀ i ta tb, PE (X i) a ta → PE (X i) b tb → PE (X i) e (tOp r ta tb)) (hr : OpD K r f) (ha : DE X K a wa) (hb : DV X K b wb) : DE X K e (wOp f wa wb) := by
  obtain ⟨ta, a1, a2⟩ := ha
  obtain ⟨tb, b1, b2⟩ := hb
  refine ⟨tOp r ta tb, fun i => hp i ta tb (a1 i) (b1 i), fun M0 M B σ H ρ P Q E w k => ?_⟩
  refine a2 M0 M B σ H ρ _ _ E w fun ρ1 x v H1 w1 x1 E1 r1 => ?_
  refine b2 M0 M B σ H1 ρ1 _ _ E1 w1 fun ρ2 y u H2 w2 x2 E2 r2 => ?_
  refine hr M H2 x y v u _ Q E2.dom (.inl (E1.up x2 r1)) r2 w2 fun d z H3 p e3 r3 => ?_
  exact k ρ2 d z H3 p ((x1.trans x2).trans (Ext.same e3)) (E2.same e3) r3
theorem EnvOk.lst {M0 M B : List Addr} {H : Hp} {σ : L2.St} {ρ : Env} {j : Nat} {ds : List PyData} (E : EnvOk K M0 M B H σ ρ) (h1 : (ρ.at j).items = some ds) : ∃ l xs, ρ[j]? = some (ρ.at j) ∧ (ρ.at j).isL = true ∧ σ[j]? = some (some (.ref l)) ∧ l ∈ B ∧ H l = some (.lst xs) ∧ DtAll K (rm M H) xs ds ∧
    ((∃ es, ρ.at j = .own es) ∨ ∃ es, ρ.at j = .bor l es) := by
  have hs : ρ[j]? = some (ρ.at j) := Env.at_get rfl (fun z => by rw [z] at h1; cases h1)
  have z := E.slot j _ hs
  revert hs h1 z
  cases ρ.at j with
  | un => intro h1; cases h1
  | dat d => intro h1; cases h1
  | scr d => intro h1; cases h1
  | own ds' =>
    intro h1 hs z
    injection h1 with h1
    subst h1
    obtain ⟨l, xs, h2, h3, _, h4, h5⟩ := z
    exact ⟨l, xs, hs, rfl, h2, h3, h4, h5, .inl ⟨_, rfl⟩⟩
  | bor l ds' =>
    intro h1 hs z
    injection h1 with h1
    subst h1
    obtain ⟨xs, h2, h3, _, h4, h5⟩ := z
    exact ⟨l, xs, hs, rfl, h2, h3, h4, h5, .inr ⟨_, rfl⟩⟩
/-- .. the first operand a list that is put away -/
def wOpO (f : PyData → PyData → (PyData → Prop) → Prop) (j : Nat) (wb : WE) : WE := fun ρ P => (∃ ds0, (ρ.at j).items = some ds0) ∧ wb ρ fun ρ2 y => ∃ ds, (ρ2.at j).items = some ds ∧ f (.list ds) y fun d => P ρ2 d
theorem de_opo (j : Nat) {r : R2} {f : PyData → PyData → (PyData → Prop) → Prop} (hp : ∀ i ta tb, PE (X i) a ta → PE (X i) b tb → PE (X i) e (tOp r ta tb)) (hr : OpD K r f) (hb : DV X K b wb) (h : ∀ i, PE (X i) a (tVar j) := by intro i; exact pv _) : DE X K e (wOpO f j wb) := by
  obtain ⟨tb, b1, b2⟩ := hb
  refine ⟨tOp r (tVar j) tb, fun i => hp i _ tb (h i) (b1 i), fun M0 M B σ H ρ P Q E w k => ?_⟩
  obtain ⟨⟨ds0, h0⟩, w⟩ := w
  obtain ⟨l0, xs0, _, _, hl0, _⟩ := E.lst h0
  refine ⟨_, hl0, ?_⟩
  refine b2 M0 M B σ H ρ _ _ E w fun ρ2 y u H2 w2 x2 E2 r2 => ?_
  obtain ⟨ds, h1, w3⟩ := w2
  obtain ⟨l, xs, _, _, hl, _, h4, h5, _⟩ := E2.lst h1
  rw [hl0] at hl
  injection hl with hl; injection hl with hl; injection hl with hl
  subst hl
  refine hr M H2 _ y _ u _ Q E2.dom (.inr ⟨l0, xs, ds, rfl, rfl, h4, h5⟩) r2 w3 fun d z H3 p e3 r3 => ?_
  exact k ρ2 d z H3 p (x2.trans (Ext.same e3)) (E2.same e3) r3
end
end Pm
namespace Pm
open PySem PySem.Spec PyProof.Rows L2
variable {ι : Type} {X : ι → Cx} {K : Fr} {a b e : Expr} {es : List Expr} {wa wb we : WE}
/-! ### arguments, displays -/
def wNil : WA := fun ρ P => P ρ []
def wCons (w : WE) (r : WA) : WA := fun ρ P => w ρ fun ρ1 d => r ρ1 fun ρ2 ds => P ρ2 (d :: ds)
theorem da_nil : DA X K [] wNil := ⟨tNil, fun i => pa_nil, fun M0 M B σ H ρ P Q E w k => k ρ [] [] H w (Ext.refl ..) E .nil⟩
theorem da_cons {w : WE} {r : WA} (h : DE X K e w) (hs : DA X K es r) (he : ∀ i, starEach (e :: es) (X i).env = (false, eval e (X i).env) :: starEach es (X i).env := by intro i; rfl) : DA X K (e :: es) (wCons w r) := by
  obtain ⟨ta, a1, a2⟩ := h
  obtain ⟨tb, b1, b2⟩ := hs
  refine ⟨tCons ta tb, fun i => pa_cons (a1 i) (b1 i) (he i), fun M0 M B σ H ρ P Q E w k => ?_⟩
  refine a2 M0 M B σ H ρ _ _ E w fun ρ1 x v H1 w1 x1 E1 r1 => ?_
  refine b2 M0 M B σ H1 ρ1 _ _ E1 w1 fun ρ2 ds vs H2 w2 x2 E2 r2 => ?_
  exact k ρ2 _ _ H2 w2 (x1.trans x2) E2 (.cons (E1.up x2 r1) r2)
def wTup (w : WA) : WE := fun ρ P => w ρ fun ρ1 ds => ds.length ≤ sizeLine ∧ P ρ1 (.tuple ds)
def wLst (w : WA) : WE := fun ρ P => w ρ fun ρ1 ds => ds.length ≤ sizeLine ∧ P ρ1 (.list ds)
theorem de_tup {w : WA} {c : Nat} {pos : Pos} (h : DA X K es w) (hp : ∀ i t, PA (X i) es t → PE (X i) (.Tuple es c pos) (tTup t) := by intro i t h; exact pe_tup h) : DE X K (.Tuple es c pos) (wTup w) := by
  obtain ⟨t, a1, a2⟩ := h
  refine ⟨tTup t, fun i => hp i t (a1 i), fun M0 M B σ H ρ P Q E w k => ?_⟩
  refine a2 M0 M B σ H ρ _ _ E w fun ρ1 ds vs H1 w1 x1 E1 r1 => ?_
  refine ⟨by rw [DtAll.len r1]; exact w1.1, fun p np => ?_⟩
  exact k ρ1 _ _ _ w1.2 (x1.trans (Ext.same (same_new np))) (E1.same (same_new np)) (E1.newt np r1)
theorem de_lst {w : WA} {pos : Pos} (h : DA X K es w) (hp : ∀ i t, PA (X i) es t → PE (X i) (.List es pos) (tLst t) := by intro i t h; exact pe_lst h) : DE X K (.List es pos) (wLst w) := by
  obtain ⟨t, a1, a2⟩ := h
  refine ⟨tLst t, fun i => hp i t (a1 i), fun M0 M B σ H ρ P Q E w k => ?_⟩
  refine a2 M0 M B σ H ρ _ _ E w fun ρ1 ds vs H1 w1 x1 E1 r1 => ?_
  refine ⟨by rw [DtAll.len r1]; exact w1.1, fun p np => ?_⟩
  exact k ρ1 _ _ _ w1.2 (x1.trans (Ext.same (same_new np))) (E1.same (same_new np)) (E1.newl np r1)
/-! ### tests -/
def wTst (we : WE) : WT := fun ρ P => we ρ fun ρ1 d => ∃ b, d = .bool b ∧ P ρ1 b
theorem dt_val (h : DE X K e we) (hp : ∀ i t, PE (X i) e t → PT (X i) e (tB t) := by intro i t h; exact pt_val h) : DT X K e (wTst we) := by
  obtain ⟨t, a1, a2⟩ := h
  refine ⟨tB t, fun i => hp i t (a1 i), fun M0 M B σ H ρ P Q E w k => ?_⟩
  refine a2 M0 M B σ H ρ _ _ E w fun ρ1 d v H1 w1 x1 E1 r1 => ?_
  obtain ⟨b, rfl, p⟩ := w1
  exact ⟨b, Dt.isBl r1, k ρ1 b H1 p x1 E1⟩
def wAnd (t u : WT) : WT := fun ρ P => t ρ fun ρ1 c => (c = true → u ρ1 P) ∧ (c = false → P ρ1 false)
def wOr (t u : WT) : WT := fun ρ P => t ρ fun ρ1 c => (c = true → P ρ1 true) ∧ (c = false → u ρ1 P)
def wNot (t : WT) : WT := fun ρ P => t ρ fun ρ1 c => P ρ1 (!c)
theorem ite_of {c : Bool} {A B : Prop} (h1 : c = true → A) (h2 : c = false → B) : if c = true then A else B := by
  cases c with
  | true => rw [if_pos rfl]; exact h1 rfl
  | false => rw [if_neg Bool.false_ne_true]; exact h2 rfl
theorem dt_not {t : WT} {pos : Pos} (h : DT X K e t) (hp : ∀ i t, PT (X i) e t → PT (X i) (.UnaryOp .Not e pos) (tNot t) := by intro i t h; exact pt_not h) : DT X K (.UnaryOp .Not e pos) (wNot t) := by
  obtain ⟨t, a1, a2⟩ := h
  refine ⟨tNot t, fun i => hp i t (a1 i), fun M0 M B σ H ρ P Q E w k => ?_⟩
  exact a2 M0 M B σ H ρ _ _ E w fun ρ1 b H1 w1 x1 E1 => k ρ1 _ H1 w1 x1 E1
theorem DW.t {w : WT} (h : DW X K e w) : DT X K e w := by
  obtain ⟨t, a1, a2⟩ := h
  exact ⟨t, fun i => (a1 i).pt, a2⟩
theorem dw_and {t u : WT} {c : Expr} {rest : List Expr} {pos : Pos} (h : DT X K a t) (hr : DW X K (.BoolOp .And (c :: rest) pos) u) (hp : ∀ i t u, PT (X i) a t → PW (X i) (.BoolOp .And (c :: rest) pos) u → PW (X i) (.BoolOp .And (a :: c :: rest) pos) (tAnd t u) := by intro i t u h1 h2; exact pw_and h1 h2) : DW X K (.BoolOp .And (a :: c :: rest) pos) (wAnd t u) := by
  obtain ⟨t, a1, a2⟩ := h
  obtain ⟨u, b1, b2⟩ := hr
  refine ⟨tAnd t u, fun i => hp i t u (a1 i) (b1 i), fun M0 M B σ H ρ P Q E w k => ?_⟩
  refine a2 M0 M B σ H ρ _ _ E w fun ρ1 c H1 w1 x1 E1 => ite_of (fun e => ?_) (fun e => ?_)
  · exact b2 M0 M B σ H1 ρ1 _ _ E1 (w1.1 e) fun ρ2 b H2 w2 x2 E2 => k ρ2 b H2 w2 (x1.trans x2) E2
  · exact k ρ1 false H1 (w1.2 e) x1 E1
theorem dw_or {t u : WT} {c : Expr} {rest : List Expr} {pos : Pos} (h : DT X K a t) (hr : DW X K (.BoolOp .Or (c :: rest) pos) u) (hp : ∀ i t u, PT (X i) a t → PW (X i) (.BoolOp .Or (c :: rest) pos) u → PW (X i) (.BoolOp .Or (a :: c :: rest) pos) (tOr t u) := by intro i t u h1 h2; exact pw_or h1 h2) : DW X K (.BoolOp .Or (a :: c :: rest) pos) (wOr t u) := by
  obtain ⟨t, a1, a2⟩ := h
  obtain ⟨u, b1, b2⟩ := hr
  refine ⟨tOr t u, fun i => hp i t u (a1 i) (b1 i), fun M0 M B σ H ρ P Q E w k => ?_⟩
  refine a2 M0 M B σ H ρ _ _ E w fun ρ1 c H1 w1 x1 E1 => ite_of (fun e => ?_) (fun e => ?_)
  · exact k ρ1 true H1 (w1.1 e) x1 E1
  · exact b2 M0 M B σ H1 ρ1 _ _ E1 (w1.2 e) fun ρ2 b H2 w2 x2 E2 => k ρ2 b H2 w2 (x1.trans x2) E2
theorem dw_and1 {t : WT} {pos : Pos} (h : DT X K a t) (hp : ∀ i t, PT (X i) a t → PW (X i) (.BoolOp .And [a] pos) t := by intro i t h1; exact pw_and1 h1) : DW X K (.BoolOp .And [a] pos) t := by
  obtain ⟨t, a1, a2⟩ := h
  exact ⟨t, fun i => hp i t (a1 i), a2⟩
theorem dw_or1 {t : WT} {pos : Pos} (h : DT X K a t) (hp : ∀ i t, PT (X i) a t → PW (X i) (.BoolOp .Or [a] pos) t := by intro i t h1; exact pw_or1 h1) : DW X K (.BoolOp .Or [a] pos) t := by
  obtain ⟨t, a1, a2⟩ := h
  exact ⟨t, fun i => hp i t (a1 i), a2⟩
/-- a if t else b -/
def wIte (t : WT) (wa wb : WE) : WE := fun ρ P => t ρ fun ρ1 c => (c = true → wa ρ1 P) ∧ (c = false → wb ρ1 P)
theorem de_ite {t : WT} {c : Expr} {pos : Pos} (h : DT X K c t) (ha : DE X K a wa) (hb : DE X K b wb) : DE X K (.IfExp c a b pos) (wIte t wa wb) := by
  obtain ⟨t, c1, c2⟩ := h
  obtain ⟨ta, a1, a2⟩ := ha
  obtain ⟨tb, b1, b2⟩ := hb
  refine ⟨tIf t ta tb, fun i => pe_ifExp (c1 i) (a1 i) (b1 i), fun M0 M B σ H ρ P Q E w k => ?_⟩
  refine c2 M0 M B σ H ρ _ _ E w fun ρ1 c H1 w1 x1 E1 => ite_of (fun e => ?_) (fun e => ?_)
  · exact a2 M0 M B σ H1 ρ1 _ _ E1 (w1.1 e) fun ρ2 d v H2 w2 x2 E2 r2 => k ρ2 d v H2 w2 (x1.trans x2) E2 r2
  · exact b2 M0 M B σ H1 ρ1 _ _ E1 (w1.2 e) fun ρ2 d v H2 w2 x2 E2 r2 => k ρ2 d v H2 w2 (x1.trans x2) E2 r2
/-! ### what the operators are on data -/
theorem op_orR {Y : Cx} {f : Value → Value → Sem Value} {r1 r2 : R2} (h1 : OpR Y f r1) (h2 : OpR Y f r2) : OpR Y f (fun x y H Q => r1 x y H Q ∨ r2 x y H Q) := by
  intro pins s σ H x y v u Q I rx ry h
  rcases h with h | h
  · exact h1 pins s σ H x y v u Q I rx ry h
  · exact h2 pins s σ H x y v u Q I rx ry h
/-- .. on data that must be flat or tuples: what stands put away is a list -/
def RV.isInt {M : List Addr} {H : Hp} {v : V} {i : Int} (h : RV K M H v (.int i)) : v = .int i := by
  rcases h with h | ⟨_, _, _, _, q, _⟩
  · exact Dt.isInt h
  · cases q
theorem RV.isStr {M : List Addr} {H : Hp} {v : V} {i : Str} (h : RV K M H v (.str i)) : v = .str i := by
  rcases h with h | ⟨_, _, _, _, q, _⟩
  · exact Dt.isStr h
  · cases q
theorem RV.isBl {M : List Addr} {H : Hp} {v : V} {i : Bool} (h : RV K M H v (.bool i)) : v = .bl i := by
  rcases h with h | ⟨_, _, _, _, q, _⟩
  · exact Dt.isBl h
  · cases q
theorem RV.isNon {M : List Addr} {H : Hp} {v : V} (h : RV K M H v .none) : v = .non := by
  rcases h with h | ⟨_, _, _, _, q, _⟩
  · exact Dt.isNon h
  · cases q
theorem RV.isTup {M : List Addr} {H : Hp} {v : V} {ds : List PyData} (h : RV K M H v (.tuple ds)) : ∃ a xs, v = .ref a ∧ SqT K H a xs ∧ DtAll K (rm M H) xs ds := by
  rcases h with h | ⟨_, _, _, _, q, _⟩
  · obtain ⟨a, xs, h1, h2, h3⟩ := Dt.isTup h
    exact ⟨a, xs, h1, same_t rm_le h2, h3⟩
  · cases q
theorem RV.isLst {M : List Addr} {H : Hp} {v : V} {ds : List PyData} (h : RV K M H v (.list ds)) : ∃ a xs, v = .ref a ∧ H a = some (.lst xs) ∧ DtAll K (rm M H) xs ds := by
  rcases h with h | ⟨l, xs, ds', rfl, q, h1, h2⟩
  · obtain ⟨a, xs, h1, h2, h3⟩ := Dt.isLst h
    exact ⟨a, xs, h1, rm_le _ _ h2, h3⟩
  · injection q with q
    subst q
    exact ⟨l, xs, rfl, h1, h2⟩
theorem RV.dp {M : List Addr} {H : Hp} {v : V} {d : PyData} (h : RV K M H v d) (hc : d.canLay0 = true) : Dp K H v d := by
  rcases h with h | ⟨l, xs, ds', rfl, rfl, h1, h2⟩
  · exact (Dt.up rm_le h).dp hc
  · exact .lst (.inl (.inl h1)) ((DtAll.up rm_le h2).dp hc)
end Pm
namespace Pm
open PySem PySem.Spec PyProof.Rows L2
variable {ι : Type} {X : ι → Cx} {K : Fr} {a b e : Expr} {es : List Expr} {wa wb we : WE} {pos : Pos}
abbrev F2 := PyData → PyData → (PyData → Prop) → Prop
/-! ### + -/
def fAdd : F2
  | .int i, .int j, P => P (.int (i + j))
  | .str x, .str y, P => x.length + y.length ≤ sizeLine ∧ P (.str (x ++ y))
  | .list xs, .list ys, P => xs.length + ys.length ≤ sizeLine ∧ P (.list (xs ++ ys))
  | .tuple xs, .tuple ys, P => xs.length + ys.length ≤ sizeLine ∧ P (.tuple (xs ++ ys))
  | _, _, _ => False
def rAddStr : R2 := fun x y H Q => ∃ i j, x = .str i ∧ y = .str j ∧ i.length + j.length ≤ sizeLine ∧ Q (.str (i ++ j)) H
def rAddAny (K : Fr) : R2 := fun x y H Q => rI0 (fun i j => .int (i + j)) x y H Q ∨ rAddStr x y H Q ∨ rCat x y H Q ∨ rCatA K x y H Q
theorem op_addAny {Y : Cx} : OpR Y (binaryOp .Add) (rAddAny Y.K) := op_orR op_add (op_orR op_add_str (op_orR op_cat op_catA))
theorem od_add : OpD K (rAddAny K) fAdd := by
  intro M H x y v u P Q dom rx ry f k
  cases x with
  | int i =>
    cases y with
    | int j => rw [RV.isInt rx, RV.isInt ry]; exact .inl ⟨i, j, rfl, rfl, k _ _ H f (Same.refl _) (.int _)⟩
    | _ => exact f.elim
  | str i =>
    cases y with
    | str j => rw [RV.isStr rx, RV.isStr ry]; exact .inr (.inl ⟨i, j, rfl, rfl, f.1, k _ _ H f.2 (Same.refl _) (.str _)⟩)
    | _ => exact f.elim
  | list xs =>
    cases y with
    | list ys =>
      obtain ⟨a, vs, rfl, h1, h2⟩ := RV.isLst rx
      obtain ⟨b, us, rfl, h3, h4⟩ := RV.isLst ry
      refine .inr (.inr (.inl ⟨a, b, vs, us, rfl, rfl, h1, h3, by rw [DtAll.len h2, DtAll.len h4]; exact f.1, fun p np => ?_⟩))
      refine k _ _ _ f.2 (same_new np) ?_
      have hp : p ∉ M := fun c => dom p c np
      refine .lst (rm_of hp upd_same) (DtAll.up (fun a o e => ?_) (DtAll.app h2 h4))
      obtain ⟨z1, z2⟩ := rm_to e
      exact rm_of z1 (same_new np _ _ z2)
    | _ => exact f.elim
  | tuple xs =>
    cases y with
    | tuple ys =>
      obtain ⟨a, vs, rfl, h1, h2⟩ := RV.isTup rx
      obtain ⟨b, us, rfl, h3, h4⟩ := RV.isTup ry
      have r1 : Dt K (rm M H) (.ref a) (.tuple xs) := by rcases rx with r | ⟨_, _, _, _, q, _⟩ <;> first | exact r | cases q
      have r2 : Dt K (rm M H) (.ref b) (.tuple ys) := by rcases ry with r | ⟨_, _, _, _, q, _⟩ <;> first | exact r | cases q
      refine .inr (.inr (.inr ⟨a, b, vs, us, rfl, rfl, h1, h3, by rw [DtAll.len h2, DtAll.len h4]; exact f.1, fun e => ?_, fun e1 e2 => ?_, fun e1 e2 p np => ?_⟩))
      · refine k _ _ _ f.2 (Same.refl _) ?_
        subst e
        cases h2
        exact r2
      · refine k _ _ _ f.2 (Same.refl _) ?_
        subst e2
        cases h4
        rw [List.append_nil]
        exact r1
      · refine k _ _ _ f.2 (same_new np) ?_
        have hp : p ∉ M := fun c => dom p c np
        refine .tup (.inl (.inl (rm_of hp upd_same))) (DtAll.up (fun a o e => ?_) (DtAll.app h2 h4))
        obtain ⟨z1, z2⟩ := rm_to e
        exact rm_of z1 (same_new np _ _ z2)
    | _ => exact f.elim
  | _ => exact f.elim
theorem de_add (ha : DE X K a wa) (hb : DV X K b wb) (hK : ∀ i, (X i).K = K := by intro i; rfl) : DE X K (.BinOp a .Add b pos) (wOp fAdd wa wb) :=
  de_op (fun i ta tb h1 h2 => pe_op (by rw [← hK i]; exact op_addAny) h1 h2) od_add ha hb
/-- ints alone -/
def fI (C : Int → Int → Prop) (g : Int → Int → PyData) : F2
  | .int i, .int j, P => C i j ∧ P (g i j)
  | _, _, _ => False
theorem od_I {C : Int → Int → Prop} {g : Int → Int → V} {g' : Int → Int → PyData} (h : ∀ H i j, Dt K H (g i j) (g' i j)) : OpD K (rI C g) (fI C g') := by
  intro M H x y v u P Q dom rx ry f k
  cases x with
  | int i =>
    cases y with
    | int j => rw [RV.isInt rx, RV.isInt ry]; exact ⟨i, j, rfl, rfl, f.1, k _ _ H f.2 (Same.refl _) (h _ i j)⟩
    | _ => exact f.elim
  | _ => exact f.elim
def fI0 (g : Int → Int → PyData) : F2
  | .int i, .int j, P => P (g i j)
  | _, _, _ => False
theorem od_I0 {g : Int → Int → V} {g' : Int → Int → PyData} (h : ∀ H i j, Dt K H (g i j) (g' i j)) : OpD K (rI0 g) (fI0 g') := by
  intro M H x y v u P Q dom rx ry f k
  cases x with
  | int i =>
    cases y with
    | int j => rw [RV.isInt rx, RV.isInt ry]; exact ⟨i, j, rfl, rfl, k _ _ H f (Same.refl _) (h _ i j)⟩
    | _ => exact f.elim
  | _ => exact f.elim
abbrev fSub : F2 := fI0 fun i j => .int (i - j)
abbrev fMod : F2 := fI (fun _ j => 0 < j) fun i j => .int (i % j)
abbrev fDiv : F2 := fI CDivW fun i j => .int (i / j)
abbrev fPow : F2 := fI CPow fun i j => .int (i ^ j.toNat)
abbrev fLt : F2 := fI0 fun i j => .bool (decide (i < j))
abbrev fLe : F2 := fI0 fun i j => .bool (decide (i ≤ j))
abbrev fGt : F2 := fI0 fun i j => .bool (decide (j < i))
abbrev fGe : F2 := fI0 fun i j => .bool (decide (j ≤ i))
theorem de_sub (ha : DE X K a wa) (hb : DE X K b wb) : DE X K (.BinOp a .Sub b pos) (wOp fSub wa wb) := de_op (fun i ta tb h1 h2 => pe_op op_sub h1 h2) (od_I0 fun _ _ _ => .int _) ha hb.v
theorem de_mod (ha : DE X K a wa) (hb : DE X K b wb) : DE X K (.BinOp a .Mod b pos) (wOp fMod wa wb) := de_op (fun i ta tb h1 h2 => pe_op op_mod h1 h2) (od_I fun _ _ _ => .int _) ha hb.v
theorem de_div (ha : DE X K a wa) (hb : DE X K b wb) : DE X K (.BinOp a .FloorDiv b pos) (wOp fDiv wa wb) := de_op (fun i ta tb h1 h2 => pe_op op_fdivW h1 h2) (od_I fun _ _ _ => .int _) ha hb.v
theorem de_pow (ha : DE X K a wa) (hb : DE X K b wb) : DE X K (.BinOp a .Pow b pos) (wOp fPow wa wb) := de_op (fun i ta tb h1 h2 => pe_op op_pow h1 h2) (od_I fun _ _ _ => .int _) ha hb.v
theorem de_lt (ha : DE X K a wa) (hb : DE X K b wb) : DE X K (.Compare a [.Lt] [b] pos) (wOp fLt wa wb) := de_op (fun i ta tb h1 h2 => pe_cmpR op_lt h1 h2 (nomark _)) (od_I0 fun _ _ _ => .bl _) ha hb.v
theorem de_le (ha : DE X K a wa) (hb : DE X K b wb) : DE X K (.Compare a [.LtE] [b] pos) (wOp fLe wa wb) := de_op (fun i ta tb h1 h2 => pe_cmpR op_le h1 h2 (nomark _)) (od_I0 fun _ _ _ => .bl _) ha hb.v
theorem de_gt (ha : DE X K a wa) (hb : DE X K b wb) : DE X K (.Compare a [.Gt] [b] pos) (wOp fGt wa wb) := de_op (fun i ta tb h1 h2 => pe_cmpR op_gt h1 h2 (nomark _)) (od_I0 fun _ _ _ => .bl _) ha hb.v
theorem de_ge (ha : DE X K a wa) (hb : DE X K b wb) : DE X K (.Compare a [.GtE] [b] pos) (wOp fGe wa wb) := de_op (fun i ta tb h1 h2 => pe_cmpR op_ge h1 h2 (nomark _)) (od_I0 fun _ _ _ => .bl _) ha hb.v
/-! ### * -/
def repS (x : Str) (n : Nat) : Str := ⟨(List.replicate n x.cps.toList).flatten.toArray⟩
theorem foldl_app (n : Nat) (x : Array Nat) : ∀ z : Array Nat, (List.replicate n x).foldl (· ++ ·) z = z ++ (List.replicate n x.toList).flatten.toArray := by
  induction n with
  | zero => intro z; simp
  | succ n ih => intro z; rw [List.replicate_succ, List.foldl_cons, ih, List.replicate_succ, List.flatten_cons]; obtain ⟨z⟩ := z; obtain ⟨x⟩ := x; simp
theorem mul_rep (x : Str) (n : Int) : Txt.mul x n = repS x n.toNat := by
  unfold Txt.mul repS
  by_cases h : n < 1
  · have e : n.toNat = 0 := by omega
    rw [if_pos h, e]; rfl
  · rw [if_neg h]
    by_cases h2 : (n == 1 || x.length == 0) = true
    · rw [if_pos h2]
      rcases Bool.or_eq_true _ _ |>.mp h2 with h3 | h3
      · have e : n = 1 := by simpa using h3
        subst e
        simp
      · have e : x.cps = #[] := by
          have z : x.cps.size = 0 := by simpa [Str.length] using h3
          exact Array.eq_empty_of_size_eq_zero z
        obtain ⟨c⟩ := x
        subst e
        simp
    · rw [if_neg h2, foldl_app]
      simp
def rRepS : R2 := fun x y H Q => ∃ z n, x = .str z ∧ y = .int n ∧ -(2 ^ 63) ≤ n ∧ n < 2 ^ 63 ∧ z.length * n.toNat ≤ sizeLine ∧ Q (.str (repS z n.toNat)) H
theorem op_repS {Y : Cx} : OpR Y (binaryOp .Mult) rRepS := by
  intro pins s σ H x y v u Q I rx ry h
  obtain ⟨z, n, rfl, rfl, h1, h2, h3, q⟩ := h
  obtain ⟨t, rfl⟩ := rx
  obtain ⟨t', rfl⟩ := ry
  refine SB.mul (n := n) ⟨?_, fun hn hz => ?_, fun hn hz => ?_⟩ fun t' k => ?_
  · have e1 : decide (n < -(2 ^ 63 : Int)) = false := decide_eq_false (by omega)
    have e2 : decide (n ≥ 2 ^ 63) = false := decide_eq_false (by omega)
    rw [e1, e2]; rfl
  · have hn1 : (1 : Int) ≤ n := by omega
    rw [sizeLine_eq] at h3
    have e : ((z.length * n.toNat : Nat) : Int) = (z.length : Int) * n := by
      rw [Int.natCast_mul, Int.toNat_of_nonneg (by omega)]
    have h4 : (z.length : Int) * n ≤ 16777216 := by rw [← e]; exact Int.ofNat_le.mpr h3
    intro hgt
    have : (z.length : Int) ≤ (2 ^ 63 - 1) / n := by
      rw [Int.le_ediv_iff_mul_le (by omega)]
      omega
    omega
  · unfold Builtin.Str.tooLong
    exact decide_eq_false (by omega)
  · rw [mul_rep]
    exact ⟨.str _, H, I.tok _, ⟨_, rfl⟩, q⟩
def repD (xs : List PyData) (n : Nat) : List PyData := (List.replicate n xs).flatten
theorem DtAll.rep {H : Hp} {vs : List V} {ds : List PyData} (h : DtAll K H vs ds) : ∀ n : Nat, DtAll K H (List.replicate n vs).flatten (repD ds n)
  | 0 => .nil
  | n + 1 => by
    show DtAll K H (vs ++ (List.replicate n vs).flatten) (ds ++ (List.replicate n ds).flatten)
    exact DtAll.app h (DtAll.rep h n)
def fMul : F2
  | .int i, .int j, P => CMul i j ∧ P (.int (i * j))
  | .str x, .int n, P => -(2 ^ 63) ≤ n ∧ n < 2 ^ 63 ∧ x.length * n.toNat ≤ sizeLine ∧ P (.str (repS x n.toNat))
  | .list xs, .int n, P => -(2 ^ 63) ≤ n ∧ n < 2 ^ 63 ∧ xs.length * n.toNat ≤ sizeLine ∧ P (.list (repD xs n.toNat))
  | _, _, _ => False
def rMulAny : R2 := fun x y H Q => rI CMul (fun i j => .int (i * j)) x y H Q ∨ rRepS x y H Q ∨ rRep x y H Q
theorem od_mul : OpD K rMulAny fMul := by
  intro M H x y v u P Q dom rx ry f k
  cases x with
  | int i =>
    cases y with
    | int j => rw [RV.isInt rx, RV.isInt ry]; exact .inl ⟨i, j, rfl, rfl, f.1, k _ _ H f.2 (Same.refl _) (.int _)⟩
    | _ => exact f.elim
  | str i =>
    cases y with
    | int j => rw [RV.isStr rx, RV.isInt ry]; exact .inr (.inl ⟨i, j, rfl, rfl, f.1, f.2.1, f.2.2.1, k _ _ H f.2.2.2 (Same.refl _) (.str _)⟩)
    | _ => exact f.elim
  | list xs =>
    cases y with
    | int j =>
      rw [RV.isInt ry]
      obtain ⟨a, vs, rfl, h1, h2⟩ := RV.isLst rx
      refine .inr (.inr ⟨a, j, vs, rfl, rfl, h1, f.1, f.2.1, by rw [DtAll.len h2]; exact f.2.2.1, fun p np => ?_⟩)
      refine k _ _ _ f.2.2.2 (same_new np) ?_
      have hp : p ∉ M := fun c => dom p c np
      refine .lst (rm_of hp upd_same) (DtAll.up (fun a o e => ?_) (DtAll.rep h2 _))
      obtain ⟨z1, z2⟩ := rm_to e
      exact rm_of z1 (same_new np _ _ z2)
    | _ => exact f.elim
  | _ => exact f.elim
theorem de_mul (ha : DE X K a wa) (hb : DE X K b wb) : DE X K (.BinOp a .Mult b pos) (wOp fMul wa wb) := de_op (fun i ta tb h1 h2 => pe_op (op_orR op_mul (op_orR op_repS op_rep)) h1 h2) od_mul ha hb.v
end Pm
namespace Pm
open PySem PySem.Spec PyProof.Rows L2
variable {ι : Type} {X : ι → Cx} {K : Fr} {a b e : Expr} {es : List Expr} {wa wb we : WE} {pos : Pos}
/-! ### ==, != -/
/-- two data that can be compared: as deep as there is room -/
def eqOk (x y : PyData) : Bool := x.canLay0 && y.canLay0 && decide (min x.depth y.depth ≤ 64)
theorem eqOk_of {x y : PyData} (h1 : SeqAt.shaped x = true) (h2 : SeqAt.shaped y = true) : eqOk x y = true := by
  unfold eqOk
  rw [SeqAt.canLay_of_shaped h1, SeqAt.canLay_of_shaped h2]
  have := SeqAt.depth_of_shaped h1
  exact decide_eq_true (by omega)
theorem eqOk_l {x y : PyData} (h : eqOk x y = true) : x.canLay0 = true := (Bool.and_eq_true_iff.mp (Bool.and_eq_true_iff.mp h).1).1
theorem eqOk_r {x y : PyData} (h : eqOk x y = true) : y.canLay0 = true := (Bool.and_eq_true_iff.mp (Bool.and_eq_true_iff.mp h).1).2
theorem eqOk_d {x y : PyData} (h : eqOk x y = true) : min x.depth y.depth ≤ 64 := of_decide_eq_true (Bool.and_eq_true_iff.mp h).2
def fEq (neg : Bool) : F2
  | .int i, .int j, P => P (.bool (neg ^^ decide (i = j)))
  | .str i, .str j, P => P (.bool (neg ^^ decide (i = j)))
  | .bool i, .bool j, P => P (.bool (neg ^^ decide (i = j)))
  | x, y, P => eqOk x y = true ∧ P (.bool (neg ^^ PyData.eqv x y))
def rEqAny (K : Fr) (neg : Bool) : R2 := fun x y H Q => (scal x y = true ∧ Q (.bl (neg ^^ decide (x = y))) H) ∨ ∃ d e, Dp K H x d ∧ Dp K H y e ∧ eqOk d e = true ∧ Q (.bl (neg ^^ PyData.eqv d e)) H
theorem op_eqAny {Y : Cx} (hu : Y.A.units + 64 < cLine) : OpR Y (compareOp .Eq) (rEqAny Y.K false) := by
  intro pins s σ H x y v u Q I rx ry h
  rcases h with ⟨h1, h2⟩ | ⟨d, e, h1, h2, h3, h5⟩
  · exact op_eq pins s σ H x y v u Q I rx ry ⟨h1, by simpa using h2⟩
  · obtain ⟨as, r1⟩ := Dp.reads I d x v h1 rx
    obtain ⟨bs, r2⟩ := Dp.reads I e y u h2 ry
    have hd := eqOk_d h3
    exact SeqAt.compareEq_reads r1 r2 (eqOk_l h3) (eqOk_r h3) (by omega) ⟨.bl _, H, I, rfl, by simpa using h5⟩
theorem op_neAny {Y : Cx} (hu : Y.A.units + 64 < cLine) : OpR Y (compareOp .NotEq) (rEqAny Y.K true) := by
  intro pins s σ H x y v u Q I rx ry h
  rcases h with ⟨h1, h2⟩ | ⟨d, e, h1, h2, h3, h5⟩
  · exact op_ne pins s σ H x y v u Q I rx ry ⟨h1, by simpa using h2⟩
  · obtain ⟨as, r1⟩ := Dp.reads I d x v h1 rx
    obtain ⟨bs, r2⟩ := Dp.reads I e y u h2 ry
    have hd := eqOk_d h3
    exact SeqAt.compareNe_reads r1 r2 (eqOk_l h3) (eqOk_r h3) (by omega) ⟨.bl _, H, I, rfl, by simpa using h5⟩
theorem decV_int {i j : Int} : decide (V.int i = V.int j) = decide (i = j) := by simp
theorem decV_str {i j : Str} : decide (V.str i = V.str j) = decide (i = j) := by simp
theorem decV_bl {i j : Bool} : decide (V.bl i = V.bl j) = decide (i = j) := by simp
theorem od_eq {neg : Bool} : OpD K (rEqAny K neg) (fEq neg) := by
  intro M H x y v u P Q dom rx ry f k
  have gen : eqOk x y = true ∧ P (.bool (neg ^^ PyData.eqv x y)) → rEqAny K neg v u H Q := fun f => .inr ⟨x, y, rx.dp (eqOk_l f.1), ry.dp (eqOk_r f.1), f.1, k _ _ H f.2 (Same.refl _) (.bl _)⟩
  cases x with
  | int i =>
    cases y with
    | int j => rw [RV.isInt rx, RV.isInt ry]; exact .inl ⟨rfl, by rw [decV_int]; exact k _ _ H f (Same.refl _) (.bl _)⟩
    | _ => exact gen f
  | str i =>
    cases y with
    | str j => rw [RV.isStr rx, RV.isStr ry]; exact .inl ⟨rfl, by rw [decV_str]; exact k _ _ H f (Same.refl _) (.bl _)⟩
    | _ => exact gen f
  | bool i =>
    cases y with
    | bool j => rw [RV.isBl rx, RV.isBl ry]; exact .inl ⟨rfl, by rw [decV_bl]; exact k _ _ H f (Same.refl _) (.bl _)⟩
    | _ => exact gen f
  | _ => exact gen f
theorem de_eq (hu : ∀ i, (X i).A.units + 64 < cLine) (ha : DE X K a wa) (hb : DV X K b wb) (hK : ∀ i, (X i).K = K := by intro i; rfl) : DE X K (.Compare a [.Eq] [b] pos) (wOp (fEq false) wa wb) :=
  de_op (fun i ta tb h1 h2 => pe_cmpR (by rw [← hK i]; exact op_eqAny (hu i)) h1 h2 (nomark _)) od_eq ha hb
theorem de_ne (hu : ∀ i, (X i).A.units + 64 < cLine) (ha : DE X K a wa) (hb : DV X K b wb) (hK : ∀ i, (X i).K = K := by intro i; rfl) : DE X K (.Compare a [.NotEq] [b] pos) (wOp (fEq true) wa wb) :=
  de_op (fun i ta tb h1 h2 => pe_cmpR (by rw [← hK i]; exact op_neAny (hu i)) h1 h2 (nomark _)) od_eq ha hb
theorem de_eqo (j : Nat) (hu : ∀ i, (X i).A.units + 64 < cLine) (hb : DV X K b wb) (h : ∀ i, PE (X i) a (tVar j) := by intro i; exact pv _) (hK : ∀ i, (X i).K = K := by intro i; rfl) : DE X K (.Compare a [.Eq] [b] pos) (wOpO (fEq false) j wb) :=
  de_opo j (fun i ta tb h1 h2 => pe_cmpR (by rw [← hK i]; exact op_eqAny (hu i)) h1 h2 (nomark _)) od_eq hb h
theorem de_neo (j : Nat) (hu : ∀ i, (X i).A.units + 64 < cLine) (hb : DV X K b wb) (h : ∀ i, PE (X i) a (tVar j) := by intro i; exact pv _) (hK : ∀ i, (X i).K = K := by intro i; rfl) : DE X K (.Compare a [.NotEq] [b] pos) (wOpO (fEq true) j wb) :=
  de_opo j (fun i ta tb h1 h2 => pe_cmpR (by rw [← hK i]; exact op_neAny (hu i)) h1 h2 (nomark _)) od_eq hb h
/-! ### is None, is not None -/
def isN : PyData → Bool
  | .none => true
  | _ => false
def fIs (neg : Bool) : F2 := fun x y P => y = .none ∧ P (.bool (neg ^^ isN x))
theorem rv_isN {M : List Addr} {H : Hp} {v : V} {d : PyData} (r : RV K M H v d) : decide (v = .non) = isN d := by
  rcases r with r | ⟨_, _, _, rfl, rfl, _⟩
  · cases r <;> simp [isN]
  · simp [isN]
theorem od_is : OpD K (fun x y H Q => y = .non ∧ Q (.bl (decide (x = .non))) H) (fIs false) := by
  intro M H x y v u P Q dom rx ry f k
  obtain ⟨rfl, f⟩ := f
  exact ⟨RV.isNon ry, by rw [rv_isN rx]; exact k _ _ H f (Same.refl _) (by simpa using Dt.bl _)⟩
theorem od_isnot : OpD K (fun x y H Q => y = .non ∧ Q (.bl (!decide (x = .non))) H) (fIs true) := by
  intro M H x y v u P Q dom rx ry f k
  obtain ⟨rfl, f⟩ := f
  exact ⟨RV.isNon ry, by rw [rv_isN rx]; exact k _ _ H f (Same.refl _) (by simpa using Dt.bl _)⟩
theorem de_is (ha : DE X K a wa) (hb : DE X K b wb) : DE X K (.Compare a [.Is] [b] pos) (wOp (fIs false) wa wb) := de_op (fun i ta tb h1 h2 => pe_cmpR op_isN h1 h2 (nomark _)) od_is ha hb.v
theorem de_isnot (ha : DE X K a wa) (hb : DE X K b wb) : DE X K (.Compare a [.IsNot] [b] pos) (wOp (fIs true) wa wb) := de_op (fun i ta tb h1 h2 => pe_cmpR op_notN h1 h2 (nomark _)) od_isnot ha hb.v
/-! ### in, not in -/
def inS (x z : Str) : Bool := match x.cps.toList with
  | [c] => decide (c ∈ z.cps.toList)
  | _ => !(Builtin.Str.occurrences z x 0 z.length 1).isEmpty
def flatD : PyData → Bool
  | .none => true
  | .bool _ => true
  | .int _ => true
  | .str _ => true
  | _ => false
def fIn (neg : Bool) : F2
  | .str x, .str z, P => P (.bool (neg ^^ inS x z))
  | x, .list ys, P => flatD x = true ∧ ys.all flatD = true ∧ P (.bool (neg ^^ ys.any fun y => PyData.eqv y x))
  | x, .tuple ys, P => flatD x = true ∧ ys.all flatD = true ∧ P (.bool (neg ^^ ys.any fun y => PyData.eqv y x))
  | _, _, _ => False
def rInS (neg : Bool) : R2 := fun x y H Q => ∃ i j, x = .str i ∧ y = .str j ∧ Q (.bl (neg ^^ inS i j)) H
theorem op_inS' {Y : Cx} : OpR Y (compareOp .In) (rInS false) := by
  intro pins s σ H x y v u Q I rx ry h
  obtain ⟨i, j, rfl, rfl, q⟩ := h
  unfold inS at q
  split at q
  · rename_i c hc
    have e : i = ⟨#[c]⟩ := by obtain ⟨⟨i⟩⟩ := i; simpa using hc
    subst e
    exact op_in_sign pins s σ H _ _ v u Q I rx ry ⟨c, j, rfl, rfl, by simpa using q⟩
  · exact op_in_str pins s σ H _ _ v u Q I rx ry ⟨i, j, rfl, rfl, by simpa using q⟩
theorem op_notinS' {Y : Cx} : OpR Y (compareOp .NotIn) (rInS true) := by
  intro pins s σ H x y v u Q I rx ry h
  obtain ⟨i, j, rfl, rfl, q⟩ := h
  unfold inS at q
  split at q
  · rename_i c hc
    have e : i = ⟨#[c]⟩ := by obtain ⟨⟨i⟩⟩ := i; simpa using hc
    subst e
    exact op_notIn_sign pins s σ H _ _ v u Q I rx ry ⟨c, j, rfl, rfl, by simpa using q⟩
  · exact op_notIn_str pins s σ H _ _ v u Q I rx ry ⟨i, j, rfl, rfl, by simpa using q⟩
theorem flat_dt {H : Hp} {v : V} {d : PyData} (r : Dt K H v d) : flatV v = flatD d := by cases r <;> rfl
theorem flat_all {H : Hp} : ∀ {vs : List V} {ds : List PyData}, DtAll K H vs ds → vs.all flatV = ds.all flatD
  | _, _, .nil => rfl
  | _, _, .cons h r => by rw [List.all_cons, List.all_cons, flat_dt h, flat_all r]
theorem eq_flat {H : Hp} {v u : V} {d e : PyData} (r : Dt K H v d) (q : Dt K H u e) (f1 : flatD d = true) (f2 : flatD e = true) : eqV v u = PyData.eqv d e := by
  cases r <;> cases q <;> first | rfl | exact absurd f1 Bool.false_ne_true | exact absurd f2 Bool.false_ne_true
theorem in_flat {H : Hp} {u : V} {e : PyData} (q : Dt K H u e) (f2 : flatD e = true) : ∀ {vs : List V} {ds : List PyData}, DtAll K H vs ds → ds.all flatD = true → inV u vs = ds.any fun y => PyData.eqv y e
  | _, _, .nil, _ => rfl
  | _, _, .cons h r, f => by
    rw [List.all_cons, Bool.and_eq_true] at f
    have ih := in_flat q f2 r f.2
    unfold inV at ih ⊢
    rw [List.any_cons, List.any_cons, ih, eq_flat h q f.1 f2]
def rInAny (K : Fr) (neg : Bool) : R2 := fun x y H Q => rInS neg x y H Q ∨ rIn K neg x y H Q
theorem od_in {neg : Bool} : OpD K (rInAny K neg) (fIn neg) := by
  intro M H x y v u P Q dom rx ry f k
  have xx : ∀ b : Bool, (if neg = true then !b else b) = (neg ^^ b) := by intro b; cases neg <;> cases b <;> rfl
  have seq : ∀ (p : Addr) (vs : List V) (ds : List PyData), (SqL K H p vs ∨ SqT K H p vs) → DtAll K (rm M H) vs ds → u = .ref p → flatD x = true ∧ ds.all flatD = true ∧ P (.bool (neg ^^ ds.any fun y => PyData.eqv y x)) → rInAny K neg v u H Q := fun p vs ds hs hd hu f => by
    have r1 : Dt K (rm M H) v x := by
      rcases rx with r | ⟨_, _, _, _, rfl, _⟩
      · exact r
      · exact absurd f.1 (by simp [flatD])
    refine .inr ⟨p, vs, hu, hs, by rw [flat_dt r1]; exact f.1, by rw [flat_all hd]; exact f.2.1, ?_⟩
    rw [xx, in_flat r1 f.1 hd f.2.1]
    exact k _ _ H f.2.2 (Same.refl _) (.bl _)
  cases y with
  | str z =>
    cases x with
    | str x => rw [RV.isStr rx, RV.isStr ry]; exact .inl ⟨x, z, rfl, rfl, k _ _ H f (Same.refl _) (.bl _)⟩
    | _ => exact f.elim
  | list ds =>
    obtain ⟨p, vs, rfl, h1, h2⟩ := RV.isLst ry
    exact seq p vs ds (.inl (.inl (.inl h1))) h2 rfl (by cases x <;> exact f)
  | tuple ds =>
    obtain ⟨p, vs, rfl, h1, h2⟩ := RV.isTup ry
    exact seq p vs ds (.inr h1) h2 rfl (by cases x <;> exact f)
  | _ => cases x <;> exact f.elim
theorem de_in (ha : DE X K a wa) (hb : DV X K b wb) (hm : behindInMarks .In b = false := by rfl) (hK : ∀ i, (X i).K = K := by intro i; rfl) : DE X K (.Compare a [.In] [b] pos) (wOp (fIn false) wa wb) :=
  de_op (fun i ta tb h1 h2 => pe_cmpR (by rw [← hK i]; exact op_orR op_inS' op_in_seq) h1 h2 hm) od_in ha hb
theorem de_notin (ha : DE X K a wa) (hb : DV X K b wb) (hm : behindInMarks .NotIn b = false := by rfl) (hK : ∀ i, (X i).K = K := by intro i; rfl) : DE X K (.Compare a [.NotIn] [b] pos) (wOp (fIn true) wa wb) :=
  de_op (fun i ta tb h1 h2 => pe_cmpR (by rw [← hK i]; exact op_orR op_notinS' op_notIn_seq) h1 h2 hm) od_in ha hb
/-! ### x[i] -/
def fIx : F2
  | .list xs, .int i, P => ∃ d, atI xs i = some d ∧ P d
  | .tuple xs, .int i, P => ∃ d, atI xs i = some d ∧ P d
  | .str z, .int i, P => z.length ≤ sizeLine ∧ ∃ c, atI z.cps.toList i = some c ∧ P (.str ⟨#[c]⟩)
  | _, _, _ => False
theorem at_dt {H : Hp} {vs : List V} {ds : List PyData} {i : Int} {d : PyData} (r : DtAll K H vs ds) (h : atI ds i = some d) : ∃ v, atI vs i = some v ∧ Dt K H v d := by
  unfold atI at h ⊢
  rw [DtAll.len r]
  cases hn : ixN ds.length i with
  | none => rw [hn] at h; cases h
  | some j =>
    rw [hn] at h
    obtain ⟨v, h1, h2⟩ := DtAll.getd r (show ds[j]? = some d from h)
    exact ⟨v, h1, h2⟩
theorem od_ix : OpD K (rIx K) fIx := by
  intro M H x y v u P Q dom rx ry f k
  cases y with
  | int i =>
    rw [RV.isInt ry]
    cases x with
    | list ds =>
      obtain ⟨p, vs, rfl, h1, h2⟩ := RV.isLst rx
      obtain ⟨d, h3, f⟩ := f
      obtain ⟨w, h4, h5⟩ := at_dt h2 h3
      exact .inl ⟨p, vs, i, w, rfl, rfl, SqL.of h1, h4, k _ _ H f (Same.refl _) h5⟩
    | tuple ds =>
      obtain ⟨p, vs, rfl, h1, h2⟩ := RV.isTup rx
      obtain ⟨d, h3, f⟩ := f
      obtain ⟨w, h4, h5⟩ := at_dt h2 h3
      exact .inr (.inl ⟨p, vs, i, w, rfl, rfl, h1, h4, k _ _ H f (Same.refl _) h5⟩)
    | str z =>
      rw [RV.isStr rx]
      obtain ⟨h1, c, h2, f⟩ := f
      exact .inr (.inr ⟨z, i, c, rfl, rfl, h1, h2, k _ _ H f (Same.refl _) (.str _)⟩)
    | _ => exact f.elim
  | _ => cases x <;> exact f.elim
theorem de_ix (ha : DE X K a wa) (hb : DE X K b wb) (hs : PlainIx b := by exact fun _ _ => rfl) (hK : ∀ i, (X i).K = K := by intro i; rfl) : DE X K (.Subscript a b pos) (wOp fIx wa wb) :=
  de_op (fun i ta tb h1 h2 => by rw [← hK i]; exact pe_ix ix_seq h1 h2 hs) od_ix ha hb.v
theorem de_ixo (j : Nat) (hb : DE X K b wb) (hs : PlainIx b := by exact fun _ _ => rfl) (h : ∀ i, PE (X i) a (tVar j) := by intro i; exact pv _) (hK : ∀ i, (X i).K = K := by intro i; rfl) : DE X K (.Subscript a b pos) (wOpO fIx j wb) :=
  de_opo j (fun i ta tb h1 h2 => by rw [← hK i]; exact pe_ix ix_seq h1 h2 hs) od_ix hb.v h
/-! ### x[lo:hi] -/
abbrev WO := Env → (Env → Option Int → Prop) → Prop
def DO (X : ι → Cx) (K : Fr) (e : Option Expr) (w : WO) : Prop := ∃ t : TO, (∀ i, PO (X i) e t) ∧ ∀ (M0 M B : List Addr) (σ : L2.St) (H : Hp) (ρ : Env) (P : Env → Option Int → Prop) (Q : Option Int → Hp → Prop), EnvOk K M0 M B H σ ρ → w ρ P →
  (∀ ρ' o H', P ρ' o → Ext M B H M B H' → EnvOk K M0 M B H' σ ρ' → Q o H') → t σ H Q
def wNo : WO := fun ρ P => P ρ none
def wSo (we : WE) : WO := fun ρ P => we ρ fun ρ1 d => ∃ i, d = .int i ∧ P ρ1 (some i)
theorem do_no : DO X K none wNo := ⟨tNoPart, fun i => po_none, fun M0 M B σ H ρ P Q E w k => k ρ none H w (Ext.refl ..) E⟩
theorem do_so (h : DE X K e we) : DO X K (some e) (wSo we) := by
  obtain ⟨t, a1, a2⟩ := h
  refine ⟨tPart t, fun i => po_some (a1 i), fun M0 M B σ H ρ P Q E w k => ?_⟩
  refine a2 M0 M B σ H ρ _ _ E w fun ρ1 d v H1 w1 x1 E1 r1 => ?_
  obtain ⟨i, rfl, p⟩ := w1
  exact ⟨i, Dt.isInt r1, k ρ1 _ H1 p x1 E1⟩
def cutD {α : Type} (xs : List α) (lo hi : Option Int) : List α := (xs.drop (HT.sIx xs.length 0 lo)).take (HT.sIx xs.length xs.length hi - HT.sIx xs.length 0 lo)
theorem DtAll.cut {H : Hp} {vs : List V} {ds : List PyData} (r : DtAll K H vs ds) (lo hi : Option Int) : DtAll K H (cutV vs lo hi) (cutD ds lo hi) := by
  unfold cutV cutD
  rw [DtAll.len r]
  exact DtAll.take _ (DtAll.drop _ r)
def fSl : PyData → Option Int → Option Int → (PyData → Prop) → Prop
  | .str z, lo, hi, P => z.length ≤ sizeLine ∧ P (.str (cutS z lo hi))
  | .list xs, lo, hi, P => P (.list (cutD xs lo hi))
  | .tuple xs, lo, hi, P => P (.tuple (cutD xs lo hi))
  | _, _, _, _ => False
def rSlAny (K : Fr) : V → Option Int → Option Int → Hp → VK → Prop := fun x lo hi H Q => rSlS x lo hi H Q ∨ rSlL K x lo hi H Q ∨ rSlA K x lo hi H Q
theorem sl_any {Y : Cx} : SlR Y (rSlAny Y.K) := sl_str.or (sl_list.or sl_tupA)
theorem sl_d {M : List Addr} {H : Hp} {x : PyData} {v : V} {lo hi : Option Int} {P : PyData → Prop} {Q : VK} (dom : ∀ a, a ∈ M → H a ≠ none) (rx : RV K M H v x) (f : fSl x lo hi P) (k : ∀ d z H', P d → Same H H' → Dt K (rm M H') z d → Q z H') : rSlAny K v lo hi H Q := by
  have up : ∀ {p : Addr} {o : HO}, H p = none → Same (rm M H) (rm M (upd H p o)) := fun np a o e => by
    obtain ⟨z1, z2⟩ := rm_to e
    exact rm_of z1 (same_new np _ _ z2)
  cases x with
  | str z => rw [RV.isStr rx]; exact .inl ⟨z, rfl, f.1, k _ _ H f.2 (Same.refl _) (.str _)⟩
  | list ds =>
    obtain ⟨p, vs, rfl, h1, h2⟩ := RV.isLst rx
    exact .inr (.inl ⟨p, vs, rfl, SqL.of h1, fun q nq => k _ _ _ f (same_new nq) (.lst (rm_of (fun c => dom q c nq) upd_same) (DtAll.up (up nq) (DtAll.cut h2 lo hi)))⟩)
  | tuple ds =>
    have r1 : Dt K (rm M H) v (.tuple ds) := by rcases rx with r | ⟨_, _, _, _, q, _⟩ <;> first | exact r | cases q
    obtain ⟨p, vs, rfl, h1, h2⟩ := RV.isTup rx
    refine .inr (.inr ⟨p, vs, rfl, h1, fun ⟨c1, c2⟩ => ?_, fun _ q nq => k _ _ _ f (same_new nq) (.tup (.inl (.inl (rm_of (fun c => dom q c nq) upd_same))) (DtAll.up (up nq) (DtAll.cut h2 lo hi)))⟩)
    refine k _ _ H f (Same.refl _) ?_
    have e : cutD ds lo hi = ds := by
      unfold cutD
      rw [← DtAll.len h2, c1, c2]
      simp [DtAll.len h2]
    rw [e]
    exact r1
  | _ => exact f.elim
def wSl (we : WE) (wl wh : WO) : WE := fun ρ P => we ρ fun ρ1 x => wl ρ1 fun ρ2 lo => wh ρ2 fun ρ3 hi => fSl x lo hi fun d => P ρ3 d
def wSlO (j : Nat) (wl wh : WO) : WE := fun ρ P => (∃ ds0, (ρ.at j).items = some ds0) ∧ wl ρ fun ρ2 lo => wh ρ2 fun ρ3 hi => ∃ ds, (ρ3.at j).items = some ds ∧ P ρ3 (.list (cutD ds lo hi))
theorem de_sl {wl wh : WO} {lo hi : Option Expr} {p2 : Pos} (ha : DE X K a wa) (hl : DO X K lo wl) (hh : DO X K hi wh) (hK : ∀ i, (X i).K = K := by intro i; rfl) : DE X K (.Subscript a (.Slice lo hi none p2) pos) (wSl wa wl wh) := by
  obtain ⟨t, a1, a2⟩ := ha
  obtain ⟨tl, l1, l2⟩ := hl
  obtain ⟨th, h1, h2⟩ := hh
  refine ⟨tSl (rSlAny K) t tl th, fun i => by rw [← hK i]; exact pe_slice sl_any (a1 i) (l1 i) (h1 i), fun M0 M B σ H ρ P Q E w k => ?_⟩
  refine a2 M0 M B σ H ρ _ _ E w fun ρ1 d v H1 w1 x1 E1 r1 => ?_
  refine l2 M0 M B σ H1 ρ1 _ _ E1 w1 fun ρ2 lo H2 w2 x2 E2 => ?_
  refine h2 M0 M B σ H2 ρ2 _ _ E2 w2 fun ρ3 hi H3 w3 x3 E3 => ?_
  refine sl_d E3.dom (.inl (E1.up (x2.trans x3) r1)) w3 fun d z H4 p e4 r4 => ?_
  exact k ρ3 d z H4 p ((x1.trans (x2.trans x3)).trans (Ext.same e4)) (E3.same e4) r4
theorem de_slo (j : Nat) {wl wh : WO} {lo hi : Option Expr} {p2 : Pos} (hl : DO X K lo wl) (hh : DO X K hi wh) (h : ∀ i, PE (X i) a (tVar j) := by intro i; exact pv _) (hK : ∀ i, (X i).K = K := by intro i; rfl) : DE X K (.Subscript a (.Slice lo hi none p2) pos) (wSlO j wl wh) := by
  obtain ⟨tl, l1, l2⟩ := hl
  obtain ⟨th, h1, h2⟩ := hh
  refine ⟨tSl (rSlAny K) (tVar j) tl th, fun i => by rw [← hK i]; exact pe_slice sl_any (h i) (l1 i) (h1 i), fun M0 M B σ H ρ P Q E w k => ?_⟩
  obtain ⟨⟨ds0, h0⟩, w⟩ := w
  obtain ⟨l0, xs0, _, _, hl0, _⟩ := E.lst h0
  refine ⟨_, hl0, ?_⟩
  refine l2 M0 M B σ H ρ _ _ E w fun ρ2 lo H2 w2 x2 E2 => ?_
  refine h2 M0 M B σ H2 ρ2 _ _ E2 w2 fun ρ3 hi H3 w3 x3 E3 => ?_
  obtain ⟨ds, h1, w4⟩ := w3
  obtain ⟨l, xs, _, _, hl, _, h4, h5, _⟩ := E3.lst h1
  rw [hl0] at hl
  injection hl with hl; injection hl with hl; injection hl with hl
  subst hl
  refine sl_d (x := .list ds) (P := fun d => P ρ3 d) E3.dom (.inr ⟨l0, xs, ds, rfl, rfl, h4, h5⟩) w4 fun d z H4 p e4 r4 => ?_
  exact k ρ3 d z H4 p ((x2.trans x3).trans (Ext.same e4)) (E3.same e4) r4
end Pm
namespace Pm
open PySem PySem.Spec PyProof.Rows L2
variable {ι : Type} {X : ι → Cx} {K : Fr} {a b e : Expr} {es : List Expr} {wa wb we : WE} {pos : Pos}
/-! ### built-ins of one argument -/
abbrev F1 := PyData → (PyData → Prop) → Prop
def CallD (K : Fr) (r : List V → Hp → VK → Prop) (f : F1) : Prop := ∀ (M : List Addr) (H : Hp) (x : PyData) (v : V) (P : PyData → Prop) (Q : VK), (∀ a, a ∈ M → H a ≠ none) → RV K M H v x → f x P →
  (∀ d z H', P d → Same H H' → Dt K (rm M H') z d → Q z H') → r [v] H Q
def wU (f : F1) (we : WE) : WE := fun ρ P => we ρ fun ρ1 d => f d fun z => P ρ1 z
theorem de_u {c : Expr} {r : List V → Hp → VK → Prop} {f : F1} (hp : ∀ i t, PE (X i) e t → PE (X i) c (tCB r (tCons t tNil))) (cd : CallD K r f) (h : DV X K e we) : DE X K c (wU f we) := by
  obtain ⟨t, a1, a2⟩ := h
  refine ⟨tCB r (tCons t tNil), fun i => hp i t (a1 i), fun M0 M B σ H ρ P Q E w k => ?_⟩
  refine a2 M0 M B σ H ρ _ _ E w fun ρ1 d v H1 w1 x1 E1 r1 => ?_
  exact cd M H1 d v _ Q E1.dom r1 w1 fun d z H2 p e2 r2 => k ρ1 d z H2 p (x1.trans (Ext.same e2)) (E1.same e2) r2
theorem up_new {M : List Addr} {H : Hp} {p : Addr} {o : HO} (np : H p = none) : Same (rm M H) (rm M (upd H p o)) := fun a o e => by
  obtain ⟨z1, z2⟩ := rm_to e
  exact rm_of z1 (same_new np _ _ z2)
def fLen : F1
  | .str x, P => x.length ≤ sizeLine ∧ P (.int x.length)
  | .list xs, P => P (.int xs.length)
  | .tuple xs, P => P (.int xs.length)
  | _, _ => False
theorem cd_len : CallD K (fun xs H Q => ∃ x n, xs = [x] ∧ LenV K x H n ∧ Q (.int n) H) fLen := by
  intro M H x v P Q dom r f k
  cases x with
  | str z => rw [RV.isStr r]; exact ⟨_, _, rfl, ⟨f.1, rfl⟩, k _ _ H f.2 (Same.refl _) (.int _)⟩
  | list ds =>
    obtain ⟨p, vs, rfl, h1, h2⟩ := RV.isLst r
    exact ⟨_, _, rfl, .inl ⟨vs, SqL.of h1, rfl⟩, by rw [DtAll.len h2]; exact k _ _ H f (Same.refl _) (.int _)⟩
  | tuple ds =>
    obtain ⟨p, vs, rfl, h1, h2⟩ := RV.isTup r
    exact ⟨_, _, rfl, .inr ⟨vs, h1, rfl⟩, by rw [DtAll.len h2]; exact k _ _ H f (Same.refl _) (.int _)⟩
  | _ => exact f.elim
theorem de_len {p : Pos} (hm : ∀ i, (X i).mg "len" = none) (h : DV X K e we) (hK : ∀ i, (X i).K = K := by intro i; rfl) (hg : ∀ i, Gl (X i) "len" := by intro i; rfl)
    (he : ∀ i, starEach (e :: []) (X i).env = (false, eval e (X i).env) :: starEach [] (X i).env := by intro i; rfl) : DE X K (.Call (.Name "len" p) [e] [] pos) (wU fLen we) :=
  de_u (fun i t h => by rw [← hK i]; exact pe_callB call_len (hg i) (hm i) PySem.boot_len (pa_cons h pa_nil (he i)) (by decide) (by decide) (he i) rfl) cd_len h
def fInt : F1
  | .int i, P => P (.int i)
  | .bool b, P => P (.int (if b then 1 else 0))
  | _, _ => False
theorem cd_int : CallD K (fun xs H Q => (∃ i, xs = [.int i] ∧ Q (.int i) H) ∨ ∃ k, xs = [.bl k] ∧ Q (.int (if k then 1 else 0)) H) fInt := by
  intro M H x v P Q dom r f k
  cases x with
  | int i => rw [RV.isInt r]; exact .inl ⟨i, rfl, k _ _ H f (Same.refl _) (.int _)⟩
  | bool i => rw [RV.isBl r]; exact .inr ⟨i, rfl, k _ _ H f (Same.refl _) (.int _)⟩
  | _ => exact f.elim
theorem de_toInt {p : Pos} (hm : ∀ i, (X i).mg "int" = none) (h : DE X K e we) (hg : ∀ i, Gl (X i) "int" := by intro i; rfl)
    (he : ∀ i, starEach (e :: []) (X i).env = (false, eval e (X i).env) :: starEach [] (X i).env := by intro i; rfl) : DE X K (.Call (.Name "int" p) [e] [] pos) (wU fInt we) :=
  de_u (fun i t h => pe_callTy call_int1 (hg i) (hm i) (by decide +kernel) (pa_cons h pa_nil (he i)) (by decide) (by decide) (he i) rfl) cd_int h.v
def fTuple : F1
  | .list xs, P => P (.tuple xs)
  | .tuple xs, P => P (.tuple xs)
  | _, _ => False
theorem cd_tuple : CallD K (fun xs H Q => ∃ p ys, xs = [.ref p] ∧ ((SqL K H p ys ∧ ∀ l, H l = none → Q (.ref l) (upd H l (.tup ys))) ∨ (SqT K H p ys ∧ Q (.ref p) H))) fTuple := by
  intro M H x v P Q dom r f k
  cases x with
  | list ds =>
    obtain ⟨p, vs, rfl, h1, h2⟩ := RV.isLst r
    exact ⟨p, vs, rfl, .inl ⟨SqL.of h1, fun l nl => k _ _ _ f (same_new nl) (.tup (.inl (.inl (rm_of (fun c => dom l c nl) upd_same))) (DtAll.up (up_new nl) h2))⟩⟩
  | tuple ds =>
    have r1 : Dt K (rm M H) v (.tuple ds) := by rcases r with r | ⟨_, _, _, _, q, _⟩ <;> first | exact r | cases q
    obtain ⟨p, vs, rfl, h1, h2⟩ := RV.isTup r
    exact ⟨p, vs, rfl, .inr ⟨h1, k _ _ H f (Same.refl _) r1⟩⟩
  | _ => exact f.elim
theorem de_tuple {p : Pos} (hm : ∀ i, (X i).mg "tuple" = none) (h : DV X K e we) (hK : ∀ i, (X i).K = K := by intro i; rfl) (hg : ∀ i, Gl (X i) "tuple" := by intro i; rfl)
    (he : ∀ i, starEach (e :: []) (X i).env = (false, eval e (X i).env) :: starEach [] (X i).env := by intro i; rfl) : DE X K (.Call (.Name "tuple" p) [e] [] pos) (wU fTuple we) :=
  de_u (fun i t h => by rw [← hK i]; exact pe_callTy call_tuple_of (hg i) (hm i) (by decide +kernel) (pa_cons h pa_nil (he i)) (by decide) (by decide) (he i) rfl) cd_tuple h
def fList : F1
  | .list xs, P => P (.list xs)
  | .tuple xs, P => P (.list xs)
  | _, _ => False
theorem cd_list : CallD K (fun xs H Q => ∃ p ys, xs = [.ref p] ∧ (SqL K H p ys ∨ SqT K H p ys) ∧ ∀ l, H l = none → Q (.ref l) (upd H l (.lst ys))) fList := by
  intro M H x v P Q dom r f k
  cases x with
  | list ds =>
    obtain ⟨p, vs, rfl, h1, h2⟩ := RV.isLst r
    exact ⟨p, vs, rfl, .inl (SqL.of h1), fun l nl => k _ _ _ f (same_new nl) (.lst (rm_of (fun c => dom l c nl) upd_same) (DtAll.up (up_new nl) h2))⟩
  | tuple ds =>
    obtain ⟨p, vs, rfl, h1, h2⟩ := RV.isTup r
    exact ⟨p, vs, rfl, .inr h1, fun l nl => k _ _ _ f (same_new nl) (.lst (rm_of (fun c => dom l c nl) upd_same) (DtAll.up (up_new nl) h2))⟩
  | _ => exact f.elim
theorem de_list {p : Pos} (hm : ∀ i, (X i).mg "list" = none) (h : DV X K e we) (hK : ∀ i, (X i).K = K := by intro i; rfl) (hg : ∀ i, Gl (X i) "list" := by intro i; rfl)
    (he : ∀ i, starEach (e :: []) (X i).env = (false, eval e (X i).env) :: starEach [] (X i).env := by intro i; rfl) : DE X K (.Call (.Name "list" p) [e] [] pos) (wU fList we) :=
  de_u (fun i t h => by rw [← hK i]; exact pe_callTy call_list_of (hg i) (hm i) (by decide +kernel) (pa_cons h pa_nil (he i)) (by decide) (by decide) (he i) rfl) cd_list h
/-- any, all of a list of truth values -/
def fBools (g : List Bool → Bool) : F1 := fun d P => ∃ bs : List Bool, d = .list (bs.map .bool) ∧ P (.bool (g bs))
theorem dt_bools {H : Hp} : ∀ {vs : List V} {bs : List Bool}, DtAll K H vs (bs.map .bool) → vs = bs.map V.bl
  | _, [], .nil => rfl
  | _, b :: bs, .cons h r => by rw [List.map_cons, Dt.isBl h, dt_bools r]
theorem cd_any : CallD K (rAny K) (fBools fun bs => bs.any id) := by
  intro M H x v P Q dom r f k
  obtain ⟨bs, rfl, f⟩ := f
  obtain ⟨p, vs, rfl, h1, h2⟩ := RV.isLst r
  exact ⟨p, bs, rfl, SqL.of (by rw [← dt_bools h2]; exact h1), k _ _ H f (Same.refl _) (.bl _)⟩
theorem cd_all : CallD K (rAll K) (fBools fun bs => bs.all id) := by
  intro M H x v P Q dom r f k
  obtain ⟨bs, rfl, f⟩ := f
  obtain ⟨p, vs, rfl, h1, h2⟩ := RV.isLst r
  exact ⟨p, bs, rfl, SqL.of (by rw [← dt_bools h2]; exact h1), k _ _ H f (Same.refl _) (.bl _)⟩
theorem de_any {p : Pos} (hm : ∀ i, (X i).mg "any" = none) (h : DV X K e we) (hK : ∀ i, (X i).K = K := by intro i; rfl) (hg : ∀ i, Gl (X i) "any" := by intro i; rfl) (hc : ∀ i, (X i).calm = true := by intro i; rfl)
    (he : ∀ i, starEach (e :: []) (X i).env = (false, eval e (X i).env) :: starEach [] (X i).env := by intro i; rfl) : DE X K (.Call (.Name "any" p) [e] [] pos) (wU (fBools fun bs => bs.any id) we) :=
  de_u (fun i t h => by rw [← hK i]; exact pe_callB (cr_any (hc i)) (hg i) (hm i) (by decide +kernel) (pa_cons h pa_nil (he i)) (by decide) (by decide) (he i) rfl) cd_any h
theorem de_all {p : Pos} (hm : ∀ i, (X i).mg "all" = none) (h : DV X K e we) (hK : ∀ i, (X i).K = K := by intro i; rfl) (hg : ∀ i, Gl (X i) "all" := by intro i; rfl) (hc : ∀ i, (X i).calm = true := by intro i; rfl)
    (he : ∀ i, starEach (e :: []) (X i).env = (false, eval e (X i).env) :: starEach [] (X i).env := by intro i; rfl) : DE X K (.Call (.Name "all" p) [e] [] pos) (wU (fBools fun bs => bs.all id) we) :=
  de_u (fun i t h => by rw [← hK i]; exact pe_callB (cr_all (hc i)) (hg i) (hm i) (by decide +kernel) (pa_cons h pa_nil (he i)) (by decide) (by decide) (he i) rfl) cd_all h
/-! ### methods of texts -/
abbrev FM := Str → List PyData → (PyData → Prop) → Prop
def MtD (K : Fr) (r : V → List V → Hp → VK → Prop) (f : FM) : Prop := ∀ (M : List Addr) (H : Hp) (x : Str) (ds : List PyData) (vs : List V) (P : PyData → Prop) (Q : VK), (∀ a, a ∈ M → H a ≠ none) → DtAll K (rm M H) vs ds → f x ds P →
  (∀ d z H', P d → Same H H' → Dt K (rm M H') z d → Q z H') → r (.str x) vs H Q
def wM (f : FM) (wo : WE) (wa : WA) : WE := fun ρ P => wo ρ fun ρ1 x => ∃ s, x = .str s ∧ wa ρ1 fun ρ2 ds => f s ds fun d => P ρ2 d
theorem de_m {c : Expr} {r : V → List V → Hp → VK → Prop} {f : FM} {wo : WE} {wa : WA} (hp : ∀ i t u, PE (X i) a t → PA (X i) es u → PE (X i) c (tBM K "str" r t u)) (md : MtD K r f) (h : DE X K a wo) (ha : DA X K es wa) : DE X K c (wM f wo wa) := by
  obtain ⟨t, a1, a2⟩ := h
  obtain ⟨u, b1, b2⟩ := ha
  refine ⟨_, fun i => hp i t u (a1 i) (b1 i), fun M0 M B σ H ρ P Q E w k => ?_⟩
  refine a2 M0 M B σ H ρ _ _ E w fun ρ1 d v H1 w1 x1 E1 r1 => ?_
  obtain ⟨s, rfl, w1⟩ := w1
  rw [Dt.isStr r1]
  refine ⟨rfl, b2 M0 M B σ H1 ρ1 _ _ E1 w1 fun ρ2 ds vs H2 w2 x2 E2 r2 => ?_⟩
  exact md M H2 s ds vs _ Q E2.dom r2 w2 fun d z H3 p e3 r3 => k ρ2 d z H3 p ((x1.trans x2).trans (Ext.same e3)) (E2.same e3) r3
/-- sep.join(x), x a list or a tuple of texts -/
def fJoin (s : Str) : F1 := fun d P => ∃ ys : List Str, (d = .list (ys.map .str) ∨ d = .tuple (ys.map .str)) ∧ (ys.map (·.length)).sum + ys.length * s.length ≤ 16777216 ∧ P (.str (Txt.join s ys))
theorem dt_strs {H : Hp} : ∀ {vs : List V} {bs : List Str}, DtAll K H vs (bs.map .str) → vs = bs.map V.str
  | _, [], .nil => rfl
  | _, b :: bs, .cons h r => by rw [List.map_cons, Dt.isStr h, dt_strs r]
def wJoin (wo we : WE) : WE := fun ρ P => wo ρ fun ρ1 x => ∃ s, x = .str s ∧ we ρ1 fun ρ2 d => fJoin s d fun z => P ρ2 z
theorem de_join {wo : WE} {apos cpos : Pos} (h : DE X K a wo) (ha : DV X K e we) (hK : ∀ i, (X i).K = K := by intro i; rfl) (he : ∀ i, starEach (e :: []) (X i).env = (false, eval e (X i).env) :: starEach [] (X i).env := by intro i; rfl)
    (hp : ∀ i t u, PE (X i) a t → PA (X i) [e] u → PE (X i) (.Call (.Attribute a "join" apos) [e] [] cpos) (tBM (X i).K "str" (fun x xs H Q => ∃ a p, ∃ ys : List Str, x = .str a ∧ xs = [.ref p] ∧ (SqL (X i).K H p (ys.map V.str) ∨ SqT (X i).K H p (ys.map V.str)) ∧ (ys.map (·.length)).sum + ys.length * a.length ≤ 16777216 ∧ Q (.str (Txt.join a ys)) H) t u) := by intro i t u h1 h2; exact pe_bm PySem.F.plainAttrs_str PySem.F.slot_str_join PySem.F.type_str_join mt_join h1 h2) :
    DE X K (.Call (.Attribute a "join" apos) [e] [] cpos) (wJoin wo we) := by
  obtain ⟨t, a1, a2⟩ := h
  obtain ⟨u, b1, b2⟩ := ha
  refine ⟨tBM K "str" (fun x xs H Q => ∃ a p, ∃ ys : List Str, x = .str a ∧ xs = [.ref p] ∧ (SqL K H p (ys.map V.str) ∨ SqT K H p (ys.map V.str)) ∧ (ys.map (·.length)).sum + ys.length * a.length ≤ 16777216 ∧ Q (.str (Txt.join a ys)) H) t (tCons u tNil), fun i => by rw [← hK i]; exact hp i t _ (a1 i) (pa_cons (b1 i) pa_nil (he i)), fun M0 M B σ H ρ P Q E w k => ?_⟩
  refine a2 M0 M B σ H ρ _ _ E w fun ρ1 d v H1 w1 x1 E1 r1 => ?_
  obtain ⟨s, rfl, w1⟩ := w1
  rw [Dt.isStr r1]
  refine ⟨rfl, b2 M0 M B σ H1 ρ1 _ _ E1 w1 fun ρ2 d v H2 w2 x2 E2 r2 => ?_⟩
  obtain ⟨ys, hd, hz, w2⟩ := w2
  rcases hd with rfl | rfl
  · obtain ⟨p, vs, rfl, h1, h2⟩ := RV.isLst r2
    exact ⟨s, p, ys, rfl, rfl, .inl (SqL.of (by rw [← dt_strs h2]; exact h1)), hz, k ρ2 _ _ H2 w2 (x1.trans x2) E2 (.str _)⟩
  · obtain ⟨p, vs, rfl, h1, h2⟩ := RV.isTup r2
    exact ⟨s, p, ys, rfl, rfl, .inr (by rw [← dt_strs h2]; exact h1), hz, k ρ2 _ _ H2 w2 (x1.trans x2) E2 (.str _)⟩
/-- x.split(sep) -/
def fSplit : FM
  | x, [.str y], P => (y.length == 0) = false ∧ x.length + 2 ≤ sizeLine ∧ P (.list ((Txt.split x y).map .str))
  | _, _, _ => False
theorem dt_ofstrs {H : Hp} : ∀ {bs : List Str}, DtAll K H (bs.map V.str) (bs.map .str)
  | [] => .nil
  | b :: bs => .cons (.str b) dt_ofstrs
theorem md_split : MtD K (fun x xs H Q => ∃ a b, x = .str a ∧ xs = [.str b] ∧ (b.length == 0) = false ∧ a.length + 2 ≤ sizeLine ∧ rNewStrs (Txt.split a b) H Q) fSplit := by
  intro M H x ds vs P Q dom r f k
  match ds, f with
  | [.str y], f =>
    cases r with
    | cons r1 r2 =>
      cases r2
      rw [Dt.isStr r1]
      exact ⟨x, y, rfl, rfl, f.1, f.2.1, fun p np => k _ _ _ f.2.2 (same_new np) (.lst (rm_of (fun c => dom p c np) upd_same) dt_ofstrs)⟩
theorem de_split {wo : WE} {wa : WA} {apos cpos : Pos} (h : DE X K a wo) (ha : DA X K [e] wa) (hK : ∀ i, (X i).K = K := by intro i; rfl)
    (hp : ∀ i t u, PE (X i) a t → PA (X i) [e] u → PE (X i) (.Call (.Attribute a "split" apos) [e] [] cpos) (tBM (X i).K "str" (fun x xs H Q => ∃ a b, x = .str a ∧ xs = [.str b] ∧ (b.length == 0) = false ∧ a.length + 2 ≤ sizeLine ∧ rNewStrs (Txt.split a b) H Q) t u) := by intro i t u h1 h2; exact pe_bm PySem.F.plainAttrs_str PySem.F.slot_str_split PySem.F.type_str_split mt_split h1 h2) :
    DE X K (.Call (.Attribute a "split" apos) [e] [] cpos) (wM fSplit wo wa) :=
  de_m (fun i t u h1 h2 => by rw [← hK i]; exact hp i t u h1 h2) md_split h ha
end Pm
namespace Pm
open PySem PySem.Spec PyProof.Rows L2
variable {ι : Type} {X : ι → Cx} {K : Fr} {a b e tg : Expr} {es : List Expr} {wa wb we : WE} {pos : Pos}
/-! ### what is walked -/
abbrev WI := Env → (Env → List PyData → Prop) → Prop
def IterOk (K : Fr) (M : List Addr) (H1 : Hp) (J : It) (items : List PyData) : Prop := ∀ (M' : List Addr) (H' : Hp), Same (rm M H1) (rm M' H') → (∀ a, a ∈ M' → H' a ≠ none) →
  (∀ (i : Nat) (d : PyData), items[i]? = some d → J.go i H' ∧ ∀ x H'', J.yld i H' x H'' → Same H' H'' ∧ Dt K (rm M' H'') x d) ∧ J.stop items.length H'
def DI (X : ι → Cx) (K : Fr) (tg iter : Expr) (w : WI) : Prop := ∃ t : TI, (∀ i, PI (X i) tg iter t) ∧ ∀ (M0 M B : List Addr) (σ : L2.St) (H : Hp) (ρ : Env) (P : Env → List PyData → Prop) (R : It → Hp → Prop), EnvOk K M0 M B H σ ρ → w ρ P →
  (∀ ρ' items J H', P ρ' items → Ext M B H M B H' → EnvOk K M0 M B H' σ ρ' → IterOk K M H' J items → R J H') → t σ H R
theorem pi_or {Y : Cx} {iter : Expr} {w1 w2 : TI} (h1 : PI Y tg iter w1) (h2 : PI Y tg iter w2) : PI Y tg iter (fun σ H R => w1 σ H R ∨ w2 σ H R) := by
  refine ⟨fun pins s σ H R I h => ?_⟩
  rcases h with h | h
  · exact h1.run pins s σ H R I h
  · exact h2.run pins s σ H R I h
def signsD (z : Str) : List PyData := z.cps.toList.map fun c => .str ⟨#[c]⟩
def fSeq (d : PyData) (P : List PyData → Prop) : Prop := match d with
  | .list ds => P ds
  | .tuple ds => P ds
  | .str z => P (signsD z)
  | _ => False
def wSeqI (we : WE) : WI := fun ρ P => we ρ fun ρ1 d => fSeq d fun ds => P ρ1 ds
def iAny (K : Fr) (tl : TE) : TI := fun σ H R => tl σ H fun x H1 => (∃ a, x = .ref a ∧ (∃ xs, SqL K H1 a xs) ∧ R (Itl K a) H1) ∨ (∃ a, x = .ref a ∧ (∃ xs, SqT K H1 a xs) ∧ R (Itt K a) H1) ∨ ∃ x', x = .str x' ∧ R (Its x') H1
theorem pi_any {Y : Cx} {l : Expr} {tl : TE} (hl : PE Y l tl) : PI Y tg l (iAny Y.K tl) := by
  refine ⟨fun pins s σ H R I h => ?_⟩
  refine thn (hl.run pins s σ H _ I h) fun v s1 ⟨x, H1, I1, r1, q1⟩ => ?_
  rcases q1 with ⟨a, e, ⟨xs, hq⟩, q⟩ | ⟨a, e, ⟨xs, hq⟩, q⟩ | ⟨x', e, q⟩
  · subst e
    cases r1
    obtain ⟨its, rv, p, hz⟩ := I1.list hq
    refine wpAny_pyIter_list p.isList ?_
    refine ⟨s1.heap.objs.size, [s1.heap.objs.size], _, _, H1, rfl, I1.kept (t' := s1.toks) fun b o e => Heap.get?_push_of_some _ e, turn_list a _, ⟨_, Heap.get?_push_size _ rfl, rfl, rfl⟩, fun b hb => ?_, q⟩
    have e : b = s1.heap.objs.size := by simpa using hb
    subst e
    exact I1.fpOk (Nat.le_refl _) (I1.hok.fresh (Nat.le_refl _))
  · subst e
    cases r1
    obtain ⟨its, rv, p, hz⟩ := I1.tuple hq
    refine wpAny_pyIter_tuple (show s1.heap.IsTuple a its.toArray from p) ?_
    refine ⟨s1.heap.objs.size, [s1.heap.objs.size], _, _, H1, rfl, I1.kept (t' := s1.toks) fun b o e => Heap.get?_push_of_some _ e, turn_tuple a _, ⟨_, Heap.get?_push_size _ rfl, rfl, rfl⟩, fun b hb => ?_, q⟩
    have e : b = s1.heap.objs.size := by simpa using hb
    subst e
    exact I1.fpOk (Nat.le_refl _) (I1.hok.fresh (Nat.le_refl _))
  · subst e
    obtain ⟨t, rfl⟩ := r1
    cases ha : x'.cps.all (· < 128)
    · exact wpAny_pyIter_wide ha (pi_one (tk := s1.toks) I1 _ (turn_str _ x' t "str_iterator" (.inr rfl)) ⟨_, Heap.get?_push_size _ rfl, rfl, rfl⟩ q)
    · exact wpAny_pyIter_ascii ha (pi_one (tk := s1.toks) I1 _ (turn_str _ x' t "str_ascii_iterator" (.inl rfl)) ⟨_, Heap.get?_push_size _ rfl, rfl, rfl⟩ q)
theorem it_list {M : List Addr} {H : Hp} {a : Addr} {xs : List V} {ds : List PyData} (h : rm M H a = some (.lst xs)) (r : DtAll K (rm M H) xs ds) : IterOk K M H (Itl K a) ds := fun M' H' s dom => by
  have h' : H' a = some (.lst xs) := (rm_to (s _ _ h)).2
  refine ⟨fun i d hd => ?_, ⟨xs, SqL.of h', by rw [DtAll.len r]; exact Nat.le_refl _⟩⟩
  obtain ⟨v, hv, rv⟩ := DtAll.getd r hd
  refine ⟨⟨xs, v, SqL.of h', hv⟩, fun x H'' y => ?_⟩
  obtain ⟨rfl, hy⟩ := y
  have e := hy xs (SqL.of h')
  rw [hv] at e
  cases e
  exact ⟨Same.refl _, Dt.up s rv⟩
theorem it_tup {M : List Addr} {H : Hp} {a : Addr} {xs : List V} {ds : List PyData} (h : SqT K (rm M H) a xs) (r : DtAll K (rm M H) xs ds) : IterOk K M H (Itt K a) ds := fun M' H' s dom => by
  have h' : SqT K H' a xs := same_t rm_le (same_t s h)
  refine ⟨fun i d hd => ?_, ⟨xs, h', by rw [DtAll.len r]; exact Nat.le_refl _⟩⟩
  obtain ⟨v, hv, rv⟩ := DtAll.getd r hd
  refine ⟨⟨xs, v, h', hv⟩, fun x H'' y => ?_⟩
  obtain ⟨rfl, hy⟩ := y
  have e := hy xs h'
  rw [hv] at e
  cases e
  exact ⟨Same.refl _, Dt.up s rv⟩
theorem signs_get {z : Str} {i : Nat} {d : PyData} (h : (signsD z)[i]? = some d) : ∃ c, z.cps[i]? = some c ∧ d = .str ⟨#[c]⟩ := by
  unfold signsD at h
  rw [List.getElem?_map] at h
  cases e : z.cps.toList[i]? with
  | none => rw [e] at h; cases h
  | some c =>
    rw [e] at h
    exact ⟨c, by simpa using e, (Option.some.inj h).symm⟩
theorem signs_len {z : Str} : (signsD z).length = z.cps.size := by simp [signsD]
theorem it_str {M : List Addr} {H : Hp} {z : Str} : IterOk K M H (Its z) (signsD z) := fun M' H' s dom => by
  refine ⟨fun i d hd => ?_, by rw [signs_len]; exact Nat.le_refl _⟩
  obtain ⟨c, hc, rfl⟩ := signs_get hd
  refine ⟨(Array.getElem?_eq_some_iff.mp hc).1, fun x H'' y => ?_⟩
  obtain ⟨rfl, c', hc', rfl⟩ := y
  rw [hc] at hc'
  cases hc'
  exact ⟨Same.refl _, .str _⟩
theorem di_seq (h : DE X K e we) (hK : ∀ i, (X i).K = K := by intro i; rfl) : DI X K tg e (wSeqI we) := by
  obtain ⟨t, a1, a2⟩ := h
  refine ⟨iAny K t, fun i => by rw [← hK i]; exact pi_any (a1 i), fun M0 M B σ H ρ P R E w k => ?_⟩
  refine a2 M0 M B σ H ρ _ _ E w fun ρ1 d v H1 w1 x1 E1 r1 => ?_
  cases d with
  | list ds =>
    obtain ⟨p, vs, rfl, h1, h2⟩ := Dt.isLst r1
    exact .inl ⟨p, rfl, ⟨vs, SqL.of (rm_le _ _ h1)⟩, k ρ1 ds _ H1 w1 x1 E1 (it_list h1 h2)⟩
  | tuple ds =>
    obtain ⟨p, vs, rfl, h1, h2⟩ := Dt.isTup r1
    exact .inr (.inl ⟨p, rfl, ⟨vs, same_t rm_le h1⟩, k ρ1 ds _ H1 w1 x1 E1 (it_tup h1 h2)⟩)
  | str z =>
    rw [Dt.isStr r1]
    exact .inr (.inr ⟨z, rfl, k ρ1 _ _ H1 w1 x1 E1 it_str⟩)
  | _ => exact w1.elim
/-! ### ranges -/
def rangeD (lo : Int) (n : Nat) : List PyData := (List.range n).map fun (k : Nat) => .int (lo + (k : Int))
theorem rangeD_get {lo : Int} {n i : Nat} {d : PyData} (h : (rangeD lo n)[i]? = some d) : i < n ∧ d = .int (lo + (i : Int)) := by
  unfold rangeD at h
  rw [List.getElem?_map] at h
  by_cases c : i < n
  · rw [List.getElem?_range c] at h
    exact ⟨c, (Option.some.inj h).symm⟩
  · rw [List.getElem?_eq_none (by simpa using Nat.le_of_not_lt c)] at h
    cases h
theorem rangeD_len {lo : Int} {n : Nat} : (rangeD lo n).length = n := by simp [rangeD]
theorem it_range {M : List Addr} {H : Hp} {lo : Int} {n : Nat} : IterOk K M H (Itr lo n) (rangeD lo n) := fun M' H' s dom => by
  refine ⟨fun i d hd => ?_, by rw [rangeD_len]; exact Nat.le_refl _⟩
  obtain ⟨h1, rfl⟩ := rangeD_get hd
  refine ⟨h1, fun x H'' y => ?_⟩
  obtain ⟨rfl, rfl⟩ := y
  exact ⟨Same.refl _, .int _⟩
def wRange1 (wa : WA) : WI := fun ρ P => wa ρ fun ρ1 ds => ∃ j : Int, ds = [.int j] ∧ -(2 ^ 62) ≤ j ∧ j < 2 ^ 62 ∧ P ρ1 (rangeD 0 j.toNat)
def wRange2 (wa : WA) : WI := fun ρ P => wa ρ fun ρ1 ds => ∃ i j : Int, ds = [.int i, .int j] ∧ (-(2 ^ 62) ≤ i ∧ i < 2 ^ 62 ∧ -(2 ^ 62) ≤ j ∧ j < 2 ^ 62) ∧ P ρ1 (rangeD i (j - i).toNat)
theorem di_range1 {w : WA} {p : Pos} (hm : ∀ i, (X i).mg "range" = none) (h : DA X K [a] w) (hg : ∀ i, Gl (X i) "range" := by intro i; rfl) (hs : ∀ i, starEach [a] (X i).env = [(false, eval a (X i).env)] := by intro i; rfl) : DI X K tg (.Call (.Name "range" p) [a] [] pos) (wRange1 w) := by
  obtain ⟨t, a1, a2⟩ := h
  refine ⟨iRng1 t, fun i => pi_range1 (hg i) (hm i) (a1 i) (hs i), fun M0 M B σ H ρ P R E w k => ?_⟩
  refine a2 M0 M B σ H ρ _ _ E w fun ρ1 ds vs H1 w1 x1 E1 r1 => ?_
  obtain ⟨j, rfl, h1, h2, w1⟩ := w1
  cases r1 with
  | cons q1 q2 =>
    cases q2
    rw [Dt.isInt q1]
    exact ⟨j, rfl, h1, h2, k ρ1 _ _ H1 w1 x1 E1 it_range⟩
theorem di_range2 {w : WA} {p : Pos} (hm : ∀ i, (X i).mg "range" = none) (h : DA X K [a, b] w) (hg : ∀ i, Gl (X i) "range" := by intro i; rfl) (hs : ∀ i, starEach [a, b] (X i).env = [(false, eval a (X i).env), (false, eval b (X i).env)] := by intro i; rfl) (hs2 : ∀ i, starEach [b] (X i).env = [(false, eval b (X i).env)] := by intro i; rfl) : DI X K tg (.Call (.Name "range" p) [a, b] [] pos) (wRange2 w) := by
  obtain ⟨t, a1, a2⟩ := h
  refine ⟨iRng2 t, fun i => pi_range2 (hg i) (hm i) (a1 i) (hs i) (hs2 i), fun M0 M B σ H ρ P R E w k => ?_⟩
  refine a2 M0 M B σ H ρ _ _ E w fun ρ1 ds vs H1 w1 x1 E1 r1 => ?_
  obtain ⟨i, j, rfl, hb, w1⟩ := w1
  cases r1 with
  | cons q1 q2 =>
    cases q2 with
    | cons q2 q3 =>
      cases q3
      rw [Dt.isInt q1, Dt.isInt q2]
      exact ⟨i, j, rfl, hb, k ρ1 _ _ H1 w1 x1 E1 it_range⟩
/-- i, i - 1, .. down to j + 1 -/
def downD (i : Int) (n : Nat) : List PyData := (List.range n).map fun (k : Nat) => .int (i + (k : Int) * (-1))
theorem downD_get {lo : Int} {n i : Nat} {d : PyData} (h : (downD lo n)[i]? = some d) : i < n ∧ d = .int (lo + (i : Int) * (-1)) := by
  unfold downD at h
  rw [List.getElem?_map] at h
  by_cases c : i < n
  · rw [List.getElem?_range c] at h
    exact ⟨c, (Option.some.inj h).symm⟩
  · rw [List.getElem?_eq_none (by simpa using Nat.le_of_not_lt c)] at h
    cases h
theorem downD_len {lo : Int} {n : Nat} : (downD lo n).length = n := by simp [downD]
theorem it_down {M : List Addr} {H : Hp} {lo : Int} {n : Nat} : IterOk K M H (Itc lo (-1) n) (downD lo n) := fun M' H' s dom => by
  refine ⟨fun i d hd => ?_, by rw [downD_len]; exact Nat.le_refl _⟩
  obtain ⟨h1, rfl⟩ := downD_get hd
  refine ⟨h1, fun x H'' y => ?_⟩
  obtain ⟨rfl, rfl⟩ := y
  exact ⟨Same.refl _, .int _⟩
def wDown (wa : WA) : WI := fun ρ P => wa ρ fun ρ1 ds => ∃ i j : Int, ds = [.int i, .int j, .int (-1)] ∧ (-(2 ^ 62) ≤ i ∧ i < 2 ^ 62 ∧ -(2 ^ 62) ≤ j ∧ j < 2 ^ 62) ∧ P ρ1 (downD i (i - j).toNat)
theorem di_down {c : Expr} {w : WA} {p : Pos} (hm : ∀ i, (X i).mg "range" = none) (h : DA X K [a, b, c] w) (hg : ∀ i, Gl (X i) "range" := by intro i; rfl) (hs : ∀ i, starEach [a, b, c] (X i).env = (false, eval a (X i).env) :: starEach [b, c] (X i).env := by intro i; rfl)
    (hpl : ∀ i, (backTo pos (starEach [b, c] (X i).env)).any (·.1) = false := by intro i; rfl) : DI X K tg (.Call (.Name "range" p) [a, b, c] [] pos) (wDown w) := by
  obtain ⟨t, a1, a2⟩ := h
  refine ⟨iRng3 t, fun i => pi_range3 (hg i) (hm i) (a1 i) (hs i) (hpl i), fun M0 M B σ H ρ P R E w k => ?_⟩
  refine a2 M0 M B σ H ρ _ _ E w fun ρ1 ds vs H1 w1 x1 E1 r1 => ?_
  obtain ⟨i, j, rfl, hb, w1⟩ := w1
  cases r1 with
  | cons q1 q2 =>
    cases q2 with
    | cons q2 q3 =>
      cases q3 with
      | cons q3 q4 =>
        cases q4
        rw [Dt.isInt q1, Dt.isInt q2, Dt.isInt q3]
        exact ⟨i, j, -1, _, rfl, RgC.neg hb.1 hb.2.1 hb.2.2.1 hb.2.2.2, k ρ1 _ _ H1 w1 x1 E1 it_down⟩
/-! ### enumerate -/
def enumD (ds : List PyData) : List PyData := ds.zipIdx.map fun p => .tuple [.int (p.2 : Nat), p.1]
theorem enumD_get {ds : List PyData} {i : Nat} {d : PyData} (h : (enumD ds)[i]? = some d) : ∃ x, ds[i]? = some x ∧ d = .tuple [.int (i : Nat), x] := by
  unfold enumD at h
  rw [List.getElem?_map, List.getElem?_zipIdx] at h
  cases e : ds[i]? with
  | none => rw [e] at h; cases h
  | some x =>
    rw [e] at h
    refine ⟨x, rfl, ?_⟩
    have := (Option.some.inj h).symm
    simpa using this
theorem enumD_len {ds : List PyData} : (enumD ds).length = ds.length := by simp [enumD]
theorem it_enumS {M : List Addr} {H : Hp} {z : Str} : IterOk K M H (IteS z) (enumD (signsD z)) := fun M' H' s dom => by
  refine ⟨fun i d hd => ?_, by rw [enumD_len, signs_len]; exact Nat.le_refl _⟩
  obtain ⟨x, hx, rfl⟩ := enumD_get hd
  obtain ⟨c, hc, rfl⟩ := signs_get hx
  refine ⟨(Array.getElem?_eq_some_iff.mp hc).1, fun x H'' y => ?_⟩
  obtain ⟨T, c', rfl, nT, hc', rfl⟩ := y
  rw [hc] at hc'
  cases hc'
  exact ⟨same_new nT, .tup (.inl (.inl (rm_of (fun q => dom T q nT) upd_same))) (.cons (.int _) (.cons (.str _) .nil))⟩
theorem it_enumL {M : List Addr} {H : Hp} {a : Addr} {xs : List V} {ds : List PyData} (h : rm M H a = some (.lst xs)) (r : DtAll K (rm M H) xs ds) : IterOk K M H (Ite K a) (enumD ds) := fun M' H' s dom => by
  have h' : H' a = some (.lst xs) := (rm_to (s _ _ h)).2
  refine ⟨fun i d hd => ?_, ⟨xs, SqL.of h', by rw [enumD_len, DtAll.len r]; exact Nat.le_refl _⟩⟩
  obtain ⟨x, hx, rfl⟩ := enumD_get hd
  obtain ⟨v, hv, rv⟩ := DtAll.getd r hx
  refine ⟨⟨xs, v, SqL.of h', hv⟩, fun x H'' y => ?_⟩
  obtain ⟨T, x', rfl, nT, rfl, hy⟩ := y
  have e := hy xs (SqL.of h')
  rw [hv] at e
  cases e
  exact ⟨same_new nT, .tup (.inl (.inl (rm_of (fun q => dom T q nT) upd_same))) (.cons (.int _) (.cons (Dt.up (up_new nT) (Dt.up s rv)) .nil))⟩
def wEnum (we : WE) : WI := fun ρ P => we ρ fun ρ1 d => match d with
  | .list ds => P ρ1 (enumD ds)
  | .str z => P ρ1 (enumD (signsD z))
  | _ => False
def iEnumA (K : Fr) (ta : TA) : TI := fun σ H R => ta σ H fun vs H1 => (∃ a xs, vs = [.ref a] ∧ SqL K H1 a xs ∧ R (Ite K a) H1) ∨ ∃ x, vs = [.str x] ∧ R (IteS x) H1
theorem pi_enumA {Y : Cx} {ta : TA} {p pos tpos : Pos} {elts : List Expr} {kk : Nat} (hg : Gl Y "enumerate") (hm : Y.mg "enumerate" = none) (ha : PA Y [e] ta) (hs : starEach [e] Y.env = [(false, eval e Y.env)] := by rfl) :
    PI Y (.Tuple elts kk tpos) (.Call (.Name "enumerate" p) [e] [] pos) (iEnumA Y.K ta) := by
  refine ⟨fun pins s σ H R I h => ?_⟩
  refine Call_ (ld_blt I hg hm boot_enumerate (PyProof.Rows.callWith_type1 (thn (ha.run pos pins s σ H _ I h) fun us s1 ⟨vs, H1, I1, r1, q1⟩ => ?_) hs rfl))
  rcases q1 with ⟨a, xs, ex, hq, q⟩ | ⟨x, ex, q⟩
  · subst ex
    cases r1 with
    | cons r rr =>
      cases rr
      cases r
      obtain ⟨its, rv, p', hz⟩ := I1.list hq
      refine call_enumerate_list p'.isList fun h' he hit hsz hk => wpAny_pyIter_enum he ?_
      have I2 : Inv Y pins σ H1 { s1 with heap := h' } := I1.kept (t' := s1.toks) hk
      refine ⟨s1.heap.objs.size + 1, [s1.heap.objs.size + 1, s1.heap.objs.size], _, _, H1, rfl, I2, turn_enum a (s1.heap.objs.size + 1) s1.heap.objs.size, ⟨⟨.none, he⟩, hit, Nat.succ_ne_self _⟩, fun b hb => ?_, q⟩
      have e' : b = s1.heap.objs.size + 1 ∨ b = s1.heap.objs.size := by simpa using hb
      have hle : s1.heap.objs.size ≤ b := by
        rcases e' with z | z
        · rw [z]; exact Nat.le_add_right _ _
        · rw [z]; exact Nat.le_refl _
      exact I1.fpOk hle (I1.hok.fresh hle)
  · subst ex
    cases r1 with
    | cons r rr =>
      cases rr
      obtain ⟨t, rfl⟩ := r
      refine call_enumerate_str fun h' he hit hsz hk => wpAny_pyIter_enum he ?_
      have I2 : Inv Y pins σ H1 { s1 with heap := h' } := I1.kept (t' := s1.toks) hk
      refine ⟨s1.heap.objs.size + 1, [s1.heap.objs.size + 1, s1.heap.objs.size], _, _, H1, rfl, I2, turn_enumS x t (s1.heap.objs.size + 1) s1.heap.objs.size, ⟨⟨.none, he⟩, hit, Nat.succ_ne_self _, Nat.zero_le _⟩, fun b hb => ?_, q⟩
      have e' : b = s1.heap.objs.size + 1 ∨ b = s1.heap.objs.size := by simpa using hb
      have hle : s1.heap.objs.size ≤ b := by
        rcases e' with z | z
        · rw [z]; exact Nat.le_add_right _ _
        · rw [z]; exact Nat.le_refl _
      exact I1.fpOk hle (I1.hok.fresh hle)
theorem di_enum {p tpos : Pos} {elts : List Expr} {kk : Nat} (hm : ∀ i, (X i).mg "enumerate" = none) (h : DE X K e we) (hK : ∀ i, (X i).K = K := by intro i; rfl) (hg : ∀ i, Gl (X i) "enumerate" := by intro i; rfl) (hs : ∀ i, starEach [e] (X i).env = [(false, eval e (X i).env)] := by intro i; rfl) :
    DI X K (.Tuple elts kk tpos) (.Call (.Name "enumerate" p) [e] [] pos) (wEnum we) := by
  obtain ⟨t, a1, a2⟩ := h
  refine ⟨iEnumA K (tCons t tNil), fun i => by rw [← hK i]; exact pi_enumA (hg i) (hm i) (pa_cons (a1 i) pa_nil (hs i)) (hs i), fun M0 M B σ H ρ P R E w k => ?_⟩
  refine a2 M0 M B σ H ρ _ _ E w fun ρ1 d v H1 w1 x1 E1 r1 => ?_
  cases d with
  | list ds =>
    obtain ⟨p, vs, rfl, h1, h2⟩ := Dt.isLst r1
    exact .inl ⟨p, vs, rfl, SqL.of (rm_le _ _ h1), k ρ1 _ _ H1 w1 x1 E1 (it_enumL h1 h2)⟩
  | str z =>
    rw [Dt.isStr r1]
    exact .inr ⟨z, rfl, k ρ1 _ _ H1 w1 x1 E1 it_enumS⟩
  | _ => exact w1.elim
end Pm
namespace Pm
open PySem PySem.Spec PyProof.Rows L2
variable {ι : Type} {X : ι → Cx} {K : Fr} {a b e tg : Expr} {es : List Expr} {wa wb we : WE} {pos : Pos}
/-! ### list comprehensions, one name -/
/-- the contexts of a comprehension's block -/
abbrev Blk (ι : Type) : Type := ι × Shared × Hp × Addr × List (Str × Addr) × List Addr
abbrev blkX (X : ι → Cx) (scope : Scope) : Blk ι → Cx := fun p => (X p.1).blk p.2.1 p.2.2.1 scope (compEnvC scope p.2.2.2.2.1 p.2.2.2.1 (X p.1).env) p.2.2.2.2.2
def lcD (i : Nat) (wt : WT) (we : WE) : List PyData → Env → List PyData → (Env → List PyData → Prop) → Prop
  | [], ρ, acc, P => P ρ acc
  | d :: ds, ρ, acc, P => wt (ρ.set i (.dat d)) fun ρ1 c => (c = true → we ρ1 fun ρ2 y => acc.length < sizeLine ∧ lcD i wt we ds (ρ2.set i .un) (acc ++ [y]) P) ∧ (c = false → lcD i wt we ds (ρ1.set i .un) acc P)
def wLc (i : Nat) (wi : WI) (wt : WT) (we : WE) : WE := fun ρ P => wi ρ fun ρ1 items => lcD i wt we items (ρ1.set i .un) [] fun ρ2 ds => P ρ2 (.list ds)
/-- the slots but i are the same -/
theorem EnvOk.swap {M0 M B : List Addr} {H : Hp} {σ τ : L2.St} {ρ : Env} {i : Nat} (E : EnvOk K M0 M B H τ ρ) (hl : σ.length = τ.length) (h : ∀ j, j ≠ i → σ[j]? = τ[j]?) : EnvOk K M0 M B H σ (ρ.set i .un) where
  len := by rw [List.length_set, hl]; exact E.len
  sub := E.sub
  dom := E.dom
  m0 := E.m0
  slot := fun j s hj => by
    rcases get_set_some hj with ⟨rfl, rfl, _⟩ | ⟨n, hj'⟩
    · trivial
    · rw [h j (Ne.symm n)]; exact E.slot j s hj'
  sep := fun j k s s' l n h1 h2 l1 l2 s1 s2 => by
    rcases get_set_some h1 with ⟨rfl, rfl, _⟩ | ⟨n1, h1'⟩
    · cases l1
    · rcases get_set_some h2 with ⟨rfl, rfl, _⟩ | ⟨n2, h2'⟩
      · cases l2
      · rw [h j (Ne.symm n1)] at s1
        rw [h k (Ne.symm n2)] at s2
        exact E.sep j k s s' l n h1' h2' l1 l2 s1 s2
/-- one more address put away / taken back -/
theorem EnvOk.less {M0 M B : List Addr} {H : Hp} {σ : L2.St} {ρ : Env} {p : Addr} (E : EnvOk K M0 (p :: M) B H σ ρ) (h0 : ∀ a, a ∈ M0 → a ∈ M) (hs : ∀ a, a ∈ B → a ∈ M) : EnvOk K M0 M B H σ ρ where
  len := E.len
  sub := hs
  dom := fun a h => E.dom a (List.mem_cons_of_mem _ h)
  m0 := h0
  slot := fun i s h => by
    have r : Same (rm (p :: M) H) (rm M H) := fun a o e => by
      obtain ⟨z1, z2⟩ := rm_to e
      exact rm_of (fun c => z1 (List.mem_cons_of_mem _ c)) z2
    have z := E.slot i s h
    cases s with
    | un => trivial
    | dat d => obtain ⟨v, h1, h2⟩ := z; exact ⟨v, h1, Dt.up r h2⟩
    | scr ns => obtain ⟨v, h1, h2⟩ := z; exact ⟨v, h1, same_l r h2⟩
    | own ds => obtain ⟨l, xs, h1, h2, h3, h4, h5⟩ := z; exact ⟨l, xs, h1, h2, h3, h4, DtAll.up r h5⟩
    | bor l ds => obtain ⟨xs, h1, h2, h3, h4, h5⟩ := z; exact ⟨xs, h1, h2, h3, h4, DtAll.up r h5⟩
  sep := E.sep
theorem EnvOk.more {M0 M B : List Addr} {H H' : Hp} {σ : L2.St} {ρ : Env} {p : Addr} {o : HO} (E : EnvOk K M0 M B H σ ρ) (np : H p = none) (hp : H' p = some o) (sm : ∀ a u, a ≠ p → H a = some u → H' a = some u) : EnvOk K M0 (p :: M) B H' σ ρ := by
  have r : Same (rm M H) (rm (p :: M) H') := fun a u e => by
    obtain ⟨z1, z2⟩ := rm_to e
    have n : a ≠ p := fun q => by rw [q, np] at z2; cases z2
    refine rm_of (fun c => ?_) (sm a u n z2)
    rcases List.mem_cons.mp c with q | q
    · exact n q
    · exact z1 q
  refine ⟨E.len, fun a h => List.mem_cons_of_mem _ (E.sub a h), fun a h q => ?_, fun a h => List.mem_cons_of_mem _ (E.m0 a h), fun i s h => ?_, E.sep⟩
  · rcases List.mem_cons.mp h with c | c
    · rw [c, hp] at q; cases q
    · cases hz : H a with
      | none => exact E.dom a c hz
      | some u => rw [sm a u (fun q2 => by rw [q2, np] at hz; cases hz) hz] at q; cases q
  · have z := E.slot i s h
    have keepL : ∀ (l : Addr) (xs : List V), H l = some (.lst xs) → H' l = some (.lst xs) := fun l xs hl => sm l _ (fun q => by rw [q, np] at hl; cases hl) hl
    cases s with
    | un => trivial
    | dat d => obtain ⟨v, h1, h2⟩ := z; exact ⟨v, h1, Dt.up r h2⟩
    | scr ns => obtain ⟨v, h1, h2⟩ := z; exact ⟨v, h1, same_l r h2⟩
    | own ds => obtain ⟨l, xs, h1, h2, h3, h4, h5⟩ := z; exact ⟨l, xs, h1, h2, h3, keepL _ _ h4, DtAll.up r h5⟩
    | bor l ds => obtain ⟨xs, h1, h2, h3, h4, h5⟩ := z; exact ⟨xs, h1, h2, h3, keepL _ _ h4, DtAll.up r h5⟩
/-- the reading of a comprehension -/
theorem lc_read {i : Nat} {ti : TI} {tt : TT} {te : TE} {wi : WI} {wt : WT}
    (hi : ∀ (M0 M B : List Addr) (σ : L2.St) (H : Hp) (ρ : Env) (P : Env → List PyData → Prop) (R : It → Hp → Prop), EnvOk K M0 M B H σ ρ → wi ρ P → (∀ ρ' items J H', P ρ' items → Ext M B H M B H' → EnvOk K M0 M B H' σ ρ' → IterOk K M H' J items → R J H') → ti σ H R)
    (ht : ∀ (M0 M B : List Addr) (σ : L2.St) (H : Hp) (ρ : Env) (P : Env → Bool → Prop) (Q : Bool → Hp → Prop), EnvOk K M0 M B H σ ρ → wt ρ P → (∀ ρ' b H', P ρ' b → Ext M B H M B H' → EnvOk K M0 M B H' σ ρ' → Q b H') → tt σ H Q)
    (he : ∀ (M0 M B : List Addr) (σ : L2.St) (H : Hp) (ρ : Env) (P : Env → PyData → Prop) (Q : VK), EnvOk K M0 M B H σ ρ → we ρ P → (∀ ρ' d v H', P ρ' d → Ext M B H M B H' → EnvOk K M0 M B H' σ ρ' → Dt K (rm M H') v d → Q v H') → te σ H Q) :
    ∀ (M0 M B : List Addr) (σ : L2.St) (H : Hp) (ρ : Env) (P : Env → PyData → Prop) (Q : VK), EnvOk K M0 M B H σ ρ → wLc i wi wt we ρ P → (∀ ρ' d v H', P ρ' d → Ext M B H M B H' → EnvOk K M0 M B H' σ ρ' → Dt K (rm M H') v d → Q v H') → tLc ti (gName i) tt te [i] σ H Q := by
  intro M0 M B σ H ρ P Q E w k
  refine hi M0 M B σ H ρ _ _ E w fun ρ1 items J H1 w1 x1 E1 it => ?_
  intro D nD
  have hDM : D ∉ M := fun c => E1.dom D c nD
  have hDB : D ∉ B := fun c => hDM (E1.sub D c)
  -- W: the list so far
  refine ⟨fun n m H2 => m = items.length - n ∧ ∃ (ρ2 : Env) (acc : List V) (ds : List PyData), n ≤ items.length ∧ lcD i wt we (items.drop n) ρ2 ds (fun ρ2 ds => P ρ2 (.list ds)) ∧ H2 D = some (.lst acc) ∧ DtAll K (rm (D :: M) H2) acc ds ∧ EnvOk K M0 (D :: M) B H2 σ ρ2 ∧
      (∀ a o, a ∉ B → a ≠ D → H1 a = some o → H2 a = some o) ∧ (∀ a, H2 a = none → H1 a = none), ⟨_, rfl, ρ1.set i .un, [], [], Nat.zero_le _, w1, upd_same, .nil, ?_, fun a o _ n e => by rw [upd_ne n]; exact e, fun a e => (same_new nD).free e⟩, ?_⟩
  · have E2 : EnvOk K M0 (D :: M) B (upd H1 D (.lst [])) σ ρ1 := E1.more nD upd_same fun a u n e => by rw [upd_ne n]; exact e
    exact E2.swap rfl fun _ _ => rfl
  · rintro n m H2 ⟨rfl, ρ2, acc, ds, hn, w2, hD, hA, E2, fr, lv⟩
    have hEx : Ext M B H1 M B H2 := ⟨fun _ h => h, fun _ h => .inl h, fun _ h => h, fun _ h => .inl h, fun a o nb e => fr a o nb (fun q => by rw [q, nD] at e; cases e) e, lv⟩
    have hsm : Same (rm M H1) (rm (D :: M) H2) := fun a o e => by
      obtain ⟨z1, z2⟩ := rm_to e
      have nn : a ≠ D := fun q => by rw [q, nD] at z2; cases z2
      refine rm_of (fun c => ?_) (fr a o (fun c => z1 (E1.sub a c)) nn z2)
      rcases List.mem_cons.mp c with q | q
      · exact nn q
      · exact z1 q
    obtain ⟨hgo, hst⟩ := it (D :: M) H2 hsm E2.dom
    by_cases hlt : n < items.length
    · right
      have hnd : items[n]? = some items[n] := List.getElem?_eq_getElem hlt
      obtain ⟨g1, g2⟩ := hgo n _ hnd
      rw [List.drop_eq_getElem_cons hlt] at w2
      refine ⟨g1, fun H' => ∃ m', m' < items.length - n ∧ (m' = items.length - (n + 1) ∧ ∃ (ρ2 : Env) (acc : List V) (ds : List PyData), n + 1 ≤ items.length ∧ lcD i wt we (items.drop (n + 1)) ρ2 ds (fun ρ2 ds => P ρ2 (.list ds)) ∧ H' D = some (.lst acc) ∧ DtAll K (rm (D :: M) H') acc ds ∧ EnvOk K M0 (D :: M) B H' σ ρ2 ∧
        (∀ a o, a ∉ B → a ≠ D → H1 a = some o → H' a = some o) ∧ (∀ a, H' a = none → H1 a = none)), fun H' h => h, fun x H3 hy => ?_⟩
      obtain ⟨s3, rx⟩ := g2 x H3 hy
      have E3 : EnvOk K M0 (D :: M) B H3 σ ρ2 := E2.same s3
      -- the block's slots
      have E4 : EnvOk K M0 (D :: M) B H3 ((wipe σ [i]).set i (some x)) (ρ2.set i (.dat items[n])) := by
        have q : EnvOk K M0 (D :: M) B H3 (wipe σ [i]) (ρ2.set i .un) := E3.forget i none
        have q2 := q.set i rx
        rw [List.set_set] at q2
        exact q2
      have hsl : ∀ j, j ≠ i → σ[j]? = ((wipe σ [i]).set i (some x))[j]? := fun j n => by
        rw [get_set_ne (Ne.symm n)]
        show σ[j]? = (σ.set i none)[j]?
        rw [get_set_ne (Ne.symm n)]
      have hln : σ.length = ((wipe σ [i]).set i (some x)).length := by
        show σ.length = ((σ.set i none).set i (some x)).length
        rw [List.length_set, List.length_set]
      refine ⟨?_, ?_⟩
      · show (((σ.set i none).set i (some x)).set i none) = σ.set i none
        rw [List.set_set, List.set_set]
      · refine ht M0 (D :: M) B _ H3 _ _ _ E4 w2 fun ρ4 c H4 w4 x4 E5 => ?_
        have hD4 : H4 D = some (.lst acc) := x4.keep D _ hDB (s3 _ _ hD)
        have up4 : Same (rm (D :: M) H2) (rm (D :: M) H4) := ((Ext.same (M := D :: M) (B := B) s3).trans x4).rm E2.sub
        have fr4 : ∀ a o, a ∉ B → a ≠ D → H1 a = some o → H4 a = some o := fun a o nb nn e => x4.keep a o nb (s3 _ _ (fr a o nb nn e))
        have lv4 : ∀ a, H4 a = none → H1 a = none := fun a e => lv a (s3.free (x4.live a e))
        refine ite_of (fun ec => ?_) (fun ec => ?_)
        · refine he M0 (D :: M) B _ H4 _ _ _ E5 (w4.1 ec) fun ρ5 y v H5 w5 x5 E6 r5 => ?_
          obtain ⟨hz, w5⟩ := w5
          have hD5 : H5 D = some (.lst acc) := x5.keep D _ hDB hD4
          refine ⟨acc, hD5, by rw [DtAll.len hA]; exact hz, items.length - (n + 1), by omega, rfl, ρ5.set i .un, acc ++ [v], ds ++ [y], hlt, w5, upd_same, ?_, ?_, fun a o nb nn e => by rw [upd_ne nn]; exact x5.keep a o nb (fr4 a o nb nn e), fun a e => ?_⟩
          · rw [rm_upd (List.mem_cons_self ..)]
            exact DtAll.app (DtAll.up (x5.rm E5.sub) (DtAll.up up4 hA)) (.cons r5 .nil)
          · have q := E6.swap (σ := σ) (i := i) hln hsl
            have q2 : EnvOk K M0 (D :: M) B (upd H5 D (.lst (acc ++ [v]))) σ (ρ5.set i .un) := by
              refine ⟨q.len, q.sub, fun a h z => ?_, q.m0, fun j s hj => ?_, q.sep⟩
              · by_cases c : a = D
                · rw [c, upd_same] at z; cases z
                · rw [upd_ne c] at z; exact q.dom a h z
              · have z := q.slot j s hj
                have nl : ∀ l, l ∈ B → l ≠ D := fun l hl q => hDB (q ▸ hl)
                cases s with
                | un => trivial
                | dat d => obtain ⟨v, h1, h2⟩ := z; exact ⟨v, h1, by rw [rm_upd (List.mem_cons_self ..)]; exact h2⟩
                | scr d => obtain ⟨v, h1, h2⟩ := z; exact ⟨v, h1, by rw [rm_upd (List.mem_cons_self ..)]; exact h2⟩
                | own ds => obtain ⟨l, xs, h1, h2, h3, h4, h5⟩ := z; exact ⟨l, xs, h1, h2, h3, by rw [upd_ne (nl l h2)]; exact h4, by rw [rm_upd (List.mem_cons_self ..)]; exact h5⟩
                | bor l ds => obtain ⟨xs, h1, h2, h3, h4, h5⟩ := z; exact ⟨xs, h1, h2, h3, by rw [upd_ne (nl l h2)]; exact h4, by rw [rm_upd (List.mem_cons_self ..)]; exact h5⟩
            exact q2
          · by_cases c : a = D
            · rw [c, upd_same] at e; cases e
            · rw [upd_ne c] at e; exact lv4 a (x5.live a e)
        · exact ⟨items.length - (n + 1), by omega, rfl, ρ4.set i .un, acc, ds, hlt, w4.2 ec, hD4, DtAll.up up4 hA, E5.swap (σ := σ) (i := i) hln hsl, fr4, lv4⟩
    · left
      have en : n = items.length := by omega
      rw [en] at w2 ⊢
      rw [List.drop_length] at w2
      refine ⟨hst, k ρ2 _ _ H2 w2 (x1.trans hEx) (E2.less E1.m0 E1.sub) (.lst (rm_of hDM hD) (DtAll.up (fun a o e => ?_) hA))⟩
      obtain ⟨z1, z2⟩ := rm_to e
      exact rm_of (fun c => z1 (List.mem_cons_of_mem _ c)) z2
def wYes : WT := fun ρ P => P ρ true
/-- [elt for x in iter if t] -/
theorem de_lcif (i : Nat) {elt iter c : Expr} {x : Str} {px pos : Pos} {scope : Scope} {wi : WI} {wt : WT} (hN : ∀ j, (X j).N.Nodup) (hi : DI X K (.Name x px) iter wi) (ht : DT (blkX X scope) K c wt) (he : DE (blkX X scope) K elt we)
    (ok : ∀ j, blkC (X j).N (X j).env.scope scope [(x, i)] = true := by intro j; decide +kernel) (hg : ∀ p, PG (blkX X scope p) (.Name x px) (gName i) := by intro p; exact pg_name (by assumption) rfl (Or.inl rfl))
    (hc : ∀ j, (X j).calm = true := by intro j; rfl) (hs : ∀ j x, foldedSetIterable iter (X j).env x = pure x := by intro _ _; rfl) : DE X K (.ListComp elt [⟨.Name x px, iter, [c], 0⟩] scope pos) (wLc i wi wt we) := by
  obtain ⟨ti, i1, i2⟩ := hi
  obtain ⟨tt, t1, t2⟩ := ht
  obtain ⟨te, e1, e2⟩ := he
  exact ⟨tLc ti (gName i) tt te [i], fun j => pe_lc (own := [(x, i)]) (hc j) (hN j) (i1 j) (blkOk_by (ok j)) (fun s H C cl fp => hg (j, s, H, C, cl, fp)) (fun s H C cl fp => pts_one (t1 (j, s, H, C, cl, fp))) (fun s H C cl fp => e1 (j, s, H, C, cl, fp)) (hs j), lc_read i2 t2 e2⟩
theorem de_lc (i : Nat) {elt iter : Expr} {x : Str} {px pos : Pos} {scope : Scope} {wi : WI} (hN : ∀ j, (X j).N.Nodup) (hi : DI X K (.Name x px) iter wi) (he : DE (blkX X scope) K elt we)
    (ok : ∀ j, blkC (X j).N (X j).env.scope scope [(x, i)] = true := by intro j; decide +kernel) (hg : ∀ p, PG (blkX X scope p) (.Name x px) (gName i) := by intro p; exact pg_name (by assumption) rfl (Or.inl rfl))
    (hc : ∀ j, (X j).calm = true := by intro j; rfl) (hs : ∀ j x, foldedSetIterable iter (X j).env x = pure x := by intro _ _; rfl) : DE X K (.ListComp elt [⟨.Name x px, iter, [], 0⟩] scope pos) (wLc i wi wYes we) := by
  obtain ⟨ti, i1, i2⟩ := hi
  obtain ⟨te, e1, e2⟩ := he
  exact ⟨tLc ti (gName i) tYes te [i], fun j => pe_lc (own := [(x, i)]) (hc j) (hN j) (i1 j) (blkOk_by (ok j)) (fun s H C cl fp => hg (j, s, H, C, cl, fp)) (fun s H C cl fp => pts_nil) (fun s H C cl fp => e1 (j, s, H, C, cl, fp)) (hs j),
    lc_read i2 (fun M0 M B σ H ρ P Q E w k => k ρ true H w (Ext.refl ..) E) e2⟩
end Pm
/-! Room for deep recursions: one frame a level (the hand layer's own Room takes three). -/
namespace Pm
open PySem PySem.Spec PyProof.Rows L2
structure Room (k : Nat) (A : Around) : Prop where
  hd : A.handled = none
  dp : A.depth + (k + 8) < recursionLimit
  un : A.units + (4 * k + 400) < cLine
  gd : A.guards = some []
theorem Room.mono {j k : Nat} {A : Around} (r : Room k A) (h : j ≤ k) : Room j A := ⟨r.hd, by have a := r.dp; omega, by have a := r.un; omega, r.gd⟩
theorem Room.deeper {k : Nat} {A : Around} (r : Room (k + 1) A) (z : PySem.Env) : Room k (A.deeper z) where
  hd := r.hd
  dp := by
    have a := r.dp
    show (A.depth + 1) + (k + 8) < _
    omega
  un := by
    have a := r.un
    show (A.units + 3) + (4 * k + 400) < _
    omega
  gd := r.gd
theorem Room.units {k : Nat} {A : Around} (r : Room k A) : A.units + 64 < cLine := by
  have a := r.un
  omega
theorem Room.depth {k : Nat} {A : Around} (r : Room k A) : A.depth < recursionLimit := by
  have a := r.dp
  omega
section
variable {P : Program} {w : World} {K : Fr} {mg : Str → Option Value} {base : Heap} {CX : CXT} {k j : Nat} {f : Addr} {fd : FuncData} {ps : List Str} {sp : Sp}
/-- the run of a def, where there is room for k levels -/
structure FnOk (P : Program) (w : World) (K : Fr) (mg : Str → Option Value) (base : Heap) (CX : CXT) (k : Nat) (f : Addr) (fd : FuncData) (ps : List Str) (sp : Sp) : Prop where
  len : ∀ vs H Q E, sp vs H Q E → vs.length = ps.length
  run : ∀ (A : Around), Room k A → ∀ (fr : List PySem.Env) (s : Shared) (H : Hp) (as : Args) (us : List Value) (vs : List V) (Q : VK) (E : XK),
    Env0 P w K mg base A fr s H → BindsTo s fd as (ps.zip us) → Vals vs us → sp vs H Q E → codeAny (model P w) A (.call (.ref f) as) (CR CX fr P w H s Q E) s
end
section
variable {X : Cx} {CX : CXT} {k : Nat} {f : Addr} {fd : FuncData} {ps : List Str} {sp : Sp} {ds : List Value} {dvs : List V} {E : XK} {x : Str} {p pos : Pos} {e : Expr} {es : List Expr} {t : TA}
/-- the end of a call, as the caller goes on -/
theorem back_of {pins : List (Addr × Obj)} {σ : L2.St} {H : Hp} {s : Shared} {Q : VK} (I : Inv X pins σ H s) (hx : Passes CX X E) : ∀ (r : Result) (s' : Shared), CR CX X.stack X.prog X.w H s Q E r s' → (match r with
    | .ok (.ret u) => EP X pins σ Q u s'
    | .ok _ => False
    | .error u => X.xe u s')
  | .error _, _, q => hx _ _ _ _ _ _ I q
  | .ok (.ret _), _, q => I.after q
  | .ok .next, _, q => q.elim
  | .ok .brk, _, q => q.elim
  | .ok .cont, _, q => q.elim
theorem runF {pins : List (Addr × Obj)} {σ : L2.St} {H : Hp} {s : Shared} {Q : VK} {us : List Value} {vs : List V} (F : FnOk X.prog X.w X.K X.mg X.base CX k f fd ps sp) (room : Room k X.A) (bind : Binds X.K fd ps ds) (hd : Vals dvs ds)
    (hx : Passes CX X E) (I : Inv X pins σ H s) (rl : Vals vs us) (want : sp (vs ++ dvs) H Q E) : wpAny (model X.prog X.w) X.A (call (.ref f) us) (EP X pins σ Q) X.xe s := by
  have both := rl.append hd
  have len : (us ++ ds).length = ps.length := both.length ▸ F.len _ _ _ _ want
  have go := F.run X.A room X.stack s H ⟨us, []⟩ _ _ Q E I.env0 (bind s us I.kIn len) both want
  exact wpAny_call (codeAny_mono go fun r s' q => by
    have z := back_of I hx r s' q
    match r, z with
    | .error _, z => exact z
    | .ok (.ret _), z => exact z)
theorem pe_call (F : FnOk X.prog X.w X.K X.mg X.base CX k f fd ps sp) (room : Room k X.A) (hg : Gl X x) (hm : X.mg x = some (.ref f)) (keep : PySem.W.keepIn X.K (.ref f) = true) (bind : Binds X.K fd ps ds) (hd : Vals dvs ds) (hx : Passes CX X E) (ha : PA X (e :: es) t)
    (hdb : (x == ("__debug__" : Str)) = false := by decide) (st : starEach (e :: es) X.env = (false, eval e X.env) :: starEach es X.env := by rfl) (pl : (backTo pos (starEach es X.env)).any (·.1) = false := by rfl) : PE X (.Call (.Name x p) (e :: es) [] pos) (tCall sp dvs E t) :=
  ⟨fun pins s σ H Q I want => wpAny_Call_Name_kw (ld_glob I hg hm (PySem.W.callWith_K (h₀ := X.base) I.ok.mod.kin keep (thn (ha.run pos pins s σ H _ I want) fun us s1 o => by
    obtain ⟨vs, H1, J, rl, q⟩ := o
    exact ⟨J.kIn, runF F room bind hd hx J rl q⟩) st pl) hdb)⟩
theorem pe_call0 (F : FnOk X.prog X.w X.K X.mg X.base CX k f fd ps sp) (room : Room k X.A) (hg : Gl X x) (hm : X.mg x = some (.ref f)) (keep : PySem.W.keepIn X.K (.ref f) = true) (bind : Binds X.K fd ps ds) (hd : Vals dvs ds) (hx : Passes CX X E)
    (hdb : (x == ("__debug__" : Str)) = false := by decide) : PE X (.Call (.Name x p) [] [] pos) (tCall sp dvs E tNil) :=
  ⟨fun pins s σ H Q I want => wpAny_Call_Name_kw (ld_glob I hg hm (PySem.W.callWith_K0 I.kIn keep (runF (us := []) F room bind hd hx I .nil want)) hdb)⟩
end
/-- a def of the text by its body -/
theorem Fun_ok {P : Program} {w : World} {K : Fr} {mg : Str → Option Value} {base : Heap} {x qual : Str} {st : Stmt} {f : Addr} {fd : FuncData} {N ps : List Str} {k : Nat} {sp : Sp} (F : Fun K x qual st f fd) (sc : FnScope N ps (defScope st)) (len : ∀ vs H Q E, sp vs H Q E → vs.length = ps.length)
    (body : ∀ (cdv : Value) (A : Around) (outer : List PySem.Env) (s : Shared) (H : Hp) (vs : List V) (Q : VK) (E : XK), Room k (A.deeper (envOfC qual (defScope st) s.heap.objs.size f cdv)) → sp vs H Q E →
      ∃ t, PSs (cxOf CX0 P w K mg base N qual (defScope st) f cdv A outer s H E).nox (defBody st) t ∧ t { nx := fun _ H' => Q .non H', rt := Q } (L2.start N vs) H) : FnOk P w K mg base CX0 (k + 1) f fd ps sp where
  len := len
  run := fun A room outer s H as us vs Q E st0 bnd rl want => by
    obtain ⟨oc, od, kV, doc, pm, an, cdv, ct, osl, rfl, look, code⟩ := F.ex
    have keeps : ∀ b o, base.get? b = some o → s.heap.get? b = some o := fun b o q => (st0.bs b o q).1
    have kin := st0.mod.kin.keeps keeps
    have kinds : ∀ y ∈ ps.zip us, (defScope st).names.lookup y.1 = some .local ∨ ((defScope st).names.lookup y.1 = some .cell ∧ ((cellsFrom (s.heap.objs.size + 1) (defScope st).names []).lookup y.1).isSome = true) := by
      rintro ⟨n, v⟩ hy
      exact (sc.par n (List.of_mem_zip hy).1).imp id fun q => ⟨q, PySem.W.cellsFrom_some _ _ _ (.inl q)⟩
    refine codeAny_call_function room.depth (kin _ _ look) rfl sc.co sc.gen rfl (PySem.W.codeRec_of kin code) (bnd _ _ _ _ ?_)
    refine wpAny_newFunctionEnv_cells sc.kind kinds fun env he s1 x => ?_
    subst he
    refine ⟨(st0.mod.nolimit.keeps keeps).keeps x.toInCall.keep, codeAny_func ?_⟩
    obtain ⟨t, ht, hq⟩ := body cdv A outer s H vs Q E (room.deeper _) want
    have I := inv_start (CX := CX0) (E := E) sc room.hd st0 (len _ _ _ _ want) rl x
    refine wpAny_mono (ht.nox.run [] s1 _ H _ I hq) (fun fl s' o => ?_) fun _ _ o => o
    match fl, o with
    | .ret u, ⟨v, _, H', J, rv, q⟩ => exact ⟨v, H', J.os, J.bare, J.base, J.hok, rv, q⟩
    | .next, ⟨_, H', J, q⟩ => exact ⟨.non, H', J.os, J.bare, J.base, J.hok, rfl, q⟩
    | .brk, ⟨_, _, _, q⟩ => exact q.elim
    | .cont, ⟨_, _, _, q⟩ => exact q.elim
end Pm
namespace Pm
open PySem PySem.Spec PyProof.Rows L2
variable {ι : Type} {X : ι → Cx} {K : Fr} {a b e tg : Expr} {es : List Expr} {wa wb we : WE} {pos : Pos}
/-! ### a def by data: what its call asks (S: arguments, what is wanted of the answer) -/
abbrev SpD := List PyData → (PyData → Prop) → Prop
def spP (K : Fr) (S : SpD) : Sp := fun vs H Q _ => ∃ (M : List Addr) (ds : List PyData) (P : PyData → Prop), (∀ a, a ∈ M → H a ≠ none) ∧ DtAll K (rm M H) vs ds ∧ S ds P ∧ ∀ d v H', P d → Same H H' → Dt K (rm M H') v d → Q v H'
/-- .. the first argument a list that the def may change -/
abbrev SpW := List PyData → List PyData → (List PyData → PyData → Prop) → Prop
def spW (K : Fr) (S : SpW) : Sp := fun vs H Q _ => ∃ (M : List Addr) (l : Addr) (us xs : List V) (ws ds : List PyData) (P : List PyData → PyData → Prop), vs = .ref l :: us ∧ (∀ a, a ∈ M → H a ≠ none) ∧ l ∈ M ∧ H l = some (.lst xs) ∧ DtAll K (rm M H) xs ws ∧ DtAll K (rm M H) us ds ∧ S ws ds P ∧
  ∀ ws' d v H' xs', P ws' d → (∀ a o, a ≠ l → H a = some o → H' a = some o) → H' l = some (.lst xs') → DtAll K (rm M H') xs' ws' → Dt K (rm M H') v d → Q v H'
/-- what stands behind a name of the module: a def with its promise -/
def CallOk (Y : Cx) (x : Str) (sp : Sp) : Prop := ∃ (k : Nat) (f : Addr) (fd : FuncData) (ps : List Str), FnOk Y.prog Y.w Y.K Y.mg Y.base CX0 k f fd ps sp ∧ Room k Y.A ∧ Y.mg x = some (.ref f) ∧ PySem.W.keepIn Y.K (.ref f) = true ∧ Binds Y.K fd ps []
def wCall (S : SpD) (wa : WA) : WE := fun ρ P => wa ρ fun ρ1 ds => S ds fun d => P ρ1 d
theorem de_call {x : Str} {S : SpD} {w : WA} {p : Pos} (c : ∀ i, CallOk (X i) x (spP K S)) (h : DA X K (e :: es) w) (hg : ∀ i, Gl (X i) x := by intro i; rfl) (hdb : (x == ("__debug__" : Str)) = false := by decide)
    (he : ∀ i, starEach (e :: es) (X i).env = (false, eval e (X i).env) :: starEach es (X i).env := by intro i; rfl) (hpl : ∀ i, (backTo pos (starEach es (X i).env)).any (·.1) = false := by intro i; rfl) : DE X K (.Call (.Name x p) (e :: es) [] pos) (wCall S w) := by
  obtain ⟨t, a1, a2⟩ := h
  refine ⟨tCall (spP K S) [] E0 t, fun i => ?_, fun M0 M B σ H ρ P Q E w k => ?_⟩
  · obtain ⟨k, f, fd, ps, F, hr, hm, hk, hb⟩ := c i
    exact pe_call F hr (hg i) hm hk hb .nil pass0 (a1 i) hdb (he i) (hpl i)
  · refine a2 M0 M B σ H ρ _ _ E w fun ρ1 ds vs H1 w1 x1 E1 r1 => ?_
    refine ⟨M, ds, _, E1.dom, by rw [List.append_nil]; exact r1, w1, fun d v H2 p e2 r2 => ?_⟩
    exact k ρ1 d v H2 p (x1.trans (Ext.same e2)) (E1.same e2) r2
/-- .. without arguments -/
theorem de_call0 {x : Str} {S : SpD} {p : Pos} (c : ∀ i, CallOk (X i) x (spP K S)) (hg : ∀ i, Gl (X i) x := by intro i; rfl) (hdb : (x == ("__debug__" : Str)) = false := by decide) : DE X K (.Call (.Name x p) [] [] pos) (wCall S wNil) := by
  refine ⟨tCall (spP K S) [] E0 tNil, fun i => ?_, fun M0 M B σ H ρ P Q E w k => ?_⟩
  · obtain ⟨k, f, fd, ps, F, hr, hm, hk, hb⟩ := c i
    exact pe_call0 F hr (hg i) hm hk hb .nil pass0 hdb
  · exact ⟨M, [], _, E.dom, .nil, w, fun d v H2 p e2 r2 => k ρ d v H2 p (Ext.same e2) (E.same e2) r2⟩
/-- a def whose first argument is a list that is put away, here the name in slot j -/
def wCallW (S : SpW) (j : Nat) (wa : WA) : WE := fun ρ P => (∃ ds0, (ρ.at j).items = some ds0) ∧ wa ρ fun ρ1 ds => ∃ ws, (ρ1.at j).items = some ws ∧ S ws ds fun ws' d => P (ρ1.set j ((ρ1.at j).put ws')) d
theorem de_callW (j : Nat) {x : Str} {S : SpW} {w : WA} {p : Pos} (c : ∀ i, CallOk (X i) x (spW K S)) (h : DA X K es w) (hv : ∀ i, PE (X i) a (tVar j) := by intro i; exact pv _) (hg : ∀ i, Gl (X i) x := by intro i; rfl) (hdb : (x == ("__debug__" : Str)) = false := by decide)
    (he : ∀ i, starEach (a :: es) (X i).env = (false, eval a (X i).env) :: starEach es (X i).env := by intro i; rfl) (hpl : ∀ i, (backTo pos (starEach es (X i).env)).any (·.1) = false := by intro i; rfl) : DE X K (.Call (.Name x p) (a :: es) [] pos) (wCallW S j w) := by
  obtain ⟨t, a1, a2⟩ := h
  refine ⟨tCall (spW K S) [] E0 (tCons (tVar j) t), fun i => ?_, fun M0 M B σ H ρ P Q E w k => ?_⟩
  · obtain ⟨k, f, fd, ps, F, hr, hm, hk, hb⟩ := c i
    exact pe_call F hr (hg i) hm hk hb .nil pass0 (pa_cons (hv i) (a1 i) (he i)) hdb (he i) (hpl i)
  · obtain ⟨⟨ds0, h0⟩, w⟩ := w
    obtain ⟨l0, xs0, _, _, hl0, _⟩ := E.lst h0
    refine ⟨_, hl0, ?_⟩
    refine a2 M0 M B σ H ρ _ _ E w fun ρ1 ds vs H1 w1 x1 E1 r1 => ?_
    obtain ⟨ws, h1, w1⟩ := w1
    obtain ⟨l, xs, hs, hL, hl, hlB, h4, h5, h6⟩ := E1.lst h1
    rw [hl0] at hl
    injection hl with hl; injection hl with hl; injection hl with hl
    subst hl
    refine ⟨M, l0, vs, xs, ws, ds, _, by rw [List.append_nil], E1.dom, E1.sub _ hlB, h4, h5, r1, w1, fun ws' d v H2 xs' p kp h7 h8 r2 => ?_⟩
    have ext : Ext M B H1 M B H2 := ⟨fun _ h => h, fun _ h => .inl h, fun _ h => h, fun _ h => .inl h, fun a o nb e => kp a o (fun q => nb (q ▸ hlB)) e, fun a e => by
      cases hz : H1 a with
      | none => rfl
      | some o =>
        by_cases c : a = l0
        · rw [c, h7] at e; cases e
        · rw [kp a o c hz] at e; cases e⟩
    refine k _ d v H2 p (x1.trans ext) (E1.put hs hL hl0 h7 h8 kp ?_) r2
    rcases h6 with ⟨es, h6⟩ | ⟨es, h6⟩
    · exact .inl ⟨es, h6, by rw [h6]; rfl⟩
    · exact .inr ⟨es, h6, by rw [h6]; rfl⟩
/-! ### statements -/
structure DEnds where
  nx : Env → Prop
  rt : Env → PyData → Prop
  bk : Env → Prop := fun _ => False
  ct : Env → Prop := fun _ => False
abbrev WS := DEnds → Env → Prop
structure Fits (K : Fr) (M0 M B : List Addr) (H : Hp) (E : DEnds) (D : Ends) : Prop where
  nx : ∀ ρ' M' B' σ' H', E.nx ρ' → Ext M B H M' B' H' → EnvOk K M0 M' B' H' σ' ρ' → D.nx σ' H'
  bk : ∀ ρ' M' B' σ' H', E.bk ρ' → Ext M B H M' B' H' → EnvOk K M0 M' B' H' σ' ρ' → D.bk σ' H'
  ct : ∀ ρ' M' B' σ' H', E.ct ρ' → Ext M B H M' B' H' → EnvOk K M0 M' B' H' σ' ρ' → D.ct σ' H'
  rt : ∀ ρ' d v M' B' σ' H', E.rt ρ' d → Ext M B H M' B' H' → EnvOk K M0 M' B' H' σ' ρ' → Dt K (rm M0 H') v d → D.rt v H'
theorem Fits.go {M0 M B M' B' : List Addr} {H H' : Hp} {E : DEnds} {D : Ends} (F : Fits K M0 M B H E D) (x : Ext M B H M' B' H') : Fits K M0 M' B' H' E D :=
  ⟨fun ρ' M2 B2 σ' H2 h y => F.nx ρ' M2 B2 σ' H2 h (x.trans y), fun ρ' M2 B2 σ' H2 h y => F.bk ρ' M2 B2 σ' H2 h (x.trans y), fun ρ' M2 B2 σ' H2 h y => F.ct ρ' M2 B2 σ' H2 h (x.trans y), fun ρ' d v M2 B2 σ' H2 h y => F.rt ρ' d v M2 B2 σ' H2 h (x.trans y)⟩
def DS (Y : Cx) (K : Fr) (st : Stmt) (w : WS) : Prop := ∃ t : TS, PS Y st t ∧ ∀ (M0 M B : List Addr) (σ : L2.St) (H : Hp) (ρ : Env) (E : DEnds) (D : Ends), EnvOk K M0 M B H σ ρ → w E ρ → Fits K M0 M B H E D → t D σ H
def DSs (Y : Cx) (K : Fr) (st : List Stmt) (w : WS) : Prop := ∃ t : TS, PSs Y st t ∧ ∀ (M0 M B : List Addr) (σ : L2.St) (H : Hp) (ρ : Env) (E : DEnds) (D : Ends), EnvOk K M0 M B H σ ρ → w E ρ → Fits K M0 M B H E D → t D σ H
/-- one context -/
abbrev one (Y : Cx) : Unit → Cx := fun _ => Y
section
variable {Y : Cx} {st : Stmt} {rest : List Stmt} {w u : WS}
def wSeq (w u : WS) : WS := fun E ρ => w { E with nx := u E } ρ
theorem dss_cons (h1 : DS Y K st w) (h2 : DSs Y K rest u) : DSs Y K (st :: rest) (wSeq w u) := by
  obtain ⟨t, a1, a2⟩ := h1
  obtain ⟨s, b1, b2⟩ := h2
  refine ⟨tSeq t s, pss_cons a1 b1, fun M0 M B σ H ρ E D Ev h F => ?_⟩
  refine a2 M0 M B σ H ρ _ _ Ev h ⟨fun ρ' M' B' σ' H' p x E' => ?_, F.bk, F.ct, F.rt⟩
  exact b2 M0 M' B' σ' H' ρ' E D E' p (F.go x)
theorem dss_one (h1 : DS Y K st w) : DSs Y K [st] w := by
  obtain ⟨t, a1, a2⟩ := h1
  exact ⟨t, pss_one a1, a2⟩
def wSkip : WS := fun E ρ => E.nx ρ
theorem dss_nil : DSs Y K [] wSkip := ⟨tNext, pss_nil, fun M0 M B σ H ρ E D Ev h F => F.nx ρ M B σ H h (Ext.refl ..) Ev⟩
def wBreak : WS := fun E ρ => E.bk ρ
def wCont : WS := fun E ρ => E.ct ρ
theorem ds_pass {p : Pos} : DS Y K (.Pass p) wSkip := ⟨_, ps_pass, fun M0 M B σ H ρ E D Ev h F => F.nx ρ M B σ H h (Ext.refl ..) Ev⟩
theorem ds_break {p : Pos} : DS Y K (.Break p) wBreak := ⟨_, ps_break, fun M0 M B σ H ρ E D Ev h F => F.bk ρ M B σ H h (Ext.refl ..) Ev⟩
theorem ds_continue {p : Pos} : DS Y K (.Continue p) wCont := ⟨_, ps_continue, fun M0 M B σ H ρ E D Ev h F => F.ct ρ M B σ H h (Ext.refl ..) Ev⟩
def wRet (we : WE) : WS := fun E ρ => we ρ fun ρ1 d => E.rt ρ1 d
theorem rm_sub {M0 M : List Addr} {H : Hp} (h : ∀ a, a ∈ M0 → a ∈ M) : Same (rm M H) (rm M0 H) := fun a o e => by
  obtain ⟨z1, z2⟩ := rm_to e
  exact rm_of (fun c => z1 (h a c)) z2
theorem ds_ret (h : DE (one Y) K e we) : DS Y K (.Return (some e) pos) (wRet we) := by
  obtain ⟨t, a1, a2⟩ := h
  refine ⟨tRet t, ps_ret (a1 ()), fun M0 M B σ H ρ E D Ev h F => ?_⟩
  exact a2 M0 M B σ H ρ _ _ Ev h fun ρ1 d v H1 w1 x1 E1 r1 => F.rt ρ1 d v M B σ H1 w1 x1 E1 (Dt.up (rm_sub Ev.m0) r1)
def wRetN : WS := fun E ρ => E.rt ρ .none
theorem ds_retN : DS Y K (.Return none pos) wRetN := ⟨tRetN, ps_retN, fun M0 M B σ H ρ E D Ev h F => F.rt ρ .none .non M B σ H h (Ext.refl ..) Ev .non⟩
/-- return x, x a list of the def's own -/
def wRetO (j : Nat) : WS := fun E ρ => ∃ ds, ρ.at j = .own ds ∧ E.rt ρ (.list ds)
theorem ds_retO (j : Nat) (hv : PE Y e (tVar j) := by exact pv _) : DS Y K (.Return (some e) pos) (wRetO j) := by
  refine ⟨tRet (tVar j), ps_ret hv, fun M0 M B σ H ρ E D Ev h F => ?_⟩
  obtain ⟨ds, h1, h⟩ := h
  obtain ⟨l, xs, h2, h3, h4, h5, h6⟩ := Ev.slot j _ (Env.at_get h1 (by intro z; cases z))
  exact ⟨_, h2, F.rt ρ _ _ M B σ H h (Ext.refl ..) Ev (.lst (rm_of h4 h5) (DtAll.up (rm_sub Ev.m0) h6))⟩
def wIf (t : WT) (w u : WS) : WS := fun E ρ => t ρ fun ρ1 c => (c = true → w E ρ1) ∧ (c = false → u E ρ1)
theorem ds_if {c : Expr} {x y : List Stmt} {t : WT} (hc : DT (one Y) K c t) (h1 : DSs Y K x w) (h2 : DSs Y K y u) : DS Y K (.If c x y pos) (wIf t w u) := by
  obtain ⟨t, c1, c2⟩ := hc
  obtain ⟨s1, a1, a2⟩ := h1
  obtain ⟨s2, b1, b2⟩ := h2
  refine ⟨tIfS t s1 s2, ps_if (c1 ()) a1 b1, fun M0 M B σ H ρ E D Ev h F => ?_⟩
  refine c2 M0 M B σ H ρ _ _ Ev h fun ρ1 c H1 w1 x1 E1 => ite_of (fun e => ?_) (fun e => ?_)
  · exact a2 M0 M B σ H1 ρ1 E D E1 (w1.1 e) (F.go x1)
  · exact b2 M0 M B σ H1 ρ1 E D E1 (w1.2 e) (F.go x1)
/-- x = e -/
def wSet (i : Nat) (we : WE) : WS := fun E ρ => we ρ fun ρ1 d => E.nx (ρ1.set i (.dat d))
theorem ds_set (i : Nat) {x : Str} {px : Pos} (nd : Y.N.Nodup) (h : DE (one Y) K e we) (hp : Y.N.Nodup → ∀ t, PE Y e t → PS Y (.Assign [.Name x px] e pos) (tAsg t (gName i)) := by intro nd t h; exact ps_set nd rfl (by first | exact Or.inl rfl | exact Or.inr rfl) h) : DS Y K (.Assign [.Name x px] e pos) (wSet i we) := by
  obtain ⟨t, a1, a2⟩ := h
  refine ⟨tAsg t (gName i), hp nd t (a1 ()), fun M0 M B σ H ρ E D Ev h F => ?_⟩
  exact a2 M0 M B σ H ρ _ _ Ev h fun ρ1 d v H1 w1 x1 E1 r1 => F.nx _ M B _ H1 w1 x1 (E1.set i r1)
/-- x = [] -/
def wNew (i : Nat) : WS := fun E ρ => E.nx (ρ.set i (.own []))
theorem ds_new (i : Nat) {x : Str} {px pl : Pos} (nd : Y.N.Nodup) (hp : Y.N.Nodup → PS Y (.Assign [.Name x px] (.List [] pl) pos) (tAsg (tLst tNil) (gName i)) := by intro nd; exact ps_set nd rfl (by first | exact Or.inl rfl | exact Or.inr rfl) (pe_lst pa_nil)) : DS Y K (.Assign [.Name x px] (.List [] pl) pos) (wNew i) := by
  refine ⟨_, hp nd, fun M0 M B σ H ρ E D Ev h F => ?_⟩
  refine ⟨Nat.zero_le _, fun p np => ?_⟩
  have hpM : p ∉ M := fun c => Ev.dom p c np
  have nd : Same (rm M H) (rm (p :: M) (upd H p (.lst []))) := fun a o e => by
    obtain ⟨z1, z2⟩ := rm_to e
    have n : a ≠ p := fun q => by rw [q, np] at z2; cases z2
    refine rm_of (fun c => ?_) (by rw [upd_ne n]; exact z2)
    rcases List.mem_cons.mp c with q | q
    · exact n q
    · exact z1 q
  have nd2 : Same (rm M (upd H p (.lst []))) (rm (p :: M) (upd H p (.lst []))) → True := fun _ => trivial
  have E1 : EnvOk K M0 (p :: M) B (upd H p (.lst [])) σ ρ := Ev.more np upd_same fun a u n e => by rw [upd_ne n]; exact e
  refine F.nx _ (p :: M) (p :: B) _ _ h ⟨fun a h => List.mem_cons_of_mem _ h, fun a h => ?_, fun a h => List.mem_cons_of_mem _ h, fun a h => ?_, fun a o _ e => same_new np a o e, fun a e => (same_new np).free e⟩ ?_
  · rcases List.mem_cons.mp h with q | q
    · rw [q]; exact .inr np
    · exact .inl q
  · rcases List.mem_cons.mp h with q | q
    · rw [q]; exact .inr np
    · exact .inl q
  · -- the slot
    refine ⟨by rw [List.length_set, List.length_set]; exact E1.len, fun a h => ?_, E1.dom, E1.m0, fun j s hj => ?_, fun j k s s' l' n h1 h2 l1 l2 s1 s2 => ?_⟩
    · rcases List.mem_cons.mp h with q | q
      · rw [q]; exact List.mem_cons_self ..
      · exact E1.sub a q
    · rcases get_set_some hj with ⟨rfl, rfl, hl⟩ | ⟨n, hj'⟩
      · exact ⟨p, [], get_set_eq (by rw [E1.len]; exact hl), List.mem_cons_self .., fun c => hpM (Ev.m0 _ c), upd_same, .nil⟩
      · rw [get_set_ne n]
        have z := E1.slot j s hj'
        cases s with
        | un => trivial
        | dat d => exact z
        | scr d => exact z
        | own ds => obtain ⟨l, xs, h1, h2, h3⟩ := z; exact ⟨l, xs, h1, List.mem_cons_of_mem _ h2, h3⟩
        | bor l ds => obtain ⟨xs, h1, h2, h3⟩ := z; exact ⟨xs, h1, List.mem_cons_of_mem _ h2, h3⟩
    · have old : ∀ (j : Nat) (s : SV), ρ[j]? = some s → s.isL = true → σ[j]? = some (some (.ref p)) → False := fun j s hj hs e => by
        have z := Ev.slot j s hj
        cases s with
        | un => cases hs
        | dat d => cases hs
        | scr d => cases hs
        | own ds =>
          obtain ⟨l2, xs, h1, h2, _⟩ := z
          rw [h1] at e
          injection e with e; injection e with e; injection e with e
          exact hpM (e ▸ Ev.sub _ h2)
        | bor l2 ds =>
          obtain ⟨xs, h1, h2, _⟩ := z
          rw [h1] at e
          injection e with e; injection e with e; injection e with e
          exact hpM (e ▸ Ev.sub _ h2)
      rcases get_set_some h1 with ⟨rfl, rfl, hl1⟩ | ⟨n1, h1'⟩
      · rw [get_set_eq (by rw [Ev.len]; exact hl1)] at s1
        injection s1 with s1; injection s1 with s1; injection s1 with s1
        rcases get_set_some h2 with ⟨rfl, rfl, _⟩ | ⟨n2, h2'⟩
        · exact n rfl
        · rw [get_set_ne n2] at s2
          rw [← s1] at s2
          exact old k s' h2' l2 s2
      · rw [get_set_ne n1] at s1
        rcases get_set_some h2 with ⟨rfl, rfl, hl2⟩ | ⟨n2, h2'⟩
        · rw [get_set_eq (by rw [Ev.len]; exact hl2)] at s2
          injection s2 with s2; injection s2 with s2; injection s2 with s2
          rw [← s2] at s1
          exact old j s h1' l1 s1
        · rw [get_set_ne n2] at s2
          exact Ev.sep j k s s' l' n h1' h2' l1 l2 s1 s2
theorem put_or {ρ : Env} {j : Nat} {l : Addr} {ds : List PyData} (h : (∃ es, ρ.at j = .own es) ∨ ∃ es, ρ.at j = .bor l es) : (∃ es, ρ.at j = .own es ∧ (ρ.at j).put ds = .own ds) ∨ ∃ es, ρ.at j = .bor l es ∧ (ρ.at j).put ds = .bor l ds := by
  rcases h with ⟨es, h⟩ | ⟨es, h⟩
  · exact .inl ⟨es, h, by rw [h]; rfl⟩
  · exact .inr ⟨es, h, by rw [h]; rfl⟩
theorem ext_at {M B : List Addr} {H : Hp} {l : Addr} {o : HO} (hl : l ∈ B) : Ext M B H M B (upd H l o) :=
  ⟨fun _ h => h, fun _ h => .inl h, fun _ h => h, fun _ h => .inl h, fun a o nb e => by rw [upd_ne (fun q => nb (by rw [q]; exact hl))]; exact e, fun a e => by
    by_cases c : a = l
    · rw [c, upd_same] at e; cases e
    · rw [upd_ne c] at e; exact e⟩
/-- x.append(e) -/
def wApp (j : Nat) (we : WE) : WS := fun E ρ => (∃ ds0, (ρ.at j).items = some ds0) ∧ we ρ fun ρ1 d => ∃ ds, (ρ1.at j).items = some ds ∧ ds.length < sizeLine ∧ E.nx (ρ1.set j ((ρ1.at j).put (ds ++ [d])))
theorem ds_app (j : Nat) {o : Expr} {apos cpos : Pos} (h : DE (one Y) K e we) (hv : PE Y o (tVar j) := by exact pv _) (hK : Y.K = K := by rfl) (he : starEach (e :: []) Y.env = (false, eval e Y.env) :: starEach [] Y.env := by rfl)
    (hp : ∀ t, PE Y o (tVar j) → PA Y [e] t → PS Y (.Expr (.Call (.Attribute o "append" apos) [e] [] cpos) pos) (tDrop (tBM Y.K "list" rAppend (tVar j) t)) := by intro t h1 h2; exact ps_expr (pe_bm PySem.F.plainAttrs_list PySem.F.slot_list_append PySem.F.type_list_append mt_append h1 h2)) :
    DS Y K (.Expr (.Call (.Attribute o "append" apos) [e] [] cpos) pos) (wApp j we) := by
  obtain ⟨t, a1, a2⟩ := h
  refine ⟨_, hp _ hv (pa_cons (a1 ()) pa_nil he), fun M0 M B σ H ρ E D Ev h F => ?_⟩
  obtain ⟨⟨ds0, h0⟩, h⟩ := h
  obtain ⟨l0, xs0, _, _, hl0, _, h40, _⟩ := Ev.lst h0
  refine ⟨_, hl0, .inl ⟨rfl, xs0, SqL.of h40⟩, ?_⟩
  refine a2 M0 M B σ H ρ _ _ Ev h fun ρ1 d v H1 w1 x1 E1 r1 => ?_
  obtain ⟨ds, h1, hz, w1⟩ := w1
  obtain ⟨l, xs, hs, hL, hl, hlB, h4, h5, h6⟩ := E1.lst h1
  rw [hl0] at hl
  injection hl with hl; injection hl with hl; injection hl with hl
  subst hl
  refine ⟨l0, xs, v, rfl, rfl, h4, by rw [DtAll.len h5]; exact hz, ?_⟩
  refine F.nx _ M B σ _ w1 (x1.trans (ext_at hlB)) (E1.put hs hL hl0 upd_same (by rw [rm_upd (E1.sub _ hlB)]; exact DtAll.app h5 (.cons r1 .nil)) (fun a o n e => by rw [upd_ne n]; exact e) (put_or h6))
/-- x[k] = e -/
def wPut (j : Nat) (we wk : WE) : WS := fun E ρ => we ρ fun ρ1 d => (∃ ds0, (ρ1.at j).items = some ds0) ∧ wk ρ1 fun ρ2 k => ∃ ds, (ρ2.at j).items = some ds ∧ ∃ n, k = .int n ∧ ∃ m, ixN ds.length n = some m ∧ E.nx (ρ2.set j ((ρ2.at j).put (ds.set m d)))
theorem ds_put (j : Nat) {o k : Expr} {wk : WE} {tp : Pos} (h : DE (one Y) K e we) (hk : DE (one Y) K k wk) (hv : PE Y o (tVar j) := by exact pv _)
    (hp : ∀ t u, PE Y e t → PE Y o (tVar j) → PE Y k u → PS Y (.Assign [.Subscript o k tp] e pos) (tAsg t (gSub (tVar j) u rSetL)) := by intro t u h1 h2 h3; exact ps_asg h1 (pg_sub h2 h3 set_list)) : DS Y K (.Assign [.Subscript o k tp] e pos) (wPut j we wk) := by
  obtain ⟨t, a1, a2⟩ := h
  obtain ⟨u, b1, b2⟩ := hk
  refine ⟨_, hp t u (a1 ()) hv (b1 ()), fun M0 M B σ H ρ E D Ev h F => ?_⟩
  refine a2 M0 M B σ H ρ _ _ Ev h fun ρ1 d v H1 w1 x1 E1 r1 => ?_
  obtain ⟨⟨ds0, h0⟩, w1⟩ := w1
  obtain ⟨l0, xs0, _, _, hl0, _⟩ := E1.lst h0
  refine ⟨_, hl0, ?_⟩
  refine b2 M0 M B σ H1 ρ1 _ _ E1 w1 fun ρ2 d2 v2 H2 w2 x2 E2 r2 => ?_
  obtain ⟨ds, h1, n, rfl, m, hm, w2⟩ := w2
  obtain ⟨l, xs, hs, hL, hl, hlB, h4, h5, h6⟩ := E2.lst h1
  rw [hl0] at hl
  injection hl with hl; injection hl with hl; injection hl with hl
  subst hl
  rw [Dt.isInt r2]
  refine ⟨l0, xs, n, m, rfl, rfl, h4, by rw [DtAll.len h5]; exact hm, ?_⟩
  refine F.nx _ M B σ _ w2 ((x1.trans x2).trans (ext_at hlB)) (E2.put hs hL hl0 upd_same (by rw [rm_upd (E2.sub _ hlB)]; exact DtAll.setAt (E1.up x2 r1) m h5) (fun a o n e => by rw [upd_ne n]; exact e) (put_or h6))
/-! ### targets -/
abbrev WG := PyData → Env → (Env → Prop) → Prop
def DG (Y : Cx) (K : Fr) (tg : Expr) (w : WG) : Prop := ∃ g : TG, PG Y tg g ∧ ∀ (M0 M B : List Addr) (σ : L2.St) (H : Hp) (ρ : Env) (d : PyData) (v : V) (P : Env → Prop) (Q : L2.St → Hp → Prop), EnvOk K M0 M B H σ ρ → Dt K (rm M H) v d → w d ρ P → (∀ ρ' σ', P ρ' → EnvOk K M0 M B H σ' ρ' → Q σ' H) → g v σ H Q
def gN (i : Nat) : WG := fun d ρ P => P (ρ.set i (.dat d))
theorem dg_name (i : Nat) {x : Str} {px : Pos} (nd : Y.N.Nodup) (hp : Y.N.Nodup → PG Y (.Name x px) (gName i) := by intro nd; exact pg_name nd rfl (by first | exact Or.inl rfl | exact Or.inr rfl)) : DG Y K (.Name x px) (gN i) :=
  ⟨gName i, hp nd, fun M0 M B σ H ρ d v P Q E r p k => k _ _ p (E.set i r)⟩
def DGs (Y : Cx) (K : Fr) (tg : List Expr) (w : List PyData → Env → (Env → Prop) → Prop) : Prop := ∃ g : TGs, PGs Y tg g ∧ ∀ (M0 M B : List Addr) (σ : L2.St) (H : Hp) (ρ : Env) (ds : List PyData) (vs : List V) (P : Env → Prop) (Q : L2.St → Hp → Prop), EnvOk K M0 M B H σ ρ → DtAll K (rm M H) vs ds → w ds ρ P → (∀ ρ' σ', P ρ' → EnvOk K M0 M B H σ' ρ' → Q σ' H) → g vs σ H Q
def gNil' : List PyData → Env → (Env → Prop) → Prop := fun ds ρ P => ds = [] ∧ P ρ
def gCons' (w : WG) (u : List PyData → Env → (Env → Prop) → Prop) : List PyData → Env → (Env → Prop) → Prop := fun ds ρ P => ∃ d r, ds = d :: r ∧ w d ρ fun ρ1 => u r ρ1 P
theorem dgs_nil : DGs Y K [] gNil' := ⟨gNil, pgs_nil, fun M0 M B σ H ρ ds vs P Q E r p k => by
  obtain ⟨rfl, p⟩ := p
  cases r
  exact ⟨rfl, k _ _ p E⟩⟩
theorem dgs_cons {w : WG} {u : List PyData → Env → (Env → Prop) → Prop} (h1 : DG Y K e w) (h2 : DGs Y K es u) (hs : (assignEach (e :: es) Y.env).map (·.2) = assign e Y.env :: (assignEach es Y.env).map (·.2) := by rfl) : DGs Y K (e :: es) (gCons' w u) := by
  obtain ⟨g, a1, a2⟩ := h1
  obtain ⟨gs, b1, b2⟩ := h2
  refine ⟨gCons g gs, pgs_cons a1 b1 hs, fun M0 M B σ H ρ ds vs P Q E r p k => ?_⟩
  obtain ⟨d, rr, rfl, p⟩ := p
  cases r with
  | cons r1 r2 => exact ⟨_, _, rfl, a2 M0 M B σ H ρ _ _ _ _ E r1 p fun ρ1 σ1 p1 E1 => b2 M0 M B σ1 H ρ1 _ _ _ _ E1 r2 p1 k⟩
def gT (n : Nat) (u : List PyData → Env → (Env → Prop) → Prop) : WG := fun d ρ P => ∃ ds, d = .tuple ds ∧ ds.length = n ∧ u ds ρ P
theorem dg_tup {n c : Nat} {u : List PyData → Env → (Env → Prop) → Prop} (h : DGs Y K es u) (hK : Y.K = K := by rfl) (hc : Y.calm = true := by rfl) (hn : (assignEach es Y.env).length = n := by rfl) (hst : (assignEach es Y.env).findIdx? (·.1) = none := by rfl) : DG Y K (.Tuple es c pos) (gT n u) := by
  obtain ⟨g, a1, a2⟩ := h
  refine ⟨gTup K n g, by rw [← hK]; exact pg_tup hc a1 hn hst, fun M0 M B σ H ρ d v P Q E r p k => ?_⟩
  obtain ⟨ds, rfl, hl, p⟩ := p
  obtain ⟨a, xs, rfl, h1, h2⟩ := Dt.isTup r
  exact ⟨a, xs, rfl, same_t rm_le h1, by rw [DtAll.len h2]; exact hl, a2 M0 M B σ H ρ _ _ _ _ E h2 p k⟩
/-- target = e -/
def wAsg (we : WE) (wg : WG) : WS := fun E ρ => we ρ fun ρ1 d => wg d ρ1 E.nx
theorem ds_asg {wg : WG} (h : DE (one Y) K e we) (hg : DG Y K tg wg) (hp : ∀ t g, PE Y e t → PG Y tg g → PS Y (.Assign [tg] e pos) (tAsg t g) := by intro t g h1 h2; exact ps_asg h1 h2) : DS Y K (.Assign [tg] e pos) (wAsg we wg) := by
  obtain ⟨t, a1, a2⟩ := h
  obtain ⟨g, b1, b2⟩ := hg
  refine ⟨tAsg t g, hp t g (a1 ()) b1, fun M0 M B σ H ρ E D Ev h F => ?_⟩
  refine a2 M0 M B σ H ρ _ _ Ev h fun ρ1 d v H1 w1 x1 E1 r1 => ?_
  exact b2 M0 M B σ H1 ρ1 d v _ _ E1 r1 w1 fun ρ2 σ2 p2 E2 => F.nx ρ2 M B σ2 H1 p2 x1 E2
/-- a, b = e1, e2 -/
def wPar (i j : Nat) (wa : WA) : WS := fun E ρ => wa ρ fun ρ1 ds => ∃ x y, ds = [x, y] ∧ E.nx ((ρ1.set i (.dat x)).set j (.dat y))
theorem ds_par (i j : Nat) {x y : Str} {px py pt pt2 : Pos} {kt k2 : Nat} {w : WA} (nd : Y.N.Nodup) (h : DA (one Y) K [a, b] w)
    (hp : Y.N.Nodup → ∀ t, PA Y [a, b] t → PS Y (.Assign [.Tuple [.Name x px, .Name y py] kt pt] (.Tuple [a, b] k2 pt2) pos) (tPar i j t) := by intro nd t h; exact ps_par (by rfl) nd rfl rfl (by decide) rfl rfl h (by rfl)) :
    DS Y K (.Assign [.Tuple [.Name x px, .Name y py] kt pt] (.Tuple [a, b] k2 pt2) pos) (wPar i j w) := by
  obtain ⟨t, a1, a2⟩ := h
  refine ⟨tPar i j t, hp nd t (a1 ()), fun M0 M B σ H ρ E D Ev h F => ?_⟩
  refine a2 M0 M B σ H ρ _ _ Ev h fun ρ1 ds vs H1 w1 x1 E1 r1 => ?_
  obtain ⟨x, y, rfl, w1⟩ := w1
  cases r1 with
  | cons q1 q2 =>
    cases q2 with
    | cons q2 q3 =>
      cases q3
      exact ⟨_, _, rfl, F.nx _ M B _ H1 w1 x1 ((E1.set i q1).set j q2)⟩
/-- x += e -/
def wAug (i : Nat) (f : F2) (we : WE) : WS := fun E ρ => ∃ x, ρ.at i = .dat x ∧ we ρ fun ρ1 y => f x y fun z => E.nx (ρ1.set i (.dat z))
theorem ds_augI (i : Nat) {x : Str} {px : Pos} (nd : Y.N.Nodup) (h : DE (one Y) K e we) (hp : Y.N.Nodup → ∀ t, PE Y e t → PS Y (.AugAssign (.Name x px) .Add e pos) (tAug i t (ipI fun i j => i + j)) := by intro nd t h; exact ps_aug nd rfl (by first | exact Or.inl rfl | exact Or.inr rfl) h ip_add) : DS Y K (.AugAssign (.Name x px) .Add e pos) (wAug i (fI0 fun i j => .int (i + j)) we) := by
  obtain ⟨t, a1, a2⟩ := h
  refine ⟨_, hp nd t (a1 ()), fun M0 M B σ H ρ E D Ev h F => ?_⟩
  obtain ⟨x, hx, h⟩ := h
  obtain ⟨v, h2, r⟩ := Ev.slot i _ (Env.at_get hx (by intro z; cases z))
  refine ⟨v, h2, a2 M0 M B σ H ρ _ _ Ev h fun ρ1 d u H1 w1 x1 E1 r1 => ?_⟩
  cases x with
  | int n =>
    cases d with
    | int m =>
      rw [Dt.isInt r, Dt.isInt r1]
      exact ⟨n, m, rfl, rfl, F.nx _ M B _ H1 w1 x1 (E1.set i (.int _))⟩
    | _ => exact w1.elim
  | _ => exact w1.elim
/-! ### loops -/
def forD (wg : WG) (w : WS) (E : DEnds) : List PyData → Env → Prop
  | [], ρ => E.nx ρ
  | d :: ds, ρ => wg d ρ fun ρ1 => w { nx := forD wg w E ds, ct := forD wg w E ds, bk := E.nx, rt := E.rt } ρ1
def wFor (wi : WI) (wg : WG) (w : WS) : WS := fun E ρ => wi ρ fun ρ1 items => forD wg w E items ρ1
theorem ds_for {iter : Expr} {body : List Stmt} {wi : WI} {wg : WG} (hi : DI (one Y) K tg iter wi) (hg : DG Y K tg wg) (hb : DSs Y K body w)
    (hp : ∀ ti g tb, PI Y tg iter ti → PG Y tg g → PSs Y body tb → PS Y (.For tg iter body [] pos) (tFor ti g tb) := by intro ti g tb h1 h2 h3; exact ps_for PassesOwn.never rfl h1 h2 h3) : DS Y K (.For tg iter body [] pos) (wFor wi wg w) := by
  obtain ⟨ti, i1, i2⟩ := hi
  obtain ⟨g, g1, g2⟩ := hg
  obtain ⟨tb, b1, b2⟩ := hb
  refine ⟨tFor ti g tb, hp ti g tb (i1 ()) g1 b1, fun M0 M B σ H ρ E D Ev h F => ?_⟩
  refine i2 M0 M B σ H ρ _ _ Ev h fun ρ1 items J H1 w1 x1 E1 it => ?_
  have F1 := F.go x1
  refine ⟨fun n m σ2 H2 => m = items.length - n ∧ ∃ (ρ2 : Env) (M2 B2 : List Addr), n ≤ items.length ∧ forD wg w E (items.drop n) ρ2 ∧ Ext M B H1 M2 B2 H2 ∧ EnvOk K M0 M2 B2 H2 σ2 ρ2, ⟨_, rfl, ρ1, M, B, Nat.zero_le _, w1, Ext.refl .., E1⟩, ?_⟩
  rintro n m σ2 H2 ⟨rfl, ρ2, M2, B2, hn, w2, x2, E2⟩
  obtain ⟨hgo, hst⟩ := it M2 H2 (x2.rm E1.sub) E2.dom
  by_cases hlt : n < items.length
  · right
    have hnd : items[n]? = some items[n] := List.getElem?_eq_getElem hlt
    obtain ⟨q1, q2⟩ := hgo n _ hnd
    rw [List.drop_eq_getElem_cons hlt] at w2
    refine ⟨q1, fun σ' H' => ∃ (ρ3 : Env) (M3 B3 : List Addr), forD wg w E (items.drop (n + 1)) ρ3 ∧ Ext M B H1 M3 B3 H' ∧ EnvOk K M0 M3 B3 H' σ' ρ3, fun σ' H' ⟨ρ3, M3, B3, p1, p2, p3⟩ => ⟨items.length - (n + 1), by omega, rfl, ρ3, M3, B3, hlt, p1, p2, p3⟩, fun x H3 hy => ?_⟩
    obtain ⟨s3, rx⟩ := q2 x H3 hy
    refine g2 M0 M2 B2 σ2 H3 ρ2 _ _ _ _ (E2.same s3) rx w2 fun ρ3 σ3 w3 E3 => ?_
    have x3 : Ext M B H1 M2 B2 H3 := x2.trans (Ext.same s3)
    exact b2 M0 M2 B2 σ3 H3 ρ3 _ _ E3 w3 ⟨fun ρ' M' B' σ' H' p x E' => ⟨ρ', M', B', p, x3.trans x, E'⟩, fun ρ' M' B' σ' H' p x E' => F1.nx ρ' M' B' σ' H' p (x3.trans x) E',
      fun ρ' M' B' σ' H' p x E' => ⟨ρ', M', B', p, x3.trans x, E'⟩, fun ρ' d v M' B' σ' H' p x E' r => F1.rt ρ' d v M' B' σ' H' p (x3.trans x) E' r⟩
  · left
    have en : n = items.length := by omega
    rw [en] at w2 ⊢
    rw [List.drop_length] at w2
    exact ⟨hst, F1.nx ρ2 M2 B2 σ2 H2 w2 x2 E2⟩
def wWhile (t : WT) (w : WS) : WS := fun E ρ => ∃ I : Nat → Env → Prop, (∃ m, I m ρ) ∧ ∀ m ρ, I m ρ → t ρ fun ρ1 c => (c = true → w { nx := fun ρ' => ∃ m', m' < m ∧ I m' ρ', ct := fun ρ' => ∃ m', m' < m ∧ I m' ρ', bk := E.nx, rt := E.rt } ρ1) ∧ (c = false → E.nx ρ1)
theorem ds_while {c : Expr} {body : List Stmt} {t : WT} (hc : DT (one Y) K c t) (hb : DSs Y K body w) (hp : ∀ tc tb, PT Y c tc → PSs Y body tb → PS Y (.While c body [] pos) (tWhile tc tb) := by intro tc tb h1 h2; exact ps_while PassesOwn.never h1 h2) : DS Y K (.While c body [] pos) (wWhile t w) := by
  obtain ⟨tc, c1, c2⟩ := hc
  obtain ⟨tb, b1, b2⟩ := hb
  refine ⟨tWhile tc tb, hp tc tb (c1 ()) b1, fun M0 M B σ H ρ E D Ev h F => ?_⟩
  obtain ⟨I, ⟨m0, i0⟩, turn⟩ := h
  refine ⟨fun m σ' H' => ∃ (ρ' : Env) (M' B' : List Addr), I m ρ' ∧ Ext M B H M' B' H' ∧ EnvOk K M0 M' B' H' σ' ρ', ⟨m0, ρ, M, B, i0, Ext.refl .., Ev⟩, ?_⟩
  rintro m σ1 H1 ⟨ρ1, M1, B1, i1, x1, E1⟩
  refine c2 M0 M1 B1 σ1 H1 ρ1 _ _ E1 (turn m ρ1 i1) fun ρ2 c H2 w2 x2 E2 => ite_of (fun e => ?_) (fun e => ?_)
  · refine ⟨fun σ' H' => ∃ m', m' < m ∧ ∃ (ρ' : Env) (M' B' : List Addr), I m' ρ' ∧ Ext M B H M' B' H' ∧ EnvOk K M0 M' B' H' σ' ρ', fun _ _ h => h, ?_⟩
    have x3 := x1.trans x2
    exact b2 M0 M1 B1 σ1 H2 ρ2 _ _ E2 (w2.1 e) ⟨fun ρ' M' B' σ' H' ⟨m', lt, p⟩ x E' => ⟨m', lt, ρ', M', B', p, x3.trans x, E'⟩, fun ρ' M' B' σ' H' p x E' => F.nx ρ' M' B' σ' H' p (x3.trans x) E',
      fun ρ' M' B' σ' H' ⟨m', lt, p⟩ x E' => ⟨m', lt, ρ', M', B', p, x3.trans x, E'⟩, fun ρ' d v M' B' σ' H' p x E' r => F.rt ρ' d v M' B' σ' H' p (x3.trans x) E' r⟩
  · exact F.nx ρ2 M1 B1 σ1 H2 (w2.2 e) (x1.trans x2) E2
end
/-! ### a def keeps its promise -/
section
variable {P : Program} {w : World} {mg : Str → Option Value} {base : Heap}
def startE (N : List Str) (ds : List PyData) : Env := ds.map .dat ++ List.replicate (N.length - ds.length) .un
theorem start_ok {N : List Str} {M : List Addr} {H : Hp} {vs : List V} {ds : List PyData} (dom : ∀ a, a ∈ M → H a ≠ none) (r : DtAll K (rm M H) vs ds) : EnvOk K M M [] H (L2.start N vs) (startE N ds) where
  len := by unfold L2.start startE; simp [DtAll.len r]
  sub := fun a h => by cases h
  dom := dom
  m0 := fun _ h => h
  slot := fun i s h => by
    unfold startE at h
    unfold L2.start
    by_cases c : i < ds.length
    · rw [List.getElem?_append_left (by simpa using c), List.getElem?_map] at h
      cases hd : ds[i]? with
      | none => rw [hd] at h; cases h
      | some d =>
        rw [hd] at h
        have e : s = .dat d := (Option.some.inj h).symm
        subst e
        obtain ⟨v, h1, h2⟩ := DtAll.getd r hd
        exact ⟨v, by rw [List.getElem?_append_left (by rw [List.length_map, DtAll.len r]; exact c), List.getElem?_map, h1]; rfl, h2⟩
    · rw [List.getElem?_append_right (by simpa using Nat.le_of_not_lt c), List.getElem?_replicate] at h
      split at h
      · have e : s = .un := (Option.some.inj h).symm
        subst e; trivial
      · cases h
  sep := fun i j s s' l n h1 h2 l1 l2 s1 s2 => by
    have z : ∀ (i : Nat) (s : SV), (startE N ds)[i]? = some s → s.isL = true → False := fun i s h hl => by
      unfold startE at h
      have m := List.mem_of_getElem? h
      rcases List.mem_append.mp m with m | m
      · obtain ⟨d, _, rfl⟩ := List.mem_map.mp m
        cases hl
      · have e := List.eq_of_mem_replicate m
        subst e
        cases hl
    exact z i s h1 l1
theorem fn_pure {x qual : Str} {st : Stmt} {f : Addr} {fd : FuncData} {N ps : List Str} {k : Nat} {S : SpD} {wb : WS} (F : Fun K x qual st f fd) (sc : FnScope N ps (defScope st)) (len : ∀ ds P, S ds P → ds.length = ps.length)
    (hb : ∀ (cdv : Value) (A : Around) (outer : List PySem.Env) (s : Shared) (H : Hp) (E : XK), Room k (A.deeper (envOfC qual (defScope st) s.heap.objs.size f cdv)) → DSs (cxOf CX0 P w K mg base N qual (defScope st) f cdv A outer s H E).nox K (defBody st) wb)
    (hw : ∀ ds Q, S ds Q → wb { nx := fun _ => Q .none, rt := fun _ d => Q d } (startE N ds)) : FnOk P w K mg base CX0 (k + 1) f fd ps (spP K S) := by
  refine Fun_ok F sc (fun vs H Q E h => ?_) (fun cdv A outer s H vs Q E hr h => ?_)
  · obtain ⟨M, ds, P', _, r, hs, _⟩ := h
    rw [DtAll.len r]
    exact len _ _ hs
  · obtain ⟨M, ds, P', dom, r, hs, q⟩ := h
    obtain ⟨t, a1, a2⟩ := hb cdv A outer s H E hr
    refine ⟨t, a1, a2 M M [] _ H _ _ _ (start_ok dom r) (hw ds P' hs) ⟨fun ρ' M' B' σ' H' p x E' => ?_, fun _ _ _ _ _ p => p.elim, fun _ _ _ _ _ p => p.elim, fun ρ' d v M' B' σ' H' p x E' r' => ?_⟩⟩
    · exact q _ _ H' p (fun a o e => x.keep a o (by simp) e) .non
    · exact q d v H' p (fun a o e => x.keep a o (by simp) e) r'
def startW (l : Addr) (N : List Str) (ws ds : List PyData) : Env := .bor l ws :: ds.map .dat ++ List.replicate (N.length - (ds.length + 1)) .un
theorem startW_ok {N : List Str} {M : List Addr} {H : Hp} {l : Addr} {xs us : List V} {ws ds : List PyData} (dom : ∀ a, a ∈ M → H a ≠ none) (hl : l ∈ M) (h : H l = some (.lst xs)) (r0 : DtAll K (rm M H) xs ws) (r : DtAll K (rm M H) us ds) : EnvOk K M M [l] H (L2.start N (.ref l :: us)) (startW l N ws ds) where
  len := by unfold L2.start startW; simp [DtAll.len r]
  sub := fun a h => by rw [List.mem_singleton.mp h]; exact hl
  dom := dom
  m0 := fun _ h => h
  slot := fun i s hi => by
    unfold startW at hi
    unfold L2.start
    cases i with
    | zero =>
      have e : s = .bor l ws := by simpa using hi.symm
      subst e
      exact ⟨xs, by simp, List.mem_singleton.mpr rfl, hl, h, r0⟩
    | succ i =>
      rw [List.cons_append, List.getElem?_cons_succ] at hi
      rw [List.map_cons, List.cons_append, List.getElem?_cons_succ]
      by_cases c : i < ds.length
      · rw [List.getElem?_append_left (by simpa using c), List.getElem?_map] at hi
        cases hd : ds[i]? with
        | none => rw [hd] at hi; cases hi
        | some d =>
          rw [hd] at hi
          have e : s = .dat d := (Option.some.inj hi).symm
          subst e
          obtain ⟨v, h1, h2⟩ := DtAll.getd r hd
          exact ⟨v, by rw [List.getElem?_append_left (by rw [List.length_map, DtAll.len r]; exact c), List.getElem?_map, h1]; rfl, h2⟩
      · rw [List.getElem?_append_right (by simpa using Nat.le_of_not_lt c), List.getElem?_replicate] at hi
        split at hi
        · have e : s = .un := (Option.some.inj hi).symm
          subst e; trivial
        · cases hi
  sep := fun i j s s' l' n h1 h2 l1 l2 s1 s2 => by
    have z : ∀ (i : Nat) (s : SV), (startW l N ws ds)[i]? = some s → s.isL = true → i = 0 := fun i s h hl => by
      cases i with
      | zero => rfl
      | succ i =>
        unfold startW at h
        rw [List.cons_append, List.getElem?_cons_succ] at h
        have m := List.mem_of_getElem? h
        rcases List.mem_append.mp m with m | m
        · obtain ⟨d, _, rfl⟩ := List.mem_map.mp m
          cases hl
        · have e := List.eq_of_mem_replicate m
          subst e
          cases hl
    exact n ((z i s h1 l1).trans (z j s' h2 l2).symm)
theorem fn_well {x qual : Str} {st : Stmt} {f : Addr} {fd : FuncData} {N ps : List Str} {k : Nat} {S : SpW} {wb : WS} (F : Fun K x qual st f fd) (sc : FnScope N ps (defScope st)) (len : ∀ ws ds P, S ws ds P → ds.length + 1 = ps.length)
    (hb : ∀ (cdv : Value) (A : Around) (outer : List PySem.Env) (s : Shared) (H : Hp) (E : XK), Room k (A.deeper (envOfC qual (defScope st) s.heap.objs.size f cdv)) → DSs (cxOf CX0 P w K mg base N qual (defScope st) f cdv A outer s H E).nox K (defBody st) wb)
    (hw : ∀ l ws ds Q, S ws ds Q → wb { nx := fun ρ => ∃ ws', ρ.at 0 = .bor l ws' ∧ Q ws' .none, rt := fun ρ d => ∃ ws', ρ.at 0 = .bor l ws' ∧ Q ws' d } (startW l N ws ds)) : FnOk P w K mg base CX0 (k + 1) f fd ps (spW K S) := by
  refine Fun_ok F sc (fun vs H Q E h => ?_) (fun cdv A outer s H vs Q E hr h => ?_)
  · obtain ⟨M, l, us, xs, ws, ds, P', rfl, _, _, _, _, r, hs, _⟩ := h
    rw [List.length_cons, DtAll.len r]
    exact len _ _ _ hs
  · obtain ⟨M, l, us, xs, ws, ds, P', rfl, dom, hl, h4, r0, r, hs, q⟩ := h
    obtain ⟨t, a1, a2⟩ := hb cdv A outer s H E hr
    refine ⟨t, a1, a2 M M [l] _ H _ _ _ (startW_ok dom hl h4 r0 r) (hw l ws ds P' hs) ⟨fun ρ' M' B' σ' H' p x E' => ?_, fun _ _ _ _ _ p => p.elim, fun _ _ _ _ _ p => p.elim, fun ρ' d v M' B' σ' H' p x E' r' => ?_⟩⟩
    · obtain ⟨ws', h0, p⟩ := p
      obtain ⟨xs', _, _, _, h7, h8⟩ := E'.slot 0 _ (Env.at_get h0 (by intro z; cases z))
      exact q ws' _ _ H' xs' p (fun a o n e => x.keep a o (fun c => n (List.mem_singleton.mp c)) e) h7 (DtAll.up (rm_sub E'.m0) h8) .non
    · obtain ⟨ws', h0, p⟩ := p
      obtain ⟨xs', _, _, _, h7, h8⟩ := E'.slot 0 _ (Env.at_get h0 (by intro z; cases z))
      exact q ws' d v H' xs' p (fun a o n e => x.keep a o (fun c => n (List.mem_singleton.mp c)) e) h7 (DtAll.up (rm_sub E'.m0) h8) r'
end
end Pm
namespace Pm
open PySem PySem.Spec PyProof.Rows L2
variable {ι : Type} {X : ι → Cx} {K : Fr} {a b c e tg : Expr} {es rest : List Expr} {wa wb wc we : WE} {pos : Pos}
/-! ### further expressions -/
def fNeg : F1
  | .int i, P => P (.int (-i))
  | _, _ => False
theorem de_neg (h : DE X K e we) : DE X K (.UnaryOp .USub e pos) (wU fNeg we) := by
  obtain ⟨t, a1, a2⟩ := h
  refine ⟨tUn (rU fun i => .int (-i)) t, fun i => pe_un un_neg (a1 i), fun M0 M B σ H ρ P Q E w k => ?_⟩
  refine a2 M0 M B σ H ρ _ _ E w fun ρ1 d v H1 w1 x1 E1 r1 => ?_
  cases d with
  | int i => rw [Dt.isInt r1]; exact ⟨i, rfl, k ρ1 _ _ H1 w1 x1 E1 (.int _)⟩
  | _ => exact w1.elim
def wAndV (wa wb : WE) : WE := fun ρ P => wa ρ fun ρ1 d => ∃ c, d = .bool c ∧ (c = true → wb ρ1 P) ∧ (c = false → P ρ1 (.bool false))
def wOrV (wa wb : WE) : WE := fun ρ P => wa ρ fun ρ1 d => ∃ c, d = .bool c ∧ (c = true → P ρ1 (.bool true)) ∧ (c = false → wb ρ1 P)
def wNotV (wa : WE) : WE := fun ρ P => wa ρ fun ρ1 d => ∃ c, d = .bool c ∧ P ρ1 (.bool (!c))
theorem de_one {op : BoolOp} (h : DE X K a wa) : DE X K (.BoolOp op [a] pos) wa := by
  obtain ⟨t, a1, a2⟩ := h
  exact ⟨t, fun i => pe_one (a1 i), a2⟩
theorem de_and (ha : DE X K a wa) (hb : DE X K (.BoolOp .And (b :: rest) pos) wb) : DE X K (.BoolOp .And (a :: b :: rest) pos) (wAndV wa wb) := by
  obtain ⟨t, a1, a2⟩ := ha
  obtain ⟨u, b1, b2⟩ := hb
  refine ⟨tAndV t u, fun i => pe_and (a1 i) (b1 i), fun M0 M B σ H ρ P Q E w k => ?_⟩
  refine a2 M0 M B σ H ρ _ _ E w fun ρ1 d v H1 w1 x1 E1 r1 => ?_
  obtain ⟨c, rfl, w1⟩ := w1
  refine ⟨c, Dt.isBl r1, ite_of (fun e => ?_) (fun e => ?_)⟩
  · exact b2 M0 M B σ H1 ρ1 _ _ E1 (w1.1 e) fun ρ2 d v H2 w2 x2 E2 r2 => k ρ2 d v H2 w2 (x1.trans x2) E2 r2
  · exact k ρ1 _ _ H1 (w1.2 e) x1 E1 (.bl _)
theorem de_or (ha : DE X K a wa) (hb : DE X K (.BoolOp .Or (b :: rest) pos) wb) : DE X K (.BoolOp .Or (a :: b :: rest) pos) (wOrV wa wb) := by
  obtain ⟨t, a1, a2⟩ := ha
  obtain ⟨u, b1, b2⟩ := hb
  refine ⟨tOrV t u, fun i => pe_or (a1 i) (b1 i), fun M0 M B σ H ρ P Q E w k => ?_⟩
  refine a2 M0 M B σ H ρ _ _ E w fun ρ1 d v H1 w1 x1 E1 r1 => ?_
  obtain ⟨c, rfl, w1⟩ := w1
  refine ⟨c, Dt.isBl r1, ite_of (fun e => ?_) (fun e => ?_)⟩
  · exact k ρ1 _ _ H1 (w1.1 e) x1 E1 (.bl _)
  · exact b2 M0 M B σ H1 ρ1 _ _ E1 (w1.2 e) fun ρ2 d v H2 w2 x2 E2 r2 => k ρ2 d v H2 w2 (x1.trans x2) E2 r2
theorem de_not (ha : DE X K a wa) : DE X K (.UnaryOp .Not a pos) (wNotV wa) := by
  obtain ⟨t, a1, a2⟩ := ha
  refine ⟨tNotV t, fun i => pe_not (a1 i), fun M0 M B σ H ρ P Q E w k => ?_⟩
  refine a2 M0 M B σ H ρ _ _ E w fun ρ1 d v H1 w1 x1 E1 r1 => ?_
  obtain ⟨c, rfl, w1⟩ := w1
  exact ⟨c, Dt.isBl r1, k ρ1 _ _ H1 w1 x1 E1 (.bl _)⟩
/-- a < b < c over ints -/
def wChain (f g : F2) (wa wb wc : WE) : WE := fun ρ P => wa ρ fun ρ1 x => wb ρ1 fun ρ2 y => f x y fun z => ∃ k, z = .bool k ∧ (k = true → wc ρ2 fun ρ3 u => g y u fun d => P ρ3 d) ∧ (k = false → P ρ2 (.bool false))
theorem de_chain {op op' : CmpOp} {r r' : R2} {f g : F2} (ho : ∀ i, OpR (X i) (compareOp op) r) (ho' : ∀ i, OpR (X i) (compareOp op') r') (hf : OpD K r f) (hg : OpD K r' g) (ha : DE X K a wa) (hb : DE X K b wb) (hc : DE X K c wc)
    (hm : lastMarks [op, op'] [b, c] = false := by with_unfolding_all rfl) : DE X K (.Compare a [op, op'] [b, c] pos) (wChain f g wa wb wc) := by
  obtain ⟨ta, a1, a2⟩ := ha
  obtain ⟨tb, b1, b2⟩ := hb
  obtain ⟨tc, c1, c2⟩ := hc
  refine ⟨tChain r r' ta tb tc, fun i => pe_chain (ho i) (ho' i) (a1 i) (b1 i) (c1 i) hm, fun M0 M B σ H ρ P Q E w k => ?_⟩
  refine a2 M0 M B σ H ρ _ _ E w fun ρ1 x v H1 w1 x1 E1 r1 => ?_
  refine b2 M0 M B σ H1 ρ1 _ _ E1 w1 fun ρ2 y u H2 w2 x2 E2 r2 => ?_
  refine hf M H2 x y v u _ _ E2.dom (.inl (E1.up x2 r1)) (.inl r2) w2 fun d z H3 w3 e3 r3 => ?_
  obtain ⟨kk, rfl, w3⟩ := w3
  refine ⟨kk, Dt.isBl r3, ite_of (fun e => ?_) (fun e => ?_)⟩
  · refine c2 M0 M B σ H3 ρ2 _ _ (E2.same e3) (w3.1 e) fun ρ3 u2 v2 H4 w4 x4 E4 r4 => ?_
    refine hg M H4 y u2 u v2 _ _ E4.dom (.inl (E2.up ((Ext.same e3).trans x4) r2)) (.inl r4) w4 fun d z H5 p e5 r5 => ?_
    exact k ρ3 d z H5 p ((((x1.trans x2).trans (Ext.same e3)).trans x4).trans (Ext.same e5)) (E4.same e5) r5
  · exact k ρ2 _ _ H3 (w3.2 e) ((x1.trans x2).trans (Ext.same e3)) (E2.same e3) (.bl _)
/-! ### the script -/
def wSlS (j : Nat) (wl wh : WO) : WE := fun ρ P => ∃ ns, ρ.at j = .scr ns ∧ wl ρ fun ρ2 lo => wh ρ2 fun ρ3 hi => P ρ3 (.list ((cutD ns lo hi).map .int))
theorem dt_ints {H : Hp} : ∀ {ns : List Int}, DtAll K H (ns.map V.int) (ns.map .int)
  | [] => .nil
  | n :: ns => .cons (.int n) dt_ints
theorem cutV_ints (ns : List Int) (lo hi : Option Int) : cutV (ns.map V.int) lo hi = (cutD ns lo hi).map V.int := by
  unfold cutV cutD
  rw [List.length_map, List.map_take, List.map_drop]
theorem de_sls (j : Nat) {wl wh : WO} {lo hi : Option Expr} {p2 : Pos} (hl : DO X K lo wl) (hh : DO X K hi wh) (h : ∀ i, PE (X i) a (tVar j) := by intro i; exact pv _) (hK : ∀ i, (X i).K = K := by intro i; rfl) : DE X K (.Subscript a (.Slice lo hi none p2) pos) (wSlS j wl wh) := by
  obtain ⟨tl, l1, l2⟩ := hl
  obtain ⟨th, h1, h2⟩ := hh
  refine ⟨tSl (rSlAny K) (tVar j) tl th, fun i => by rw [← hK i]; exact pe_slice sl_any (h i) (l1 i) (h1 i), fun M0 M B σ H ρ P Q E w k => ?_⟩
  obtain ⟨ns, h0, w⟩ := w
  obtain ⟨p, hp, hs⟩ := E.slot j _ (Env.at_get h0 (by intro z; cases z))
  refine ⟨_, hp, ?_⟩
  refine l2 M0 M B σ H ρ _ _ E w fun ρ2 lo H2 w2 x2 E2 => ?_
  refine h2 M0 M B σ H2 ρ2 _ _ E2 w2 fun ρ3 hi H3 w3 x3 E3 => ?_
  refine .inr (.inl ⟨p, _, rfl, same_l rm_le (same_l ((x2.trans x3).rm E.sub) hs), fun q nq => ?_⟩)
  rw [cutV_ints]
  exact k ρ3 _ _ _ w3 ((x2.trans x3).trans (Ext.same (same_new nq))) (E3.same (same_new nq)) (E3.newl nq dt_ints)
/-- the def that the law is -/
def spLaw (K : Fr) : Sp := fun vs H Q _ => ∃ (a : Addr) (ns : List Int), vs = [.ref a] ∧ ns.length ≤ 63 ∧ SqL K H a (ns.map V.int) ∧ ∀ H', Q (.bl true) H'
def startS (N : List Str) (ns : List Int) : Env := .scr ns :: List.replicate (N.length - 1) .un
theorem startS_ok {N : List Str} {H : Hp} {a : Addr} {ns : List Int} (h : SqL K H a (ns.map V.int)) : EnvOk K [] [] [] H (L2.start N [.ref a]) (startS N ns) where
  len := by unfold L2.start startS; simp
  sub := fun a h => by cases h
  dom := fun a h => by cases h
  m0 := fun _ h => h
  slot := fun i s hi => by
    unfold startS at hi
    unfold L2.start
    cases i with
    | zero =>
      have e : s = .scr ns := by simpa using hi.symm
      subst e
      exact ⟨a, by simp, by rw [rm_nil]; exact h⟩
    | succ i =>
      rw [List.getElem?_cons_succ, List.getElem?_replicate] at hi
      split at hi
      · have e : s = .un := (Option.some.inj hi).symm
        subst e; trivial
      · cases hi
  sep := fun i j s s' l' n h1 h2 l1 l2 s1 s2 => by
    have z : ∀ (i : Nat) (s : SV), (startS N ns)[i]? = some s → s.isL = true → False := fun i s h hl => by
      unfold startS at h
      have m := List.mem_of_getElem? h
      rcases List.mem_cons.mp m with m | m
      · subst m; cases hl
      · have e := List.eq_of_mem_replicate m
        subst e
        cases hl
    exact z i s h1 l1
section
variable {P : Program} {w : World} {mg : Str → Option Value} {base : Heap}
theorem fn_law {x qual : Str} {st : Stmt} {f : Addr} {fd : FuncData} {N : List Str} {p : Str} {k : Nat} {wb : WS} (F : Fun K x qual st f fd) (sc : FnScope N [p] (defScope st))
    (hb : ∀ (cdv : Value) (A : Around) (outer : List PySem.Env) (s : Shared) (H : Hp) (E : XK), Room k (A.deeper (envOfC qual (defScope st) s.heap.objs.size f cdv)) → DSs (cxOf CX0 P w K mg base N qual (defScope st) f cdv A outer s H E).nox K (defBody st) wb)
    (hw : ∀ ns : List Int, ns.length ≤ 63 → wb { nx := fun _ => False, rt := fun _ d => d = .bool true } (startS N ns)) : FnOk P w K mg base CX0 (k + 1) f fd [p] (spLaw K) := by
  refine Fun_ok F sc (fun vs H Q E h => ?_) (fun cdv A outer s H vs Q E hr h => ?_)
  · obtain ⟨a, ns, rfl, _⟩ := h
    rfl
  · obtain ⟨a, ns, rfl, hl, hs, q⟩ := h
    obtain ⟨t, a1, a2⟩ := hb cdv A outer s H E hr
    refine ⟨t, a1, a2 [] [] [] _ H _ _ _ (startS_ok hs) (hw ns hl) ⟨fun _ _ _ _ _ p => p.elim, fun _ _ _ _ _ p => p.elim, fun _ _ _ _ _ p => p.elim, fun ρ' d v M' B' σ' H' p x E' r' => ?_⟩⟩
    subst p
    rw [Dt.isBl r']
    exact q H'
/-- a def of the module with its promise, by its name -/
def Has (P : Program) (w : World) (K : Fr) (mg : Str → Option Value) (base : Heap) (k : Nat) (x : Str) (sp : Sp) : Prop := ∃ (f : Addr) (fd : FuncData) (ps : List Str), FnOk P w K mg base CX0 k f fd ps sp ∧ mg x = some (.ref f) ∧ PySem.W.keepIn K (.ref f) = true ∧ Binds K fd ps []
theorem callOk {Y : Cx} {k j : Nat} {x : Str} {sp : Sp} (h : Has Y.prog Y.w Y.K Y.mg Y.base k x sp) (hr : Room j Y.A) (le : k ≤ j) : CallOk Y x sp := by
  obtain ⟨f, fd, ps, h1, h2, h3, h4⟩ := h
  exact ⟨k, f, fd, ps, h1, hr.mono le, h2, h3, h4⟩
/-- a def as the top left it -/
structure Def (K : Fr) (mg : Str → Option Value) (x : Str) (st : Stmt) (ps : List Str) : Prop where
  ex : ∃ (f : Addr) (fd : FuncData), mg x = some (.ref f) ∧ PySem.W.keepIn K (.ref f) = true ∧ Fun K x x st f fd ∧ Binds K fd ps []
theorem Def.has {x : Str} {st : Stmt} {ps : List Str} {k : Nat} {sp : Sp} (D : Def K mg x st ps) (h : ∀ (f : Addr) (fd : FuncData), Fun K x x st f fd → FnOk P w K mg base CX0 k f fd ps sp) : Has P w K mg base k x sp := by
  obtain ⟨f, fd, h1, h2, h3, h4⟩ := D.ex
  exact ⟨f, fd, ps, h f fd h3, h1, h2, h4⟩
end
end Pm
namespace Pm
open PySem PySem.Spec PyProof.Rows L2
variable {ι : Type} {X : ι → Cx} {K : Fr} {a b c e tg : Expr} {es rest : List Expr} {wa wb wc we : WE} {pos : Pos}
/-! ### a def that hands back a new list -/
abbrev SpF := List PyData → (List PyData → Prop) → Prop
def spF (K : Fr) (S : SpF) : Sp := fun vs H Q _ => ∃ (M : List Addr) (ds : List PyData) (P : List PyData → Prop), (∀ a, a ∈ M → H a ≠ none) ∧ DtAll K (rm M H) vs ds ∧ S ds P ∧
  ∀ es p xs H', P es → H p = none → Same H H' → H' p = some (.lst xs) → DtAll K (rm (p :: M) H') xs es → Q (.ref p) H'
section
variable {P : Program} {w : World} {mg : Str → Option Value} {base : Heap}
/-- def f(..): return [..] -/
theorem fn_fresh {x qual : Str} {st : Stmt} {f : Addr} {fd : FuncData} {N ps : List Str} {k : Nat} {S : SpF} {wb : WA} {p1 p2 : Pos} {es : List Expr} (F : Fun K x qual st f fd) (sc : FnScope N ps (defScope st)) (len : ∀ ds P, S ds P → ds.length = ps.length) (hd : defBody st = [.Return (some (.List es p1)) p2])
    (hb : ∀ (cdv : Value) (A : Around) (outer : List PySem.Env) (s : Shared) (H : Hp) (E : XK), Room k (A.deeper (envOfC qual (defScope st) s.heap.objs.size f cdv)) → DA (one (cxOf CX0 P w K mg base N qual (defScope st) f cdv A outer s H E).nox) K es wb)
    (hw : ∀ ds Q, S ds Q → wb (startE N ds) fun ρ es => es.length ≤ sizeLine ∧ Q es) : FnOk P w K mg base CX0 (k + 1) f fd ps (spF K S) := by
  refine Fun_ok F sc (fun vs H Q E h => ?_) (fun cdv A outer s H vs Q E hr h => ?_)
  · obtain ⟨M, ds, P', _, r, hs, _⟩ := h
    rw [DtAll.len r]
    exact len _ _ hs
  · obtain ⟨M, ds, P', dom, r, hs, q⟩ := h
    obtain ⟨t, a1, a2⟩ := hb cdv A outer s H E hr
    rw [hd]
    refine ⟨_, pss_one (ps_ret (pe_lst (a1 ()))), ?_⟩
    refine a2 M M [] _ H _ _ _ (start_ok dom r) (hw ds P' hs) fun ρ' es vs' H' p x E' r' => ?_
    refine ⟨by rw [DtAll.len r']; exact p.1, fun z nz => ?_⟩
    have sm : Same H H' := fun a o e => x.keep a o (by simp) e
    refine q es z vs' _ p.2 (sm.free nz) (fun a o e => same_new nz _ _ (sm _ _ e)) upd_same (DtAll.up (fun a o e => ?_) r')
    obtain ⟨z1, z2⟩ := rm_to e
    have n : a ≠ z := fun q => by rw [q, nz] at z2; cases z2
    refine rm_of (fun c => ?_) (by rw [upd_ne n]; exact z2)
    rcases List.mem_cons.mp c with q | q
    · exact n q
    · exact z1 q
end
/-- a slot gets a new list -/
theorem EnvOk.take {M0 M B : List Addr} {H H' : Hp} {σ : L2.St} {ρ : Env} {p : Addr} {xs : List V} {ds : List PyData} (E : EnvOk K M0 M B H σ ρ) (i : Nat) (np : H p = none) (sm : Same H H') (hp : H' p = some (.lst xs)) (r : DtAll K (rm (p :: M) H') xs ds) :
    EnvOk K M0 (p :: M) (p :: B) H' (σ.set i (some (.ref p))) (ρ.set i (.own ds)) ∧ Ext M B H (p :: M) (p :: B) H' := by
  have hpM : p ∉ M := fun c => E.dom p c np
  have E1 : EnvOk K M0 (p :: M) B H' σ ρ := E.more np hp fun a u n e => sm _ _ e
  refine ⟨⟨by rw [List.length_set, List.length_set]; exact E1.len, fun a h => ?_, E1.dom, E1.m0, fun j s hj => ?_, fun j k s s' l' n h1 h2 l1 l2 s1 s2 => ?_⟩,
    ⟨fun a h => List.mem_cons_of_mem _ h, fun a h => ?_, fun a h => List.mem_cons_of_mem _ h, fun a h => ?_, fun a o _ e => sm a o e, fun a e => sm.free e⟩⟩
  · rcases List.mem_cons.mp h with q | q
    · rw [q]; exact List.mem_cons_self ..
    · exact E1.sub a q
  · rcases get_set_some hj with ⟨rfl, rfl, hl⟩ | ⟨n, hj'⟩
    · exact ⟨p, xs, get_set_eq (by rw [E1.len]; exact hl), List.mem_cons_self .., fun c => hpM (E.m0 _ c), hp, r⟩
    · rw [get_set_ne n]
      have z := E1.slot j s hj'
      cases s with
      | un => trivial
      | dat d => exact z
      | scr d => exact z
      | own ds => obtain ⟨l, xs, h1, h2, h3⟩ := z; exact ⟨l, xs, h1, List.mem_cons_of_mem _ h2, h3⟩
      | bor l ds => obtain ⟨xs, h1, h2, h3⟩ := z; exact ⟨xs, h1, List.mem_cons_of_mem _ h2, h3⟩
  · have old : ∀ (j : Nat) (s : SV), ρ[j]? = some s → s.isL = true → σ[j]? = some (some (.ref p)) → False := fun j s hj hs e => by
      have z := E.slot j s hj
      cases s with
      | un => cases hs
      | dat d => cases hs
      | scr d => cases hs
      | own ds =>
        obtain ⟨l2, xs, h1, h2, _⟩ := z
        rw [h1] at e
        injection e with e; injection e with e; injection e with e
        exact hpM (e ▸ E.sub _ h2)
      | bor l2 ds =>
        obtain ⟨xs, h1, h2, _⟩ := z
        rw [h1] at e
        injection e with e; injection e with e; injection e with e
        exact hpM (e ▸ E.sub _ h2)
    rcases get_set_some h1 with ⟨rfl, rfl, hl1⟩ | ⟨n1, h1'⟩
    · rw [get_set_eq (by rw [E.len]; exact hl1)] at s1
      injection s1 with s1; injection s1 with s1; injection s1 with s1
      rcases get_set_some h2 with ⟨rfl, rfl, _⟩ | ⟨n2, h2'⟩
      · exact n rfl
      · rw [get_set_ne n2] at s2
        rw [← s1] at s2
        exact old k s' h2' l2 s2
    · rw [get_set_ne n1] at s1
      rcases get_set_some h2 with ⟨rfl, rfl, hl2⟩ | ⟨n2, h2'⟩
      · rw [get_set_eq (by rw [E.len]; exact hl2)] at s2
        injection s2 with s2; injection s2 with s2; injection s2 with s2
        rw [← s2] at s1
        exact old j s h1' l1 s1
      · rw [get_set_ne n2] at s2
        exact E.sep j k s s' l' n h1' h2' l1 l2 s1 s2
  · rcases List.mem_cons.mp h with q | q
    · rw [q]; exact .inr np
    · exact .inl q
  · rcases List.mem_cons.mp h with q | q
    · rw [q]; exact .inr np
    · exact .inl q
section
variable {Y : Cx} {st : Stmt} {w u : WS}
/-- x = f(..), f hands back a new list, which x owns -/
def wSetF (i : Nat) (S : SpF) (wa : WA) : WS := fun E ρ => wa ρ fun ρ1 ds => S ds fun es => E.nx (ρ1.set i (.own es))
theorem ds_setF (i : Nat) {x y : Str} {px p pc : Pos} {S : SpF} {w : WA} (nd : Y.N.Nodup) (c : CallOk Y x (spF K S)) (h : DA (one Y) K (e :: es) w) (hg : Gl Y x := by rfl) (hdb : (x == ("__debug__" : Str)) = false := by decide)
    (he : starEach (e :: es) Y.env = (false, eval e Y.env) :: starEach es Y.env := by rfl) (hpl : (backTo pc (starEach es Y.env)).any (·.1) = false := by rfl)
    (hp : Y.N.Nodup → ∀ t, PE Y (.Call (.Name x p) (e :: es) [] pc) t → PS Y (.Assign [.Name y px] (.Call (.Name x p) (e :: es) [] pc) pos) (tAsg t (gName i)) := by intro nd t h; exact ps_set nd rfl (by first | exact Or.inl rfl | exact Or.inr rfl) h) : DS Y K (.Assign [.Name y px] (.Call (.Name x p) (e :: es) [] pc) pos) (wSetF i S w) := by
  obtain ⟨t, a1, a2⟩ := h
  obtain ⟨k, f, fd, ps, F, hr, hm, hk, hb⟩ := c
  refine ⟨tAsg (tCall (spF K S) [] E0 t) (gName i), hp nd _ (pe_call F hr hg hm hk hb .nil pass0 (a1 ()) hdb he hpl), fun M0 M B σ H ρ E D Ev h Ft => ?_⟩
  refine a2 M0 M B σ H ρ _ _ Ev h fun ρ1 ds vs H1 w1 x1 E1 r1 => ?_
  refine ⟨M, ds, _, E1.dom, by rw [List.append_nil]; exact r1, w1, fun es z xs H2 p np sm hz r2 => ?_⟩
  obtain ⟨E2, x2⟩ := E1.take i np sm hz r2
  exact Ft.nx _ _ _ _ _ p (x1.trans x2) E2
/-- x = [elt for y in iter], on one line -/
theorem ds_setLc (j i : Nat) {elt iter : Expr} {x y : Str} {px py pos spos : Pos} {scope : Scope} {wi : WI} (nd : Y.N.Nodup) (hi : DI (one Y) K (.Name x px) iter wi) (he : DE (blkX (one Y) scope) K elt we)
    (hy : Y.N[j]? = some y := by rfl) (hyl : Y.env.scope.names.lookup y = some .local := by rfl) (hsw : swapsWith (.ListComp elt [⟨.Name x px, iter, [], 0⟩] scope pos) (some (.Name y py)) spos.line Y.env = pure true := by exact sw_true rfl rfl rfl (by decide +kernel))
    (ok : blkC Y.N Y.env.scope scope [(x, i)] = true := by decide +kernel) (hg : ∀ p, PG (blkX (one Y) scope p) (.Name x px) (gName i) := by intro p; exact pg_name (by assumption) rfl (Or.inl rfl))
    (hc : Y.calm = true := by rfl) (hs : ∀ x, foldedSetIterable iter Y.env x = pure x := by intro _; rfl) : DS Y K (.Assign [.Name y py] (.ListComp elt [⟨.Name x px, iter, [], 0⟩] scope pos) spos) (wSet j (wLc i wi wYes we)) := by
  obtain ⟨ti, i1, i2⟩ := hi
  obtain ⟨te, e1, e2⟩ := he
  refine ⟨tAsg (tLc ti (gName i) tYes te [i]) (gName j), ps_setLc (own := [(x, i)]) hc nd hy hyl hsw (i1 ()) (blkOk_by ok) (fun s H C cl fp => hg ((), s, H, C, cl, fp)) (fun s H C cl fp => pts_nil) (fun s H C cl fp => e1 ((), s, H, C, cl, fp)) hs, fun M0 M B σ H ρ E D Ev h Ft => ?_⟩
  exact lc_read i2 (fun M0 M B σ H ρ P Q E w k => k ρ true H w (Ext.refl ..) E) e2 M0 M B σ H ρ _ _ Ev h fun ρ1 d v H1 w1 x1 E1 r1 => Ft.nx _ M B _ H1 w1 x1 (E1.set j r1)
end
theorem def_mk {h : Heap} {mg : Str → Option Value} {x : Str} {st : Stmt} {ps : List Str} {f : Addr} {oc : Value} {od an : Option Addr} {osl : Array (Option Value)} {kV doc pm cdv ct : Value} (X : K.In h) (G : h.Ns mainGlobals mg) (a : PySem.W.nsIn K mainGlobals x = some (some (.ref f)))
    (l : K.lookup f = some ⟨oc, od, .func (PySem.W.fnOf x x (defArgs st) (defBody st) (defScope st) .none kV doc pm an cdv ct), osl⟩) (c : PySem.W.codeIn K cdv x = true) (k : PySem.W.keepIn K (.ref f) = true)
    (hb : ∀ (kV doc pm : Value) (an : Option Addr) (cdv ct : Value) (us : List Value), us.length = ps.length → bindArgs (PySem.W.fnOf x x (defArgs st) (defBody st) (defScope st) .none kV doc pm an cdv ct) ⟨us, []⟩ = pure (ps.zip us)) : Def K mg x st ps :=
  ⟨f, _, PySem.W.mg_of X G a, k, fun_mk l c k, (fun_mk l c k).binds hb⟩
end Pm
namespace Pm
open PySem PySem.Spec PyProof.Rows L2
variable {ι : Type} {X : ι → Cx} {K : Fr} {a b c e tg : Expr} {es rest : List Expr} {wa wb wc we : WE} {pos : Pos}
theorem de_globI {x : Str} {n : Int} (h : ∃ t : Tok, ∀ i, (X i).mg x = some (.int n t)) (hg : ∀ i, Gl (X i) x := by intro i; rfl) (hd1 : (x == ("__debug__" : Str)) = false := by decide) : DE X K (.Name x pos) (wC (.int n)) := by
  obtain ⟨t, h⟩ := h
  exact de_c (v := .int n) (fun i => pe_glob (hg i) (h i) ⟨t, rfl⟩ hd1) fun _ => .int n
theorem de_globS {x : Str} {n : Str} (h : ∃ t : Tok, ∀ i, (X i).mg x = some (.str n t)) (hg : ∀ i, Gl (X i) x := by intro i; rfl) (hd1 : (x == ("__debug__" : Str)) = false := by decide) : DE X K (.Name x pos) (wC (.str n)) := by
  obtain ⟨t, h⟩ := h
  exact de_c (v := .str n) (fun i => pe_glob (hg i) (h i) ⟨t, rfl⟩ hd1) fun _ => .str n
/-! ### comparisons as tests -/
theorem dt_op {r : R2} {f : F2} (hp : ∀ i ta tb, PE (X i) a ta → PE (X i) b tb → PT (X i) e (tTest (tOp r ta tb))) (hr : OpD K r f) (ha : DE X K a wa) (hb : DV X K b wb) : DT X K e (wTst (wOp f wa wb)) := by
  obtain ⟨ta, a1, a2⟩ := ha
  obtain ⟨tb, b1, b2⟩ := hb
  refine ⟨tTest (tOp r ta tb), fun i => hp i ta tb (a1 i) (b1 i), fun M0 M B σ H ρ P Q E w k => ?_⟩
  refine a2 M0 M B σ H ρ _ _ E w fun ρ1 x v H1 w1 x1 E1 r1 => ?_
  refine b2 M0 M B σ H1 ρ1 _ _ E1 w1 fun ρ2 y u H2 w2 x2 E2 r2 => ?_
  refine hr M H2 x y v u _ _ E2.dom (.inl (E1.up x2 r1)) r2 w2 fun d z H3 p e3 r3 => ?_
  obtain ⟨bb, rfl, p⟩ := p
  exact ⟨bb, Dt.isBl r3, k ρ2 bb H3 p ((x1.trans x2).trans (Ext.same e3)) (E2.same e3)⟩
theorem dt_opo (j : Nat) {r : R2} {f : F2} (hp : ∀ i ta tb, PE (X i) a ta → PE (X i) b tb → PT (X i) e (tTest (tOp r ta tb))) (hr : OpD K r f) (hb : DV X K b wb) (h : ∀ i, PE (X i) a (tVar j) := by intro i; exact pv _) : DT X K e (wTst (wOpO f j wb)) := by
  obtain ⟨tb, b1, b2⟩ := hb
  refine ⟨tTest (tOp r (tVar j) tb), fun i => hp i _ tb (h i) (b1 i), fun M0 M B σ H ρ P Q E w k => ?_⟩
  obtain ⟨⟨ds0, h0⟩, w⟩ := w
  obtain ⟨l0, xs0, _, _, hl0, _⟩ := E.lst h0
  refine ⟨_, hl0, ?_⟩
  refine b2 M0 M B σ H ρ _ _ E w fun ρ2 y u H2 w2 x2 E2 r2 => ?_
  obtain ⟨ds, h1, w3⟩ := w2
  obtain ⟨l, xs, _, _, hl, _, h4, h5, _⟩ := E2.lst h1
  rw [hl0] at hl
  injection hl with hl; injection hl with hl; injection hl with hl
  subst hl
  refine hr M H2 _ y _ u _ _ E2.dom (.inr ⟨l0, xs, ds, rfl, rfl, h4, h5⟩) r2 w3 fun d z H3 p e3 r3 => ?_
  obtain ⟨bb, rfl, p⟩ := p
  exact ⟨bb, Dt.isBl r3, k ρ2 bb H3 p (x2.trans (Ext.same e3)) (E2.same e3)⟩
theorem dt_lt (ha : DE X K a wa) (hb : DE X K b wb) : DT X K (.Compare a [.Lt] [b] pos) (wTst (wOp fLt wa wb)) := dt_op (fun i ta tb h1 h2 => pt_cmpR op_lt h1 h2 (nomark _)) (od_I0 fun _ _ _ => .bl _) ha hb.v
theorem dt_le (ha : DE X K a wa) (hb : DE X K b wb) : DT X K (.Compare a [.LtE] [b] pos) (wTst (wOp fLe wa wb)) := dt_op (fun i ta tb h1 h2 => pt_cmpR op_le h1 h2 (nomark _)) (od_I0 fun _ _ _ => .bl _) ha hb.v
theorem dt_gt (ha : DE X K a wa) (hb : DE X K b wb) : DT X K (.Compare a [.Gt] [b] pos) (wTst (wOp fGt wa wb)) := dt_op (fun i ta tb h1 h2 => pt_cmpR op_gt h1 h2 (nomark _)) (od_I0 fun _ _ _ => .bl _) ha hb.v
theorem dt_ge (ha : DE X K a wa) (hb : DE X K b wb) : DT X K (.Compare a [.GtE] [b] pos) (wTst (wOp fGe wa wb)) := dt_op (fun i ta tb h1 h2 => pt_cmpR op_ge h1 h2 (nomark _)) (od_I0 fun _ _ _ => .bl _) ha hb.v
theorem dt_eq (hu : ∀ i, (X i).A.units + 64 < cLine) (ha : DE X K a wa) (hb : DV X K b wb) (hK : ∀ i, (X i).K = K := by intro i; rfl) : DT X K (.Compare a [.Eq] [b] pos) (wTst (wOp (fEq false) wa wb)) :=
  dt_op (fun i ta tb h1 h2 => pt_cmpR (by rw [← hK i]; exact op_eqAny (hu i)) h1 h2 (nomark _)) od_eq ha hb
theorem dt_ne (hu : ∀ i, (X i).A.units + 64 < cLine) (ha : DE X K a wa) (hb : DV X K b wb) (hK : ∀ i, (X i).K = K := by intro i; rfl) : DT X K (.Compare a [.NotEq] [b] pos) (wTst (wOp (fEq true) wa wb)) :=
  dt_op (fun i ta tb h1 h2 => pt_cmpR (by rw [← hK i]; exact op_neAny (hu i)) h1 h2 (nomark _)) od_eq ha hb
theorem dt_eqo (j : Nat) (hu : ∀ i, (X i).A.units + 64 < cLine) (hb : DV X K b wb) (h : ∀ i, PE (X i) a (tVar j) := by intro i; exact pv _) (hK : ∀ i, (X i).K = K := by intro i; rfl) : DT X K (.Compare a [.Eq] [b] pos) (wTst (wOpO (fEq false) j wb)) :=
  dt_opo j (fun i ta tb h1 h2 => pt_cmpR (by rw [← hK i]; exact op_eqAny (hu i)) h1 h2 (nomark _)) od_eq hb h
theorem dt_neo (j : Nat) (hu : ∀ i, (X i).A.units + 64 < cLine) (hb : DV X K b wb) (h : ∀ i, PE (X i) a (tVar j) := by intro i; exact pv _) (hK : ∀ i, (X i).K = K := by intro i; rfl) : DT X K (.Compare a [.NotEq] [b] pos) (wTst (wOpO (fEq true) j wb)) :=
  dt_opo j (fun i ta tb h1 h2 => pt_cmpR (by rw [← hK i]; exact op_neAny (hu i)) h1 h2 (nomark _)) od_eq hb h
theorem dt_is (ha : DE X K a wa) (hb : DE X K b wb) : DT X K (.Compare a [.Is] [b] pos) (wTst (wOp (fIs false) wa wb)) := dt_op (fun i ta tb h1 h2 => pt_cmpR op_isN h1 h2 (nomark _)) od_is ha hb.v
theorem dt_isnot (ha : DE X K a wa) (hb : DE X K b wb) : DT X K (.Compare a [.IsNot] [b] pos) (wTst (wOp (fIs true) wa wb)) := dt_op (fun i ta tb h1 h2 => pt_cmpR op_notN h1 h2 (nomark _)) od_isnot ha hb.v
theorem dt_in (ha : DE X K a wa) (hb : DV X K b wb) (hm : behindInMarks .In b = false := by rfl) (hK : ∀ i, (X i).K = K := by intro i; rfl) : DT X K (.Compare a [.In] [b] pos) (wTst (wOp (fIn false) wa wb)) :=
  dt_op (fun i ta tb h1 h2 => pt_cmpR (by rw [← hK i]; exact op_orR op_inS' op_in_seq) h1 h2 hm) od_in ha hb
theorem dt_notin (ha : DE X K a wa) (hb : DV X K b wb) (hm : behindInMarks .NotIn b = false := by rfl) (hK : ∀ i, (X i).K = K := by intro i; rfl) : DT X K (.Compare a [.NotIn] [b] pos) (wTst (wOp (fIn true) wa wb)) :=
  dt_op (fun i ta tb h1 h2 => pt_cmpR (by rw [← hK i]; exact op_orR op_notinS' op_notIn_seq) h1 h2 hm) od_in ha hb
theorem dt_chain {op op' : CmpOp} {r r' : R2} {f g : F2} (ho : ∀ i, OpR (X i) (compareOp op) r) (ho' : ∀ i, OpR (X i) (compareOp op') r') (hf : OpD K r f) (hg : OpD K r' g) (ha : DE X K a wa) (hb : DE X K b wb) (hc : DE X K c wc)
    (hm : lastMarks [op, op'] [b, c] = false := by with_unfolding_all rfl) : DT X K (.Compare a [op, op'] [b, c] pos) (wTst (wChain f g wa wb wc)) := by
  obtain ⟨ta, a1, a2⟩ := ha
  obtain ⟨tb, b1, b2⟩ := hb
  obtain ⟨tc, c1, c2⟩ := hc
  refine ⟨tTest (tChain r r' ta tb tc), fun i => pt_chain (ho i) (ho' i) (a1 i) (b1 i) (c1 i) hm, fun M0 M B σ H ρ P Q E w k => ?_⟩
  refine a2 M0 M B σ H ρ _ _ E w fun ρ1 x v H1 w1 x1 E1 r1 => ?_
  refine b2 M0 M B σ H1 ρ1 _ _ E1 w1 fun ρ2 y u H2 w2 x2 E2 r2 => ?_
  refine hf M H2 x y v u _ _ E2.dom (.inl (E1.up x2 r1)) (.inl r2) w2 fun d z H3 w3 e3 r3 => ?_
  obtain ⟨kk, rfl, w3⟩ := w3
  refine ⟨kk, Dt.isBl r3, ite_of (fun e => ?_) (fun e => ?_)⟩
  · refine c2 M0 M B σ H3 ρ2 _ _ (E2.same e3) (w3.1 e) fun ρ3 u2 v2 H4 w4 x4 E4 r4 => ?_
    refine hg M H4 y u2 u v2 _ _ E4.dom (.inl (E2.up ((Ext.same e3).trans x4) r2)) (.inl r4) w4 fun d z H5 p e5 r5 => ?_
    obtain ⟨bb, rfl, p⟩ := p
    exact ⟨bb, Dt.isBl r5, k ρ3 bb H5 p ((((x1.trans x2).trans (Ext.same e3)).trans x4).trans (Ext.same e5)) (E4.same e5)⟩
  · obtain ⟨bb, hb', p⟩ := w3.2 e
    injection hb' with hb'
    subst hb'
    exact ⟨false, rfl, k ρ2 false H3 p ((x1.trans x2).trans (Ext.same e3)) (E2.same e3)⟩
end Pm
namespace Pm
open PySem PySem.Spec PyProof.Rows L2 RZ
variable {ι : Type} {X : ι → Cx} {K : Fr} {a b c e tg : Expr} {es rest : List Expr} {wa wb wc we : WE} {pos : Pos}
/-! ### what is never reached; a value that is dropped -/
def wNever : WS := fun _ _ => False
theorem ds_never {Y : Cx} {st : Stmt} : DS Y K st wNever := ⟨tNever, ps_never, fun _ _ _ _ _ _ _ _ _ h _ => h.elim⟩
def wDrop (we : WE) : WS := fun E ρ => we ρ fun ρ1 _ => E.nx ρ1
theorem ds_expr {Y : Cx} (h : DE (one Y) K e we) (hp : ∀ t, PE Y e t → PS Y (.Expr e pos) (tDrop t) := by intro t h; exact ps_expr h) : DS Y K (.Expr e pos) (wDrop we) := by
  obtain ⟨t, a1, a2⟩ := h
  refine ⟨tDrop t, hp t (a1 ()), fun M0 M B σ H ρ E D Ev h F => ?_⟩
  exact a2 M0 M B σ H ρ _ _ Ev h fun ρ1 d v H1 w1 x1 E1 r1 => F.nx _ M B _ H1 w1 x1 E1
/-! ### isinstance -/
def tyD : PyData → String
  | .none => "NoneType"
  | .bool _ => "bool"
  | .int _ => "int"
  | .str _ => "str"
  | .list _ => "list"
  | .tuple _ => "tuple"
  | .dict _ => "dict"
theorem ty_of {M : List Addr} {H : Hp} {v : V} {d : PyData} (r : RV K M H v d) : TyX K H v (.type (tyD d)) := by
  rcases r with r | ⟨l, xs, ds, rfl, rfl, h, _⟩
  · cases r with
    | non => exact .base .non
    | bl b => exact .base (.bl b)
    | int i => exact .base (.int i)
    | str x => exact .base (.str x)
    | lst h r => exact .base (.lst (rm_le _ _ h))
    | dic h r => exact .fDict (rm_le _ _ h)
    | tup h r =>
      rcases h with (h | ⟨o, h⟩) | ⟨o, its, n, h1, h2, _⟩
      · exact .base (.tup (rm_le _ _ h))
      · exact .fTuple (rm_le _ _ h)
      · exact .kTuple h1 h2
  · exact .base (.lst h)
inductive Ty where
  | bool | int | str | list | tuple | dict
def Ty.s : Ty → String
  | .bool => "bool"
  | .int => "int"
  | .str => "str"
  | .list => "list"
  | .tuple => "tuple"
  | .dict => "dict"
def isiD : Ty → PyData → Bool
  | .bool, .bool _ => true
  | .int, .int _ => true
  | .int, .bool _ => true
  | .str, .str _ => true
  | .list, .list _ => true
  | .tuple, .tuple _ => true
  | .dict, .dict _ => true
  | _, _ => false
def isiN (a b : String) : Bool := a == b || (a == "bool" && b == "int")
theorem kit_all : ∀ a, a ∈ ["NoneType", "bool", "int", "str", "list", "tuple", "dict"] → ∀ b, b ∈ ["bool", "int", "str", "list", "tuple", "dict"] → kitB a b = some (isiN a b) := by decide +kernel
theorem kit_data {T : Ty} {d : PyData} : kitB (tyD d) T.s = some (isiD T d) := by
  have h1 : tyD d ∈ ["NoneType", "bool", "int", "str", "list", "tuple", "dict"] := by cases d <;> simp [tyD]
  have h2 : T.s ∈ ["bool", "int", "str", "list", "tuple", "dict"] := by cases T <;> simp [Ty.s]
  rw [kit_all _ h1 _ h2]
  cases T <;> cases d <;> rfl
def wIsi (T : Ty) (we : WE) : WE := fun ρ P => we ρ fun ρ1 d => P ρ1 (.bool (isiD T d))
theorem de_isi (T : Ty) {x : Str} {p p2 : Pos} (hm : ∀ i, (X i).mg "isinstance" = none) (hx : ∀ i, (X i).mg x = none) (h : DE X K e we) (hv : bootBuiltins x = some (.type T.s) := by decide +kernel) (hK : ∀ i, (X i).K = K := by intro i; rfl) (hg : ∀ i, Gl (X i) "isinstance" := by intro i; rfl) (hg2 : ∀ i, Gl (X i) x := by intro i; rfl)
    (hn : x ≠ "__name__" := by decide) (hd : (x == ("__debug__" : Str)) = false := by decide) (he : ∀ i, starEach [e, .Name x p2] (X i).env = (false, eval e (X i).env) :: starEach [.Name x p2] (X i).env := by intro i; rfl) (he2 : ∀ i, starEach [.Name x p2] (X i).env = (false, eval (.Name x p2) (X i).env) :: starEach [] (X i).env := by intro i; rfl)
    (hpl : ∀ i, (backTo pos (starEach [.Name x p2] (X i).env)).any (·.1) = false := by intro i; rfl) : DE X K (.Call (.Name "isinstance" p) [e, .Name x p2] [] pos) (wIsi T we) := by
  obtain ⟨t, a1, a2⟩ := h
  refine ⟨tCB (rIsi K) (tCons t (tCons (tC (.ty T.s)) tNil)), fun i => by rw [← hK i]; exact pe_callB call_isi (hg i) (hm i) PyProof.Rows.boot_isinstance (pa_cons (a1 i) (pa_cons (pe_bltn (hg2 i) (hx i) hv rfl hn hd) pa_nil (he2 i)) (he i)) (by decide) (by decide) (he i) (hpl i), fun M0 M B σ H ρ P Q E w k => ?_⟩
  refine a2 M0 M B σ H ρ _ _ E w fun ρ1 d v H1 w1 x1 E1 r1 => ?_
  exact ⟨v, .ty T.s, _, _, _, rfl, .ty T.s, ty_of (M := M) (.inl r1), kit_ty kit_data, k ρ1 _ _ H1 w1 x1 E1 (.bl _)⟩
def wIsi2 (T U : Ty) (we : WE) : WE := fun ρ P => we ρ fun ρ1 d => P ρ1 (.bool (isiD T d || isiD U d))
theorem de_isi2 (T U : Ty) {x y : Str} {p p2 p3 p4 : Pos} {cc : Nat} (hm : ∀ i, (X i).mg "isinstance" = none) (hx : ∀ i, (X i).mg x = none) (hy : ∀ i, (X i).mg y = none) (h : DE X K e we) (hv : bootBuiltins x = some (.type T.s) := by decide +kernel) (hv2 : bootBuiltins y = some (.type U.s) := by decide +kernel)
    (hK : ∀ i, (X i).K = K := by intro i; rfl) (hg : ∀ i, Gl (X i) "isinstance" := by intro i; rfl) (hgx : ∀ i, Gl (X i) x := by intro i; rfl) (hgy : ∀ i, Gl (X i) y := by intro i; rfl) (hn : x ≠ "__name__" := by decide) (hd : (x == ("__debug__" : Str)) = false := by decide) (hn2 : y ≠ "__name__" := by decide) (hd2 : (y == ("__debug__" : Str)) = false := by decide)
    (he : ∀ i, starEach [e, .Tuple [.Name x p2, .Name y p3] cc p4] (X i).env = (false, eval e (X i).env) :: starEach [.Tuple [.Name x p2, .Name y p3] cc p4] (X i).env := by intro i; rfl) (he2 : ∀ i, starEach [.Tuple [.Name x p2, .Name y p3] cc p4] (X i).env = (false, eval (.Tuple [.Name x p2, .Name y p3] cc p4) (X i).env) :: starEach [] (X i).env := by intro i; rfl)
    (he3 : ∀ i, starEach [.Name x p2, .Name y p3] (X i).env = (false, eval (.Name x p2) (X i).env) :: starEach [.Name y p3] (X i).env := by intro i; rfl) (he4 : ∀ i, starEach [.Name y p3] (X i).env = (false, eval (.Name y p3) (X i).env) :: starEach [] (X i).env := by intro i; rfl)
    (hpt : ∀ i t, PA (X i) [.Name x p2, .Name y p3] t → PE (X i) (.Tuple [.Name x p2, .Name y p3] cc p4) (tTup t) := by intro i t h; exact pe_tup h)
    (hpl : ∀ i, (backTo pos (starEach [.Tuple [.Name x p2, .Name y p3] cc p4] (X i).env)).any (·.1) = false := by intro i; rfl) : DE X K (.Call (.Name "isinstance" p) [e, .Tuple [.Name x p2, .Name y p3] cc p4] [] pos) (wIsi2 T U we) := by
  obtain ⟨t, a1, a2⟩ := h
  refine ⟨tCB (rIsiT K) (tCons t (tCons (tTup (tCons (tC (.ty T.s)) (tCons (tC (.ty U.s)) tNil))) tNil)), fun i => by
    rw [← hK i]
    exact pe_callB call_isiT (hg i) (hm i) PyProof.Rows.boot_isinstance (pa_cons (a1 i) (pa_cons (hpt i _ (pa_cons (pe_bltn (hgx i) (hx i) hv rfl hn hd) (pa_cons (pe_bltn (hgy i) (hy i) hv2 rfl hn2 hd2) pa_nil (he4 i)) (he3 i))) pa_nil (he2 i)) (he i)) (by decide) (by decide) (he i) (hpl i), fun M0 M B σ H ρ P Q E w k => ?_⟩
  refine a2 M0 M B σ H ρ _ _ E w fun ρ1 d v H1 w1 x1 E1 r1 => ?_
  refine ⟨by show 2 ≤ sizeLine; decide, fun q nq => ⟨v, q, [.ty T.s, .ty U.s], _, [.type T.s, .type U.s], isiD T d || isiD U d, rfl, upd_same, .cons (.ty T.s) (.cons (.ty U.s) .nil), ty_of (M := M) (RV.up E1 (same_new nq) (.inl r1)), ?_, ?_⟩⟩
  · refine kitAny_cons (kit_ty kit_data) (fun hf => ?_) (fun ht => by rw [ht]; rfl)
    rw [hf, Bool.false_or]
    exact kitAny_cons (r := isiD U d) (kit_ty kit_data) (fun hf2 => by rw [hf2]; exact kitAny_nil) (fun ht => ht)
  · exact k ρ1 _ _ _ w1 (x1.trans (Ext.same (same_new nq))) (E1.same (same_new nq)) (.bl _)
/-! ### zip -/
def zipD (xs ys : List PyData) : List PyData := (xs.zip ys).map fun p => .tuple [p.1, p.2]
theorem zipD_get {xs ys : List PyData} {i : Nat} {d : PyData} (h : (zipD xs ys)[i]? = some d) : ∃ x y, xs[i]? = some x ∧ ys[i]? = some y ∧ d = .tuple [x, y] := by
  unfold zipD at h
  rw [List.getElem?_map] at h
  cases e : (xs.zip ys)[i]? with
  | none => rw [e] at h; cases h
  | some p =>
    rw [e] at h
    obtain ⟨x, y⟩ := p
    have q := List.getElem?_zip_eq_some.mp e
    exact ⟨x, y, q.1, q.2, (Option.some.inj h).symm⟩
theorem zipD_len {xs ys : List PyData} : (zipD xs ys).length = min xs.length ys.length := by simp [zipD]
theorem it_zipT {M : List Addr} {H : Hp} {a b : Addr} {xs ys : List V} {ds es : List PyData} (h : SqT K (rm M H) a xs) (r : DtAll K (rm M H) xs ds) (h2 : SqT K (rm M H) b ys) (r2 : DtAll K (rm M H) ys es) : IterOk K M H (ItzT K a b) (zipD ds es) := fun M' H' s dom => by
  have h' : SqT K H' a xs := same_t rm_le (same_t s h)
  have h2' : SqT K H' b ys := same_t rm_le (same_t s h2)
  refine ⟨fun i d hd => ?_, ⟨xs, ys, h', h2', by rw [zipD_len, DtAll.len r, DtAll.len r2]; omega⟩⟩
  obtain ⟨x, y, hx, hy, rfl⟩ := zipD_get hd
  obtain ⟨v, hv, rv⟩ := DtAll.getd r hx
  obtain ⟨u, hu, ru⟩ := DtAll.getd r2 hy
  refine ⟨⟨xs, ys, v, u, h', h2', hv, hu⟩, fun z H'' q => ?_⟩
  obtain ⟨T, x', y', rfl, nT, rfl, q1, q2⟩ := q
  have e1 := q1 xs h'
  have e2 := q2 ys h2'
  rw [hv] at e1
  rw [hu] at e2
  cases e1
  cases e2
  exact ⟨same_new nT, .tup (.inl (.inl (rm_of (fun q => dom T q nT) upd_same))) (.cons (Dt.up (up_new nT) (Dt.up s rv)) (.cons (Dt.up (up_new nT) (Dt.up s ru)) .nil))⟩
theorem it_zipL {M : List Addr} {H : Hp} {a b : Addr} {xs ys : List V} {ds es : List PyData} (h : rm M H a = some (.lst xs)) (r : DtAll K (rm M H) xs ds) (h2 : rm M H b = some (.lst ys)) (r2 : DtAll K (rm M H) ys es) : IterOk K M H (Itz K a b) (zipD ds es) := fun M' H' s dom => by
  have h' : SqL K H' a xs := SqL.of (rm_to (s _ _ h)).2
  have h2' : SqL K H' b ys := SqL.of (rm_to (s _ _ h2)).2
  refine ⟨fun i d hd => ?_, ⟨xs, ys, h', h2', by rw [zipD_len, DtAll.len r, DtAll.len r2]; omega⟩⟩
  obtain ⟨x, y, hx, hy, rfl⟩ := zipD_get hd
  obtain ⟨v, hv, rv⟩ := DtAll.getd r hx
  obtain ⟨u, hu, ru⟩ := DtAll.getd r2 hy
  refine ⟨⟨xs, ys, v, u, h', h2', hv, hu⟩, fun z H'' q => ?_⟩
  obtain ⟨T, x', y', rfl, nT, rfl, q1, q2⟩ := q
  have e1 := q1 xs h'
  have e2 := q2 ys h2'
  rw [hv] at e1
  rw [hu] at e2
  cases e1
  cases e2
  exact ⟨same_new nT, .tup (.inl (.inl (rm_of (fun q => dom T q nT) upd_same))) (.cons (Dt.up (up_new nT) (Dt.up s rv)) (.cons (Dt.up (up_new nT) (Dt.up s ru)) .nil))⟩
def wZip (wa wb : WE) : WI := fun ρ P => wa ρ fun ρ1 x => wb ρ1 fun ρ2 y => match x, y with
  | .list xs, .list ys => P ρ2 (zipD xs ys)
  | .tuple xs, .tuple ys => P ρ2 (zipD xs ys)
  | _, _ => False
theorem di_zip {p tpos : Pos} {elts : List Expr} {kk : Nat} (hm : ∀ i, (X i).mg "zip" = none) (ha : DE X K a wa) (hb : DE X K b wb) (hK : ∀ i, (X i).K = K := by intro i; rfl) (hg : ∀ i, Gl (X i) "zip" := by intro i; rfl) (hs : ∀ i, starEach [a, b] (X i).env = (false, eval a (X i).env) :: starEach [b] (X i).env := by intro i; rfl)
    (hs2 : ∀ i, starEach [b] (X i).env = (false, eval b (X i).env) :: starEach [] (X i).env := by intro i; rfl) (hpl : ∀ i, (backTo pos (starEach [b] (X i).env)).any (·.1) = false := by intro i; rfl) : DI X K (.Tuple elts kk tpos) (.Call (.Name "zip" p) [a, b] [] pos) (wZip wa wb) := by
  obtain ⟨t, a1, a2⟩ := ha
  obtain ⟨u, b1, b2⟩ := hb
  refine ⟨iZipA K (tCons t (tCons u tNil)), fun i => by rw [← hK i]; exact pi_zipA (hg i) (hm i) (pa_cons (a1 i) (pa_cons (b1 i) pa_nil (hs2 i)) (hs i)) (hs i) (hpl i), fun M0 M B σ H ρ P R E w k => ?_⟩
  refine a2 M0 M B σ H ρ _ _ E w fun ρ1 x v H1 w1 x1 E1 r1 => ?_
  refine b2 M0 M B σ H1 ρ1 _ _ E1 w1 fun ρ2 y v2 H2 w2 x2 E2 r2 => ?_
  have r1' := E1.up x2 r1
  cases x with
  | list xs =>
    cases y with
    | list ys =>
      obtain ⟨p, vs, rfl, h1, h2⟩ := Dt.isLst r1'
      obtain ⟨q, us, rfl, h3, h4⟩ := Dt.isLst r2
      exact ⟨p, q, vs, us, rfl, .inl ⟨SqL.of (rm_le _ _ h1), SqL.of (rm_le _ _ h3), k ρ2 _ _ H2 w2 (x1.trans x2) E2 (it_zipL h1 h2 h3 h4)⟩⟩
    | _ => exact w2.elim
  | tuple xs =>
    cases y with
    | tuple ys =>
      obtain ⟨p, vs, rfl, h1, h2⟩ := Dt.isTup r1'
      obtain ⟨q, us, rfl, h3, h4⟩ := Dt.isTup r2
      exact ⟨p, q, vs, us, rfl, .inr ⟨same_t rm_le h1, same_t rm_le h3, k ρ2 _ _ H2 w2 (x1.trans x2) E2 (it_zipT h1 h2 h3 h4)⟩⟩
    | _ => exact w2.elim
  | _ => exact w2.elim
/-! ### tuples of the module -/
def GlobOk (K : Fr) (mg : Str → Option Value) (x : Str) (d : PyData) : Prop := ∃ a, mg x = some (.ref a) ∧ ∀ H, Dt K H (.ref a) d
theorem de_globT {x : Str} {d : PyData} (h : ∃ a, (∀ i, (X i).mg x = some (.ref a)) ∧ ∀ H, Dt K H (.ref a) d) (hg : ∀ i, Gl (X i) x := by intro i; rfl) (hd1 : (x == ("__debug__" : Str)) = false := by decide) : DE X K (.Name x pos) (wC d) := by
  obtain ⟨a, h1, h2⟩ := h
  exact de_c (v := .ref a) (fun i => pe_glob (hg i) (h1 i) rfl hd1) h2
theorem GlobOk.use {mg : Str → Option Value} {x : Str} {d : PyData} (g : GlobOk K mg x d) (h : ∀ i, (X i).mg = mg) : ∃ a, (∀ i, (X i).mg x = some (.ref a)) ∧ ∀ H, Dt K H (.ref a) d := by
  obtain ⟨a, h1, h2⟩ := g
  exact ⟨a, fun i => by rw [h i]; exact h1, h2⟩
theorem glob_tup {h : Heap} {mg : Str → Option Value} {x : Str} {a : Addr} {od : Option Addr} {its : Array Value} {n : Nat} {sl : Array (Option Value)} {xs : List V} {ds : List PyData} (X : K.In h) (G : h.Ns mainGlobals mg) (g : PySem.W.nsIn K mainGlobals x = some (some (.ref a))) (l : K.lookup a = some ⟨.type "tuple", od, .seq its n, sl⟩)
    (hz : its.size ≤ sizeLine) (hv : Vals xs its.toList) (hd : ∀ H, DtAll K H xs ds) : GlobOk K mg x (.tuple ds) :=
  ⟨a, PySem.W.mg_of X G g, fun H => .tup (.inr ⟨_, its, n, l, rfl, rfl, hz, hv⟩) (hd H)⟩
/-- what is told is a dict that nobody changes any more -/
def tFrz (t : TE) : TE := fun σ H Q => t σ H fun x H1 => ∃ d kvs, x = .ref d ∧ H1 d = some (.dK kvs) ∧ ∀ o, Q x (upd H1 d (.frz o (.dK kvs)))
theorem pe_frz {Y : Cx} {t : TE} (h : PE Y e t) : PE Y e (tFrz t) := by
  refine ⟨fun pins s σ H Q I hw => ?_⟩
  refine thn (h.run pins s σ H _ I hw) fun v s1 ⟨x, H1, I1, r, d, kvs, ex, hd, q⟩ => ?_
  obtain ⟨od, I2⟩ := I1.lock hd trivial
  exact ⟨x, _, I2, r, q od⟩
theorem upd_upd {H : Hp} {p : Addr} {a b : HO} : upd (upd H p a) p b = upd H p b := by
  funext q
  by_cases c : q = p
  · subst c; rw [upd_same, upd_same]
  · rw [upd_ne c, upd_ne c, upd_ne c]
/-- a dict's display without pairs -/
theorem de_dnew : DE X K (.Dict [] [] pos) (wC (.dict [])) := by
  refine ⟨tFrz tDNewK, fun i => pe_frz pe_dnewK, fun M0 M B σ H ρ P Q E w k => ?_⟩
  intro p np
  refine ⟨p, [], rfl, upd_same, fun o => ?_⟩
  rw [upd_upd]
  exact k ρ _ _ _ w (Ext.same (same_new np)) (E.same (same_new np)) (.dic (rm_of (E.fresh np) upd_same) .nil)
/-- a promise that nobody may ask -/
theorem has_none {P : Program} {w : World} {mg : Str → Option Value} {base : Heap} {x : Str} {st : Stmt} {N ps : List Str} {k : Nat} (D : Def K mg x st ps) (sc : FnScope N ps (defScope st)) : Has P w K mg base (k + 1) x (spP K fun _ _ => False) :=
  D.has fun f fd F => Fun_ok F sc (fun vs H Q E h => by obtain ⟨_, _, _, _, _, h, _⟩ := h; exact h.elim) (fun cdv A outer s H vs Q E hr h => by obtain ⟨_, _, _, _, _, h, _⟩ := h; exact h.elim)
theorem has_noneW {P : Program} {w : World} {mg : Str → Option Value} {base : Heap} {x : Str} {st : Stmt} {N ps : List Str} {k : Nat} (D : Def K mg x st ps) (sc : FnScope N ps (defScope st)) : Has P w K mg base (k + 1) x (spW K fun _ _ _ => False) :=
  D.has fun f fd F => Fun_ok F sc (fun vs H Q E h => by obtain ⟨_, _, _, _, _, _, _, _, _, _, _, _, _, h, _⟩ := h; exact h.elim) (fun cdv A outer s H vs Q E hr h => by obtain ⟨_, _, _, _, _, _, _, _, _, _, _, _, _, h, _⟩ := h; exact h.elim)
end Pm
namespace Pm
open PySem PySem.Spec PyProof.Rows L2
variable {ι : Type} {X : ι → Cx} {K : Fr} {a e e2 e3 : Expr} {we wo : WE} {wa : WA} {apos cpos : Pos}
/-! ### methods of texts -/
def fStrip : FM
  | a, [.str b], P => a.length ≤ sizeLine ∧ P (.str (Txt.stripChars a b))
  | _, _, _ => False
theorem md_strip : MtD K (fun x xs H Q => ∃ (a b : Str), x = .str a ∧ xs = [.str b] ∧ a.length ≤ sizeLine ∧ Q (.str (Txt.stripChars a b)) H) fStrip := by
  intro M H x ds vs P Q dom r f k
  match ds, f with
  | [.str b], f =>
    cases r with
    | cons r1 r =>
      cases r
      rw [Dt.isStr r1]
      exact ⟨x, b, rfl, rfl, f.1, k _ _ H f.2 (Same.refl _) (.str _)⟩
theorem de_strip (h : DE X K a wo) (ha : DA X K [e] wa) (hK : ∀ i, (X i).K = K := by intro i; rfl)
    (hp : ∀ i t u, PE (X i) a t → PA (X i) [e] u → PE (X i) (.Call (.Attribute a "strip" apos) [e] [] cpos) (tBM (X i).K "str" (fun x xs H Q => ∃ (a b : Str), x = .str a ∧ xs = [.str b] ∧ a.length ≤ sizeLine ∧ Q (.str (Txt.stripChars a b)) H) t u) := by intro i t u h1 h2; exact pe_bm PySem.F.plainAttrs_str PySem.F.slot_str_strip PySem.F.type_str_strip mt_stripChars h1 h2) :
    DE X K (.Call (.Attribute a "strip" apos) [e] [] cpos) (wM fStrip wo wa) :=
  de_m (fun i t u h1 h2 => by rw [← hK i]; exact hp i t u h1 h2) md_strip h ha
def fLstrip : FM
  | a, [.str b], P => a.length ≤ sizeLine ∧ P (.str (Txt.lstripChars a b))
  | _, _, _ => False
theorem md_lstrip : MtD K (fun x xs H Q => ∃ (a b : Str), x = .str a ∧ xs = [.str b] ∧ a.length ≤ sizeLine ∧ Q (.str (Txt.lstripChars a b)) H) fLstrip := by
  intro M H x ds vs P Q dom r f k
  match ds, f with
  | [.str b], f =>
    cases r with
    | cons r1 r =>
      cases r
      rw [Dt.isStr r1]
      exact ⟨x, b, rfl, rfl, f.1, k _ _ H f.2 (Same.refl _) (.str _)⟩
theorem de_lstrip (h : DE X K a wo) (ha : DA X K [e] wa) (hK : ∀ i, (X i).K = K := by intro i; rfl)
    (hp : ∀ i t u, PE (X i) a t → PA (X i) [e] u → PE (X i) (.Call (.Attribute a "lstrip" apos) [e] [] cpos) (tBM (X i).K "str" (fun x xs H Q => ∃ (a b : Str), x = .str a ∧ xs = [.str b] ∧ a.length ≤ sizeLine ∧ Q (.str (Txt.lstripChars a b)) H) t u) := by intro i t u h1 h2; exact pe_bm PySem.F.plainAttrs_str PySem.F.slot_str_lstrip PySem.F.type_str_lstrip mt_lstripChars h1 h2) :
    DE X K (.Call (.Attribute a "lstrip" apos) [e] [] cpos) (wM fLstrip wo wa) :=
  de_m (fun i t u h1 h2 => by rw [← hK i]; exact hp i t u h1 h2) md_lstrip h ha
def fRstrip : FM
  | a, [.str b], P => a.length ≤ sizeLine ∧ P (.str (Txt.rstripChars a b))
  | _, _, _ => False
theorem md_rstrip : MtD K (fun x xs H Q => ∃ (a b : Str), x = .str a ∧ xs = [.str b] ∧ a.length ≤ sizeLine ∧ Q (.str (Txt.rstripChars a b)) H) fRstrip := by
  intro M H x ds vs P Q dom r f k
  match ds, f with
  | [.str b], f =>
    cases r with
    | cons r1 r =>
      cases r
      rw [Dt.isStr r1]
      exact ⟨x, b, rfl, rfl, f.1, k _ _ H f.2 (Same.refl _) (.str _)⟩
theorem de_rstrip (h : DE X K a wo) (ha : DA X K [e] wa) (hK : ∀ i, (X i).K = K := by intro i; rfl)
    (hp : ∀ i t u, PE (X i) a t → PA (X i) [e] u → PE (X i) (.Call (.Attribute a "rstrip" apos) [e] [] cpos) (tBM (X i).K "str" (fun x xs H Q => ∃ (a b : Str), x = .str a ∧ xs = [.str b] ∧ a.length ≤ sizeLine ∧ Q (.str (Txt.rstripChars a b)) H) t u) := by intro i t u h1 h2; exact pe_bm PySem.F.plainAttrs_str PySem.F.slot_str_rstrip PySem.F.type_str_rstrip mt_rstripChars h1 h2) :
    DE X K (.Call (.Attribute a "rstrip" apos) [e] [] cpos) (wM fRstrip wo wa) :=
  de_m (fun i t u h1 h2 => by rw [← hK i]; exact hp i t u h1 h2) md_rstrip h ha
def fStarts : FM
  | a, [.str b], P => P (.bool (Txt.startswith a b))
  | _, _, _ => False
theorem md_startswith : MtD K (fun x xs H Q => ∃ (a b : Str), x = .str a ∧ xs = [.str b] ∧ Q (.bl (Txt.startswith a b)) H) fStarts := by
  intro M H x ds vs P Q dom r f k
  match ds, f with
  | [.str b], f =>
    cases r with
    | cons r1 r =>
      cases r
      rw [Dt.isStr r1]
      exact ⟨x, b, rfl, rfl, k _ _ H f (Same.refl _) (.bl _)⟩
theorem de_startswith (h : DE X K a wo) (ha : DA X K [e] wa) (hK : ∀ i, (X i).K = K := by intro i; rfl)
    (hp : ∀ i t u, PE (X i) a t → PA (X i) [e] u → PE (X i) (.Call (.Attribute a "startswith" apos) [e] [] cpos) (tBM (X i).K "str" (fun x xs H Q => ∃ (a b : Str), x = .str a ∧ xs = [.str b] ∧ Q (.bl (Txt.startswith a b)) H) t u) := by intro i t u h1 h2; exact pe_bm PySem.F.plainAttrs_str PySem.F.slot_str_startswith PySem.F.type_str_startswith mt_startswith h1 h2) :
    DE X K (.Call (.Attribute a "startswith" apos) [e] [] cpos) (wM fStarts wo wa) :=
  de_m (fun i t u h1 h2 => by rw [← hK i]; exact hp i t u h1 h2) md_startswith h ha
def fStarts3 : FM
  | a, [.str b, .int i], P => P (.bool (Txt.startswith3 a b i))
  | _, _, _ => False
theorem md_startswith3 : MtD K (fun x xs H Q => ∃ (a b : Str) (i : Int), x = .str a ∧ xs = [.str b, .int i] ∧ Q (.bl (Txt.startswith3 a b i)) H) fStarts3 := by
  intro M H x ds vs P Q dom r f k
  match ds, f with
  | [.str b, .int i], f =>
    cases r with
    | cons r1 r =>
      cases r with
      | cons r2 r =>
        cases r
        rw [Dt.isStr r1, Dt.isInt r2]
        exact ⟨x, b, i, rfl, rfl, k _ _ H f (Same.refl _) (.bl _)⟩
theorem de_startswith3 (h : DE X K a wo) (ha : DA X K [e, e2] wa) (hK : ∀ i, (X i).K = K := by intro i; rfl)
    (hp : ∀ i t u, PE (X i) a t → PA (X i) [e, e2] u → PE (X i) (.Call (.Attribute a "startswith" apos) [e, e2] [] cpos) (tBM (X i).K "str" (fun x xs H Q => ∃ (a b : Str) (i : Int), x = .str a ∧ xs = [.str b, .int i] ∧ Q (.bl (Txt.startswith3 a b i)) H) t u) := by intro i t u h1 h2; exact pe_bm PySem.F.plainAttrs_str PySem.F.slot_str_startswith PySem.F.type_str_startswith mt_startswith3 h1 h2) :
    DE X K (.Call (.Attribute a "startswith" apos) [e, e2] [] cpos) (wM fStarts3 wo wa) :=
  de_m (fun i t u h1 h2 => by rw [← hK i]; exact hp i t u h1 h2) md_startswith3 h ha
def fEnds : FM
  | a, [.str b], P => P (.bool (Txt.endswith a b))
  | _, _, _ => False
theorem md_endswith : MtD K (fun x xs H Q => ∃ (a b : Str), x = .str a ∧ xs = [.str b] ∧ Q (.bl (Txt.endswith a b)) H) fEnds := by
  intro M H x ds vs P Q dom r f k
  match ds, f with
  | [.str b], f =>
    cases r with
    | cons r1 r =>
      cases r
      rw [Dt.isStr r1]
      exact ⟨x, b, rfl, rfl, k _ _ H f (Same.refl _) (.bl _)⟩
theorem de_endswith (h : DE X K a wo) (ha : DA X K [e] wa) (hK : ∀ i, (X i).K = K := by intro i; rfl)
    (hp : ∀ i t u, PE (X i) a t → PA (X i) [e] u → PE (X i) (.Call (.Attribute a "endswith" apos) [e] [] cpos) (tBM (X i).K "str" (fun x xs H Q => ∃ (a b : Str), x = .str a ∧ xs = [.str b] ∧ Q (.bl (Txt.endswith a b)) H) t u) := by intro i t u h1 h2; exact pe_bm PySem.F.plainAttrs_str PySem.F.slot_str_endswith PySem.F.type_str_endswith mt_endswith h1 h2) :
    DE X K (.Call (.Attribute a "endswith" apos) [e] [] cpos) (wM fEnds wo wa) :=
  de_m (fun i t u h1 h2 => by rw [← hK i]; exact hp i t u h1 h2) md_endswith h ha
def fFind : FM
  | a, [.str b], P => P (.int (Txt.find a b))
  | _, _, _ => False
theorem md_find : MtD K (fun x xs H Q => ∃ (a b : Str), x = .str a ∧ xs = [.str b] ∧ Q (.int (Txt.find a b)) H) fFind := by
  intro M H x ds vs P Q dom r f k
  match ds, f with
  | [.str b], f =>
    cases r with
    | cons r1 r =>
      cases r
      rw [Dt.isStr r1]
      exact ⟨x, b, rfl, rfl, k _ _ H f (Same.refl _) (.int _)⟩
theorem de_find (h : DE X K a wo) (ha : DA X K [e] wa) (hK : ∀ i, (X i).K = K := by intro i; rfl)
    (hp : ∀ i t u, PE (X i) a t → PA (X i) [e] u → PE (X i) (.Call (.Attribute a "find" apos) [e] [] cpos) (tBM (X i).K "str" (fun x xs H Q => ∃ (a b : Str), x = .str a ∧ xs = [.str b] ∧ Q (.int (Txt.find a b)) H) t u) := by intro i t u h1 h2; exact pe_bm PySem.F.plainAttrs_str PySem.F.slot_str_find PySem.F.type_str_find mt_find h1 h2) :
    DE X K (.Call (.Attribute a "find" apos) [e] [] cpos) (wM fFind wo wa) :=
  de_m (fun i t u h1 h2 => by rw [← hK i]; exact hp i t u h1 h2) md_find h ha
def fFind3 : FM
  | a, [.str b, .int i], P => P (.int (Txt.find3 a b i))
  | _, _, _ => False
theorem md_find3 : MtD K (fun x xs H Q => ∃ (a b : Str) (i : Int), x = .str a ∧ xs = [.str b, .int i] ∧ Q (.int (Txt.find3 a b i)) H) fFind3 := by
  intro M H x ds vs P Q dom r f k
  match ds, f with
  | [.str b, .int i], f =>
    cases r with
    | cons r1 r =>
      cases r with
      | cons r2 r =>
        cases r
        rw [Dt.isStr r1, Dt.isInt r2]
        exact ⟨x, b, i, rfl, rfl, k _ _ H f (Same.refl _) (.int _)⟩
theorem de_find3 (h : DE X K a wo) (ha : DA X K [e, e2] wa) (hK : ∀ i, (X i).K = K := by intro i; rfl)
    (hp : ∀ i t u, PE (X i) a t → PA (X i) [e, e2] u → PE (X i) (.Call (.Attribute a "find" apos) [e, e2] [] cpos) (tBM (X i).K "str" (fun x xs H Q => ∃ (a b : Str) (i : Int), x = .str a ∧ xs = [.str b, .int i] ∧ Q (.int (Txt.find3 a b i)) H) t u) := by intro i t u h1 h2; exact pe_bm PySem.F.plainAttrs_str PySem.F.slot_str_find PySem.F.type_str_find mt_find3 h1 h2) :
    DE X K (.Call (.Attribute a "find" apos) [e, e2] [] cpos) (wM fFind3 wo wa) :=
  de_m (fun i t u h1 h2 => by rw [← hK i]; exact hp i t u h1 h2) md_find3 h ha
def fFind4 : FM
  | a, [.str b, .int i, .int j], P => P (.int (Txt.findIn a b i j))
  | _, _, _ => False
theorem md_find4 : MtD K (fun x xs H Q => ∃ (a b : Str) (i j : Int), x = .str a ∧ xs = [.str b, .int i, .int j] ∧ Q (.int (Txt.findIn a b i j)) H) fFind4 := by
  intro M H x ds vs P Q dom r f k
  match ds, f with
  | [.str b, .int i, .int j], f =>
    cases r with
    | cons r1 r =>
      cases r with
      | cons r2 r =>
        cases r with
        | cons r3 r =>
          cases r
          rw [Dt.isStr r1, Dt.isInt r2, Dt.isInt r3]
          exact ⟨x, b, i, j, rfl, rfl, k _ _ H f (Same.refl _) (.int _)⟩
theorem de_find4 (h : DE X K a wo) (ha : DA X K [e, e2, e3] wa) (hK : ∀ i, (X i).K = K := by intro i; rfl)
    (hp : ∀ i t u, PE (X i) a t → PA (X i) [e, e2, e3] u → PE (X i) (.Call (.Attribute a "find" apos) [e, e2, e3] [] cpos) (tBM (X i).K "str" (fun x xs H Q => ∃ (a b : Str) (i j : Int), x = .str a ∧ xs = [.str b, .int i, .int j] ∧ Q (.int (Txt.findIn a b i j)) H) t u) := by intro i t u h1 h2; exact pe_bm PySem.F.plainAttrs_str PySem.F.slot_str_find PySem.F.type_str_find mt_find4 h1 h2) :
    DE X K (.Call (.Attribute a "find" apos) [e, e2, e3] [] cpos) (wM fFind4 wo wa) :=
  de_m (fun i t u h1 h2 => by rw [← hK i]; exact hp i t u h1 h2) md_find4 h ha
def fCount : FM
  | a, [.str b], P => P (.int (Txt.count a b))
  | _, _, _ => False
theorem md_count : MtD K (fun x xs H Q => ∃ (a b : Str), x = .str a ∧ xs = [.str b] ∧ Q (.int (Txt.count a b)) H) fCount := by
  intro M H x ds vs P Q dom r f k
  match ds, f with
  | [.str b], f =>
    cases r with
    | cons r1 r =>
      cases r
      rw [Dt.isStr r1]
      exact ⟨x, b, rfl, rfl, k _ _ H f (Same.refl _) (.int _)⟩
theorem de_count (h : DE X K a wo) (ha : DA X K [e] wa) (hK : ∀ i, (X i).K = K := by intro i; rfl)
    (hp : ∀ i t u, PE (X i) a t → PA (X i) [e] u → PE (X i) (.Call (.Attribute a "count" apos) [e] [] cpos) (tBM (X i).K "str" (fun x xs H Q => ∃ (a b : Str), x = .str a ∧ xs = [.str b] ∧ Q (.int (Txt.count a b)) H) t u) := by intro i t u h1 h2; exact pe_bm PySem.F.plainAttrs_str PySem.F.slot_str_count PySem.F.type_str_count mt_count h1 h2) :
    DE X K (.Call (.Attribute a "count" apos) [e] [] cpos) (wM fCount wo wa) :=
  de_m (fun i t u h1 h2 => by rw [← hK i]; exact hp i t u h1 h2) md_count h ha
def fCount4 : FM
  | a, [.str b, .int i, .int j], P => P (.int (Txt.countIn a b i j))
  | _, _, _ => False
theorem md_count4 : MtD K (fun x xs H Q => ∃ (a b : Str) (i j : Int), x = .str a ∧ xs = [.str b, .int i, .int j] ∧ Q (.int (Txt.countIn a b i j)) H) fCount4 := by
  intro M H x ds vs P Q dom r f k
  match ds, f with
  | [.str b, .int i, .int j], f =>
    cases r with
    | cons r1 r =>
      cases r with
      | cons r2 r =>
        cases r with
        | cons r3 r =>
          cases r
          rw [Dt.isStr r1, Dt.isInt r2, Dt.isInt r3]
          exact ⟨x, b, i, j, rfl, rfl, k _ _ H f (Same.refl _) (.int _)⟩
theorem de_count4 (h : DE X K a wo) (ha : DA X K [e, e2, e3] wa) (hK : ∀ i, (X i).K = K := by intro i; rfl)
    (hp : ∀ i t u, PE (X i) a t → PA (X i) [e, e2, e3] u → PE (X i) (.Call (.Attribute a "count" apos) [e, e2, e3] [] cpos) (tBM (X i).K "str" (fun x xs H Q => ∃ (a b : Str) (i j : Int), x = .str a ∧ xs = [.str b, .int i, .int j] ∧ Q (.int (Txt.countIn a b i j)) H) t u) := by intro i t u h1 h2; exact pe_bm PySem.F.plainAttrs_str PySem.F.slot_str_count PySem.F.type_str_count mt_count4 h1 h2) :
    DE X K (.Call (.Attribute a "count" apos) [e, e2, e3] [] cpos) (wM fCount4 wo wa) :=
  de_m (fun i t u h1 h2 => by rw [← hK i]; exact hp i t u h1 h2) md_count4 h ha
def FZ (f : Str → (PyData → Prop) → Prop) : F1
  | .str x, P => f x P
  | _, _ => False
theorem de_m0 {c : Expr} {r : V → List V → Hp → VK → Prop} {f : Str → (PyData → Prop) → Prop} (hp : ∀ i t, PE (X i) a t → PE (X i) c (tBM0 K "str" r t)) (md : ∀ (M : List Addr) (H : Hp) (x : Str) (P : PyData → Prop) (Q : VK), (∀ a, a ∈ M → H a ≠ none) → f x P → (∀ d z H', P d → Same H H' → Dt K (rm M H') z d → Q z H') → r (.str x) [] H Q) (h : DE X K a wo) : DE X K c (wU (FZ f) wo) := by
  obtain ⟨t, a1, a2⟩ := h
  refine ⟨_, fun i => hp i t (a1 i), fun M0 M B σ H ρ P Q E w k => ?_⟩
  refine a2 M0 M B σ H ρ _ _ E w fun ρ1 d v H1 w1 x1 E1 r1 => ?_
  cases d with
  | str s =>
    rw [Dt.isStr r1]
    exact ⟨rfl, md M H1 s _ Q E1.dom w1 fun d z H3 p e3 r3 => k ρ1 d z H3 p (x1.trans (Ext.same e3)) (E1.same e3) r3⟩
  | _ => exact w1.elim
abbrev fLower : F1 := FZ fun a P => a.length ≤ 5592405 ∧ P (.str (Txt.lower a))
theorem de_lower (h : DE X K a wo) (hK : ∀ i, (X i).K = K := by intro i; rfl)
    (hp : ∀ i t, PE (X i) a t → PE (X i) (.Call (.Attribute a "lower" apos) [] [] cpos) (tBM0 (X i).K "str" (fun x xs H Q => ∃ a : Str, x = .str a ∧ xs = [] ∧ a.length ≤ 5592405 ∧ Q (.str (Txt.lower a)) H) t) := by intro i t h1; exact pe_bm0 PySem.F.plainAttrs_str PySem.F.slot_str_lower PySem.F.type_str_lower mt_lower h1) :
    DE X K (.Call (.Attribute a "lower" apos) [] [] cpos) (wU fLower wo) :=
  de_m0 (r := fun x xs H Q => ∃ a : Str, x = .str a ∧ xs = [] ∧ a.length ≤ 5592405 ∧ Q (.str (Txt.lower a)) H) (fun i t h1 => by rw [← hK i]; exact hp i t h1) (fun M H x P Q dom f k => ⟨x, rfl, rfl, f.1, k _ _ H f.2 (Same.refl _) (.str _)⟩) h
abbrev fUpper : F1 := FZ fun a P => a.length ≤ 5592405 ∧ P (.str (Txt.upper a))
theorem de_upper (h : DE X K a wo) (hK : ∀ i, (X i).K = K := by intro i; rfl)
    (hp : ∀ i t, PE (X i) a t → PE (X i) (.Call (.Attribute a "upper" apos) [] [] cpos) (tBM0 (X i).K "str" (fun x xs H Q => ∃ a : Str, x = .str a ∧ xs = [] ∧ a.length ≤ 5592405 ∧ Q (.str (Txt.upper a)) H) t) := by intro i t h1; exact pe_bm0 PySem.F.plainAttrs_str PySem.F.slot_str_upper PySem.F.type_str_upper mt_upper h1) :
    DE X K (.Call (.Attribute a "upper" apos) [] [] cpos) (wU fUpper wo) :=
  de_m0 (r := fun x xs H Q => ∃ a : Str, x = .str a ∧ xs = [] ∧ a.length ≤ 5592405 ∧ Q (.str (Txt.upper a)) H) (fun i t h1 => by rw [← hK i]; exact hp i t h1) (fun M H x P Q dom f k => ⟨x, rfl, rfl, f.1, k _ _ H f.2 (Same.refl _) (.str _)⟩) h
abbrev fIsalnum : F1 := FZ fun a P => True ∧ P (.bool (Txt.isalnum a))
theorem de_isalnum (h : DE X K a wo) (hK : ∀ i, (X i).K = K := by intro i; rfl)
    (hp : ∀ i t, PE (X i) a t → PE (X i) (.Call (.Attribute a "isalnum" apos) [] [] cpos) (tBM0 (X i).K "str" (fun x xs H Q => ∃ a : Str, x = .str a ∧ xs = [] ∧ True ∧ Q (.bl (Txt.isalnum a)) H) t) := by intro i t h1; exact pe_bm0 PySem.F.plainAttrs_str PySem.F.slot_str_isalnum PySem.F.type_str_isalnum mt_isalnum h1) :
    DE X K (.Call (.Attribute a "isalnum" apos) [] [] cpos) (wU fIsalnum wo) :=
  de_m0 (r := fun x xs H Q => ∃ a : Str, x = .str a ∧ xs = [] ∧ True ∧ Q (.bl (Txt.isalnum a)) H) (fun i t h1 => by rw [← hK i]; exact hp i t h1) (fun M H x P Q dom f k => ⟨x, rfl, rfl, f.1, k _ _ H f.2 (Same.refl _) (.bl _)⟩) h
abbrev fSplit0 : F1 := FZ fun a P => a.length + 2 ≤ sizeLine ∧ P (.list ((Txt.words a).map .str))
theorem de_split0 (h : DE X K a wo) (hK : ∀ i, (X i).K = K := by intro i; rfl)
    (hp : ∀ i t, PE (X i) a t → PE (X i) (.Call (.Attribute a "split" apos) [] [] cpos) (tBM0 (X i).K "str" (fun x xs H Q => ∃ a : Str, x = .str a ∧ xs = [] ∧ a.length + 2 ≤ sizeLine ∧ rNewStrs (Txt.words a) H Q) t) := by intro i t h1; exact pe_bm0 PySem.F.plainAttrs_str PySem.F.slot_str_split PySem.F.type_str_split mt_words h1) :
    DE X K (.Call (.Attribute a "split" apos) [] [] cpos) (wU fSplit0 wo) :=
  de_m0 (r := fun x xs H Q => ∃ a : Str, x = .str a ∧ xs = [] ∧ a.length + 2 ≤ sizeLine ∧ rNewStrs (Txt.words a) H Q) (fun i t h1 => by rw [← hK i]; exact hp i t h1) (fun M H x P Q dom f k => ⟨x, rfl, rfl, f.1, fun p np => k _ _ _ f.2 (same_new np) (.lst (rm_of (fun c => dom p c np) upd_same) dt_ofstrs)⟩) h
end Pm
namespace Pm
open PySem PySem.Spec PyProof.Rows L2
variable {ι : Type} {X : ι → Cx} {K : Fr} {a b e tg : Expr} {es : List Expr} {wa wb we : WE} {pos : Pos}
/-! ### list comprehensions, two names -/
def lcD2 (i j : Nat) (we : WE) : List PyData → Env → List PyData → (Env → List PyData → Prop) → Prop
  | [], ρ, acc, P => P ρ acc
  | d :: ds, ρ, acc, P => ∃ x y, d = .tuple [x, y] ∧ we ((ρ.set i (.dat x)).set j (.dat y)) fun ρ2 z => acc.length < sizeLine ∧ lcD2 i j we ds ((ρ2.set i .un).set j .un) (acc ++ [z]) P
def wLc2 (i j : Nat) (wi : WI) (we : WE) : WE := fun ρ P => wi ρ fun ρ1 items => lcD2 i j we items ((ρ1.set i .un).set j .un) [] fun ρ2 ds => P ρ2 (.list ds)
/-- the reading of a comprehension -/
theorem lc_read2 {i j : Nat} (hij : i ≠ j) {ti : TI} {te : TE} {wi : WI}
    (hi : ∀ (M0 M B : List Addr) (σ : L2.St) (H : Hp) (ρ : Env) (P : Env → List PyData → Prop) (R : It → Hp → Prop), EnvOk K M0 M B H σ ρ → wi ρ P → (∀ ρ' items J H', P ρ' items → Ext M B H M B H' → EnvOk K M0 M B H' σ ρ' → IterOk K M H' J items → R J H') → ti σ H R)
    (he : ∀ (M0 M B : List Addr) (σ : L2.St) (H : Hp) (ρ : Env) (P : Env → PyData → Prop) (Q : VK), EnvOk K M0 M B H σ ρ → we ρ P → (∀ ρ' d v H', P ρ' d → Ext M B H M B H' → EnvOk K M0 M B H' σ ρ' → Dt K (rm M H') v d → Q v H') → te σ H Q) :
    ∀ (M0 M B : List Addr) (σ : L2.St) (H : Hp) (ρ : Env) (P : Env → PyData → Prop) (Q : VK), EnvOk K M0 M B H σ ρ → wLc2 i j wi we ρ P → (∀ ρ' d v H', P ρ' d → Ext M B H M B H' → EnvOk K M0 M B H' σ ρ' → Dt K (rm M H') v d → Q v H') → tLc ti (gTup K 2 (gCons (gName i) (gCons (gName j) gNil))) tYes te [i, j] σ H Q := by
  intro M0 M B σ H ρ P Q E w k
  refine hi M0 M B σ H ρ _ _ E w fun ρ1 items J H1 w1 x1 E1 it => ?_
  intro D nD
  have hDM : D ∉ M := fun c => E1.dom D c nD
  have hDB : D ∉ B := fun c => hDM (E1.sub D c)
  -- W: the list so far
  refine ⟨fun n m H2 => m = items.length - n ∧ ∃ (ρ2 : Env) (acc : List V) (ds : List PyData), n ≤ items.length ∧ lcD2 i j we (items.drop n) ρ2 ds (fun ρ2 ds => P ρ2 (.list ds)) ∧ H2 D = some (.lst acc) ∧ DtAll K (rm (D :: M) H2) acc ds ∧ EnvOk K M0 (D :: M) B H2 σ ρ2 ∧
      (∀ a o, a ∉ B → a ≠ D → H1 a = some o → H2 a = some o) ∧ (∀ a, H2 a = none → H1 a = none), ⟨_, rfl, (ρ1.set i .un).set j .un, [], [], Nat.zero_le _, w1, upd_same, .nil, ?_, fun a o _ n e => by rw [upd_ne n]; exact e, fun a e => (same_new nD).free e⟩, ?_⟩
  · have E2 : EnvOk K M0 (D :: M) B (upd H1 D (.lst [])) σ ρ1 := E1.more nD upd_same fun a u n e => by rw [upd_ne n]; exact e
    exact (E2.swap (i := i) rfl fun _ _ => rfl).swap (i := j) rfl fun _ _ => rfl
  · rintro n m H2 ⟨rfl, ρ2, acc, ds, hn, w2, hD, hA, E2, fr, lv⟩
    have hEx : Ext M B H1 M B H2 := ⟨fun _ h => h, fun _ h => .inl h, fun _ h => h, fun _ h => .inl h, fun a o nb e => fr a o nb (fun q => by rw [q, nD] at e; cases e) e, lv⟩
    have hsm : Same (rm M H1) (rm (D :: M) H2) := fun a o e => by
      obtain ⟨z1, z2⟩ := rm_to e
      have nn : a ≠ D := fun q => by rw [q, nD] at z2; cases z2
      refine rm_of (fun c => ?_) (fr a o (fun c => z1 (E1.sub a c)) nn z2)
      rcases List.mem_cons.mp c with q | q
      · exact nn q
      · exact z1 q
    obtain ⟨hgo, hst⟩ := it (D :: M) H2 hsm E2.dom
    by_cases hlt : n < items.length
    · right
      have hnd : items[n]? = some items[n] := List.getElem?_eq_getElem hlt
      obtain ⟨g1, g2⟩ := hgo n _ hnd
      rw [List.drop_eq_getElem_cons hlt] at w2
      refine ⟨g1, fun H' => ∃ m', m' < items.length - n ∧ (m' = items.length - (n + 1) ∧ ∃ (ρ2 : Env) (acc : List V) (ds : List PyData), n + 1 ≤ items.length ∧ lcD2 i j we (items.drop (n + 1)) ρ2 ds (fun ρ2 ds => P ρ2 (.list ds)) ∧ H' D = some (.lst acc) ∧ DtAll K (rm (D :: M) H') acc ds ∧ EnvOk K M0 (D :: M) B H' σ ρ2 ∧
        (∀ a o, a ∉ B → a ≠ D → H1 a = some o → H' a = some o) ∧ (∀ a, H' a = none → H1 a = none)), fun H' h => h, fun x H3 hy => ?_⟩
      obtain ⟨s3, rx⟩ := g2 x H3 hy
      have E3 : EnvOk K M0 (D :: M) B H3 σ ρ2 := E2.same s3
      obtain ⟨d1, d2, hd12, w2⟩ := w2
      rw [hd12] at rx
      obtain ⟨p, xs, rfl, hxs, rr⟩ := Dt.isTup rx
      cases rr with
      | cons r1 rr =>
      cases rr with
      | cons r2 rr =>
      cases rr
      rename_i v1 v2
      have hw : wipe σ [i, j] = (σ.set j none).set i none := rfl
      have E4 : EnvOk K M0 (D :: M) B H3 (((wipe σ [i, j]).set i (some v1)).set j (some v2)) ((ρ2.set i (.dat d1)).set j (.dat d2)) := by
        have q : EnvOk K M0 (D :: M) B H3 (wipe σ [i, j]) ((ρ2.set j .un).set i .un) := (E3.forget j none).forget i none
        have q2 := (q.set i r1).set j r2
        rw [List.set_set, List.set_comm _ _ (Ne.symm hij), List.set_set, List.set_comm _ _ hij] at q2
        rw [List.set_comm _ _ hij]
        exact q2
      have hsl : ∀ k, k ≠ i → k ≠ j → σ[k]? = (((wipe σ [i, j]).set i (some v1)).set j (some v2))[k]? := fun k n1 n2 => by
        rw [get_set_ne (Ne.symm n2), get_set_ne (Ne.symm n1), hw, get_set_ne (Ne.symm n1), get_set_ne (Ne.symm n2)]
      have hln : σ.length = (((wipe σ [i, j]).set i (some v1)).set j (some v2)).length := by
        rw [List.length_set, List.length_set, hw, List.length_set, List.length_set]
      refine ⟨p, _, rfl, same_t rm_le hxs, rfl, _, _, rfl, _, _, rfl, rfl, ?_, ?_⟩
      · show ((((wipe σ [i, j]).set i (some v1)).set j (some v2)).set j none).set i none = wipe σ [i, j]
        rw [hw, List.set_set, List.set_comm _ _ (Ne.symm hij), List.set_set, List.set_set, List.set_comm _ _ hij, List.set_set]
      · show tYes _ _ _
        unfold tYes
        dsimp only
        rw [if_pos rfl]
        refine he M0 (D :: M) B _ H3 _ _ _ E4 w2 fun ρ5 y v H5 w5 x5 E6 r5 => ?_
        obtain ⟨hz, w5⟩ := w5
        have hD3 : H3 D = some (.lst acc) := s3 _ _ hD
        have hD5 : H5 D = some (.lst acc) := x5.keep D _ hDB hD3
        have up3 : Same (rm (D :: M) H2) (rm (D :: M) H3) := (Ext.same (M := D :: M) (B := B) s3).rm E2.sub
        refine ⟨acc, hD5, by rw [DtAll.len hA]; exact hz, items.length - (n + 1), by omega, rfl, (ρ5.set i .un).set j .un, acc ++ [v], ds ++ [y], hlt, w5, upd_same, ?_, ?_, fun a o nb nn e => by rw [upd_ne nn]; exact x5.keep a o nb (s3 _ _ (fr a o nb nn e)), fun a e => ?_⟩
        · rw [rm_upd (List.mem_cons_self ..)]
          exact DtAll.app (DtAll.up (x5.rm E4.sub) (DtAll.up up3 hA)) (.cons r5 .nil)
        · have q0 : EnvOk K M0 (D :: M) B H5 (((wipe σ [i, j]).set i (some v1)).set j (σ[j]?.getD none)) (ρ5.set j .un) := by
            refine E6.swap (i := j) (by simp only [List.length_set]) fun k n => ?_
            rw [get_set_ne (Ne.symm n), get_set_ne (Ne.symm n)]
          have q := q0.swap (σ := σ) (i := i) (by rw [List.length_set, List.length_set, hw, List.length_set, List.length_set]) fun k n => by
            by_cases c : k = j
            · subst c
              by_cases hk : k < σ.length
              · rw [get_set_eq (by rw [List.length_set, hw, List.length_set, List.length_set]; exact hk), List.getElem?_eq_getElem hk]; rfl
              · rw [List.getElem?_eq_none (by omega), List.getElem?_eq_none (by rw [List.length_set, List.length_set, hw, List.length_set, List.length_set]; omega)]
            · rw [get_set_ne (Ne.symm c), get_set_ne (Ne.symm n), hw, get_set_ne (Ne.symm n), get_set_ne (Ne.symm c)]
          rw [List.set_comm _ _ (Ne.symm hij)] at q
          refine ⟨q.len, q.sub, fun a h z => ?_, q.m0, fun j s hj => ?_, q.sep⟩
          · by_cases c : a = D
            · rw [c, upd_same] at z; cases z
            · rw [upd_ne c] at z; exact q.dom a h z
          · have z := q.slot j s hj
            have nl : ∀ l, l ∈ B → l ≠ D := fun l hl q => hDB (q ▸ hl)
            cases s with
            | un => trivial
            | dat d => obtain ⟨v, h1, h2⟩ := z; exact ⟨v, h1, by rw [rm_upd (List.mem_cons_self ..)]; exact h2⟩
            | scr d => obtain ⟨v, h1, h2⟩ := z; exact ⟨v, h1, by rw [rm_upd (List.mem_cons_self ..)]; exact h2⟩
            | own ds => obtain ⟨l, xs, h1, h2, h3, h4, h5⟩ := z; exact ⟨l, xs, h1, h2, h3, by rw [upd_ne (nl l h2)]; exact h4, by rw [rm_upd (List.mem_cons_self ..)]; exact h5⟩
            | bor l ds => obtain ⟨xs, h1, h2, h3, h4, h5⟩ := z; exact ⟨xs, h1, h2, h3, by rw [upd_ne (nl l h2)]; exact h4, by rw [rm_upd (List.mem_cons_self ..)]; exact h5⟩
        · by_cases c : a = D
          · rw [c, upd_same] at e; cases e
          · rw [upd_ne c] at e; exact lv a (s3.free (x5.live a e))
    · left
      have en : n = items.length := by omega
      rw [en] at w2 ⊢
      rw [List.drop_length] at w2
      refine ⟨hst, k ρ2 _ _ H2 w2 (x1.trans hEx) (E2.less E1.m0 E1.sub) (.lst (rm_of hDM hD) (DtAll.up (fun a o e => ?_) hA))⟩
      obtain ⟨z1, z2⟩ := rm_to e
      exact rm_of (fun c => z1 (List.mem_cons_of_mem _ c)) z2
/-- [elt for x, y in iter] -/
theorem de_lc2 (i j : Nat) {elt iter : Expr} {x y : Str} {px py pt pos : Pos} {kk : Nat} {scope : Scope} {wi : WI} (hN : ∀ l, (X l).N.Nodup) (hi : DI X K (.Tuple [.Name x px, .Name y py] kk pt) iter wi) (he : DE (blkX X scope) K elt we)
    (ok : ∀ l, blkC (X l).N (X l).env.scope scope [(x, i), (y, j)] = true := by intro l; decide +kernel) (hij : i ≠ j := by decide) (hK : ∀ l, (X l).K = K := by intro l; rfl)
    (hg : ∀ p, PG (blkX X scope p) (.Tuple [.Name x px, .Name y py] kk pt) (gTup (X p.1).K 2 (gCons (gName i) (gCons (gName j) gNil))) := by intro p; exact pg_tup rfl (pgs_cons (pg_name (by assumption) rfl (Or.inl rfl)) (pgs_cons (pg_name (by assumption) rfl (Or.inl rfl)) pgs_nil)))
    (hc : ∀ l, (X l).calm = true := by intro l; rfl) (hs : ∀ l x, foldedSetIterable iter (X l).env x = pure x := by intro _ _; rfl) : DE X K (.ListComp elt [⟨.Tuple [.Name x px, .Name y py] kk pt, iter, [], 0⟩] scope pos) (wLc2 i j wi we) := by
  obtain ⟨ti, i1, i2⟩ := hi
  obtain ⟨te, e1, e2⟩ := he
  exact ⟨tLc ti (gTup K 2 (gCons (gName i) (gCons (gName j) gNil))) tYes te [i, j], fun l => pe_lc (own := [(x, i), (y, j)]) (hc l) (hN l) (i1 l) (blkOk_by (ok l)) (fun s H C cl fp => by have q := hg (l, s, H, C, cl, fp); rw [hK] at q; exact q) (fun s H C cl fp => pts_nil) (fun s H C cl fp => e1 (l, s, H, C, cl, fp)) (hs l), lc_read2 hij i2 e2⟩
end Pm
namespace Pm
open PySem PySem.Spec PyProof.Rows L2 TL
/-! ### texts by their signs -/
theorem tab_eq : PySem.Str.ofString "\t" = ⟨#[9]⟩ := by decide +kernel
theorem white_eq : PySem.Str.ofString " \t" = ⟨#[32, 9]⟩ := by decide +kernel
theorem blank_eq : PySem.Str.ofString " " = ⟨#[32]⟩ := by decide +kernel
theorem feed_eq : PySem.Str.ofString "\n" = ⟨#[10]⟩ := by decide +kernel
theorem none_eq : PySem.Str.ofString "" = ⟨#[]⟩ := by decide +kernel
abbrev tx (t : List Nat) : Str := ⟨t.toArray⟩
theorem signs_tx (t : List Nat) : signsD (tx t) = t.map fun c => .str ⟨#[c]⟩ := by simp [signsD, tx]
theorem tx_len (t : List Nat) : (tx t).length = t.length := by simp [Str.length]
theorem tx_app (a b : List Nat) : tx a ++ tx b = tx (a ++ b) := by
  show (⟨a.toArray ++ b.toArray⟩ : Str) = ⟨(a ++ b).toArray⟩
  simp
theorem inS_one (c : Nat) (z : Str) : inS ⟨#[c]⟩ z = decide (c ∈ z.cps.toList) := rfl
theorem cutS_one (s : Nat) (r : List Nat) : cutS (tx (s :: r)) (some 1) none = tx r := by
  have h : HT.sIx (r.length + 1) 0 (some 1) = 1 := by
    show HT.sIx (r.length + 1) 0 (some ((1 : Nat) : Int)) = 1
    rw [HT.sIx_nat]
    omega
  have hl : (tx (s :: r)).length = r.length + 1 := by rw [tx_len]; rfl
  unfold cutS
  rw [hl, h]
  show (⟨(List.take (r.length + 1 - 1) (List.drop 1 (s :: r))).toArray⟩ : Str) = _
  simp
theorem line_of {n : Nat} (h : n ≤ 1000000) : n ≤ sizeLine := Nat.le_trans h (by decide)
theorem repS_len (x : Str) (n : Nat) : (repS x n).length = n * x.length := by
  unfold repS
  simp [Str.length]
theorem atI_end {α : Type} (ys : List α) (z : α) : atI (ys ++ [z]) (-1) = some z := by
  unfold atI ixN
  rw [if_neg (by decide), if_pos (by rw [List.length_append, List.length_singleton]; omega)]
  have e : ((-1 : Int) + ((ys ++ [z]).length : Nat)).toNat = ys.length := by rw [List.length_append, List.length_singleton]; omega
  show (ys ++ [z])[((-1 : Int) + ((ys ++ [z]).length : Nat)).toNat]? = some z
  rw [e]
  simp
theorem cut_end {α : Type} (ys : List α) (z : α) : cutD (ys ++ [z]) none (some (-1)) = ys := by
  have h : HT.sIx (ys ++ [z]).length (ys ++ [z]).length (some (-1)) = ys.length := by
    unfold HT.sIx
    dsimp only
    rw [if_pos (by decide), List.length_append, List.length_singleton]; omega
  unfold cutD
  rw [h]
  show List.take (ys.length - 0) (List.drop 0 (ys ++ [z])) = ys
  simp
theorem atI_get {α : Type} {l : List α} {i : Int} {k : Nat} {x : α} (hi : i = (k : Int)) (h : l[k]? = some x) : atI l i = some x := by
  have hl := (List.getElem?_eq_some_iff.mp h).1
  unfold atI ixN
  rw [if_pos (by omega), if_pos (by omega)]
  show l[i.toNat]? = some x
  have e : i.toNat = k := by omega
  rw [e]; exact h
theorem tx_eta (x : Str) : x = tx x.cps.toList := by obtain ⟨⟨x⟩⟩ := x; rfl
theorem tx_inj {a b : List Nat} (h : tx a = tx b) : a = b := by
  have : (tx a).cps.toList = (tx b).cps.toList := by rw [h]
  simpa using this
theorem tx_nil : PySem.Str.ofString "" = tx [] := none_eq
theorem bsl_eq : PySem.Str.ofString "\\" = ⟨#[92]⟩ := by decide +kernel
theorem cut_mid (t : List Nat) (i j : Nat) : cutS (tx t) (some (i : Int)) (some (j : Int)) = tx ((t.drop i).take (j - i)) := by
  have h1 : HT.sIx (tx t).length 0 (some (i : Int)) = min i t.length := by rw [HT.sIx_nat, tx_len]
  have h2 : HT.sIx (tx t).length (tx t).length (some (j : Int)) = min j t.length := by rw [HT.sIx_nat, tx_len]
  unfold cutS
  rw [h1, h2]
  show (⟨(List.take (min j t.length - min i t.length) (List.drop (min i t.length) t)).toArray⟩ : Str) = ⟨_⟩
  by_cases hi : i ≤ t.length
  · rw [Nat.min_eq_left hi]
    by_cases hj : j ≤ t.length
    · rw [Nat.min_eq_left hj]
    · rw [Nat.min_eq_right (by omega), List.take_of_length_le (by rw [List.length_drop]; omega), List.take_of_length_le (by rw [List.length_drop]; omega)]
  · rw [Nat.min_eq_right (by omega : t.length ≤ i), List.drop_eq_nil_of_le (Nat.le_refl _), List.drop_eq_nil_of_le (by omega : t.length ≤ i)]
    simp
theorem atI_tx {t : List Nat} {i : Nat} {c : Nat} {r : List Nat} (h : t.drop i = c :: r) : atI (tx t).cps.toList (i : Int) = some c := by
  refine atI_get (k := i) rfl ?_
  have := List.getElem?_drop (xs := t) (i := i) (j := 0)
  rw [h] at this
  simpa using this.symm
end Pm
namespace Pm
open PySem PySem.Spec PyProof.Rows L2 TL
/-! ### further facts -/
theorem atI_0 {α : Type} {x : α} {l : List α} : atI (x :: l) 0 = some x := by
  unfold atI ixN
  rw [if_pos (by decide), if_pos (by simp only [List.length_cons]; omega)]; rfl
theorem atI_1 {α : Type} {x y : α} {l : List α} : atI (x :: y :: l) 1 = some y := by
  unfold atI ixN
  rw [if_pos (by decide), if_pos (by simp only [List.length_cons]; omega)]; rfl
theorem atI_2 {α : Type} {x y z : α} {l : List α} : atI (x :: y :: z :: l) 2 = some z := by
  unfold atI ixN
  rw [if_pos (by decide), if_pos (by simp only [List.length_cons]; omega)]; rfl
theorem ixN_0 {n : Nat} : ixN (n + 1) 0 = some 0 := by
  unfold ixN
  rw [if_pos (by decide), if_pos (by omega)]; rfl
theorem ixN_1 {n : Nat} : ixN (n + 1 + 1) 1 = some 1 := by
  unfold ixN
  rw [if_pos (by decide), if_pos (by omega)]; rfl
theorem ixN_2 {n : Nat} : ixN (n + 1 + 1 + 1) 2 = some 2 := by
  unfold ixN
  rw [if_pos (by decide), if_pos (by omega)]; rfl
theorem cmul_mod {y m z : Int} (h0 : 0 < m) (h1 : m < 2 ^ 62) : CMul (y % m) z := by
  have a := Int.emod_nonneg y (Int.ne_of_gt h0)
  have b := Int.emod_lt_of_pos y h0
  exact .inl ⟨by omega, by omega⟩
theorem cdiv_of {y n : Int} (h0 : 0 < n) (h1 : n < 2 ^ 62) : CDivW y n := wide_div (b := 62) h0 (by omega) (by decide) (by decide)
theorem atI_nat' {α : Type} {xs : List α} {d : Int} (h0 : 0 ≤ d) (h1 : d < xs.length) : ∃ x, atI xs d = some x ∧ x ∈ xs := by
  unfold atI ixN
  rw [if_pos h0, if_pos h1]
  have hl : d.toNat < xs.length := by omega
  exact ⟨xs[d.toNat], by simp [hl], List.getElem_mem _⟩
theorem lcD_inv {i : Nat} {we : WE} (C : Env → Prop) (G : PyData → Prop) {P : Env → List PyData → Prop} (turn : ∀ (d : PyData) (ρ : Env) (Q : Env → PyData → Prop), C ρ → (∀ ρ' y, C (ρ'.set i .un) → G y → Q ρ' y) → we (ρ.set i (.dat d)) Q) :
    ∀ (items : List PyData) (ρ : Env) (acc : List PyData), C ρ → acc.length + items.length ≤ sizeLine → (∀ ρ' ys, C ρ' → ys.length = items.length → (∀ y, y ∈ ys → G y) → P ρ' (acc ++ ys)) → lcD i wYes we items ρ acc P
  | [], ρ, acc, c, _, k => by
    have q := k ρ [] c rfl (fun y h => by cases h)
    rw [List.append_nil] at q
    exact q
  | d :: ds, ρ, acc, c, hz, k => by
    show wYes (ρ.set i (.dat d)) _
    refine ⟨fun _ => turn d ρ _ c fun ρ' y c' g => ⟨by rw [List.length_cons] at hz; omega, ?_⟩, fun e => by cases e⟩
    refine lcD_inv C G turn ds _ _ c' (by rw [List.length_append, List.length_singleton]; rw [List.length_cons] at hz; omega) fun ρ2 ys c2 hl hg => ?_
    rw [List.append_assoc]
    refine k ρ2 (y :: ys) c2 (by rw [List.length_cons, List.length_cons, hl]) fun z hz => ?_
    rcases List.mem_cons.mp hz with e | e
    · rw [e]; exact g
    · exact hg z e
theorem joinL_nil : ∀ ls : List (List Nat), joinL [] ls = ls.flatten
  | [] => rfl
  | [p] => by simp [joinL]
  | p :: q :: r => by
    show p ++ ([] ++ joinL [] (q :: r)) = _
    rw [joinL_nil (q :: r)]; simp
theorem join_none (ys : List Str) : Txt.join ⟨#[]⟩ ys = ⟨(ys.map tl).flatten.toArray⟩ := by
  have e : tl (Txt.join ⟨#[]⟩ ys) = (ys.map tl).flatten := by
    rw [join_eq, tl_join]
    exact joinL_nil _
  generalize Txt.join ⟨#[]⟩ ys = z at e
  obtain ⟨⟨z⟩⟩ := z
  have e' : z = (ys.map tl).flatten := e
  rw [e']
theorem sum_le {n : Nat} : ∀ {ys : List Str}, (∀ y, y ∈ ys → y.length ≤ n) → (ys.map (·.length)).sum ≤ ys.length * n
  | [], _ => by simp
  | y :: ys, h => by
    have a := h y (List.mem_cons_self ..)
    have b := sum_le fun z hz => h z (List.mem_cons_of_mem _ hz)
    rw [List.map_cons, List.sum_cons, List.length_cons, Nat.succ_mul]
    omega
theorem flat_len : ∀ ys : List Str, (ys.map tl).flatten.length = (ys.map (·.length)).sum
  | [] => rfl
  | y :: ys => by
    rw [List.map_cons, List.flatten_cons, List.length_append, flat_len ys, List.map_cons, List.sum_cons]
    simp [tl, Str.length]
theorem strs_of {ys : List PyData} {zs : List Str} (h : ∀ y, y ∈ ys → y ∈ zs.map PyData.str) : ∃ us : List Str, ys = us.map .str ∧ ∀ u, u ∈ us → u ∈ zs := by
  induction ys with
  | nil => exact ⟨[], rfl, fun u h => by cases h⟩
  | cons y ys ih =>
    obtain ⟨us, rfl, h2⟩ := ih fun z hz => h z (List.mem_cons_of_mem _ hz)
    obtain ⟨u, hu, rfl⟩ := List.mem_map.mp (h y (List.mem_cons_self ..))
    refine ⟨u :: us, rfl, fun v hv => ?_⟩
    rcases List.mem_cons.mp hv with e | e
    · rw [e]; exact hu
    · exact h2 v e
end Pm
/-! The function layer: each reading comes with a function that computes it. -/
namespace Pm
open PySem PySem.Spec PyProof.Rows L2 TL
abbrev FE := Env → Option (Env × PyData)
abbrev FT := Env → Option (Env × Bool)
abbrev FA := Env → Option (Env × List PyData)
abbrev FO := Env → Option (Env × Option Int)
abbrev FG := PyData → Env → Option Env
abbrev FGs := List PyData → Env → Option Env
abbrev FP := List PyData → Option PyData
abbrev FW := List PyData → List PyData → Option (List PyData × PyData)
abbrev FN := List PyData → Option (List PyData)
inductive Fl where
  | nx (ρ : Env) | rt (ρ : Env) (d : PyData) | bk (ρ : Env) | ct (ρ : Env)
abbrev FS := Env → Option Fl
abbrev G1 := PyData → Option PyData
abbrev G2 := PyData → PyData → Option PyData
abbrev GM := Str → List PyData → Option PyData
/-! ### the caller's list in slot 0 -/
def emb : Option Addr → Env → Env
  | some l, .own ws :: rest => .bor l ws :: rest
  | _, ρ => ρ
theorem emb_none (ρ : Env) : emb none ρ = ρ := rfl
theorem emb_dat {o : Option Addr} {ρ : Env} {i : Nat} {d : PyData} (h : ρ.at i = .dat d) : (emb o ρ).at i = .dat d := by
  unfold emb; split
  · cases i with
    | zero => cases h
    | succ i => exact h
  · exact h
theorem emb_scr {o : Option Addr} {ρ : Env} {i : Nat} {d : List Int} (h : ρ.at i = .scr d) : (emb o ρ).at i = .scr d := by
  unfold emb; split
  · cases i with
    | zero => cases h
    | succ i => exact h
  · exact h
theorem emb_items {o : Option Addr} {ρ : Env} {i : Nat} : ((emb o ρ).at i).items = (ρ.at i).items := by
  unfold emb; split
  · cases i with
    | zero => rfl
    | succ i => rfl
  · rfl
theorem emb_set {o : Option Addr} {ρ : Env} {i : Nat} {s : SV} (h : s.isL = false) : (emb o ρ).set i s = emb o (ρ.set i s) := by
  unfold emb; split
  · cases i with
    | zero => cases s <;> first | rfl | cases h
    | succ i => rfl
  · rename_i h1
    cases o with
    | none => rfl
    | some l =>
      cases ρ with
      | nil => rfl
      | cons a r =>
        cases i with
        | zero => cases s <;> first | rfl | cases h
        | succ i =>
          show a :: r.set i s = emb (some l) (a :: r.set i s)
          cases a with
          | own ws => exact absurd rfl (h1 l ws r rfl)
          | _ => rfl
theorem emb_dset {o : Option Addr} {ρ : Env} {i : Nat} {d : PyData} : (emb o ρ).set i (.dat d) = emb o (ρ.set i (.dat d)) := emb_set rfl
theorem emb_uset {o : Option Addr} {ρ : Env} {i : Nat} : (emb o ρ).set i .un = emb o (ρ.set i .un) := emb_set rfl
theorem emb_new {o : Option Addr} {ρ : Env} {i : Nat} {ds : List PyData} (h : o = none ∨ i ≠ 0) : (emb o ρ).set i (.own ds) = emb o (ρ.set i (.own ds)) := by
  rcases h with h | h
  · subst h; rfl
  · cases i with
    | zero => exact absurd rfl h
    | succ i =>
      unfold emb; split
      · rfl
      · rename_i h1
        cases o with
        | none => rfl
        | some l =>
          cases ρ with
          | nil => rfl
          | cons a r =>
            show a :: r.set i _ = emb (some l) (a :: r.set i _)
            cases a with
            | own ws => exact absurd rfl (h1 l ws r rfl)
            | _ => rfl
theorem emb_put {o : Option Addr} {ρ : Env} {j : Nat} {ds : List PyData} : (emb o ρ).set j (((emb o ρ).at j).put ds) = emb o (ρ.set j ((ρ.at j).put ds)) := by
  cases o with
  | none => rfl
  | some l =>
    cases ρ with
    | nil => rfl
    | cons a r =>
      cases a with
      | own ws =>
        cases j with
        | zero => rfl
        | succ j => rfl
      | _ =>
        cases j with
        | zero => rfl
        | succ j => rfl
theorem emb_own {o : Option Addr} {ρ : Env} {j : Nat} {ds : List PyData} (h : o = none ∨ j ≠ 0) (e : ρ.at j = .own ds) : (emb o ρ).at j = .own ds := by
  rcases h with h | h
  · subst h; exact e
  · cases j with
    | zero => exact absurd rfl h
    | succ j =>
      unfold emb; split
      · exact e
      · exact e
/-! ### a reading is computed by a function -/
variable {o : Option Addr}
def cE (o : Option Addr) (we : WE) (fe : FE) : Prop := ∀ ρ r, fe ρ = some r → ∀ P : Env → PyData → Prop, P (emb o r.1) r.2 → we (emb o ρ) P
def cT (o : Option Addr) (wt : WT) (ft : FT) : Prop := ∀ ρ r, ft ρ = some r → ∀ P : Env → Bool → Prop, P (emb o r.1) r.2 → wt (emb o ρ) P
def cA (o : Option Addr) (wa : WA) (fa : FA) : Prop := ∀ ρ r, fa ρ = some r → ∀ P : Env → List PyData → Prop, P (emb o r.1) r.2 → wa (emb o ρ) P
def cO (o : Option Addr) (wo : WO) (fo : FO) : Prop := ∀ ρ r, fo ρ = some r → ∀ P : Env → Option Int → Prop, P (emb o r.1) r.2 → wo (emb o ρ) P
def cG (o : Option Addr) (wg : WG) (fg : FG) : Prop := ∀ d ρ r, fg d ρ = some r → ∀ P : Env → Prop, P (emb o r) → wg d (emb o ρ) P
def cGs (o : Option Addr) (wg : List PyData → Env → (Env → Prop) → Prop) (fg : FGs) : Prop := ∀ d ρ r, fg d ρ = some r → ∀ P : Env → Prop, P (emb o r) → wg d (emb o ρ) P
def DEnds.at (E : DEnds) (o : Option Addr) : Fl → Prop
  | .nx ρ => E.nx (emb o ρ)
  | .rt ρ d => E.rt (emb o ρ) d
  | .bk ρ => E.bk (emb o ρ)
  | .ct ρ => E.ct (emb o ρ)
def cS (o : Option Addr) (w : WS) (f : FS) : Prop := ∀ ρ fl, f ρ = some fl → ∀ E : DEnds, E.at o fl → w E (emb o ρ)
def fit1 (f : F1) (g : G1) : Prop := ∀ x d, g x = some d → ∀ P : PyData → Prop, P d → f x P
def fit2 (f : F2) (g : G2) : Prop := ∀ x y d, g x y = some d → ∀ P : PyData → Prop, P d → f x y P
def fitM (f : FM) (g : GM) : Prop := ∀ x y d, g x y = some d → ∀ P : PyData → Prop, P d → f x y P
def fitP (S : SpD) (F : FP) : Prop := ∀ ds d, F ds = some d → ∀ P : PyData → Prop, P d → S ds P
def fitW (S : SpW) (F : FW) : Prop := ∀ ws ds r, F ws ds = some r → ∀ P : List PyData → PyData → Prop, P r.1 r.2 → S ws ds P
def fitN (S : SpF) (F : FN) : Prop := ∀ ds es, F ds = some es → ∀ P : List PyData → Prop, P es → S ds P
/-- the promise that a function is -/
def ofP (F : FP) : SpD := fun ds P => ∃ d, F ds = some d ∧ P d
def ofW (F : FW) : SpW := fun ws ds P => ∃ r, F ws ds = some r ∧ P r.1 r.2
def ofN (F : FN) : SpF := fun ds P => ∃ es, F ds = some es ∧ P es
theorem fit_p {F : FP} : fitP (ofP F) F := fun ds d h P p => ⟨d, h, p⟩
theorem fit_w {F : FW} : fitW (ofW F) F := fun ws ds r h P p => ⟨r, h, p⟩
theorem fit_n {F : FN} : fitN (ofN F) F := fun ds es h P p => ⟨es, h, p⟩
/-! ### expressions -/
def qVar (i : Nat) : FE := fun ρ => match ρ.at i with
  | .dat d => some (ρ, d)
  | _ => none
theorem c_var {i : Nat} : cE o (wVar i) (qVar i) := by
  intro ρ r h P p
  unfold qVar at h
  split at h
  · rename_i d hd
    cases h
    exact ⟨d, emb_dat hd, p⟩
  · cases h
def qOwn (i : Nat) : FE := fun ρ => match (ρ.at i).items with
  | some ds => some (ρ, .list ds)
  | none => none
theorem c_own {i : Nat} : cE o (wOwn i) (qOwn i) := by
  intro ρ r h P p
  unfold qOwn at h
  split at h
  · rename_i d hd
    cases h
    exact ⟨d, by rw [emb_items]; exact hd, p⟩
  · cases h
def qC (d : PyData) : FE := fun ρ => some (ρ, d)
theorem c_c {d d' : PyData} (e : d = d') : cE o (wC d) (qC d') := by
  intro ρ r h P p
  cases h
  subst e
  exact p
def qOp (g : G2) (a b : FE) : FE := fun ρ => (a ρ).bind fun r => (b r.1).bind fun s => (g r.2 s.2).bind fun d => some (s.1, d)
theorem c_op {f : F2} {g : G2} {wa wb : WE} {a b : FE} (hf : fit2 f g) (ha : cE o wa a) (hb : cE o wb b) : cE o (wOp f wa wb) (qOp g a b) := by
  intro ρ r h P p
  simp only [qOp, Option.bind_eq_some_iff] at h
  obtain ⟨r1, h1, r2, h2, d, h3, h4⟩ := h
  cases h4
  exact ha ρ r1 h1 _ (hb r1.1 r2 h2 _ (hf _ _ _ h3 _ p))
def qOpO (g : G2) (j : Nat) (b : FE) : FE := fun ρ => (ρ.at j).items.bind fun _ => (b ρ).bind fun s => (s.1.at j).items.bind fun ds => (g (.list ds) s.2).bind fun d => some (s.1, d)
theorem c_opO {f : F2} {g : G2} {j : Nat} {wb : WE} {b : FE} (hf : fit2 f g) (hb : cE o wb b) : cE o (wOpO f j wb) (qOpO g j b) := by
  intro ρ r h P p
  simp only [qOpO, Option.bind_eq_some_iff] at h
  obtain ⟨ds0, h0, r2, h2, ds, h3, d, h4, h5⟩ := h
  cases h5
  exact ⟨⟨ds0, by rw [emb_items]; exact h0⟩, hb ρ r2 h2 _ ⟨ds, by rw [emb_items]; exact h3, hf _ _ _ h4 _ p⟩⟩
def qU (g : G1) (a : FE) : FE := fun ρ => (a ρ).bind fun r => (g r.2).bind fun d => some (r.1, d)
theorem c_u {f : F1} {g : G1} {wa : WE} {a : FE} (hf : fit1 f g) (ha : cE o wa a) : cE o (wU f wa) (qU g a) := by
  intro ρ r h P p
  simp only [qU, Option.bind_eq_some_iff] at h
  obtain ⟨r1, h1, d, h3, h4⟩ := h
  cases h4
  exact ha ρ r1 h1 _ (hf _ _ h3 _ p)
def qNil : FA := fun ρ => some (ρ, [])
theorem c_nil : cA o wNil qNil := by
  intro ρ r h P p
  cases h; exact p
def qCons (a : FE) (b : FA) : FA := fun ρ => (a ρ).bind fun r => (b r.1).bind fun s => some (s.1, r.2 :: s.2)
theorem c_cons {w : WE} {u : WA} {a : FE} {b : FA} (ha : cE o w a) (hb : cA o u b) : cA o (wCons w u) (qCons a b) := by
  intro ρ r h P p
  simp only [qCons, Option.bind_eq_some_iff] at h
  obtain ⟨r1, h1, r2, h2, h3⟩ := h
  cases h3
  exact ha ρ r1 h1 _ (hb _ _ h2 _ p)
def qTup (a : FA) : FE := fun ρ => (a ρ).bind fun r => if r.2.length ≤ 16777216 then some (r.1, .tuple r.2) else none
def qLst (a : FA) : FE := fun ρ => (a ρ).bind fun r => if r.2.length ≤ 16777216 then some (r.1, .list r.2) else none
theorem c_tup {w : WA} {a : FA} (ha : cA o w a) : cE o (wTup w) (qTup a) := by
  intro ρ r h P p
  simp only [qTup, Option.bind_eq_some_iff] at h
  obtain ⟨r1, h1, h2⟩ := h
  split at h2
  · cases h2; exact ha ρ r1 h1 _ ⟨by rw [sizeLine_eq]; assumption, p⟩
  · cases h2
theorem c_lst {w : WA} {a : FA} (ha : cA o w a) : cE o (wLst w) (qLst a) := by
  intro ρ r h P p
  simp only [qLst, Option.bind_eq_some_iff] at h
  obtain ⟨r1, h1, h2⟩ := h
  split at h2
  · cases h2; exact ha ρ r1 h1 _ ⟨by rw [sizeLine_eq]; assumption, p⟩
  · cases h2
/-! ### tests -/
def gB : PyData → Option Bool
  | .bool b => some b
  | _ => none
theorem gB_some {d : PyData} {b : Bool} (h : gB d = some b) : d = .bool b := by
  cases d <;> first | (cases h; rfl) | cases h
def qTst (a : FE) : FT := fun ρ => (a ρ).bind fun r => (gB r.2).bind fun b => some (r.1, b)
theorem c_tst {w : WE} {a : FE} (ha : cE o w a) : cT o (wTst w) (qTst a) := by
  intro ρ r h P p
  simp only [qTst, Option.bind_eq_some_iff] at h
  obtain ⟨r1, h1, b, h2, h3⟩ := h
  cases h3
  exact ha ρ r1 h1 _ ⟨b, gB_some h2, p⟩
def qAnd (t u : FT) : FT := fun ρ => (t ρ).bind fun r => if r.2 = true then u r.1 else some (r.1, false)
def qOr (t u : FT) : FT := fun ρ => (t ρ).bind fun r => if r.2 = true then some (r.1, true) else u r.1
def qNot (t : FT) : FT := fun ρ => (t ρ).bind fun r => some (r.1, !r.2)
theorem ne_tt {b : Bool} (h : ¬ b = true) : b = false := by cases b <;> simp_all
theorem c_and {t u : WT} {a b : FT} (ha : cT o t a) (hb : cT o u b) : cT o (wAnd t u) (qAnd a b) := by
  intro ρ r h P p
  simp only [qAnd, Option.bind_eq_some_iff] at h
  obtain ⟨r1, h1, h2⟩ := h
  refine ha ρ r1 h1 _ ?_
  split at h2
  · rename_i c; exact ⟨fun _ => hb _ _ h2 _ p, fun e => by rw [e] at c; cases c⟩
  · rename_i c; cases h2; exact ⟨fun e => absurd e c, fun _ => p⟩
theorem c_or {t u : WT} {a b : FT} (ha : cT o t a) (hb : cT o u b) : cT o (wOr t u) (qOr a b) := by
  intro ρ r h P p
  simp only [qOr, Option.bind_eq_some_iff] at h
  obtain ⟨r1, h1, h2⟩ := h
  refine ha ρ r1 h1 _ ?_
  split at h2
  · rename_i c; cases h2; exact ⟨fun _ => p, fun e => by rw [e] at c; cases c⟩
  · rename_i c; exact ⟨fun e => absurd e c, fun _ => hb _ _ h2 _ p⟩
theorem c_not {t : WT} {a : FT} (ha : cT o t a) : cT o (wNot t) (qNot a) := by
  intro ρ r h P p
  simp only [qNot, Option.bind_eq_some_iff] at h
  obtain ⟨r1, h1, h2⟩ := h
  cases h2
  exact ha ρ r1 h1 _ p
def qYes : FT := fun ρ => some (ρ, true)
theorem c_yes : cT o wYes qYes := by
  intro ρ r h P p
  cases h; exact p
def qIte (t : FT) (a b : FE) : FE := fun ρ => (t ρ).bind fun r => if r.2 = true then a r.1 else b r.1
theorem c_ite {t : WT} {wa wb : WE} {f : FT} {a b : FE} (ht : cT o t f) (ha : cE o wa a) (hb : cE o wb b) : cE o (wIte t wa wb) (qIte f a b) := by
  intro ρ r h P p
  simp only [qIte, Option.bind_eq_some_iff] at h
  obtain ⟨r1, h1, h2⟩ := h
  refine ht ρ r1 h1 _ ?_
  split at h2
  · rename_i c; exact ⟨fun _ => ha _ _ h2 _ p, fun e => by rw [e] at c; cases c⟩
  · rename_i c; exact ⟨fun e => absurd e c, fun _ => hb _ _ h2 _ p⟩
def qAndV (a b : FE) : FE := fun ρ => (a ρ).bind fun r => (gB r.2).bind fun c => if c = true then b r.1 else some (r.1, .bool false)
def qOrV (a b : FE) : FE := fun ρ => (a ρ).bind fun r => (gB r.2).bind fun c => if c = true then some (r.1, .bool true) else b r.1
def qNotV (a : FE) : FE := fun ρ => (a ρ).bind fun r => (gB r.2).bind fun c => some (r.1, .bool (!c))
theorem c_andV {wa wb : WE} {a b : FE} (ha : cE o wa a) (hb : cE o wb b) : cE o (wAndV wa wb) (qAndV a b) := by
  intro ρ r h P p
  simp only [qAndV, Option.bind_eq_some_iff] at h
  obtain ⟨r1, h1, c, h2, h3⟩ := h
  refine ha ρ r1 h1 _ ⟨c, gB_some h2, ?_⟩
  split at h3
  · rename_i c; exact ⟨fun _ => hb _ _ h3 _ p, fun e => by rw [e] at c; cases c⟩
  · rename_i c; cases h3; exact ⟨fun e => absurd e c, fun _ => p⟩
theorem c_orV {wa wb : WE} {a b : FE} (ha : cE o wa a) (hb : cE o wb b) : cE o (wOrV wa wb) (qOrV a b) := by
  intro ρ r h P p
  simp only [qOrV, Option.bind_eq_some_iff] at h
  obtain ⟨r1, h1, c, h2, h3⟩ := h
  refine ha ρ r1 h1 _ ⟨c, gB_some h2, ?_⟩
  split at h3
  · rename_i c; cases h3; exact ⟨fun _ => p, fun e => by rw [e] at c; cases c⟩
  · rename_i c; exact ⟨fun e => absurd e c, fun _ => hb _ _ h3 _ p⟩
theorem c_notV {wa : WE} {a : FE} (ha : cE o wa a) : cE o (wNotV wa) (qNotV a) := by
  intro ρ r h P p
  simp only [qNotV, Option.bind_eq_some_iff] at h
  obtain ⟨r1, h1, c, h2, h3⟩ := h
  cases h3
  exact ha ρ r1 h1 _ ⟨c, gB_some h2, p⟩
def qChain (f g : G2) (a b c : FE) : FE := fun ρ => (a ρ).bind fun r => (b r.1).bind fun s => (f r.2 s.2).bind fun z => (gB z).bind fun k => if k = true then (c s.1).bind fun u => (g s.2 u.2).bind fun d => some (u.1, d) else some (s.1, .bool false)
theorem c_chain {f g : F2} {f' g' : G2} {wa wb wc : WE} {a b c : FE} (hf : fit2 f f') (hg : fit2 g g') (ha : cE o wa a) (hb : cE o wb b) (hc : cE o wc c) : cE o (wChain f g wa wb wc) (qChain f' g' a b c) := by
  intro ρ r h P p
  simp only [qChain, Option.bind_eq_some_iff] at h
  obtain ⟨r1, h1, r2, h2, z, h3, k, h4, h5⟩ := h
  refine ha ρ r1 h1 _ (hb _ _ h2 _ (hf _ _ _ h3 _ ⟨k, gB_some h4, ?_⟩))
  split at h5
  · rename_i c
    simp only [Option.bind_eq_some_iff] at h5
    obtain ⟨r3, h6, d, h7, h8⟩ := h5
    cases h8
    exact ⟨fun _ => hc _ _ h6 _ (hg _ _ _ h7 _ p), fun e => by rw [e] at c; cases c⟩
  · rename_i c; cases h5; exact ⟨fun e => absurd e c, fun _ => p⟩
/-! ### slices -/
def qNo : FO := fun ρ => some (ρ, none)
def gI : PyData → Option Int
  | .int i => some i
  | _ => none
theorem gI_some {d : PyData} {b : Int} (h : gI d = some b) : d = .int b := by
  cases d <;> first | (cases h; rfl) | cases h
def qSo (a : FE) : FO := fun ρ => (a ρ).bind fun r => (gI r.2).bind fun i => some (r.1, some i)
theorem c_no : cO o wNo qNo := by
  intro ρ r h P p
  cases h; exact p
theorem c_so {w : WE} {a : FE} (ha : cE o w a) : cO o (wSo w) (qSo a) := by
  intro ρ r h P p
  simp only [qSo, Option.bind_eq_some_iff] at h
  obtain ⟨r1, h1, i, h2, h3⟩ := h
  cases h3
  exact ha ρ r1 h1 _ ⟨i, gI_some h2, p⟩
def gSl : PyData → Option Int → Option Int → Option PyData
  | .str z, lo, hi => if z.length ≤ 16777216 then some (.str (cutS z lo hi)) else none
  | .list xs, lo, hi => some (.list (cutD xs lo hi))
  | .tuple xs, lo, hi => some (.tuple (cutD xs lo hi))
  | _, _, _ => none
theorem fit_sl {x : PyData} {lo hi : Option Int} {d : PyData} (h : gSl x lo hi = some d) {P : PyData → Prop} (p : P d) : fSl x lo hi P := by
  cases x with
  | str z =>
    replace h : (if z.length ≤ 16777216 then some (PyData.str (cutS z lo hi)) else none) = some d := h
    split at h
    · cases h; exact ⟨by rw [sizeLine_eq]; assumption, p⟩
    · cases h
  | list z => cases h; exact p
  | tuple z => cases h; exact p
  | _ => cases h
def qSl (a : FE) (l h : FO) : FE := fun ρ => (a ρ).bind fun r => (l r.1).bind fun s => (h s.1).bind fun t => (gSl r.2 s.2 t.2).bind fun d => some (t.1, d)
theorem c_sl {w : WE} {wl wh : WO} {a : FE} {l h : FO} (ha : cE o w a) (hl : cO o wl l) (hh : cO o wh h) : cE o (wSl w wl wh) (qSl a l h) := by
  intro ρ r h P p
  simp only [qSl, Option.bind_eq_some_iff] at h
  obtain ⟨r1, h1, r2, h2, r3, h3, d, h4, h5⟩ := h
  cases h5
  exact ha ρ r1 h1 _ (hl _ _ h2 _ (hh _ _ h3 _ (fit_sl h4 p)))
def qSlO (j : Nat) (l h : FO) : FE := fun ρ => (ρ.at j).items.bind fun _ => (l ρ).bind fun s => (h s.1).bind fun t => (t.1.at j).items.bind fun ds => some (t.1, .list (cutD ds s.2 t.2))
theorem c_slO {j : Nat} {wl wh : WO} {l h : FO} (hl : cO o wl l) (hh : cO o wh h) : cE o (wSlO j wl wh) (qSlO j l h) := by
  intro ρ r h P p
  simp only [qSlO, Option.bind_eq_some_iff] at h
  obtain ⟨ds0, h0, r2, h2, r3, h3, ds, h4, h5⟩ := h
  cases h5
  exact ⟨⟨ds0, by rw [emb_items]; exact h0⟩, hl _ _ h2 _ (hh _ _ h3 _ ⟨ds, by rw [emb_items]; exact h4, p⟩)⟩
def gScr : SV → Option (List Int)
  | .scr ns => some ns
  | _ => none
def qSlS (j : Nat) (l h : FO) : FE := fun ρ => (gScr (ρ.at j)).bind fun ns => (l ρ).bind fun s => (h s.1).bind fun t => some (t.1, .list ((cutD ns s.2 t.2).map .int))
theorem c_slS {j : Nat} {wl wh : WO} {l h : FO} (hl : cO o wl l) (hh : cO o wh h) : cE o (wSlS j wl wh) (qSlS j l h) := by
  intro ρ r h P p
  simp only [qSlS, Option.bind_eq_some_iff] at h
  obtain ⟨ns, h0, r2, h2, r3, h3, h5⟩ := h
  cases h5
  have e : ρ.at j = .scr ns := by
    revert h0
    cases ρ.at j <;> intro h0 <;> first | (cases h0; rfl) | cases h0
  exact ⟨ns, emb_scr e, hl _ _ h2 _ (hh _ _ h3 _ p)⟩
/-! ### methods, calls -/
def gS : PyData → Option Str
  | .str s => some s
  | _ => none
theorem gS_some {d : PyData} {b : Str} (h : gS d = some b) : d = .str b := by
  cases d <;> first | (cases h; rfl) | cases h
def qM (g : GM) (a : FE) (b : FA) : FE := fun ρ => (a ρ).bind fun r => (gS r.2).bind fun s => (b r.1).bind fun t => (g s t.2).bind fun d => some (t.1, d)
theorem c_m {f : FM} {g : GM} {w : WE} {u : WA} {a : FE} {b : FA} (hf : fitM f g) (ha : cE o w a) (hb : cA o u b) : cE o (wM f w u) (qM g a b) := by
  intro ρ r h P p
  simp only [qM, Option.bind_eq_some_iff] at h
  obtain ⟨r1, h1, s, h2, r3, h3, d, h4, h5⟩ := h
  cases h5
  exact ha ρ r1 h1 _ ⟨s, gS_some h2, hb _ _ h3 _ (hf _ _ _ h4 _ p)⟩
def gSs : List PyData → Option (List Str)
  | [] => some []
  | .str s :: r => (gSs r).map (s :: ·)
  | _ => none
theorem gSs_some : ∀ {ds : List PyData} {ys : List Str}, gSs ds = some ys → ds = ys.map .str
  | [], ys, h => by cases h; rfl
  | d :: r, ys, h => by
    cases d with
    | str s =>
      cases e : gSs r with
      | none => unfold gSs at h; rw [e] at h; cases h
      | some zs =>
        unfold gSs at h; rw [e] at h; cases h
        rw [gSs_some e]; rfl
    | _ => cases h
theorem gSs_of (ys : List Str) : gSs (ys.map .str) = some ys := by
  induction ys with
  | nil => rfl
  | cons y ys ih => show (gSs _).map _ = _; rw [ih]; rfl
def gJoin (s : Str) : G1
  | .list ds => (gSs ds).bind fun ys => if (ys.map (·.length)).sum + ys.length * s.length ≤ 16777216 then some (.str (Txt.join s ys)) else none
  | .tuple ds => (gSs ds).bind fun ys => if (ys.map (·.length)).sum + ys.length * s.length ≤ 16777216 then some (.str (Txt.join s ys)) else none
  | _ => none
theorem fit_join {s : Str} : fit1 (fJoin s) (gJoin s) := by
  intro x d h P p
  cases x with
  | list ds =>
    simp only [gJoin, Option.bind_eq_some_iff] at h
    obtain ⟨ys, h1, h2⟩ := h
    split at h2
    · cases h2; exact ⟨ys, .inl (by rw [gSs_some h1]), by assumption, p⟩
    · cases h2
  | tuple ds =>
    simp only [gJoin, Option.bind_eq_some_iff] at h
    obtain ⟨ys, h1, h2⟩ := h
    split at h2
    · cases h2; exact ⟨ys, .inr (by rw [gSs_some h1]), by assumption, p⟩
    · cases h2
  | _ => cases h
def qJoin (a b : FE) : FE := fun ρ => (a ρ).bind fun r => (gS r.2).bind fun s => (b r.1).bind fun t => (gJoin s t.2).bind fun d => some (t.1, d)
theorem c_join {w u : WE} {a b : FE} (ha : cE o w a) (hb : cE o u b) : cE o (wJoin w u) (qJoin a b) := by
  intro ρ r h P p
  simp only [qJoin, Option.bind_eq_some_iff] at h
  obtain ⟨r1, h1, s, h2, r3, h3, d, h4, h5⟩ := h
  cases h5
  exact ha ρ r1 h1 _ ⟨s, gS_some h2, hb _ _ h3 _ (fit_join _ _ h4 _ p)⟩
def qCall (F : FP) (a : FA) : FE := fun ρ => (a ρ).bind fun r => (F r.2).bind fun d => some (r.1, d)
theorem c_call {S : SpD} {F : FP} {w : WA} {a : FA} (hs : fitP S F) (ha : cA o w a) : cE o (wCall S w) (qCall F a) := by
  intro ρ r h P p
  simp only [qCall, Option.bind_eq_some_iff] at h
  obtain ⟨r1, h1, d, h2, h3⟩ := h
  cases h3
  exact ha ρ r1 h1 _ (hs _ _ h2 _ p)
def qCallW (F : FW) (j : Nat) (a : FA) : FE := fun ρ => (ρ.at j).items.bind fun _ => (a ρ).bind fun r => (r.1.at j).items.bind fun ws => (F ws r.2).bind fun s => some (r.1.set j ((r.1.at j).put s.1), s.2)
theorem c_callW {S : SpW} {F : FW} {j : Nat} {w : WA} {a : FA} (hs : fitW S F) (ha : cA o w a) : cE o (wCallW S j w) (qCallW F j a) := by
  intro ρ r h P p
  simp only [qCallW, Option.bind_eq_some_iff] at h
  obtain ⟨ds0, h0, r1, h1, ws, h2, s, h3, h4⟩ := h
  cases h4
  refine ⟨⟨ds0, by rw [emb_items]; exact h0⟩, ha ρ r1 h1 _ ⟨ws, by rw [emb_items]; exact h2, hs _ _ _ h3 _ ?_⟩⟩
  rw [emb_put]; exact p
def qIsi (T : Ty) (a : FE) : FE := fun ρ => (a ρ).bind fun r => some (r.1, .bool (isiD T r.2))
theorem c_isi {T : Ty} {w : WE} {a : FE} (ha : cE o w a) : cE o (wIsi T w) (qIsi T a) := by
  intro ρ r h P p
  simp only [qIsi, Option.bind_eq_some_iff] at h
  obtain ⟨r1, h1, h2⟩ := h
  cases h2
  exact ha ρ r1 h1 _ p
def qIsi2 (T U : Ty) (a : FE) : FE := fun ρ => (a ρ).bind fun r => some (r.1, .bool (isiD T r.2 || isiD U r.2))
theorem c_isi2 {T U : Ty} {w : WE} {a : FE} (ha : cE o w a) : cE o (wIsi2 T U w) (qIsi2 T U a) := by
  intro ρ r h P p
  simp only [qIsi2, Option.bind_eq_some_iff] at h
  obtain ⟨r1, h1, h2⟩ := h
  cases h2
  exact ha ρ r1 h1 _ p
/-! ### what is walked -/
def gSeq : PyData → Option (List PyData)
  | .list ds => some ds
  | .tuple ds => some ds
  | .str z => some (signsD z)
  | _ => none
def qSeqI (a : FE) : FA := fun ρ => (a ρ).bind fun r => (gSeq r.2).bind fun ds => some (r.1, ds)
theorem c_seqI {w : WE} {a : FE} (ha : cE o w a) : cA o (wSeqI w) (qSeqI a) := by
  intro ρ r h P p
  simp only [qSeqI, Option.bind_eq_some_iff] at h
  obtain ⟨r1, h1, ds, h2, h3⟩ := h
  cases h3
  refine ha ρ r1 h1 _ ?_
  revert h2
  cases r1.2 <;> intro h2 <;> first | (cases h2; exact p) | cases h2
def gEnum : PyData → Option (List PyData)
  | .list ds => some (enumD ds)
  | .str z => some (enumD (signsD z))
  | _ => none
def qEnum (a : FE) : FA := fun ρ => (a ρ).bind fun r => (gEnum r.2).bind fun ds => some (r.1, ds)
theorem c_enum {w : WE} {a : FE} (ha : cE o w a) : cA o (wEnum w) (qEnum a) := by
  intro ρ r h P p
  simp only [qEnum, Option.bind_eq_some_iff] at h
  obtain ⟨r1, h1, ds, h2, h3⟩ := h
  cases h3
  refine ha ρ r1 h1 _ ?_
  revert h2
  cases r1.2 <;> intro h2 <;> first | (cases h2; exact p) | cases h2
def gZip : PyData → PyData → Option (List PyData)
  | .list xs, .list ys => some (zipD xs ys)
  | .tuple xs, .tuple ys => some (zipD xs ys)
  | _, _ => none
def qZip (a b : FE) : FA := fun ρ => (a ρ).bind fun r => (b r.1).bind fun s => (gZip r.2 s.2).bind fun ds => some (s.1, ds)
theorem c_zip {w u : WE} {a b : FE} (ha : cE o w a) (hb : cE o u b) : cA o (wZip w u) (qZip a b) := by
  intro ρ r h P p
  simp only [qZip, Option.bind_eq_some_iff] at h
  obtain ⟨r1, h1, r2, h2, ds, h3, h4⟩ := h
  cases h4
  refine ha ρ r1 h1 _ (hb _ _ h2 _ ?_)
  revert h3
  cases r1.2 <;> cases r2.2 <;> intro h3 <;> first | (cases h3; exact p) | cases h3
def gRange1 : List PyData → Option (List PyData)
  | [.int j] => if -(2 ^ 62) ≤ j ∧ j < 2 ^ 62 then some (rangeD 0 j.toNat) else none
  | _ => none
def gRange2 : List PyData → Option (List PyData)
  | [.int i, .int j] => if -(2 ^ 62) ≤ i ∧ i < 2 ^ 62 ∧ -(2 ^ 62) ≤ j ∧ j < 2 ^ 62 then some (rangeD i (j - i).toNat) else none
  | _ => none
def gDown : List PyData → Option (List PyData)
  | [.int i, .int j, .int k] => if k = -1 ∧ -(2 ^ 62) ≤ i ∧ i < 2 ^ 62 ∧ -(2 ^ 62) ≤ j ∧ j < 2 ^ 62 then some (downD i (i - j).toNat) else none
  | _ => none
def qRange1 (a : FA) : FA := fun ρ => (a ρ).bind fun r => (gRange1 r.2).bind fun ds => some (r.1, ds)
def qRange2 (a : FA) : FA := fun ρ => (a ρ).bind fun r => (gRange2 r.2).bind fun ds => some (r.1, ds)
def qDown (a : FA) : FA := fun ρ => (a ρ).bind fun r => (gDown r.2).bind fun ds => some (r.1, ds)
theorem c_range1 {w : WA} {a : FA} (ha : cA o w a) : cA o (wRange1 w) (qRange1 a) := by
  intro ρ r h P p
  simp only [qRange1, Option.bind_eq_some_iff] at h
  obtain ⟨r1, h1, ds, h2, h3⟩ := h
  cases h3
  refine ha ρ r1 h1 _ ?_
  unfold gRange1 at h2
  split at h2
  · rename_i j e
    split at h2
    · rename_i c; cases h2; exact ⟨j, e, c.1, c.2, p⟩
    · cases h2
  · cases h2
theorem c_range2 {w : WA} {a : FA} (ha : cA o w a) : cA o (wRange2 w) (qRange2 a) := by
  intro ρ r h P p
  simp only [qRange2, Option.bind_eq_some_iff] at h
  obtain ⟨r1, h1, ds, h2, h3⟩ := h
  cases h3
  refine ha ρ r1 h1 _ ?_
  unfold gRange2 at h2
  split at h2
  · rename_i i j e
    split at h2
    · rename_i c; cases h2; exact ⟨i, j, e, c, p⟩
    · cases h2
  · cases h2
theorem c_down {w : WA} {a : FA} (ha : cA o w a) : cA o (wDown w) (qDown a) := by
  intro ρ r h P p
  simp only [qDown, Option.bind_eq_some_iff] at h
  obtain ⟨r1, h1, ds, h2, h3⟩ := h
  cases h3
  refine ha ρ r1 h1 _ ?_
  unfold gDown at h2
  split at h2
  · rename_i i j k e
    split at h2
    · rename_i c
      obtain ⟨rfl, c⟩ := c
      cases h2; exact ⟨i, j, e, c, p⟩
    · cases h2
  · cases h2
/-! ### comprehensions -/
def lcQ (i : Nat) (t : FT) (e : FE) : List PyData → Env → List PyData → Option (Env × List PyData)
  | [], ρ, acc => some (ρ, acc)
  | d :: ds, ρ, acc => (t (ρ.set i (.dat d))).bind fun r => if r.2 = true then (e r.1).bind fun s => if acc.length < 16777216 then lcQ i t e ds (s.1.set i .un) (acc ++ [s.2]) else none else lcQ i t e ds (r.1.set i .un) acc
theorem c_lcD {i : Nat} {wt : WT} {we : WE} {t : FT} {e : FE} (ht : cT o wt t) (he : cE o we e) : ∀ (items : List PyData) (ρ : Env) (acc : List PyData) (r : Env × List PyData), lcQ i t e items ρ acc = some r → ∀ P : Env → List PyData → Prop, P (emb o r.1) r.2 → lcD i wt we items (emb o ρ) acc P
  | [], ρ, acc, r, h, P, p => by cases h; exact p
  | d :: ds, ρ, acc, r, h, P, p => by
    simp only [lcQ, Option.bind_eq_some_iff] at h
    obtain ⟨r1, h1, h2⟩ := h
    show wt ((emb o ρ).set i (.dat d)) _
    rw [emb_dset]
    refine ht _ _ h1 _ ?_
    split at h2
    · rename_i c
      simp only [Option.bind_eq_some_iff] at h2
      obtain ⟨s, h3, h4⟩ := h2
      split at h4
      · rename_i hl
        refine ⟨fun _ => he _ _ h3 _ ⟨by rw [sizeLine_eq]; exact hl, ?_⟩, fun e => by rw [e] at c; cases c⟩
        rw [emb_uset]
        exact c_lcD ht he ds _ _ _ h4 P p
      · cases h4
    · rename_i c
      refine ⟨fun e => absurd e c, fun _ => ?_⟩
      rw [emb_uset]
      exact c_lcD ht he ds _ _ _ h2 P p
def qLc (i : Nat) (f : FA) (t : FT) (e : FE) : FE := fun ρ => (f ρ).bind fun r => (lcQ i t e r.2 (r.1.set i .un) []).bind fun s => some (s.1, .list s.2)
theorem c_lc {i : Nat} {wi : WI} {wt : WT} {we : WE} {f : FA} {t : FT} {e : FE} (hi : cA o wi f) (ht : cT o wt t) (he : cE o we e) : cE o (wLc i wi wt we) (qLc i f t e) := by
  intro ρ r h P p
  simp only [qLc, Option.bind_eq_some_iff] at h
  obtain ⟨r1, h1, s, h2, h3⟩ := h
  cases h3
  refine hi ρ r1 h1 _ ?_
  rw [emb_uset]
  exact c_lcD ht he _ _ _ _ h2 _ p
def gPair : PyData → Option (PyData × PyData)
  | .tuple [x, y] => some (x, y)
  | _ => none
theorem gPair_some {d : PyData} {q : PyData × PyData} (h : gPair d = some q) : d = .tuple [q.1, q.2] := by
  unfold gPair at h
  split at h
  · cases h; rfl
  · cases h
def lcQ2 (i j : Nat) (e : FE) : List PyData → Env → List PyData → Option (Env × List PyData)
  | [], ρ, acc => some (ρ, acc)
  | d :: ds, ρ, acc => (gPair d).bind fun q => (e ((ρ.set i (.dat q.1)).set j (.dat q.2))).bind fun s => if acc.length < 16777216 then lcQ2 i j e ds ((s.1.set i .un).set j .un) (acc ++ [s.2]) else none
theorem c_lcD2 {i j : Nat} {we : WE} {e : FE} (he : cE o we e) : ∀ (items : List PyData) (ρ : Env) (acc : List PyData) (r : Env × List PyData), lcQ2 i j e items ρ acc = some r → ∀ P : Env → List PyData → Prop, P (emb o r.1) r.2 → lcD2 i j we items (emb o ρ) acc P
  | [], ρ, acc, r, h, P, p => by cases h; exact p
  | d :: ds, ρ, acc, r, h, P, p => by
    simp only [lcQ2, Option.bind_eq_some_iff] at h
    obtain ⟨q, h1, s, h3, h4⟩ := h
    split at h4
    · rename_i hl
      refine ⟨q.1, q.2, gPair_some h1, ?_⟩
      rw [emb_dset, emb_dset]
      refine he _ _ h3 _ ⟨by rw [sizeLine_eq]; exact hl, ?_⟩
      rw [emb_uset, emb_uset]
      exact c_lcD2 he ds _ _ _ h4 P p
    · cases h4
def qLc2 (i j : Nat) (f : FA) (e : FE) : FE := fun ρ => (f ρ).bind fun r => (lcQ2 i j e r.2 ((r.1.set i .un).set j .un) []).bind fun s => some (s.1, .list s.2)
theorem c_lc2 {i j : Nat} {wi : WI} {we : WE} {f : FA} {e : FE} (hi : cA o wi f) (he : cE o we e) : cE o (wLc2 i j wi we) (qLc2 i j f e) := by
  intro ρ r h P p
  simp only [qLc2, Option.bind_eq_some_iff] at h
  obtain ⟨r1, h1, s, h2, h3⟩ := h
  cases h3
  refine hi ρ r1 h1 _ ?_
  rw [emb_uset, emb_uset]
  exact c_lcD2 he _ _ _ _ h2 _ p
/-! ### statements -/
def qSeq (f g : FS) : FS := fun ρ => (f ρ).bind fun fl => match fl with
  | .nx ρ1 => g ρ1
  | fl => some fl
theorem c_seq {w u : WS} {f g : FS} (hf : cS o w f) (hg : cS o u g) : cS o (wSeq w u) (qSeq f g) := by
  intro ρ fl h E e
  simp only [qSeq, Option.bind_eq_some_iff] at h
  obtain ⟨f1, h1, h2⟩ := h
  refine hf ρ f1 h1 _ ?_
  cases f1 with
  | nx ρ1 => exact hg ρ1 fl h2 E e
  | rt ρ1 d => cases h2; exact e
  | bk ρ1 => cases h2; exact e
  | ct ρ1 => cases h2; exact e
def qSkip : FS := fun ρ => some (.nx ρ)
def qBreak : FS := fun ρ => some (.bk ρ)
def qCont : FS := fun ρ => some (.ct ρ)
def qNever : FS := fun _ => none
theorem c_skip : cS o wSkip qSkip := by intro ρ fl h E e; cases h; exact e
theorem c_break : cS o wBreak qBreak := by intro ρ fl h E e; cases h; exact e
theorem c_cont : cS o wCont qCont := by intro ρ fl h E e; cases h; exact e
theorem c_never {w : WS} : cS o w qNever := by intro ρ fl h E e; cases h
def qRet (a : FE) : FS := fun ρ => (a ρ).bind fun r => some (.rt r.1 r.2)
def qRetN : FS := fun ρ => some (.rt ρ .none)
theorem c_ret {w : WE} {a : FE} (ha : cE o w a) : cS o (wRet w) (qRet a) := by
  intro ρ fl h E e
  simp only [qRet, Option.bind_eq_some_iff] at h
  obtain ⟨r, h1, h2⟩ := h
  cases h2
  exact ha ρ r h1 _ e
theorem c_retN : cS o wRetN qRetN := by intro ρ fl h E e; cases h; exact e
def gOwn : SV → Option (List PyData)
  | .own ds => some ds
  | _ => none
theorem gOwn_some {s : SV} {ds : List PyData} (h : gOwn s = some ds) : s = .own ds := by
  cases s <;> first | (cases h; rfl) | cases h
def qRetO (j : Nat) : FS := fun ρ => (gOwn (ρ.at j)).bind fun ds => some (.rt ρ (.list ds))
theorem c_retO {j : Nat} (hj : o = none ∨ j ≠ 0) : cS o (wRetO j) (qRetO j) := by
  intro ρ fl h E e
  simp only [qRetO, Option.bind_eq_some_iff] at h
  obtain ⟨ds, h1, h2⟩ := h
  cases h2
  exact ⟨ds, emb_own hj (gOwn_some h1), e⟩
def qIf (t : FT) (f g : FS) : FS := fun ρ => (t ρ).bind fun r => if r.2 = true then f r.1 else g r.1
theorem c_if {t : WT} {w u : WS} {q : FT} {f g : FS} (ht : cT o t q) (hf : cS o w f) (hg : cS o u g) : cS o (wIf t w u) (qIf q f g) := by
  intro ρ fl h E e
  simp only [qIf, Option.bind_eq_some_iff] at h
  obtain ⟨r, h1, h2⟩ := h
  refine ht ρ r h1 _ ?_
  split at h2
  · rename_i c; exact ⟨fun _ => hf _ _ h2 _ e, fun z => by rw [z] at c; cases c⟩
  · rename_i c; exact ⟨fun z => absurd z c, fun _ => hg _ _ h2 _ e⟩
def qSet (i : Nat) (a : FE) : FS := fun ρ => (a ρ).bind fun r => some (.nx (r.1.set i (.dat r.2)))
theorem c_set {i : Nat} {w : WE} {a : FE} (ha : cE o w a) : cS o (wSet i w) (qSet i a) := by
  intro ρ fl h E e
  simp only [qSet, Option.bind_eq_some_iff] at h
  obtain ⟨r, h1, h2⟩ := h
  cases h2
  refine ha ρ r h1 _ ?_
  rw [emb_dset]; exact e
def qNew (i : Nat) : FS := fun ρ => some (.nx (ρ.set i (.own [])))
theorem c_new {i : Nat} (hi : o = none ∨ i ≠ 0) : cS o (wNew i) (qNew i) := by
  intro ρ fl h E e
  cases h
  show E.nx ((emb o ρ).set i (.own []))
  rw [emb_new hi]; exact e
def qSetF (i : Nat) (F : FN) (a : FA) : FS := fun ρ => (a ρ).bind fun r => (F r.2).bind fun es => some (.nx (r.1.set i (.own es)))
theorem c_setF {i : Nat} {S : SpF} {F : FN} {w : WA} {a : FA} (hi : o = none ∨ i ≠ 0) (hs : fitN S F) (ha : cA o w a) : cS o (wSetF i S w) (qSetF i F a) := by
  intro ρ fl h E e
  simp only [qSetF, Option.bind_eq_some_iff] at h
  obtain ⟨r, h1, es, h2, h3⟩ := h
  cases h3
  refine ha ρ r h1 _ (hs _ _ h2 _ ?_)
  rw [emb_new hi]; exact e
def qApp (j : Nat) (a : FE) : FS := fun ρ => (ρ.at j).items.bind fun _ => (a ρ).bind fun r => (r.1.at j).items.bind fun ds => if ds.length < 16777216 then some (.nx (r.1.set j ((r.1.at j).put (ds ++ [r.2])))) else none
theorem c_app {j : Nat} {w : WE} {a : FE} (ha : cE o w a) : cS o (wApp j w) (qApp j a) := by
  intro ρ fl h E e
  simp only [qApp, Option.bind_eq_some_iff] at h
  obtain ⟨ds0, h0, r, h1, ds, h2, h3⟩ := h
  split at h3
  · cases h3
    refine ⟨⟨ds0, by rw [emb_items]; exact h0⟩, ha ρ r h1 _ ⟨ds, by rw [emb_items]; exact h2, by rw [sizeLine_eq]; assumption, ?_⟩⟩
    rw [emb_put]; exact e
  · cases h3
def qPut (j : Nat) (a k : FE) : FS := fun ρ => (a ρ).bind fun r => (r.1.at j).items.bind fun _ => (k r.1).bind fun s => (s.1.at j).items.bind fun ds => (gI s.2).bind fun n => (ixN ds.length n).bind fun m => some (.nx (s.1.set j ((s.1.at j).put (ds.set m r.2))))
theorem c_put {j : Nat} {w wk : WE} {a k : FE} (ha : cE o w a) (hk : cE o wk k) : cS o (wPut j w wk) (qPut j a k) := by
  intro ρ fl h E e
  simp only [qPut, Option.bind_eq_some_iff] at h
  obtain ⟨r, h1, ds0, h0, s, h2, ds, h3, n, h4, m, h5, h6⟩ := h
  cases h6
  refine ha ρ r h1 _ ⟨⟨ds0, by rw [emb_items]; exact h0⟩, hk _ _ h2 _ ⟨ds, by rw [emb_items]; exact h3, n, gI_some h4, m, h5, ?_⟩⟩
  rw [emb_put]; exact e
def qN (i : Nat) : FG := fun d ρ => some (ρ.set i (.dat d))
theorem c_n {i : Nat} : cG o (gN i) (qN i) := by
  intro d ρ r h P p
  cases h
  show P ((emb o ρ).set i (.dat d))
  rw [emb_dset]; exact p
def qGNil : FGs := fun ds ρ => match ds with
  | [] => some ρ
  | _ => none
def qGCons (g : FG) (u : FGs) : FGs := fun ds ρ => match ds with
  | d :: r => (g d ρ).bind fun ρ1 => u r ρ1
  | [] => none
theorem c_gnil : cGs o gNil' qGNil := by
  intro d ρ r h P p
  cases d with
  | nil => cases h; exact ⟨rfl, p⟩
  | cons x y => cases h
theorem c_gcons {w : WG} {u : List PyData → Env → (Env → Prop) → Prop} {g : FG} {v : FGs} (hg : cG o w g) (hu : cGs o u v) : cGs o (gCons' w u) (qGCons g v) := by
  intro ds ρ r h P p
  cases ds with
  | nil => cases h
  | cons d es =>
    simp only [qGCons, Option.bind_eq_some_iff] at h
    obtain ⟨ρ1, h1, h2⟩ := h
    exact ⟨d, es, rfl, hg _ _ _ h1 _ (hu _ _ _ h2 _ p)⟩
def qT (n : Nat) (u : FGs) : FG := fun d ρ => match d with
  | .tuple ds => if ds.length = n then u ds ρ else none
  | _ => none
theorem c_t {n : Nat} {w : List PyData → Env → (Env → Prop) → Prop} {u : FGs} (hu : cGs o w u) : cG o (gT n w) (qT n u) := by
  intro d ρ r h P p
  cases d with
  | tuple ds =>
    replace h : (if ds.length = n then u ds ρ else none) = some r := h
    split at h
    · exact ⟨ds, rfl, by assumption, hu _ _ _ h _ p⟩
    · cases h
  | _ => cases h
def qAsg (a : FE) (g : FG) : FS := fun ρ => (a ρ).bind fun r => (g r.2 r.1).bind fun ρ1 => some (.nx ρ1)
theorem c_asg {w : WE} {wg : WG} {a : FE} {g : FG} (ha : cE o w a) (hg : cG o wg g) : cS o (wAsg w wg) (qAsg a g) := by
  intro ρ fl h E e
  simp only [qAsg, Option.bind_eq_some_iff] at h
  obtain ⟨r, h1, ρ1, h2, h3⟩ := h
  cases h3
  exact ha ρ r h1 _ (hg _ _ _ h2 _ e)
def qPar (i j : Nat) (a : FA) : FS := fun ρ => (a ρ).bind fun r => match r.2 with
  | [x, y] => some (.nx ((r.1.set i (.dat x)).set j (.dat y)))
  | _ => none
theorem c_par {i j : Nat} {w : WA} {a : FA} (ha : cA o w a) : cS o (wPar i j w) (qPar i j a) := by
  intro ρ fl h E e
  simp only [qPar, Option.bind_eq_some_iff] at h
  obtain ⟨r, h1, h2⟩ := h
  refine ha ρ r h1 _ ?_
  split at h2
  · rename_i x y hx
    cases h2
    refine ⟨x, y, hx, ?_⟩
    rw [emb_dset, emb_dset]; exact e
  · cases h2
def qAug (i : Nat) (g : G2) (a : FE) : FS := fun ρ => match ρ.at i with
  | .dat x => (a ρ).bind fun r => (g x r.2).bind fun z => some (.nx (r.1.set i (.dat z)))
  | _ => none
theorem c_aug {i : Nat} {f : F2} {g : G2} {w : WE} {a : FE} (hf : fit2 f g) (ha : cE o w a) : cS o (wAug i f w) (qAug i g a) := by
  intro ρ fl h E e
  unfold qAug at h
  split at h
  · rename_i x hx
    simp only [Option.bind_eq_some_iff] at h
    obtain ⟨r, h1, z, h2, h3⟩ := h
    cases h3
    refine ⟨x, emb_dat hx, ha ρ r h1 _ (hf _ _ _ h2 _ ?_)⟩
    rw [emb_dset]; exact e
  · cases h
def qDrop (a : FE) : FS := fun ρ => (a ρ).bind fun r => some (.nx r.1)
theorem c_drop {w : WE} {a : FE} (ha : cE o w a) : cS o (wDrop w) (qDrop a) := by
  intro ρ fl h E e
  simp only [qDrop, Option.bind_eq_some_iff] at h
  obtain ⟨r, h1, h2⟩ := h
  cases h2
  exact ha ρ r h1 _ e
/-! ### loops -/
def forQ (g : FG) (b : FS) : List PyData → Env → Option Fl
  | [], ρ => some (.nx ρ)
  | d :: ds, ρ => (g d ρ).bind fun ρ1 => (b ρ1).bind fun fl => match fl with
    | .nx ρ2 => forQ g b ds ρ2
    | .ct ρ2 => forQ g b ds ρ2
    | .bk ρ2 => some (.nx ρ2)
    | .rt ρ2 d => some (.rt ρ2 d)
theorem c_forD {wg : WG} {w : WS} {g : FG} {b : FS} (hg : cG o wg g) (hb : cS o w b) (E : DEnds) : ∀ (items : List PyData) (ρ : Env) (fl : Fl), forQ g b items ρ = some fl → E.at o fl → forD wg w E items (emb o ρ)
  | [], ρ, fl, h, e => by cases h; exact e
  | d :: ds, ρ, fl, h, e => by
    simp only [forQ, Option.bind_eq_some_iff] at h
    obtain ⟨ρ1, h1, f1, h2, h3⟩ := h
    refine hg _ _ _ h1 _ (hb _ _ h2 _ ?_)
    cases f1 with
    | nx ρ2 => exact c_forD hg hb E ds ρ2 fl h3 e
    | ct ρ2 => exact c_forD hg hb E ds ρ2 fl h3 e
    | bk ρ2 => cases h3; exact e
    | rt ρ2 d => cases h3; exact e
def qFor (f : FA) (g : FG) (b : FS) : FS := fun ρ => (f ρ).bind fun r => forQ g b r.2 r.1
theorem c_for {wi : WI} {wg : WG} {w : WS} {f : FA} {g : FG} {b : FS} (hi : cA o wi f) (hg : cG o wg g) (hb : cS o w b) : cS o (wFor wi wg w) (qFor f g b) := by
  intro ρ fl h E e
  simp only [qFor, Option.bind_eq_some_iff] at h
  obtain ⟨r, h1, h2⟩ := h
  exact hi ρ r h1 _ (c_forD hg hb E _ _ _ h2 e)
def whileQ (t : FT) (b : FS) : Nat → Env → Option Fl
  | 0, _ => none
  | n + 1, ρ => (t ρ).bind fun r => if r.2 = true then (b r.1).bind fun fl => match fl with
      | .nx ρ2 => whileQ t b n ρ2
      | .ct ρ2 => whileQ t b n ρ2
      | .bk ρ2 => some (.nx ρ2)
      | .rt ρ2 d => some (.rt ρ2 d)
    else some (.nx r.1)
/-- the turns that a loop has at most -/
def fuel : Nat := 1000000
def qWhile (t : FT) (b : FS) : FS := fun ρ => whileQ t b fuel ρ
theorem c_while {wt : WT} {w : WS} {t : FT} {b : FS} (ht : cT o wt t) (hb : cS o w b) : cS o (wWhile wt w) (qWhile t b) := by
  intro ρ fl h E e
  refine ⟨fun m ρ' => ∃ ρ1 f1, ρ' = emb o ρ1 ∧ whileQ t b m ρ1 = some f1 ∧ E.at o f1, ⟨fuel, ρ, fl, rfl, h, e⟩, ?_⟩
  rintro m ρ' ⟨ρ1, f1, rfl, h1, e1⟩
  cases m with
  | zero => cases h1
  | succ m =>
    simp only [whileQ, Option.bind_eq_some_iff] at h1
    obtain ⟨r, h2, h3⟩ := h1
    refine ht _ _ h2 _ ?_
    split at h3
    · rename_i c
      simp only [Option.bind_eq_some_iff] at h3
      obtain ⟨f2, h4, h5⟩ := h3
      refine ⟨fun _ => hb _ _ h4 _ ?_, fun z => by rw [z] at c; cases c⟩
      cases f2 with
      | nx ρ2 => exact ⟨m, Nat.lt_succ_self _, ρ2, f1, rfl, h5, e1⟩
      | ct ρ2 => exact ⟨m, Nat.lt_succ_self _, ρ2, f1, rfl, h5, e1⟩
      | bk ρ2 => cases h5; exact e1
      | rt ρ2 d => cases h5; exact e1
    · rename_i c
      cases h3
      exact ⟨fun z => absurd z c, fun _ => e1⟩
/-! ### defs -/
def retOf : Option Fl → Option PyData
  | some (.rt _ d) => some d
  | some (.nx _) => some .none
  | _ => none
theorem m_of {w : WS} {b : FS} (c : cS none w b) {ρ : Env} {d : PyData} (h : retOf (b ρ) = some d) {Q : PyData → Prop} (k : Q d) : w { nx := fun _ => Q .none, rt := fun _ d => Q d } ρ := by
  cases e : b ρ with
  | none => rw [e] at h; cases h
  | some fl =>
    rw [e] at h
    refine c ρ fl e _ ?_
    cases fl with
    | nx ρ1 => cases h; exact k
    | rt ρ1 d => cases h; exact k
    | bk ρ1 => cases h
    | ct ρ1 => cases h
def gAt0 : Env → Option (List PyData)
  | .own ws :: _ => some ws
  | _ => none
theorem gAt0_some {l : Addr} {ρ : Env} {ws : List PyData} (h : gAt0 ρ = some ws) : (emb (some l) ρ).at 0 = .bor l ws := by
  unfold gAt0 at h
  split at h
  · cases h; rfl
  · cases h
def retW : Option Fl → Option (List PyData × PyData)
  | some (.rt ρ d) => (gAt0 ρ).map fun ws => (ws, d)
  | some (.nx ρ) => (gAt0 ρ).map fun ws => (ws, .none)
  | _ => none
theorem mW_of {l : Addr} {w : WS} {b : FS} (c : cS (some l) w b) {ws : List PyData} {rest : Env} {r : List PyData × PyData} (h : retW (b (.own ws :: rest)) = some r) {Q : List PyData → PyData → Prop} (k : Q r.1 r.2) :
    w { nx := fun ρ => ∃ ws', ρ.at 0 = .bor l ws' ∧ Q ws' .none, rt := fun ρ d => ∃ ws', ρ.at 0 = .bor l ws' ∧ Q ws' d } (.bor l ws :: rest) := by
  cases e : b (.own ws :: rest) with
  | none => rw [e] at h; cases h
  | some fl =>
    rw [e] at h
    refine c (.own ws :: rest) fl e _ ?_
    cases fl with
    | nx ρ1 =>
      simp only [retW, Option.map_eq_some_iff] at h
      obtain ⟨ws', h1, rfl⟩ := h
      exact ⟨ws', gAt0_some h1, k⟩
    | rt ρ1 d =>
      simp only [retW, Option.map_eq_some_iff] at h
      obtain ⟨ws', h1, rfl⟩ := h
      exact ⟨ws', gAt0_some h1, k⟩
    | bk ρ1 => cases h
    | ct ρ1 => cases h
/-- a list of its own that is handed back -/
def qlist (f : FA) (ρ : Env) : Option (List PyData) := (f ρ).map (·.2)
end Pm
namespace Pm
open PySem PySem.Spec PyProof.Rows L2 TL
/-! ### the operators as functions -/
def gAdd : G2
  | .int i, .int j => some (.int (i + j))
  | .str x, .str y => if x.length + y.length ≤ 16777216 then some (.str (x ++ y)) else none
  | .list xs, .list ys => if xs.length + ys.length ≤ 16777216 then some (.list (xs ++ ys)) else none
  | .tuple xs, .tuple ys => if xs.length + ys.length ≤ 16777216 then some (.tuple (xs ++ ys)) else none
  | _, _ => none
theorem of_if {α : Type} {c : Prop} [Decidable c] {x d : α} (h : (if c then some x else none) = some d) : c ∧ x = d := by
  split at h
  · cases h; exact ⟨by assumption, rfl⟩
  · cases h
theorem k_add : fit2 fAdd gAdd := by
  intro x y d h P p
  cases x <;> cases y <;> first
    | (cases h; exact p)
    | (obtain ⟨c, rfl⟩ := of_if h; exact ⟨by rw [sizeLine_eq]; exact c, p⟩)
    | cases h
def gI2 (C : Int → Int → Prop) [∀ i j, Decidable (C i j)] (g : Int → Int → PyData) : G2
  | .int i, .int j => if C i j then some (g i j) else none
  | _, _ => none
def gI0 (g : Int → Int → PyData) : G2
  | .int i, .int j => some (g i j)
  | _, _ => none
theorem k_I0 {g : Int → Int → PyData} : fit2 (fI0 g) (gI0 g) := by
  intro x y d h P p
  cases x <;> cases y <;> first | (cases h; exact p) | cases h
theorem k_I {C D : Int → Int → Prop} [∀ i j, Decidable (D i j)] {g : Int → Int → PyData} (hc : ∀ i j, D i j → C i j) : fit2 (fI C g) (gI2 D g) := by
  intro x y d h P p
  cases x <;> cases y <;> first | (obtain ⟨c, rfl⟩ := of_if h; exact ⟨hc _ _ c, p⟩) | cases h
abbrev gSub : G2 := gI0 fun i j => .int (i - j)
abbrev gAddI : G2 := gI0 fun i j => .int (i + j)
abbrev gLt : G2 := gI0 fun i j => .bool (decide (i < j))
abbrev gLe : G2 := gI0 fun i j => .bool (decide (i ≤ j))
abbrev gGt : G2 := gI0 fun i j => .bool (decide (j < i))
abbrev gGe : G2 := gI0 fun i j => .bool (decide (j ≤ i))
theorem k_sub : fit2 fSub gSub := k_I0
theorem k_lt : fit2 fLt gLt := k_I0
theorem k_le : fit2 fLe gLe := k_I0
theorem k_gt : fit2 fGt gGt := k_I0
theorem k_ge : fit2 fGe gGe := k_I0
abbrev gMod : G2 := gI2 (fun _ j => 0 < j) fun i j => .int (i % j)
abbrev gDiv : G2 := gI2 (fun _ j => 0 < j ∧ j < 2 ^ 62) fun i j => .int (i / j)
abbrev gPow : G2 := gI2 (fun i j => 0 ≤ j ∧ j ≤ 1000000 ∧ i.natAbs < 2 ^ 64) fun i j => .int (i ^ j.toNat)
theorem k_mod : fit2 fMod gMod := k_I fun _ _ h => h
theorem k_div : fit2 fDiv gDiv := k_I fun _ _ h => cdiv_of h.1 h.2
theorem k_pow : fit2 fPow gPow := k_I fun _ _ h => h
def gMul : G2
  | .int i, .int j => if (-(2 ^ 64) < i ∧ i < 2 ^ 64) ∨ (-(2 ^ 64) < j ∧ j < 2 ^ 64) then some (.int (i * j)) else none
  | .str x, .int n => if -(2 ^ 63) ≤ n ∧ n < 2 ^ 63 ∧ x.length * n.toNat ≤ 16777216 then some (.str (repS x n.toNat)) else none
  | .list xs, .int n => if -(2 ^ 63) ≤ n ∧ n < 2 ^ 63 ∧ xs.length * n.toNat ≤ 16777216 then some (.list (repD xs n.toNat)) else none
  | _, _ => none
theorem k_mul : fit2 fMul gMul := by
  intro x y d h P p
  cases x <;> cases y <;> first
    | (obtain ⟨c, rfl⟩ := of_if h; exact ⟨c, p⟩)
    | (obtain ⟨c, rfl⟩ := of_if h; exact ⟨c.1, c.2.1, by rw [sizeLine_eq]; exact c.2.2, p⟩)
    | cases h
def gEq (neg : Bool) : G2
  | .int i, .int j => some (.bool (neg ^^ decide (i = j)))
  | .str i, .str j => some (.bool (neg ^^ decide (i = j)))
  | .bool i, .bool j => some (.bool (neg ^^ decide (i = j)))
  | x, y => if eqOk x y = true then some (.bool (neg ^^ PyData.eqv x y)) else none
theorem k_eq {neg : Bool} : fit2 (fEq neg) (gEq neg) := by
  intro x y d h P p
  have gen : (if eqOk x y = true then some (PyData.bool (neg ^^ PyData.eqv x y)) else none) = some d → eqOk x y = true ∧ P (.bool (neg ^^ PyData.eqv x y)) := fun hh => by
    obtain ⟨c, rfl⟩ := of_if hh; exact ⟨c, p⟩
  cases x <;> cases y <;> first
    | exact gen h
    | (cases h; exact p)
def gIs (neg : Bool) : G2 := fun x y => match y with
  | .none => some (.bool (neg ^^ isN x))
  | _ => none
theorem k_is {neg : Bool} : fit2 (fIs neg) (gIs neg) := by
  intro x y d h P p
  cases y <;> first | (cases h; exact ⟨rfl, p⟩) | cases h
def gIn (neg : Bool) : G2
  | .str x, .str z => some (.bool (neg ^^ inS x z))
  | x, .list ys => if flatD x = true ∧ ys.all flatD = true then some (.bool (neg ^^ ys.any fun y => PyData.eqv y x)) else none
  | x, .tuple ys => if flatD x = true ∧ ys.all flatD = true then some (.bool (neg ^^ ys.any fun y => PyData.eqv y x)) else none
  | _, _ => none
theorem k_in {neg : Bool} : fit2 (fIn neg) (gIn neg) := by
  intro x y d h P p
  cases x <;> cases y <;> first
    | (cases h; exact p)
    | (obtain ⟨c, rfl⟩ := of_if h; exact ⟨c.1, c.2, p⟩)
    | cases h
def gIx : G2
  | .list xs, .int i => atI xs i
  | .tuple xs, .int i => atI xs i
  | .str z, .int i => if z.length ≤ 16777216 then (atI z.cps.toList i).map fun c => .str (tx [c]) else none
  | _, _ => none
theorem k_ix : fit2 fIx gIx := by
  intro x y d h P p
  cases x <;> cases y <;> first
    | (replace h : atI _ _ = some d := h; exact ⟨d, h, p⟩)
    | (replace h : (if _ then Option.map _ _ else none) = some d := h
       split at h
       · simp only [Option.map_eq_some_iff] at h
         obtain ⟨c, h1, rfl⟩ := h
         exact ⟨by rw [sizeLine_eq]; assumption, c, h1, p⟩
       · cases h)
    | cases h
/-! ### built-ins -/
def gLen : G1
  | .str x => if x.length ≤ 16777216 then some (.int x.length) else none
  | .list xs => some (.int xs.length)
  | .tuple xs => some (.int xs.length)
  | _ => none
theorem k_len : fit1 fLen gLen := by
  intro x d h P p
  cases x <;> first
    | (cases h; exact p)
    | (obtain ⟨c, rfl⟩ := of_if h; exact ⟨by rw [sizeLine_eq]; exact c, p⟩)
    | cases h
def gInt : G1
  | .int i => some (.int i)
  | .bool b => some (.int (if b then 1 else 0))
  | _ => none
theorem k_int : fit1 fInt gInt := by
  intro x d h P p
  cases x <;> first | (cases h; exact p) | cases h
def gTuple : G1
  | .list xs => some (.tuple xs)
  | .tuple xs => some (.tuple xs)
  | _ => none
theorem k_tuple : fit1 fTuple gTuple := by
  intro x d h P p
  cases x <;> first | (cases h; exact p) | cases h
def gList : G1
  | .list xs => some (.list xs)
  | .tuple xs => some (.list xs)
  | _ => none
theorem k_list : fit1 fList gList := by
  intro x d h P p
  cases x <;> first | (cases h; exact p) | cases h
def gNeg : G1
  | .int i => some (.int (-i))
  | _ => none
theorem k_neg : fit1 fNeg gNeg := by
  intro x d h P p
  cases x <;> first | (cases h; exact p) | cases h
def gBs : List PyData → Option (List Bool)
  | [] => some []
  | .bool s :: r => (gBs r).map (s :: ·)
  | _ => none
theorem gBs_some : ∀ {ds : List PyData} {ys : List Bool}, gBs ds = some ys → ds = ys.map .bool
  | [], ys, h => by cases h; rfl
  | d :: r, ys, h => by
    cases d with
    | bool s =>
      cases e : gBs r with
      | none => unfold gBs at h; rw [e] at h; cases h
      | some zs =>
        unfold gBs at h; rw [e] at h; cases h
        rw [gBs_some e]; rfl
    | _ => cases h
theorem gBs_of (ys : List Bool) : gBs (ys.map .bool) = some ys := by
  induction ys with
  | nil => rfl
  | cons y ys ih => show (gBs _).map _ = _; rw [ih]; rfl
theorem gBs_map {α : Type} (f : α → Bool) (l : List α) : gBs (l.map fun x => .bool (f x)) = some (l.map f) := by
  have := gBs_of (l.map f)
  rw [List.map_map] at this
  exact this
def gAny : G1
  | .list ds => (gBs ds).map fun bs => .bool (bs.any id)
  | _ => none
def gAll : G1
  | .list ds => (gBs ds).map fun bs => .bool (bs.all id)
  | _ => none
theorem k_any : fit1 (fBools fun bs => bs.any id) gAny := by
  intro x d h P p
  cases x with
  | list ds =>
    simp only [gAny, Option.map_eq_some_iff] at h
    obtain ⟨bs, h1, rfl⟩ := h
    exact ⟨bs, by rw [gBs_some h1], p⟩
  | _ => cases h
theorem k_all : fit1 (fBools fun bs => bs.all id) gAll := by
  intro x d h P p
  cases x with
  | list ds =>
    simp only [gAll, Option.map_eq_some_iff] at h
    obtain ⟨bs, h1, rfl⟩ := h
    exact ⟨bs, by rw [gBs_some h1], p⟩
  | _ => cases h
/-! ### methods of texts -/
def gSplit : GM
  | x, [.str y] => if (y.length == 0) = false ∧ x.length + 2 ≤ 16777216 then some (.list ((Txt.split x y).map .str)) else none
  | _, _ => none
def gStrip : GM
  | x, [.str y] => if x.length ≤ 16777216 then some (.str (Txt.stripChars x y)) else none
  | _, _ => none
def gLstrip : GM
  | x, [.str y] => if x.length ≤ 16777216 then some (.str (Txt.lstripChars x y)) else none
  | _, _ => none
def gRstrip : GM
  | x, [.str y] => if x.length ≤ 16777216 then some (.str (Txt.rstripChars x y)) else none
  | _, _ => none
def gStarts : GM
  | x, [.str y] => some (.bool (Txt.startswith x y))
  | _, _ => none
def gStarts3 : GM
  | x, [.str y, .int i] => some (.bool (Txt.startswith3 x y i))
  | _, _ => none
def gEnds : GM
  | x, [.str y] => some (.bool (Txt.endswith x y))
  | _, _ => none
def gFind : GM
  | x, [.str y] => some (.int (Txt.find x y))
  | _, _ => none
def gFind3 : GM
  | x, [.str y, .int i] => some (.int (Txt.find3 x y i))
  | _, _ => none
def gFind4 : GM
  | x, [.str y, .int i, .int j] => some (.int (Txt.findIn x y i j))
  | _, _ => none
def gCount : GM
  | x, [.str y] => some (.int (Txt.count x y))
  | _, _ => none
def gCount4 : GM
  | x, [.str y, .int i, .int j] => some (.int (Txt.countIn x y i j))
  | _, _ => none
theorem k_split : fitM fSplit gSplit := by
  intro x y d h P p
  unfold gSplit at h
  split at h
  · obtain ⟨c, rfl⟩ := of_if h
    exact ⟨c.1, by rw [sizeLine_eq]; exact c.2, p⟩
  · cases h
theorem k_strip : fitM fStrip gStrip := by
  intro x y d h P p
  unfold gStrip at h
  split at h
  · obtain ⟨c, rfl⟩ := of_if h
    exact ⟨by rw [sizeLine_eq]; exact c, p⟩
  · cases h
theorem k_lstrip : fitM fLstrip gLstrip := by
  intro x y d h P p
  unfold gLstrip at h
  split at h
  · obtain ⟨c, rfl⟩ := of_if h
    exact ⟨by rw [sizeLine_eq]; exact c, p⟩
  · cases h
theorem k_rstrip : fitM fRstrip gRstrip := by
  intro x y d h P p
  unfold gRstrip at h
  split at h
  · obtain ⟨c, rfl⟩ := of_if h
    exact ⟨by rw [sizeLine_eq]; exact c, p⟩
  · cases h
theorem k_starts : fitM fStarts gStarts := by
  intro x y d h P p
  unfold gStarts at h
  split at h
  · cases h; exact p
  · cases h
theorem k_starts3 : fitM fStarts3 gStarts3 := by
  intro x y d h P p
  unfold gStarts3 at h
  split at h
  · cases h; exact p
  · cases h
theorem k_ends : fitM fEnds gEnds := by
  intro x y d h P p
  unfold gEnds at h
  split at h
  · cases h; exact p
  · cases h
theorem k_find : fitM fFind gFind := by
  intro x y d h P p
  unfold gFind at h
  split at h
  · cases h; exact p
  · cases h
theorem k_find3 : fitM fFind3 gFind3 := by
  intro x y d h P p
  unfold gFind3 at h
  split at h
  · cases h; exact p
  · cases h
theorem k_find4 : fitM fFind4 gFind4 := by
  intro x y d h P p
  unfold gFind4 at h
  split at h
  · cases h; exact p
  · cases h
theorem k_count : fitM fCount gCount := by
  intro x y d h P p
  unfold gCount at h
  split at h
  · cases h; exact p
  · cases h
theorem k_count4 : fitM fCount4 gCount4 := by
  intro x y d h P p
  unfold gCount4 at h
  split at h
  · cases h; exact p
  · cases h
def gLower : G1
  | .str x => if x.length ≤ 5592405 then some (.str (Txt.lower x)) else none
  | _ => none
def gUpper : G1
  | .str x => if x.length ≤ 5592405 then some (.str (Txt.upper x)) else none
  | _ => none
def gIsalnum : G1
  | .str x => some (.bool (Txt.isalnum x))
  | _ => none
def gSplit0 : G1
  | .str x => if x.length + 2 ≤ 16777216 then some (.list ((Txt.words x).map .str)) else none
  | _ => none
theorem k_lower : fit1 fLower gLower := by
  intro x d h P p
  cases x <;> first | (obtain ⟨c, rfl⟩ := of_if h; exact ⟨c, p⟩) | cases h
theorem k_upper : fit1 fUpper gUpper := by
  intro x d h P p
  cases x <;> first | (obtain ⟨c, rfl⟩ := of_if h; exact ⟨c, p⟩) | cases h
theorem k_isalnum : fit1 fIsalnum gIsalnum := by
  intro x d h P p
  cases x <;> first | (cases h; exact ⟨trivial, p⟩) | cases h
theorem k_split0 : fit1 fSplit0 gSplit0 := by
  intro x d h P p
  cases x <;> first | (obtain ⟨c, rfl⟩ := of_if h; exact ⟨by rw [sizeLine_eq]; exact c, p⟩) | cases h
end Pm
namespace Pm
open PySem PySem.Spec PyProof.Rows L2 TL
/-! ### for look in (f, g, h): end = look(text, place); if end is not None: return end -/
variable {Y : Cx} {K : Fr}
def HeldP (Y : Cx) (K : Fr) (f : Addr) (S : SpD) : Prop := ∃ (k : Nat) (fd : FuncData) (ps : List Str), FnOk Y.prog Y.w Y.K Y.mg Y.base CX0 k f fd ps (spP K S) ∧ Room k Y.A ∧ PySem.W.keepIn Y.K (.ref f) = true ∧ Binds Y.K fd ps []
def tCallH (Y : Cx) (K : Fr) (i : Nat) (t : TA) : TE := fun σ H Q => ∃ f S, σ[i]? = some (some (.ref f)) ∧ HeldP Y K f S ∧ t σ H fun vs H1 => spP K S vs H1 Q E0
theorem pe_callH {i : Nat} {x : Str} {p pos : Pos} {e : Expr} {es : List Expr} {t : TA} (hN : Y.N[i]? = some x) (hv : Vis Y.env.scope x) (ha : PA Y (e :: es) t)
    (hdb : (x == ("__debug__" : Str)) = false := by decide) (hcd : (x == ("__classdict__" : Str)) = false := by decide)
    (he : starEach (e :: es) Y.env = (false, eval e Y.env) :: starEach es Y.env := by rfl) (hpl : (backTo pos (starEach es Y.env)).any (·.1) = false := by rfl) : PE Y (.Call (.Name x p) (e :: es) [] pos) (tCallH Y K i t) := by
  refine ⟨fun pins s σ H Q I h => ?_⟩
  obtain ⟨f, S, hs, ⟨k, fd, ps, F, hr, hk, hb⟩, ht⟩ := h
  refine wpAny_Call_Name_kw (thn ((pe_var (pos := p) hN hv hdb hcd).run pins s σ H (fun v H1 => v = .ref f ∧ H1 = H) I ⟨.ref f, hs, rfl, rfl⟩) fun u s1 ⟨v, H1, I1, r1, q1⟩ => ?_)
  obtain ⟨rfl, rfl⟩ := q1
  cases r1
  refine PySem.W.callWith_K (h₀ := Y.base) I.ok.mod.kin hk (thn (ha.run pos pins s1 σ _ _ I1 ht) fun us s2 ⟨vs, H2, I2, r, q⟩ => ⟨I2.kIn, ?_⟩) he hpl
  refine runF F hr hb (dvs := []) .nil pass0 I2 r ?_
  rw [List.append_nil]
  exact q
def wLook : List SpD → WS
  | [], E, ρ => E.nx ρ
  | S :: Ss, E, ρ => 3 < ρ.length ∧ ∃ x y, ρ.at 0 = .dat x ∧ ρ.at 1 = .dat y ∧ S [x, y] fun d => (isN d = false → E.rt ((ρ.set 2 .un).set 3 (.dat d)) d) ∧ (isN d = true → wLook Ss E ((ρ.set 2 .un).set 3 (.dat d)))
theorem EnvOk.val {M0 M B : List Addr} {H : Hp} {σ : L2.St} {ρ : Env} {j : Nat} {d : PyData} (E : EnvOk K M0 M B H σ ρ) (h : ρ.at j = .dat d) : ∃ v, σ[j]? = some (some v) ∧ Dt K (rm M H) v d := E.slot j _ (Env.at_get h (by intro z; cases z))
theorem Env.at_set_ne {ρ : Env} {i j : Nat} (h : i ≠ j) : ∀ {s : SV}, Env.at (ρ.set i s) j = ρ.at j := by
  induction ρ generalizing i j with
  | nil => intro s; rfl
  | cons a r ih =>
    intro s
    cases i with
    | zero =>
      cases j with
      | zero => exact absurd rfl h
      | succ j => rfl
    | succ i =>
      cases j with
      | zero => rfl
      | succ j => exact ih (fun e => h (congrArg Nat.succ e))
theorem ds_look {x1 x2 x3 : Str} {S1 S2 S3 : SpD} {p1 p2 p3 p4 p5 p6 p7 p8 p9 pa pb pc pd pe pf pg ph : Pos} {kk kc : Nat} (nd : Y.N.Nodup) (c1 : CallOk Y x1 (spP K S1)) (c2 : CallOk Y x2 (spP K S2)) (c3 : CallOk Y x3 (spP K S3))
    (g1 : Gl Y x1) (g2 : Gl Y x2) (g3 : Gl Y x3) (d1 : (x1 == ("__debug__" : Str)) = false) (d2 : (x2 == ("__debug__" : Str)) = false) (d3 : (x3 == ("__debug__" : Str)) = false)
    (v0 : ∀ p, PE Y (.Name "text" p) (tVar 0)) (v1 : ∀ p, PE Y (.Name "place" p) (tVar 1)) (v3 : ∀ p, PE Y (.Name "end" p) (tVar 3)) (hN : Y.N[2]? = some ("look" : Str)) (hv : Vis Y.env.scope "look")
    (g : PG Y (.Name "look" p1) (gName 2)) (hK : Y.K = K) (hcalm : Y.calm = true) (hown : PassesOwn (model Y.prog Y.w) Y.A Y.env Y.xe)
    (s3 : starEach [.Name x1 p2, .Name x2 p3, .Name x3 p4] Y.env = (false, eval (.Name x1 p2) Y.env) :: starEach [.Name x2 p3, .Name x3 p4] Y.env) (s2 : starEach [.Name x2 p3, .Name x3 p4] Y.env = (false, eval (.Name x2 p3) Y.env) :: starEach [.Name x3 p4] Y.env) (s1 : starEach [.Name x3 p4] Y.env = (false, eval (.Name x3 p4) Y.env) :: starEach [] Y.env)
    (a2 : starEach [.Name "text" pa, .Name "place" pb] Y.env = (false, eval (.Name "text" pa) Y.env) :: starEach [.Name "place" pb] Y.env) (a1 : starEach [.Name "place" pb] Y.env = (false, eval (.Name "place" pb) Y.env) :: starEach [] Y.env)
    (hpl : ∀ (pos : Pos), (backTo pos (starEach [Expr.Name "place" pb] Y.env)).any (·.1) = false)
    (hset : ∀ t, PE Y (.Call (.Name "look" p8) [.Name "text" pa, .Name "place" pb] [] pc) t → PS Y (.Assign [.Name "end" p7] (.Call (.Name "look" p8) [.Name "text" pa, .Name "place" pb] [] pc) pd) (tAsg t (gName 3)))
    (htst : PT Y (.Compare (.Name "end" p5) [.IsNot] [.Constant .none kc p6] p9) (tTest (tOp (fun x y H Q => y = .non ∧ Q (.bl (!decide (x = .non))) H) (tVar 3) (tC .non)))) :
    DS Y K (.For (.Name "look" p1) (.Tuple [.Name x1 p2, .Name x2 p3, .Name x3 p4] kk pe)
      [.Assign [.Name "end" p7] (.Call (.Name "look" p8) [.Name "text" pa, .Name "place" pb] [] pc) pd, .If (.Compare (.Name "end" p5) [.IsNot] [.Constant .none kc p6] p9) [.Return (some (.Name "end" pf)) pg] [] ph] [] pos) (wLook [S1, S2, S3]) := by
  obtain ⟨k1, f1, fd1, ps1, F1, r1, m1, q1, b1⟩ := c1
  obtain ⟨k2, f2, fd2, ps2, F2, r2, m2, q2, b2⟩ := c2
  obtain ⟨k3, f3, fd3, ps3, F3, r3, m3, q3, b3⟩ := c3
  have h1 : HeldP Y K f1 S1 := ⟨k1, fd1, ps1, F1, r1, q1, b1⟩
  have h2 : HeldP Y K f2 S2 := ⟨k2, fd2, ps2, F2, r2, q2, b2⟩
  have h3 : HeldP Y K f3 S3 := ⟨k3, fd3, ps3, F3, r3, q3, b3⟩
  have tl : PE Y (.Tuple [.Name x1 p2, .Name x2 p3, .Name x3 p4] kk pe) (tTup (tCons (tC (.ref f1)) (tCons (tC (.ref f2)) (tCons (tC (.ref f3)) tNil)))) :=
    pe_tup (pa_cons (pe_glob g1 m1 rfl d1) (pa_cons (pe_glob g2 m2 rfl d2) (pa_cons (pe_glob g3 m3 rfl d3) pa_nil s1) s2) s3)
  have body : PSs Y [.Assign [.Name "end" p7] (.Call (.Name "look" p8) [.Name "text" pa, .Name "place" pb] [] pc) pd, .If (.Compare (.Name "end" p5) [.IsNot] [.Constant .none kc p6] p9) [.Return (some (.Name "end" pf)) pg] [] ph]
      (tSeq (tAsg (tCallH Y K 2 (tCons (tVar 0) (tCons (tVar 1) tNil))) (gName 3)) (tIfS (tTest (tOp (fun x y H Q => y = .non ∧ Q (.bl (!decide (x = .non))) H) (tVar 3) (tC .non))) (tRet (tVar 3)) tNext)) :=
    pss_cons (hset _ (pe_callH hN hv (pa_cons (v0 _) (pa_cons (v1 _) pa_nil a1) a2) (he := a2) (hpl := hpl _))) (pss_one (ps_if htst (pss_one (ps_ret (v3 _))) pss_nil))
  refine ⟨_, ps_for hown hcalm (pi_any tl) g body, fun M0 M B σ H ρ E D Ev w F => ?_⟩
  refine ⟨by show 3 ≤ sizeLine; decide, fun p np => .inr (.inl ⟨p, rfl, ⟨_, SqT.of upd_same⟩, ?_⟩)⟩
  have sm : Same H (upd H p (.tup [.ref f1, .ref f2, .ref f3])) := same_new np
  have E1 := Ev.same sm
  have F1' := F.go (Ext.same sm)
  have hpM : p ∉ M := Ev.fresh np
  let fs : List (Addr × SpD) := [(f1, S1), (f2, S2), (f3, S3)]
  have hfs : ∀ q, q ∈ fs → HeldP Y K q.1 q.2 := by
    intro q hq
    rcases List.mem_cons.mp hq with e | hq
    · rw [e]; exact h1
    rcases List.mem_cons.mp hq with e | hq
    · rw [e]; exact h2
    rcases List.mem_cons.mp hq with e | hq
    · rw [e]; exact h3
    · cases hq
  have exs : ([.ref f1, .ref f2, .ref f3] : List V) = fs.map fun q => .ref q.1 := rfl
  rw [exs]
  refine ⟨fun n m σ2 H2 => m = 3 - n ∧ ∃ (ρ2 : Env) (M2 B2 : List Addr), n ≤ 3 ∧ wLook ((fs.drop n).map Prod.snd) E ρ2 ∧ Ext M B (upd H p (.tup (fs.map fun q => .ref q.1))) M2 B2 H2 ∧ EnvOk K M0 M2 B2 H2 σ2 ρ2 ∧ H2 p = some (.tup (fs.map fun q => .ref q.1)), ⟨_, rfl, ρ, M, B, Nat.zero_le _, w, Ext.refl .., E1, upd_same⟩, ?_⟩
  rintro n m σ2 H2 ⟨rfl, ρ2, M2, B2, hn, w2, x2, E2, hp2⟩
  have hT : SqT K H2 p (fs.map fun q => .ref q.1) := SqT.of hp2
  by_cases hlt : n < 3
  · right
    obtain ⟨q, hq⟩ : ∃ q, fs[n]? = some q := ⟨fs[n]'hlt, List.getElem?_eq_getElem hlt⟩
    have hdr : fs.drop n = q :: fs.drop (n + 1) := by
      rw [List.drop_eq_getElem_cons hlt]
      congr 1
      rw [List.getElem?_eq_getElem hlt] at hq
      exact Option.some.inj hq
    rw [hdr, List.map_cons] at w2
    have hh := hfs q (List.mem_of_getElem? hq)
    obtain ⟨hl3, x, y, hx, hy, w2⟩ := w2
    obtain ⟨vx, sx, rx⟩ := E2.val hx
    obtain ⟨vy, sy, ry⟩ := E2.val hy
    have hgo : ((fs.map fun q => V.ref q.1))[n]? = some (.ref q.1) := by rw [List.getElem?_map, hq]; rfl
    refine ⟨by rw [hK]; exact ⟨_, _, hT, hgo⟩, fun σ' H' => ∃ (ρ3 : Env) (M3 B3 : List Addr), wLook ((fs.drop (n + 1)).map Prod.snd) E ρ3 ∧ Ext M B (upd H p (.tup (fs.map fun q => .ref q.1))) M3 B3 H' ∧ EnvOk K M0 M3 B3 H' σ' ρ3 ∧ H' p = some (.tup (fs.map fun q => .ref q.1)), fun σ' H' ⟨ρ3, M3, B3, a1, a2, a3, a4⟩ => ⟨3 - (n + 1), by omega, rfl, ρ3, M3, B3, hlt, a1, a2, a3, a4⟩, fun z H3 hy' => ?_⟩
    rw [hK] at hy'
    obtain ⟨rfl, hz⟩ := hy'
    have ez := hz _ hT
    rw [hgo] at ez
    cases ez
    have E3 := E2.forget 2 (some (.ref q.1))
    have n02 : (2 : Nat) ≠ 0 := by decide
    have n12 : (2 : Nat) ≠ 1 := by decide
    have l2 : 2 < σ2.length := by rw [E2.len]; omega
    refine ⟨q.1, q.2, get_set_eq l2, hh, ?_⟩
    refine ⟨vx, by rw [get_set_ne n02]; exact sx, vy, by rw [get_set_ne n12]; exact sy, ?_⟩
    refine ⟨M2, [x, y], _, E2.dom, .cons rx (.cons ry .nil), w2, fun d v H4 pd e4 r4 => ?_⟩
    have E4 := (E3.same e4).set 3 r4
    have l3 : 3 < (σ2.set 2 (some (V.ref q.1))).length := by rw [List.length_set, E2.len]; omega
    have hp4 : H4 p = some (.tup (fs.map fun q => .ref q.1)) := e4 _ _ hp2
    have x4 := x2.trans (Ext.same e4)
    refine ⟨v, get_set_eq l3, rfl, _, rfl, ?_⟩
    rw [rv_isN (.inl r4)]
    refine ite_of (fun e => ?_) (fun e => ?_)
    · refine ⟨v, get_set_eq l3, F1'.rt _ d v M2 B2 _ H4 (pd.1 (by simpa using e)) x4 E4 ?_⟩
      exact Dt.up (rm_sub E4.m0) r4
    · exact ⟨_, M2, B2, pd.2 (by simpa using e), x4, E4, hp4⟩
  · left
    have en : n = 3 := by omega
    subst en
    exact ⟨by rw [hK]; exact ⟨_, hT, Nat.le_refl _⟩, F1'.nx ρ2 M2 B2 σ2 H2 w2 x2 E2⟩
def qLook : List FP → FS
  | [], ρ => some (.nx ρ)
  | F :: Fs, ρ => if 3 < ρ.length then match ρ.at 0, ρ.at 1 with
      | .dat x, .dat y => (F [x, y]).bind fun d => if isN d = true then qLook Fs ((ρ.set 2 .un).set 3 (.dat d)) else some (.rt ((ρ.set 2 .un).set 3 (.dat d)) d)
      | _, _ => none
    else none
inductive fitPs : List SpD → List FP → Prop
  | nil : fitPs [] []
  | cons {S : SpD} {F : FP} {Ss : List SpD} {Fs : List FP} : fitP S F → fitPs Ss Fs → fitPs (S :: Ss) (F :: Fs)
theorem c_look : ∀ {Ss : List SpD} {Fs : List FP}, fitPs Ss Fs → cS none (wLook Ss) (qLook Fs)
  | _, _, .nil => by intro ρ fl h E e; cases h; exact e
  | _, _, .cons (S := S) (F := F) (Ss := Ss) (Fs := Fs) hs r => by
    intro ρ fl h E e
    unfold qLook at h
    split at h
    · rename_i hl
      split at h
      · rename_i x y hx hy
        simp only [Option.bind_eq_some_iff] at h
        obtain ⟨d, h1, h2⟩ := h
        refine ⟨hl, x, y, hx, hy, hs _ _ h1 _ ?_⟩
        split at h2
        · rename_i c; exact ⟨fun z => (by rw [c] at z; cases z), fun _ => c_look r _ _ h2 E e⟩
        · rename_i c; cases h2; exact ⟨fun _ => e, fun z => absurd z c⟩
      · cases h
    · cases h
end Pm
namespace Pm
open PySem PySem.Spec PyProof.Rows L2 TL PySem.Builtin PySem.Builtin.Str
/-! ### x.endswith((y, z, ..)) -/
def endsT (x : Str) (ys : List Str) : Bool := ys.any fun y => Txt.endswith x y
abbrev EndSt := Option PySem.Fin × Unit
theorem endswith_eq (x y : Str) : Txt.endswith x y = (decide (0 + y.length ≤ x.length) && subAt x y (x.length - y.length)) := rfl
theorem ends_loop {x : Str} {bd : Value → EndSt → Sem (ForInStep EndSt)} (hb : ∀ y u acc, bd (.str y u) acc = if (decide (0 + y.length ≤ x.length) && subAt x y (x.length - y.length)) = true then (ret (.bool true) >>= fun r => pure (ForInStep.done (some r, ()))) else pure (ForInStep.yield (none, ()))) :
    ∀ l : List (Str × Tok), (forIn (strValues l) ((none, ()) : EndSt) bd : Sem EndSt) = if endsT x (l.map (·.1)) = true then (ret (.bool true) >>= fun r => pure ((some r, ()) : EndSt)) else pure (none, ())
  | [] => rfl
  | p :: l => by
    show (forIn (Value.str p.1 p.2 :: strValues l) ((none, ()) : EndSt) bd : Sem EndSt) = _
    rw [List.forIn_cons, hb, ← endswith_eq]
    have e : endsT x (List.map (fun x => x.1) (p :: l)) = (Txt.endswith x p.1 || endsT x (l.map (·.1))) := rfl
    rw [e]
    cases h : Txt.endswith x p.1 with
    | true => rfl
    | false => exact ends_loop hb l
theorem meets_ends (x : Str) (t : Tok) (a : Addr) (l : List (Str × Tok)) :
    Meets («str.endswith» ⟨[.str x t, .ref a], []⟩) (fun _ R s => (∃ o n, s.heap.get? a = some o ∧ o.cls = .type "tuple" ∧ o.data = .seq (strValues l).toArray n) ∧ R (.ok (.ret (.bool (endsT x (l.map (·.1)))))) s) := by
  intro prog w A R s ⟨⟨o, n, ho, hc, hdata⟩, hpost⟩
  have ht : s.TypeIs (.ref a) "tuple" := ⟨o, ho, hc⟩
  unfold «str.endswith» affixEntry
  refine wpAny_bind (wpAny_of_eq (show strSomeArgs "endswith" 1 3 ⟨[.str x t, .ref a], []⟩ = pure (.str x t, x, [.ref a]) from rfl) ?_)
  refine wpAny_bind (wpAny_of_eq (searchRange_nil x.length) ?_)
  refine wpAny_bind (PySem.W.KPt.asStr_ref ho hdata ?_)
  refine wpAny_bind (wpAny_isInstance ht (b := true) (by first | rfl | kernel_rfl | (rw [isSubtype_type]; kernel_rfl)) ?_)
  refine wpAny_bind (wpAny_rule ?_)
  unfold seqItems?
  refine wpAny_bind (wpAny_bind (wpAny_load ho ?_))
  rw [hdata]
  refine wpAny_pure ?_
  dsimp only
  rw [← Array.forIn_toList, ends_loop (x := x) (fun y u acc => rfl)]
  cases h : endsT x (l.map (·.1)) with
  | true => rw [h] at hpost; exact wpAny_pure hpost
  | false => rw [h] at hpost; exact wpAny_pure hpost
theorem mt_endsT {X : Cx} : MtR X "str.endswith" (fun x xs H Q => ∃ a p, ∃ ys : List Str, x = .str a ∧ xs = [.ref p] ∧ SqT X.K H p (ys.map V.str) ∧ Q (.bl (endsT a ys)) H) := by
  intro pins s σ H x xs v us Q I rx rs h
  obtain ⟨a, p, ys, rfl, rfl, hp, h⟩ := h
  obtain ⟨t, rfl⟩ := rx
  cases rs with
  | cons r1 rs =>
    cases rs
    cases r1
    obtain ⟨its, r, ht, _⟩ := I.tuple hp
    obtain ⟨l, hv, hy⟩ := strsAre_values (strs_of_vals r)
    subst hv
    subst hy
    obtain ⟨o, ho, hc, n, hd⟩ := ht
    exact call_meets F.slot_str_endswith (typeIs_str _ _ _) F.entry_str_endswith (F.args_str_endswith_2 _ _) (meets_ends a t p l) ⟨⟨o, n, ho, hc, hd⟩, ⟨.bl _, H, I, rfl, h⟩⟩
def fEndsT : FM
  | a, [.tuple ds], P => ∃ ys : List Str, ds = ys.map .str ∧ P (.bool (endsT a ys))
  | _, _, _ => False
section
variable {ι : Type} {X : ι → Cx} {K : Fr} {a e : Expr} {wo : WE} {wa : WA} {apos cpos : Pos}
theorem md_endsT : MtD K (fun x xs H Q => ∃ a p, ∃ ys : List Str, x = .str a ∧ xs = [.ref p] ∧ SqT K H p (ys.map V.str) ∧ Q (.bl (endsT a ys)) H) fEndsT := by
  intro M H x ds vs P Q dom r f k
  match ds, f with
  | [.tuple es], f =>
    obtain ⟨ys, rfl, f⟩ := f
    cases r with
    | cons r1 r =>
      cases r
      obtain ⟨p, us, rfl, h1, h2⟩ := Dt.isTup r1
      exact ⟨x, p, ys, rfl, rfl, by rw [← dt_strs h2]; exact same_t rm_le h1, k _ _ H f (Same.refl _) (.bl _)⟩
theorem de_endsT (h : DE X K a wo) (ha : DA X K [e] wa) (hK : ∀ i, (X i).K = K := by intro i; rfl)
    (hp : ∀ i t u, PE (X i) a t → PA (X i) [e] u → PE (X i) (.Call (.Attribute a "endswith" apos) [e] [] cpos) (tBM (X i).K "str" (fun x xs H Q => ∃ a p, ∃ ys : List Str, x = .str a ∧ xs = [.ref p] ∧ SqT (X i).K H p (ys.map V.str) ∧ Q (.bl (endsT a ys)) H) t u) := by intro i t u h1 h2; exact pe_bm PySem.F.plainAttrs_str PySem.F.slot_str_endswith PySem.F.type_str_endswith mt_endsT h1 h2) :
    DE X K (.Call (.Attribute a "endswith" apos) [e] [] cpos) (wM fEndsT wo wa) :=
  de_m (fun i t u h1 h2 => by rw [← hK i]; exact hp i t u h1 h2) md_endsT h ha
end
def gEndsT : GM
  | x, [.tuple ds] => (gSs ds).map fun ys => .bool (endsT x ys)
  | _, _ => none
theorem k_endst : fitM fEndsT gEndsT := by
  intro x y d h P p
  unfold gEndsT at h
  split at h
  · simp only [Option.map_eq_some_iff] at h
    obtain ⟨ys, h1, rfl⟩ := h
    exact ⟨ys, gSs_some h1, p⟩
  · cases h
end Pm
namespace Pm
open PySem PySem.Spec PyProof.Rows L2 TL
variable {Y : Cx} {K : Fr} {a b c : Expr} {pos : Pos} {o : Option Addr}
/-! ### a, b, c = e1, e2, e3 -/
def wPar3 (i j l : Nat) (wa : WA) : WS := fun E ρ => wa ρ fun ρ1 ds => ∃ x y z, ds = [x, y, z] ∧ E.nx (((ρ1.set i (.dat x)).set j (.dat y)).set l (.dat z))
theorem ds_par3 (i j l : Nat) {x y z : Str} {px py pz pt pt2 : Pos} {kt k2 : Nat} {w : WA} (nd : Y.N.Nodup) (h : DA (one Y) K [a, b, c] w)
    (hp : Y.N.Nodup → ∀ t, PA Y [a, b, c] t → PS Y (.Assign [.Tuple [.Name x px, .Name y py, .Name z pz] kt pt] (.Tuple [a, b, c] k2 pt2) pos) (tPar3 i j l t) := by intro nd t h; exact ps_par3 (by rfl) nd rfl rfl rfl (by decide) (by decide) (by decide) rfl rfl rfl h (by rfl)) :
    DS Y K (.Assign [.Tuple [.Name x px, .Name y py, .Name z pz] kt pt] (.Tuple [a, b, c] k2 pt2) pos) (wPar3 i j l w) := by
  obtain ⟨t, a1, a2⟩ := h
  refine ⟨tPar3 i j l t, hp nd t (a1 ()), fun M0 M B σ H ρ E D Ev h F => ?_⟩
  refine a2 M0 M B σ H ρ _ _ Ev h fun ρ1 ds vs H1 w1 x1 E1 r1 => ?_
  obtain ⟨x, y, z, rfl, w1⟩ := w1
  cases r1 with
  | cons q1 q2 =>
    cases q2 with
    | cons q2 q3 =>
      cases q3 with
      | cons q3 q4 =>
        cases q4
        exact ⟨_, _, _, rfl, F.nx _ M B _ H1 w1 x1 (((E1.set i q1).set j q2).set l q3)⟩
def qPar3 (i j l : Nat) (a : FA) : FS := fun ρ => (a ρ).bind fun r => match r.2 with
  | [x, y, z] => some (.nx (((r.1.set i (.dat x)).set j (.dat y)).set l (.dat z)))
  | _ => none
theorem c_par3 {i j l : Nat} {w : WA} {a : FA} (ha : cA o w a) : cS o (wPar3 i j l w) (qPar3 i j l a) := by
  intro ρ fl h E e
  simp only [qPar3, Option.bind_eq_some_iff] at h
  obtain ⟨r, h1, h2⟩ := h
  refine ha ρ r h1 _ ?_
  split at h2
  · rename_i x y z hx
    cases h2
    refine ⟨x, y, z, hx, ?_⟩
    rw [emb_dset, emb_dset, emb_dset]; exact e
  · cases h2
/-! ### a, b = [], n -/
def wParN (i j : Nat) (d : PyData) : WS := fun E ρ => E.nx ((ρ.set i (.own [])).set j (.dat d))
theorem ds_parN (i j : Nat) {n : Int} {x y : Str} {px py pt pt2 pl pc : Pos} {kt k2 kc : Nat} (nd : Y.N.Nodup)
    (hp : Y.N.Nodup → ∀ t, PA Y [.List [] pl, .Constant (.int n) kc pc] t → PS Y (.Assign [.Tuple [.Name x px, .Name y py] kt pt] (.Tuple [.List [] pl, .Constant (.int n) kc pc] k2 pt2) pos) (tPar i j t) := by intro nd t h; exact ps_par (by rfl) nd rfl rfl (by decide) rfl rfl h (by rfl))
    (he : starEach [.List [] pl, .Constant (.int n) kc pc] Y.env = (false, eval (.List [] pl) Y.env) :: starEach [.Constant (.int n) kc pc] Y.env := by rfl) (he2 : starEach [.Constant (.int n) kc pc] Y.env = (false, eval (.Constant (.int n) kc pc) Y.env) :: starEach [] Y.env := by rfl) :
    DS Y K (.Assign [.Tuple [.Name x px, .Name y py] kt pt] (.Tuple [.List [] pl, .Constant (.int n) kc pc] k2 pt2) pos) (wParN i j (.int n)) := by
  refine ⟨tPar i j (tCons (tLst tNil) (tCons (tC (.int n)) tNil)), hp nd _ (pa_cons (pe_lst pa_nil) (pa_cons pe_int pa_nil he2) he), fun M0 M B σ H ρ E D Ev h F => ?_⟩
  refine ⟨by show 0 ≤ sizeLine; exact Nat.zero_le _, fun p np => ⟨_, _, rfl, ?_⟩⟩
  obtain ⟨E1, x1⟩ := Ev.take i np (same_new np) upd_same (ds := []) .nil
  exact F.nx _ (p :: M) (p :: B) _ _ h x1 (E1.set j (.int n))
def qParN (i j : Nat) (d : PyData) : FS := fun ρ => some (.nx ((ρ.set i (.own [])).set j (.dat d)))
theorem c_parN {i j : Nat} {d : PyData} (hi : o = none ∨ i ≠ 0) : cS o (wParN i j d) (qParN i j d) := by
  intro ρ fl h E e
  cases h
  show E.nx (((emb o ρ).set i (.own [])).set j (.dat d))
  rw [emb_new hi, emb_dset]; exact e
end Pm
/-! Reckoning with the function layer by rewriting: what goes on behind a value is a named function that waits for it. -/
namespace Pm
open PySem PySem.Spec PyProof.Rows L2 TL
section
variable {α β γ : Type}
def bnd (k : α → Option β) (x : Option α) : Option β := x.bind k
theorem bnd_some {k : α → Option β} {x : α} : bnd k (some x) = k x := rfl
theorem bnd_none {k : α → Option β} : bnd k none = none := rfl
theorem bnd_ite {k : α → Option β} {c : Prop} [Decidable c] {x y : Option α} : bnd k (if c then x else y) = if c then bnd k x else bnd k y := by split <;> rfl
theorem bnd_eq {k : α → Option β} {x : Option α} {y : α} (h : x = some y) : bnd k x = k y := by rw [h]; rfl
end
variable {ρ : Env} {d x y : PyData} {i j l n : Nat} {a b c : FE} {f : FA} {t u : FT} {g g' : G2} {g1 : G1} {gm : GM} {F : FP} {W : FW} {N : FN} {p q : FS} {lo hi : FO} {G : FG} {Gs : FGs}
def kPut (ρ : Env) (d : PyData) : Option (Env × PyData) := some (ρ, d)
theorem kput : kPut ρ d = some (ρ, d) := rfl
def kOp2 (g : G2) (x : PyData) (s : Env × PyData) : Option (Env × PyData) := bnd (kPut s.1) (g x s.2)
def kOp1 (g : G2) (b : FE) (r : Env × PyData) : Option (Env × PyData) := bnd (kOp2 g r.2) (b r.1)
theorem e_op : qOp g a b ρ = bnd (kOp1 g b) (a ρ) := rfl
theorem kop1 : kOp1 g b (ρ, x) = bnd (kOp2 g x) (b ρ) := rfl
theorem kop2 : kOp2 g x (ρ, y) = bnd (kPut ρ) (g x y) := rfl
def kVar (ρ : Env) : SV → Option (Env × PyData)
  | .dat d => some (ρ, d)
  | _ => none
theorem e_v : qVar i ρ = kVar ρ (ρ.at i) := rfl
theorem kvar : kVar ρ (.dat d) = some (ρ, d) := rfl
def kOwn (ρ : Env) : Option (List PyData) → Option (Env × PyData)
  | some ds => some (ρ, .list ds)
  | none => none
theorem e_own : qOwn i ρ = kOwn ρ (ρ.at i).items := rfl
theorem kown {ds : List PyData} : kOwn ρ (some ds) = some (ρ, .list ds) := rfl
theorem e_c : qC d ρ = some (ρ, d) := rfl
def kOpO2 (g : G2) (s : Env × PyData) (ds : List PyData) : Option (Env × PyData) := bnd (kPut s.1) (g (.list ds) s.2)
def kOpO1 (g : G2) (j : Nat) (s : Env × PyData) : Option (Env × PyData) := bnd (kOpO2 g s) (s.1.at j).items
def kOpO (g : G2) (b : FE) (j : Nat) (ρ : Env) (_ : List PyData) : Option (Env × PyData) := bnd (kOpO1 g j) (b ρ)
theorem e_opO : qOpO g j b ρ = bnd (kOpO g b j ρ) (ρ.at j).items := rfl
theorem kopO {ds : List PyData} : kOpO g b j ρ ds = bnd (kOpO1 g j) (b ρ) := rfl
theorem kopO1 : kOpO1 g j (ρ, x) = bnd (kOpO2 g (ρ, x)) (ρ.at j).items := rfl
theorem kopO2 {ds : List PyData} : kOpO2 g (ρ, x) ds = bnd (kPut ρ) (g (.list ds) x) := rfl
def kU (g : G1) (r : Env × PyData) : Option (Env × PyData) := bnd (kPut r.1) (g r.2)
theorem e_u : qU g1 a ρ = bnd (kU g1) (a ρ) := rfl
theorem ku : kU g1 (ρ, x) = bnd (kPut ρ) (g1 x) := rfl
theorem e_nil : qNil ρ = some (ρ, []) := rfl
def kCons2 (x : PyData) (s : Env × List PyData) : Option (Env × List PyData) := some (s.1, x :: s.2)
def kCons1 (f : FA) (r : Env × PyData) : Option (Env × List PyData) := bnd (kCons2 r.2) (f r.1)
theorem e_cons : qCons a f ρ = bnd (kCons1 f) (a ρ) := rfl
theorem kcons1 : kCons1 f (ρ, x) = bnd (kCons2 x) (f ρ) := rfl
theorem kcons2 {ds : List PyData} : kCons2 x (ρ, ds) = some (ρ, x :: ds) := rfl
def kTup (r : Env × List PyData) : Option (Env × PyData) := if r.2.length ≤ 16777216 then some (r.1, .tuple r.2) else none
def kLst (r : Env × List PyData) : Option (Env × PyData) := if r.2.length ≤ 16777216 then some (r.1, .list r.2) else none
theorem e_tup : qTup f ρ = bnd kTup (f ρ) := rfl
theorem e_lst : qLst f ρ = bnd kLst (f ρ) := rfl
theorem ktup {ds : List PyData} : kTup (ρ, ds) = if ds.length ≤ 16777216 then some (ρ, .tuple ds) else none := rfl
theorem klst {ds : List PyData} : kLst (ρ, ds) = if ds.length ≤ 16777216 then some (ρ, .list ds) else none := rfl
def kTst (r : Env × PyData) : Option (Env × Bool) := match r.2 with
  | .bool b => some (r.1, b)
  | _ => none
theorem e_tst : qTst a ρ = bnd kTst (a ρ) := by
  unfold qTst bnd kTst
  congr 1
  funext r
  cases r.2 <;> rfl
theorem ktst {z : Bool} : kTst (ρ, .bool z) = some (ρ, z) := rfl
def kAnd (u : FT) (r : Env × Bool) : Option (Env × Bool) := if r.2 = true then u r.1 else some (r.1, false)
def kOr (u : FT) (r : Env × Bool) : Option (Env × Bool) := if r.2 = true then some (r.1, true) else u r.1
def kNot (r : Env × Bool) : Option (Env × Bool) := some (r.1, !r.2)
theorem e_and : qAnd t u ρ = bnd (kAnd u) (t ρ) := rfl
theorem e_or : qOr t u ρ = bnd (kOr u) (t ρ) := rfl
theorem e_not : qNot t ρ = bnd kNot (t ρ) := rfl
theorem kand {z : Bool} : kAnd u (ρ, z) = if z = true then u ρ else some (ρ, false) := rfl
theorem kor {z : Bool} : kOr u (ρ, z) = if z = true then some (ρ, true) else u ρ := rfl
theorem knot {z : Bool} : kNot (ρ, z) = some (ρ, !z) := rfl
theorem e_yes : qYes ρ = some (ρ, true) := rfl
def kIte (a b : FE) (r : Env × Bool) : Option (Env × PyData) := if r.2 = true then a r.1 else b r.1
theorem e_ite : qIte t a b ρ = bnd (kIte a b) (t ρ) := rfl
theorem kite {z : Bool} : kIte a b (ρ, z) = if z = true then a ρ else b ρ := rfl
def kAndV (b : FE) (r : Env × PyData) : Option (Env × PyData) := (gB r.2).bind fun c => if c = true then b r.1 else some (r.1, .bool false)
def kOrV (b : FE) (r : Env × PyData) : Option (Env × PyData) := (gB r.2).bind fun c => if c = true then some (r.1, .bool true) else b r.1
def kNotV (r : Env × PyData) : Option (Env × PyData) := (gB r.2).bind fun c => some (r.1, .bool (!c))
theorem e_andV : qAndV a b ρ = bnd (kAndV b) (a ρ) := rfl
theorem e_orV : qOrV a b ρ = bnd (kOrV b) (a ρ) := rfl
theorem e_notV : qNotV a ρ = bnd kNotV (a ρ) := rfl
theorem kandV {z : Bool} : kAndV b (ρ, .bool z) = if z = true then b ρ else some (ρ, .bool false) := rfl
theorem korV {z : Bool} : kOrV b (ρ, .bool z) = if z = true then some (ρ, .bool true) else b ρ := rfl
theorem knotV {z : Bool} : kNotV (ρ, .bool z) = some (ρ, .bool (!z)) := rfl
def kCh4 (g : G2) (y : PyData) (r : Env × PyData) : Option (Env × PyData) := bnd (kPut r.1) (g y r.2)
def kCh3 (g : G2) (c : FE) (ρ : Env) (y z : PyData) : Option (Env × PyData) := (gB z).bind fun k => if k = true then bnd (kCh4 g y) (c ρ) else some (ρ, .bool false)
def kCh2 (f g : G2) (c : FE) (x : PyData) (s : Env × PyData) : Option (Env × PyData) := bnd (kCh3 g c s.1 s.2) (f x s.2)
def kCh1 (f g : G2) (b c : FE) (r : Env × PyData) : Option (Env × PyData) := bnd (kCh2 f g c r.2) (b r.1)
theorem e_chain : qChain g g' a b c ρ = bnd (kCh1 g g' b c) (a ρ) := rfl
theorem kch1 : kCh1 g g' b c (ρ, x) = bnd (kCh2 g g' c x) (b ρ) := rfl
theorem kch2 : kCh2 g g' c x (ρ, y) = bnd (kCh3 g' c ρ y) (g x y) := rfl
theorem kch3 {z : Bool} : kCh3 g c ρ y (.bool z) = if z = true then bnd (kCh4 g y) (c ρ) else some (ρ, .bool false) := rfl
theorem kch4 : kCh4 g y (ρ, x) = bnd (kPut ρ) (g y x) := rfl
theorem e_no : qNo ρ = some (ρ, none) := rfl
def kSo (r : Env × PyData) : Option (Env × Option Int) := (gI r.2).bind fun i => some (r.1, some i)
theorem e_so : qSo a ρ = bnd kSo (a ρ) := rfl
theorem kso {z : Int} : kSo (ρ, .int z) = some (ρ, some z) := rfl
def kSl3 (x : PyData) (lo : Option Int) (r : Env × Option Int) : Option (Env × PyData) := bnd (kPut r.1) (gSl x lo r.2)
def kSl2 (h : FO) (x : PyData) (r : Env × Option Int) : Option (Env × PyData) := bnd (kSl3 x r.2) (h r.1)
def kSl1 (l h : FO) (r : Env × PyData) : Option (Env × PyData) := bnd (kSl2 h r.2) (l r.1)
theorem e_sl : qSl a lo hi ρ = bnd (kSl1 lo hi) (a ρ) := rfl
theorem ksl1 : kSl1 lo hi (ρ, x) = bnd (kSl2 hi x) (lo ρ) := rfl
theorem ksl2 {z : Option Int} : kSl2 hi x (ρ, z) = bnd (kSl3 x z) (hi ρ) := rfl
theorem ksl3 {z z' : Option Int} : kSl3 x z (ρ, z') = bnd (kPut ρ) (gSl x z z') := rfl
def kSlO3 (ρ : Env) (lo hi : Option Int) (ds : List PyData) : Option (Env × PyData) := some (ρ, .list (cutD ds lo hi))
def kSlO2 (j : Nat) (lo : Option Int) (r : Env × Option Int) : Option (Env × PyData) := bnd (kSlO3 r.1 lo r.2) (r.1.at j).items
def kSlO1 (h : FO) (j : Nat) (r : Env × Option Int) : Option (Env × PyData) := bnd (kSlO2 j r.2) (h r.1)
def kSlO (l h : FO) (j : Nat) (ρ : Env) (_ : List PyData) : Option (Env × PyData) := bnd (kSlO1 h j) (l ρ)
theorem e_slO : qSlO j lo hi ρ = bnd (kSlO lo hi j ρ) (ρ.at j).items := rfl
theorem kslO {ds : List PyData} : kSlO lo hi j ρ ds = bnd (kSlO1 hi j) (lo ρ) := rfl
theorem kslO1 {z : Option Int} : kSlO1 hi j (ρ, z) = bnd (kSlO2 j z) (hi ρ) := rfl
theorem kslO2 {z z' : Option Int} : kSlO2 j z (ρ, z') = bnd (kSlO3 ρ z z') (ρ.at j).items := rfl
theorem kslO3 {z z' : Option Int} {ds : List PyData} : kSlO3 ρ z z' ds = some (ρ, .list (cutD ds z z')) := rfl
def kM3 (g : GM) (s : Str) (r : Env × List PyData) : Option (Env × PyData) := bnd (kPut r.1) (g s r.2)
def kM1 (g : GM) (f : FA) (r : Env × PyData) : Option (Env × PyData) := (gS r.2).bind fun s => bnd (kM3 g s) (f r.1)
theorem e_m : qM gm a f ρ = bnd (kM1 gm f) (a ρ) := rfl
theorem km1 {s : Str} : kM1 gm f (ρ, .str s) = bnd (kM3 gm s) (f ρ) := rfl
theorem km3 {s : Str} {ds : List PyData} : kM3 gm s (ρ, ds) = bnd (kPut ρ) (gm s ds) := rfl
def kJ2 (s : Str) (r : Env × PyData) : Option (Env × PyData) := bnd (kPut r.1) (gJoin s r.2)
def kJ1 (b : FE) (r : Env × PyData) : Option (Env × PyData) := (gS r.2).bind fun s => bnd (kJ2 s) (b r.1)
theorem e_join : qJoin a b ρ = bnd (kJ1 b) (a ρ) := rfl
theorem kj1 {s : Str} : kJ1 b (ρ, .str s) = bnd (kJ2 s) (b ρ) := rfl
theorem kj2 {s : Str} : kJ2 s (ρ, x) = bnd (kPut ρ) (gJoin s x) := rfl
def kCall (F : FP) (r : Env × List PyData) : Option (Env × PyData) := bnd (kPut r.1) (F r.2)
theorem e_call : qCall F f ρ = bnd (kCall F) (f ρ) := rfl
theorem kcall {ds : List PyData} : kCall F (ρ, ds) = bnd (kPut ρ) (F ds) := rfl
def kCW3 (j : Nat) (ρ : Env) (s : List PyData × PyData) : Option (Env × PyData) := some (ρ.set j ((ρ.at j).put s.1), s.2)
def kCW2 (W : FW) (j : Nat) (r : Env × List PyData) (ws : List PyData) : Option (Env × PyData) := bnd (kCW3 j r.1) (W ws r.2)
def kCW1 (W : FW) (j : Nat) (r : Env × List PyData) : Option (Env × PyData) := bnd (kCW2 W j r) (r.1.at j).items
def kCW (W : FW) (j : Nat) (f : FA) (ρ : Env) (_ : List PyData) : Option (Env × PyData) := bnd (kCW1 W j) (f ρ)
theorem e_callW : qCallW W j f ρ = bnd (kCW W j f ρ) (ρ.at j).items := rfl
theorem kcw {ds : List PyData} : kCW W j f ρ ds = bnd (kCW1 W j) (f ρ) := rfl
theorem kcw1 {ds : List PyData} : kCW1 W j (ρ, ds) = bnd (kCW2 W j (ρ, ds)) (ρ.at j).items := rfl
theorem kcw2 {ds ws : List PyData} : kCW2 W j (ρ, ds) ws = bnd (kCW3 j ρ) (W ws ds) := rfl
theorem kcw3 {ws : List PyData} : kCW3 j ρ (ws, x) = some (ρ.set j ((ρ.at j).put ws), x) := rfl
def kIsi (T : Ty) (r : Env × PyData) : Option (Env × PyData) := some (r.1, .bool (isiD T r.2))
theorem e_isi {T : Ty} : qIsi T a ρ = bnd (kIsi T) (a ρ) := rfl
theorem kisi {T : Ty} : kIsi T (ρ, x) = some (ρ, .bool (isiD T x)) := rfl
def kIsi2 (T U : Ty) (r : Env × PyData) : Option (Env × PyData) := some (r.1, .bool (isiD T r.2 || isiD U r.2))
theorem e_isi2 {T U : Ty} : qIsi2 T U a ρ = bnd (kIsi2 T U) (a ρ) := rfl
theorem kisi2 {T U : Ty} : kIsi2 T U (ρ, x) = some (ρ, .bool (isiD T x || isiD U x)) := rfl
def kItm (ρ : Env) (ds : List PyData) : Option (Env × List PyData) := some (ρ, ds)
theorem kitm {ds : List PyData} : kItm ρ ds = some (ρ, ds) := rfl
def kSeqI (r : Env × PyData) : Option (Env × List PyData) := bnd (kItm r.1) (gSeq r.2)
def kEnum (r : Env × PyData) : Option (Env × List PyData) := bnd (kItm r.1) (gEnum r.2)
theorem e_seqI : qSeqI a ρ = bnd kSeqI (a ρ) := rfl
theorem e_enum : qEnum a ρ = bnd kEnum (a ρ) := rfl
theorem kseqI : kSeqI (ρ, x) = bnd (kItm ρ) (gSeq x) := rfl
theorem kenum : kEnum (ρ, x) = bnd (kItm ρ) (gEnum x) := rfl
def kZip2 (x : PyData) (s : Env × PyData) : Option (Env × List PyData) := bnd (kItm s.1) (gZip x s.2)
def kZip1 (b : FE) (r : Env × PyData) : Option (Env × List PyData) := bnd (kZip2 r.2) (b r.1)
theorem e_zip : qZip a b ρ = bnd (kZip1 b) (a ρ) := rfl
theorem kzip1 : kZip1 b (ρ, x) = bnd (kZip2 x) (b ρ) := rfl
theorem kzip2 : kZip2 x (ρ, y) = bnd (kItm ρ) (gZip x y) := rfl
def kR1 (r : Env × List PyData) : Option (Env × List PyData) := bnd (kItm r.1) (gRange1 r.2)
def kR2 (r : Env × List PyData) : Option (Env × List PyData) := bnd (kItm r.1) (gRange2 r.2)
def kDn (r : Env × List PyData) : Option (Env × List PyData) := bnd (kItm r.1) (gDown r.2)
theorem e_range1 : qRange1 f ρ = bnd kR1 (f ρ) := rfl
theorem e_range2 : qRange2 f ρ = bnd kR2 (f ρ) := rfl
theorem e_down : qDown f ρ = bnd kDn (f ρ) := rfl
theorem kr1 {ds : List PyData} : kR1 (ρ, ds) = bnd (kItm ρ) (gRange1 ds) := rfl
theorem kr2 {ds : List PyData} : kR2 (ρ, ds) = bnd (kItm ρ) (gRange2 ds) := rfl
theorem kdn {ds : List PyData} : kDn (ρ, ds) = bnd (kItm ρ) (gDown ds) := rfl
def kLc2 (s : Env × List PyData) : Option (Env × PyData) := some (s.1, .list s.2)
def kLc1 (i : Nat) (t : FT) (e : FE) (r : Env × List PyData) : Option (Env × PyData) := bnd kLc2 (lcQ i t e r.2 (r.1.set i .un) [])
theorem e_lc : qLc i f t a ρ = bnd (kLc1 i t a) (f ρ) := rfl
theorem klc1 {ds : List PyData} : kLc1 i t a (ρ, ds) = bnd kLc2 (lcQ i t a ds (ρ.set i .un) []) := rfl
theorem klc2 {ds : List PyData} : kLc2 (ρ, ds) = some (ρ, .list ds) := rfl
def kLcB (i j : Nat) (e : FE) (r : Env × List PyData) : Option (Env × PyData) := bnd kLc2 (lcQ2 i j e r.2 ((r.1.set i .un).set j .un) [])
theorem e_lc2 : qLc2 i j f a ρ = bnd (kLcB i j a) (f ρ) := rfl
theorem klcB {ds : List PyData} : kLcB i j a (ρ, ds) = bnd kLc2 (lcQ2 i j a ds ((ρ.set i .un).set j .un) []) := rfl
/-! statements -/
def kSeq (q : FS) (fl : Fl) : Option Fl := match fl with
  | .nx ρ1 => q ρ1
  | fl => some fl
theorem e_seq : qSeq p q ρ = bnd (kSeq q) (p ρ) := rfl
theorem kseq : kSeq q (.nx ρ) = q ρ := rfl
theorem kseq_rt : kSeq q (.rt ρ d) = some (.rt ρ d) := rfl
theorem kseq_bk : kSeq q (.bk ρ) = some (.bk ρ) := rfl
theorem kseq_ct : kSeq q (.ct ρ) = some (.ct ρ) := rfl
def kRet (r : Env × PyData) : Option Fl := some (.rt r.1 r.2)
theorem e_ret : qRet a ρ = bnd kRet (a ρ) := rfl
theorem kret : kRet (ρ, x) = some (.rt ρ x) := rfl
def kRetO (ρ : Env) (ds : List PyData) : Option Fl := some (.rt ρ (.list ds))
theorem e_retO : qRetO j ρ = bnd (kRetO ρ) (gOwn (ρ.at j)) := rfl
theorem kretO {ds : List PyData} : kRetO ρ ds = some (.rt ρ (.list ds)) := rfl
def kIf (p q : FS) (r : Env × Bool) : Option Fl := if r.2 = true then p r.1 else q r.1
theorem e_if : qIf t p q ρ = bnd (kIf p q) (t ρ) := rfl
theorem kif {z : Bool} : kIf p q (ρ, z) = if z = true then p ρ else q ρ := rfl
def kSet (i : Nat) (r : Env × PyData) : Option Fl := some (.nx (r.1.set i (.dat r.2)))
theorem e_set : qSet i a ρ = bnd (kSet i) (a ρ) := rfl
theorem kset : kSet i (ρ, x) = some (.nx (ρ.set i (.dat x))) := rfl
def kSetF2 (i : Nat) (ρ : Env) (es : List PyData) : Option Fl := some (.nx (ρ.set i (.own es)))
def kSetF (i : Nat) (N : FN) (r : Env × List PyData) : Option Fl := bnd (kSetF2 i r.1) (N r.2)
theorem e_setF : qSetF i N f ρ = bnd (kSetF i N) (f ρ) := rfl
theorem ksetF {ds : List PyData} : kSetF i N (ρ, ds) = bnd (kSetF2 i ρ) (N ds) := rfl
theorem ksetF2 {ds : List PyData} : kSetF2 i ρ ds = some (.nx (ρ.set i (.own ds))) := rfl
def kApp2 (j : Nat) (r : Env × PyData) (ds : List PyData) : Option Fl := if ds.length < 16777216 then some (.nx (r.1.set j ((r.1.at j).put (ds ++ [r.2])))) else none
def kApp1 (j : Nat) (r : Env × PyData) : Option Fl := bnd (kApp2 j r) (r.1.at j).items
def kApp (j : Nat) (a : FE) (ρ : Env) (_ : List PyData) : Option Fl := bnd (kApp1 j) (a ρ)
theorem e_app : qApp j a ρ = bnd (kApp j a ρ) (ρ.at j).items := rfl
theorem kapp {ds : List PyData} : kApp j a ρ ds = bnd (kApp1 j) (a ρ) := rfl
theorem kapp1 : kApp1 j (ρ, x) = bnd (kApp2 j (ρ, x)) (ρ.at j).items := rfl
theorem kapp2 {ds : List PyData} : kApp2 j (ρ, x) ds = if ds.length < 16777216 then some (.nx (ρ.set j ((ρ.at j).put (ds ++ [x])))) else none := rfl
def kPt4 (j : Nat) (ρ : Env) (x : PyData) (ds : List PyData) (m : Nat) : Option Fl := some (.nx (ρ.set j ((ρ.at j).put (ds.set m x))))
def kPt3 (j : Nat) (x : PyData) (s : Env × PyData) (ds : List PyData) : Option Fl := (gI s.2).bind fun n => bnd (kPt4 j s.1 x ds) (ixN ds.length n)
def kPt2 (j : Nat) (x : PyData) (s : Env × PyData) : Option Fl := bnd (kPt3 j x s) (s.1.at j).items
def kPt1 (j : Nat) (k : FE) (r : Env × PyData) (_ : List PyData) : Option Fl := bnd (kPt2 j r.2) (k r.1)
def kPt (j : Nat) (k : FE) (r : Env × PyData) : Option Fl := bnd (kPt1 j k r) (r.1.at j).items
theorem e_put : qPut j a b ρ = bnd (kPt j b) (a ρ) := rfl
theorem kpt : kPt j b (ρ, x) = bnd (kPt1 j b (ρ, x)) (ρ.at j).items := rfl
theorem kpt1 {ds : List PyData} : kPt1 j b (ρ, x) ds = bnd (kPt2 j x) (b ρ) := rfl
theorem kpt2 : kPt2 j x (ρ, y) = bnd (kPt3 j x (ρ, y)) (ρ.at j).items := rfl
theorem kpt3 {ds : List PyData} {m : Int} : kPt3 j x (ρ, .int m) ds = bnd (kPt4 j ρ x ds) (ixN ds.length m) := rfl
theorem kpt4 {ds : List PyData} {m : Nat} : kPt4 j ρ x ds m = some (.nx (ρ.set j ((ρ.at j).put (ds.set m x)))) := rfl
def kNx (ρ : Env) : Option Fl := some (.nx ρ)
theorem knx : kNx ρ = some (.nx ρ) := rfl
def kAsg (G : FG) (r : Env × PyData) : Option Fl := bnd kNx (G r.2 r.1)
theorem e_asg : qAsg a G ρ = bnd (kAsg G) (a ρ) := rfl
theorem kasg : kAsg G (ρ, x) = bnd kNx (G x ρ) := rfl
theorem e_n : qN i x ρ = some (ρ.set i (.dat x)) := rfl
theorem e_gnil : qGNil [] ρ = some ρ := rfl
theorem e_gcons {ds : List PyData} : qGCons G Gs (x :: ds) ρ = bnd (Gs ds) (G x ρ) := rfl
theorem e_t {ds : List PyData} : qT n Gs (.tuple ds) ρ = if ds.length = n then Gs ds ρ else none := rfl
def kPar (i j : Nat) (r : Env × List PyData) : Option Fl := match r.2 with
  | [x, y] => some (.nx ((r.1.set i (.dat x)).set j (.dat y)))
  | _ => none
theorem e_par : qPar i j f ρ = bnd (kPar i j) (f ρ) := rfl
theorem kpar : kPar i j (ρ, [x, y]) = some (.nx ((ρ.set i (.dat x)).set j (.dat y))) := rfl
def kPar3 (i j l : Nat) (r : Env × List PyData) : Option Fl := match r.2 with
  | [x, y, z] => some (.nx (((r.1.set i (.dat x)).set j (.dat y)).set l (.dat z)))
  | _ => none
theorem e_par3 : qPar3 i j l f ρ = bnd (kPar3 i j l) (f ρ) := rfl
theorem kpar3 {z : PyData} : kPar3 i j l (ρ, [x, y, z]) = some (.nx (((ρ.set i (.dat x)).set j (.dat y)).set l (.dat z))) := rfl
def kAug2 (i : Nat) (ρ : Env) (z : PyData) : Option Fl := some (.nx (ρ.set i (.dat z)))
def kAug1 (i : Nat) (g : G2) (x : PyData) (r : Env × PyData) : Option Fl := bnd (kAug2 i r.1) (g x r.2)
def kAug (i : Nat) (g : G2) (a : FE) (ρ : Env) : SV → Option Fl
  | .dat x => bnd (kAug1 i g x) (a ρ)
  | _ => none
theorem e_aug : qAug i g a ρ = kAug i g a ρ (ρ.at i) := by
  unfold qAug
  cases ρ.at i <;> rfl
theorem kaug : kAug i g a ρ (.dat x) = bnd (kAug1 i g x) (a ρ) := rfl
theorem kaug1 : kAug1 i g x (ρ, y) = bnd (kAug2 i ρ) (g x y) := rfl
theorem kaug2 : kAug2 i ρ x = some (.nx (ρ.set i (.dat x))) := rfl
def kDrop (r : Env × PyData) : Option Fl := some (.nx r.1)
theorem e_drop : qDrop a ρ = bnd kDrop (a ρ) := rfl
theorem kdrop : kDrop (ρ, x) = some (.nx ρ) := rfl
def kFor (G : FG) (p : FS) (r : Env × List PyData) : Option Fl := forQ G p r.2 r.1
theorem e_for : qFor f G p ρ = bnd (kFor G p) (f ρ) := rfl
theorem kfor {ds : List PyData} : kFor G p (ρ, ds) = forQ G p ds ρ := rfl
def kTurn2 (G : FG) (p : FS) (ds : List PyData) (fl : Fl) : Option Fl := match fl with
  | .nx ρ2 => forQ G p ds ρ2
  | .ct ρ2 => forQ G p ds ρ2
  | .bk ρ2 => some (.nx ρ2)
  | .rt ρ2 d => some (.rt ρ2 d)
def kTurn1 (G : FG) (p : FS) (ds : List PyData) (ρ : Env) : Option Fl := bnd (kTurn2 G p ds) (p ρ)
theorem forQ_nil : forQ G p [] ρ = some (.nx ρ) := rfl
theorem forQ_cons {ds : List PyData} : forQ G p (x :: ds) ρ = bnd (kTurn1 G p ds) (G x ρ) := rfl
theorem kturn1 {ds : List PyData} : kTurn1 G p ds ρ = bnd (kTurn2 G p ds) (p ρ) := rfl
theorem kturn2_nx {ds : List PyData} : kTurn2 G p ds (.nx ρ) = forQ G p ds ρ := rfl
theorem kturn2_ct {ds : List PyData} : kTurn2 G p ds (.ct ρ) = forQ G p ds ρ := rfl
theorem kturn2_bk {ds : List PyData} : kTurn2 G p ds (.bk ρ) = some (.nx ρ) := rfl
theorem kturn2_rt {ds : List PyData} : kTurn2 G p ds (.rt ρ d) = some (.rt ρ d) := rfl
def kWh2 (t : FT) (p : FS) (n : Nat) (fl : Fl) : Option Fl := match fl with
  | .nx ρ2 => whileQ t p n ρ2
  | .ct ρ2 => whileQ t p n ρ2
  | .bk ρ2 => some (.nx ρ2)
  | .rt ρ2 d => some (.rt ρ2 d)
def kWh (t : FT) (p : FS) (n : Nat) (r : Env × Bool) : Option Fl := if r.2 = true then bnd (kWh2 t p n) (p r.1) else some (.nx r.1)
theorem whileQ_s : whileQ t p (n + 1) ρ = bnd (kWh t p n) (t ρ) := rfl
theorem kwh {z : Bool} : kWh t p n (ρ, z) = if z = true then bnd (kWh2 t p n) (p ρ) else some (.nx ρ) := rfl
theorem kwh2_nx : kWh2 t p n (.nx ρ) = whileQ t p n ρ := rfl
theorem kwh2_ct : kWh2 t p n (.ct ρ) = whileQ t p n ρ := rfl
theorem kwh2_bk : kWh2 t p n (.bk ρ) = some (.nx ρ) := rfl
theorem kwh2_rt : kWh2 t p n (.rt ρ d) = some (.rt ρ d) := rfl
theorem ret_rt : retOf (some (.rt ρ d)) = some d := rfl
theorem ret_nx : retOf (some (.nx ρ)) = some .none := rfl
theorem ret_none : retOf none = none := rfl
theorem ret_ite {c : Prop} [Decidable c] {x y : Option Fl} : retOf (if c then x else y) = if c then retOf x else retOf y := by split <;> rfl
theorem retw_rt {ws : List PyData} : retW (some (.rt (.own ws :: ρ) d)) = some (ws, d) := rfl
theorem retw_nx {ws : List PyData} : retW (some (.nx (.own ws :: ρ))) = some (ws, .none) := rfl
theorem retw_ite {c : Prop} [Decidable c] {x y : Option Fl} : retW (if c then x else y) = if c then retW x else retW y := by split <;> rfl
theorem at_0 {s : SV} : Env.at (s :: ρ) 0 = s := rfl
theorem at_s {s : SV} : Env.at (s :: ρ) (i + 1) = ρ.at i := rfl
theorem at_1 {s s1 : SV} : Env.at (s :: s1 :: ρ) 1 = s1 := rfl
theorem it_own {ds : List PyData} : (SV.own ds).items = some ds := rfl
theorem put_own {ds es : List PyData} : (SV.own ds).put es = .own es := rfl
theorem if_of {α : Type} {c : Prop} [Decidable c] {x : α} (h : c) : (if c then some x else none) = some x := if_pos h
theorem g_add_i {i j : Int} : gAdd (.int i) (.int j) = some (.int (i + j)) := rfl
theorem g_add_s {x y : Str} : gAdd (.str x) (.str y) = if x.length + y.length ≤ 16777216 then some (.str (x ++ y)) else none := rfl
theorem g_add_l {x y : List PyData} : gAdd (.list x) (.list y) = if x.length + y.length ≤ 16777216 then some (.list (x ++ y)) else none := rfl
theorem g_add_t {x y : List PyData} : gAdd (.tuple x) (.tuple y) = if x.length + y.length ≤ 16777216 then some (.tuple (x ++ y)) else none := rfl
theorem g_I0 {i j : Int} {h : Int → Int → PyData} : gI0 h (.int i) (.int j) = some (h i j) := rfl
theorem g_I2 {C : Int → Int → Prop} [∀ i j, Decidable (C i j)] {i j : Int} {h : Int → Int → PyData} : gI2 C h (.int i) (.int j) = if C i j then some (h i j) else none := rfl
theorem g_eq_i {z : Bool} {i j : Int} : gEq z (.int i) (.int j) = some (.bool (z ^^ decide (i = j))) := rfl
theorem g_eq_s {z : Bool} {i j : Str} : gEq z (.str i) (.str j) = some (.bool (z ^^ decide (i = j))) := rfl
theorem g_eq_b {z : Bool} {i j : Bool} : gEq z (.bool i) (.bool j) = some (.bool (z ^^ decide (i = j))) := rfl
theorem g_is {z : Bool} : gIs z x .none = some (.bool (z ^^ isN x)) := rfl
theorem g_in_s {z : Bool} {s r : Str} : gIn z (.str s) (.str r) = some (.bool (z ^^ inS s r)) := rfl
theorem g_ix_l {xs : List PyData} {i : Int} : gIx (.list xs) (.int i) = atI xs i := rfl
theorem g_ix_t {xs : List PyData} {i : Int} : gIx (.tuple xs) (.int i) = atI xs i := rfl
theorem g_len_s {s : Str} : gLen (.str s) = if s.length ≤ 16777216 then some (.int s.length) else none := rfl
theorem g_len_l {s : List PyData} : gLen (.list s) = some (.int s.length) := rfl
theorem g_len_t {s : List PyData} : gLen (.tuple s) = some (.int s.length) := rfl
theorem g_int_i {i : Int} : gInt (.int i) = some (.int i) := rfl
theorem g_int_b {z : Bool} : gInt (.bool z) = some (.int (if z then 1 else 0)) := rfl
theorem g_tuple_l {s : List PyData} : gTuple (.list s) = some (.tuple s) := rfl
theorem g_tuple_t {s : List PyData} : gTuple (.tuple s) = some (.tuple s) := rfl
theorem g_list_l {s : List PyData} : gList (.list s) = some (.list s) := rfl
theorem g_list_t {s : List PyData} : gList (.tuple s) = some (.list s) := rfl
theorem g_neg {i : Int} : gNeg (.int i) = some (.int (-i)) := rfl
theorem g_seq_l {s : List PyData} : gSeq (.list s) = some s := rfl
theorem g_seq_t {s : List PyData} : gSeq (.tuple s) = some s := rfl
theorem g_seq_s {s : List Nat} : gSeq (.str (tx s)) = some (s.map fun c => .str (tx [c])) := by
  show some (signsD (tx s)) = _
  rw [signs_tx]
theorem g_enum_l {s : List PyData} : gEnum (.list s) = some (enumD s) := rfl
theorem g_enum_s {s : List Nat} : gEnum (.str (tx s)) = some (enumD (s.map fun c => .str (tx [c]))) := by
  show some (enumD (signsD (tx s))) = _
  rw [signs_tx]
theorem g_r1 {i : Int} : gRange1 [.int i] = if -(2 ^ 62) ≤ i ∧ i < 2 ^ 62 then some (rangeD 0 i.toNat) else none := rfl
theorem g_ends {s r : Str} : gEnds s [.str r] = some (.bool (Txt.endswith s r)) := rfl
theorem g_starts {s r : Str} : gStarts s [.str r] = some (.bool (Txt.startswith s r)) := rfl
theorem g_starts3 {s r : Str} {i : Int} : gStarts3 s [.str r, .int i] = some (.bool (Txt.startswith3 s r i)) := rfl
theorem g_find3 {s r : Str} {i : Int} : gFind3 s [.str r, .int i] = some (.int (Txt.find3 s r i)) := rfl
theorem g_find4 {s r : Str} {i j : Int} : gFind4 s [.str r, .int i, .int j] = some (.int (Txt.findIn s r i j)) := rfl
theorem g_count4 {s r : Str} {i j : Int} : gCount4 s [.str r, .int i, .int j] = some (.int (Txt.countIn s r i j)) := rfl
theorem g_sl_s {s : Str} {lo hi : Option Int} : gSl (.str s) lo hi = if s.length ≤ 16777216 then some (.str (cutS s lo hi)) else none := rfl
theorem g_sl_l {s : List PyData} {lo hi : Option Int} : gSl (.list s) lo hi = some (.list (cutD s lo hi)) := rfl
theorem g_sl_t {s : List PyData} {lo hi : Option Int} : gSl (.tuple s) lo hi = some (.tuple (cutD s lo hi)) := rfl
theorem at_txN (t : List Nat) (p : Nat) : atI (tx t).cps.toList (p : Int) = t[p]? := by
  unfold atI ixN
  rw [if_pos (by omega)]
  show (if (p : Int) < (t.length : Nat) then some (p : Int).toNat else none).bind _ = _
  by_cases h : p < t.length
  · rw [if_pos (by omega)]; rfl
  · rw [if_neg (by omega), List.getElem?_eq_none (by omega)]; rfl
theorem g_ix_s {t : List Nat} {p : Nat} : gIx (.str (tx t)) (.int (p : Int)) = if t.length ≤ 16777216 then (t[p]?).map fun c => .str (tx [c]) else none := by
  show (if (tx t).length ≤ 16777216 then (atI (tx t).cps.toList (p : Int)).map _ else none) = _
  rw [tx_len, at_txN]
theorem qSkip_eq : qSkip ρ = some (.nx ρ) := rfl
theorem qBreak_eq : qBreak ρ = some (.bk ρ) := rfl
theorem qCont_eq : qCont ρ = some (.ct ρ) := rfl
theorem qNever_eq : qNever ρ = none := rfl
theorem qRetN_eq : qRetN ρ = some (.rt ρ .none) := rfl
theorem qNew_eq : qNew i ρ = some (.nx (ρ.set i (.own []))) := rfl
theorem qParN_eq : qParN i j d ρ = some (.nx ((ρ.set i (.own [])).set j (.dat d))) := rfl
/-- all of them -/
theorem fxs : type_of% (And.intro @e_op (And.intro @kop1 (And.intro @kop2 (And.intro @kput (And.intro @e_v (And.intro @kvar (And.intro @e_own (And.intro @kown (And.intro @e_c (And.intro @e_opO (And.intro @kopO (And.intro @kopO1 (And.intro @kopO2 (And.intro @e_u (And.intro @ku (And.intro @e_nil (And.intro @e_cons (And.intro @kcons1 (And.intro @kcons2 (And.intro @e_tup (And.intro @e_lst (And.intro @ktup (And.intro @klst (And.intro @e_tst (And.intro @ktst (And.intro @e_and (And.intro @e_or (And.intro @e_not (And.intro @kand (And.intro @kor (And.intro @knot (And.intro @e_yes (And.intro @e_ite (And.intro @kite (And.intro @e_andV (And.intro @e_orV (And.intro @e_notV (And.intro @kandV (And.intro @korV (And.intro @knotV (And.intro @e_chain (And.intro @kch1 (And.intro @kch2 (And.intro @kch3 (And.intro @kch4 (And.intro @e_no (And.intro @e_so (And.intro @kso (And.intro @e_sl (And.intro @ksl1 (And.intro @ksl2 (And.intro @ksl3 (And.intro @e_slO (And.intro @kslO (And.intro @kslO1 (And.intro @kslO2 (And.intro @kslO3 (And.intro @e_m (And.intro @km1 (And.intro @km3 (And.intro @e_join (And.intro @kj1 (And.intro @kj2 (And.intro @e_call (And.intro @kcall (And.intro @e_callW (And.intro @kcw (And.intro @kcw1 (And.intro @kcw2 (And.intro @kcw3 (And.intro @e_isi (And.intro @kisi (And.intro @e_isi2 (And.intro @kisi2 (And.intro @kitm (And.intro @e_seqI (And.intro @e_enum (And.intro @kseqI (And.intro @kenum (And.intro @e_zip (And.intro @kzip1 (And.intro @kzip2 (And.intro @e_range1 (And.intro @e_range2 (And.intro @e_down (And.intro @kr1 (And.intro @kr2 (And.intro @kdn (And.intro @e_lc (And.intro @klc1 (And.intro @klc2 (And.intro @e_lc2 (And.intro @klcB (And.intro @e_seq (And.intro @kseq (And.intro @kseq_rt (And.intro @kseq_bk (And.intro @kseq_ct (And.intro @e_ret (And.intro @kret (And.intro @e_retO (And.intro @kretO (And.intro @e_if (And.intro @kif (And.intro @e_set (And.intro @kset (And.intro @e_setF (And.intro @ksetF (And.intro @ksetF2 (And.intro @e_app (And.intro @kapp (And.intro @kapp1 (And.intro @kapp2 (And.intro @e_put (And.intro @kpt (And.intro @kpt1 (And.intro @kpt2 (And.intro @kpt3 (And.intro @kpt4 (And.intro @knx (And.intro @e_asg (And.intro @kasg (And.intro @e_n (And.intro @e_gnil (And.intro @e_gcons (And.intro @e_t (And.intro @e_par (And.intro @kpar (And.intro @e_par3 (And.intro @kpar3 (And.intro @e_aug (And.intro @kaug (And.intro @kaug1 (And.intro @kaug2 (And.intro @e_drop (And.intro @kdrop (And.intro @e_for (And.intro @kfor (And.intro @kturn1 (And.intro @kturn2_nx (And.intro @kturn2_ct (And.intro @kturn2_bk (And.intro @kturn2_rt (And.intro @kwh (And.intro @kwh2_nx (And.intro @kwh2_ct (And.intro @kwh2_bk (And.intro @kwh2_rt (And.intro @ret_rt (And.intro @ret_nx (And.intro @ret_none (And.intro @ret_ite (And.intro @retw_rt (And.intro @retw_nx (And.intro @retw_ite (And.intro @at_0 (And.intro @at_1 (And.intro @at_s (And.intro @it_own (And.intro @put_own (And.intro @bnd_some (And.intro @bnd_none (And.intro @bnd_ite (And.intro @g_add_i (And.intro @g_add_s (And.intro @g_add_l (And.intro @g_add_t (And.intro @g_I0 (And.intro @g_I2 (And.intro @g_eq_i (And.intro @g_eq_s (And.intro @g_eq_b (And.intro @g_is (And.intro @g_in_s (And.intro @g_ix_l (And.intro @g_ix_t (And.intro @g_ix_s (And.intro @g_len_s (And.intro @g_len_l (And.intro @g_len_t (And.intro @g_int_i (And.intro @g_int_b (And.intro @g_tuple_l (And.intro @g_tuple_t (And.intro @g_list_l (And.intro @g_list_t (And.intro @g_neg (And.intro @g_seq_l (And.intro @g_seq_t (And.intro @g_seq_s (And.intro @g_enum_l (And.intro @g_enum_s (And.intro @g_r1 (And.intro @g_ends (And.intro @g_starts (And.intro @g_starts3 (And.intro @g_find3 (And.intro @g_find4 (And.intro @g_count4 (And.intro @g_sl_s (And.intro @g_sl_l (And.intro @g_sl_t (And.intro @qSkip_eq (And.intro @qBreak_eq (And.intro @qCont_eq (And.intro @qNever_eq (And.intro @qRetN_eq (And.intro @qNew_eq (And.intro @qParN_eq (@tx_len)))))))))))))))))))))))))))))))))))))))))))))))))))))))))))))))))))))))))))))))))))))))))))))))))))))))))))))))))))))))))))))))))))))))))))))))))))))))))))))))))))))))))))))))))))))))))))))))))))))))))))))))))) := And.intro @e_op (And.intro @kop1 (And.intro @kop2 (And.intro @kput (And.intro @e_v (And.intro @kvar (And.intro @e_own (And.intro @kown (And.intro @e_c (And.intro @e_opO (And.intro @kopO (And.intro @kopO1 (And.intro @kopO2 (And.intro @e_u (And.intro @ku (And.intro @e_nil (And.intro @e_cons (And.intro @kcons1 (And.intro @kcons2 (And.intro @e_tup (And.intro @e_lst (And.intro @ktup (And.intro @klst (And.intro @e_tst (And.intro @ktst (And.intro @e_and (And.intro @e_or (And.intro @e_not (And.intro @kand (And.intro @kor (And.intro @knot (And.intro @e_yes (And.intro @e_ite (And.intro @kite (And.intro @e_andV (And.intro @e_orV (And.intro @e_notV (And.intro @kandV (And.intro @korV (And.intro @knotV (And.intro @e_chain (And.intro @kch1 (And.intro @kch2 (And.intro @kch3 (And.intro @kch4 (And.intro @e_no (And.intro @e_so (And.intro @kso (And.intro @e_sl (And.intro @ksl1 (And.intro @ksl2 (And.intro @ksl3 (And.intro @e_slO (And.intro @kslO (And.intro @kslO1 (And.intro @kslO2 (And.intro @kslO3 (And.intro @e_m (And.intro @km1 (And.intro @km3 (And.intro @e_join (And.intro @kj1 (And.intro @kj2 (And.intro @e_call (And.intro @kcall (And.intro @e_callW (And.intro @kcw (And.intro @kcw1 (And.intro @kcw2 (And.intro @kcw3 (And.intro @e_isi (And.intro @kisi (And.intro @e_isi2 (And.intro @kisi2 (And.intro @kitm (And.intro @e_seqI (And.intro @e_enum (And.intro @kseqI (And.intro @kenum (And.intro @e_zip (And.intro @kzip1 (And.intro @kzip2 (And.intro @e_range1 (And.intro @e_range2 (And.intro @e_down (And.intro @kr1 (And.intro @kr2 (And.intro @kdn (And.intro @e_lc (And.intro @klc1 (And.intro @klc2 (And.intro @e_lc2 (And.intro @klcB (And.intro @e_seq (And.intro @kseq (And.intro @kseq_rt (And.intro @kseq_bk (And.intro @kseq_ct (And.intro @e_ret (And.intro @kret (And.intro @e_retO (And.intro @kretO (And.intro @e_if (And.intro @kif (And.intro @e_set (And.intro @kset (And.intro @e_setF (And.intro @ksetF (And.intro @ksetF2 (And.intro @e_app (And.intro @kapp (And.intro @kapp1 (And.intro @kapp2 (And.intro @e_put (And.intro @kpt (And.intro @kpt1 (And.intro @kpt2 (And.intro @kpt3 (And.intro @kpt4 (And.intro @knx (And.intro @e_asg (And.intro @kasg (And.intro @e_n (And.intro @e_gnil (And.intro @e_gcons (And.intro @e_t (And.intro @e_par (And.intro @kpar (And.intro @e_par3 (And.intro @kpar3 (And.intro @e_aug (And.intro @kaug (And.intro @kaug1 (And.intro @kaug2 (And.intro @e_drop (And.intro @kdrop (And.intro @e_for (And.intro @kfor (And.intro @kturn1 (And.intro @kturn2_nx (And.intro @kturn2_ct (And.intro @kturn2_bk (And.intro @kturn2_rt (And.intro @kwh (And.intro @kwh2_nx (And.intro @kwh2_ct (And.intro @kwh2_bk (And.intro @kwh2_rt (And.intro @ret_rt (And.intro @ret_nx (And.intro @ret_none (And.intro @ret_ite (And.intro @retw_rt (And.intro @retw_nx (And.intro @retw_ite (And.intro @at_0 (And.intro @at_1 (And.intro @at_s (And.intro @it_own (And.intro @put_own (And.intro @bnd_some (And.intro @bnd_none (And.intro @bnd_ite (And.intro @g_add_i (And.intro @g_add_s (And.intro @g_add_l (And.intro @g_add_t (And.intro @g_I0 (And.intro @g_I2 (And.intro @g_eq_i (And.intro @g_eq_s (And.intro @g_eq_b (And.intro @g_is (And.intro @g_in_s (And.intro @g_ix_l (And.intro @g_ix_t (And.intro @g_ix_s (And.intro @g_len_s (And.intro @g_len_l (And.intro @g_len_t (And.intro @g_int_i (And.intro @g_int_b (And.intro @g_tuple_l (And.intro @g_tuple_t (And.intro @g_list_l (And.intro @g_list_t (And.intro @g_neg (And.intro @g_seq_l (And.intro @g_seq_t (And.intro @g_seq_s (And.intro @g_enum_l (And.intro @g_enum_s (And.intro @g_r1 (And.intro @g_ends (And.intro @g_starts (And.intro @g_starts3 (And.intro @g_find3 (And.intro @g_find4 (And.intro @g_count4 (And.intro @g_sl_s (And.intro @g_sl_l (And.intro @g_sl_t (And.intro @qSkip_eq (And.intro @qBreak_eq (And.intro @qCont_eq (And.intro @qNever_eq (And.intro @qRetN_eq (And.intro @qNew_eq (And.intro @qParN_eq (@tx_len)))))))))))))))))))))))))))))))))))))))))))))))))))))))))))))))))))))))))))))))))))))))))))))))))))))))))))))))))))))))))))))))))))))))))))))))))))))))))))))))))))))))))))))))))))))))))))))))))))))))))))))))))
end Pm
/-! Where a text stands in another one, over lists of signs. -/
namespace Pm
open PySem PySem.Spec PyProof.Rows L2 TL PySem.Builtin PySem.Builtin.Str PySem.StrLaws
def findL (s : List Nat) : List Nat → Option Nat
  | [] => if s.isPrefixOf [] = true then some 0 else none
  | c :: r => if s.isPrefixOf (c :: r) = true then some 0 else (findL s r).map (· + 1)
theorem take_pre (s l : List Nat) : (l.take s.length == s) = s.isPrefixOf l := by
  induction s generalizing l with
  | nil => simp
  | cons a s ih =>
    cases l with
    | nil => simp
    | cons b l =>
      show ((b :: l.take s.length) == (a :: s)) = (a == b && s.isPrefixOf l)
      rw [← ih l]
      show (b == a && (l.take s.length == s)) = _
      rw [BEq.comm]
theorem sub_tx (t s : List Nat) (i : Nat) : subAt (tx t) (tx s) i = s.isPrefixOf (t.drop i) := by
  rw [subAt_eq]
  show ((t.drop i).take s.length == s) = _
  exact take_pre s _
theorem pre_take {s t : List Nat} {i hi : Nat} (hh : hi ≤ t.length) : (i + s.length ≤ hi ∧ s.isPrefixOf (t.drop i) = true) ↔ (i ≤ hi ∧ s.isPrefixOf ((t.take hi).drop i) = true) := by
  rw [List.isPrefixOf_iff_prefix, List.isPrefixOf_iff_prefix]
  constructor
  · rintro ⟨h1, h2⟩
    refine ⟨by omega, ?_⟩
    rw [List.drop_take]
    rw [List.prefix_take_iff]
    exact ⟨h2, by omega⟩
  · rintro ⟨h0, h⟩
    rw [List.drop_take, List.prefix_take_iff] at h
    exact ⟨by omega, h.1⟩
theorem occ_full (x y : Str) (hi lim : Nat) : ∀ (l : List Nat) (st : Array Nat × Nat), lim ≤ st.fst.size → (forIn l st (occBody x y hi lim)).run = st
  | [], st, h => rfl
  | a :: l, st, h => by
    rw [List.forIn_cons]
    unfold occBody
    rw [if_neg (fun c => by have := c.1.1.1; omega)]
    exact occ_full x y hi lim l st h
theorem occ_first (t s : List Nat) (hi : Nat) (hh : hi ≤ t.length) : ∀ (n a free : Nat), a + n = hi + 1 → free ≤ a → (forIn (List.range' a n) ((#[] : Array Nat), free) (occBody (tx t) (tx s) hi 1)).run.fst.toList = (if a ≤ hi then match findL s ((t.take hi).drop a) with
    | some k => [a + k]
    | none => [] else [])
  | 0, a, free, h, _ => by
    rw [if_neg (by omega)]; rfl
  | n + 1, a, free, h, hf => by
    have ha : a ≤ hi := by omega
    rw [if_pos ha, List.range'_succ, List.forIn_cons]
    have key := pre_take (s := s) (i := a) hh
    by_cases c : s.isPrefixOf ((t.take hi).drop a) = true
    · obtain ⟨k1, k2⟩ := key.mpr ⟨ha, c⟩
      have e : findL s ((t.take hi).drop a) = some 0 := by
        cases hd : (t.take hi).drop a with
        | nil => rw [hd] at c; show (if _ then _ else _) = _; rw [if_pos c]
        | cons q r => rw [hd] at c; show (if _ then _ else _) = _; rw [if_pos c]
      rw [e]
      unfold occBody
      rw [if_pos ⟨⟨⟨by simp, hf⟩, by rw [tx_len]; exact k1⟩, by rw [sub_tx]; exact k2⟩]
      show (forIn (List.range' (a + 1) n) _ (occBody (tx t) (tx s) hi 1)).run.fst.toList = _
      rw [occ_full _ _ _ _ _ _ (by simp)]
      simp
    · have hne : ¬ (a + s.length ≤ hi ∧ s.isPrefixOf (t.drop a) = true) := fun z => c (key.mp z).2
      have st : (occBody (tx t) (tx s) hi 1 a ((#[] : Array Nat), free)) = pure (ForInStep.yield ((#[] : Array Nat), free)) := by
        unfold occBody
        rw [if_neg (fun z => hne ⟨by rw [← tx_len s]; exact z.1.2, by rw [← sub_tx]; exact z.2⟩)]
      rw [st]
      show (forIn (List.range' (a + 1) n) ((#[] : Array Nat), free) (occBody (tx t) (tx s) hi 1)).run.fst.toList = _
      rw [occ_first t s hi hh n (a + 1) free (by omega) (by omega)]
      by_cases hah : a + 1 ≤ hi
      · rw [if_pos hah]
        have hlt : a < (t.take hi).length := by rw [List.length_take]; omega
        have ed : (t.take hi).drop a = (t.take hi)[a] :: (t.take hi).drop (a + 1) := List.drop_eq_getElem_cons hlt
        rw [ed] at c ⊢
        have ef : findL s ((t.take hi)[a] :: (t.take hi).drop (a + 1)) = (findL s ((t.take hi).drop (a + 1))).map (· + 1) := by
          show (if _ then _ else _) = _
          rw [if_neg c]
        rw [ef]
        cases findL s ((t.take hi).drop (a + 1)) with
        | none => rfl
        | some k => simp; omega
      · rw [if_neg hah]
        have ea : a = hi := by omega
        have ed : (t.take hi).drop a = [] := by rw [ea]; exact List.drop_eq_nil_of_le (by rw [List.length_take]; omega)
        rw [ed] at c ⊢
        have ef : findL s [] = none := by show (if _ then _ else _) = _; rw [if_neg c]
        rw [ef]
theorem occ_one (t s : List Nat) (lo hi : Nat) (hh : hi ≤ t.length) (hl : lo ≤ hi) : occurrences (tx t) (tx s) lo hi 1 = match findL s ((t.take hi).drop lo) with
    | some k => [lo + k]
    | none => [] := by
  rw [occ_eq, occ_first t s hi hh (hi + 1 - lo) lo lo (by omega) (Nat.le_refl _), if_pos hl]
theorem occ_beyond (x y : Str) (lo hi lim : Nat) (hl : hi < lo) : occurrences x y lo hi lim = [] := by
  rw [occ_eq, show hi + 1 - lo = 0 by omega]; rfl
theorem findL_nil {s : List Nat} (h : s ≠ []) : findL s [] = none := by
  cases s with
  | nil => exact absurd rfl h
  | cons a s => rfl
theorem from_nat (n p : Nat) : fromIndex n (p : Int) = p := by
  unfold fromIndex
  rw [if_neg (by omega)]
  omega
theorem find3_tx (t s : List Nat) (p : Nat) (hs : s ≠ []) : Txt.find3 (tx t) (tx s) (p : Int) = match findL s (t.drop p) with
    | some k => ((p + k : Nat) : Int)
    | none => -1 := by
  unfold Txt.find3
  rw [from_nat, tx_len]
  by_cases hp : p ≤ t.length
  · rw [occ_one t s p t.length (Nat.le_refl _) hp, List.take_length]
    cases findL s (t.drop p) <;> rfl
  · rw [occ_beyond _ _ _ _ _ (by omega), List.drop_eq_nil_of_le (by omega), findL_nil hs]
theorem to_nat (n j : Nat) : PySem.toIndexW n (j : Int) = min j n := by
  unfold PySem.toIndexW
  rw [if_neg (by omega)]
  omega
theorem findIn_tx (t s : List Nat) (p j : Nat) (hs : s ≠ []) : Txt.findIn (tx t) (tx s) (p : Int) (j : Int) = match findL s ((t.take j).drop p) with
    | some k => ((p + k : Nat) : Int)
    | none => -1 := by
  unfold Txt.findIn
  rw [from_nat, tx_len, to_nat]
  have e : (t.take j).drop p = (t.take (min j t.length)).drop p := by
    by_cases h : j ≤ t.length
    · rw [Nat.min_eq_left h]
    · rw [Nat.min_eq_right (by omega), List.take_of_length_le (by omega), List.take_length]
  rw [e]
  by_cases hp : p ≤ min j t.length
  · rw [occ_one t s p (min j t.length) (by omega) hp]
    cases findL s ((t.take (min j t.length)).drop p) <;> rfl
  · rw [occ_beyond _ _ _ _ _ (by omega), List.drop_eq_nil_of_le (by rw [List.length_take]; omega), findL_nil hs]
theorem starts3_tx (t s : List Nat) (p : Nat) (hs : s ≠ []) : Txt.startswith3 (tx t) (tx s) (p : Int) = s.isPrefixOf (t.drop p) := by
  unfold Txt.startswith3
  rw [from_nat, tx_len, tx_len, sub_tx]
  by_cases h : s.isPrefixOf (t.drop p) = true
  · rw [h, Bool.and_true]
    have := (List.isPrefixOf_iff_prefix.mp h).length_le
    rw [List.length_drop] at this
    have hl : 0 < s.length := List.length_pos_iff.mpr hs
    exact decide_eq_true (by omega)
  · rw [ne_tt h, Bool.and_false]
theorem starts_tx (t s : List Nat) : Txt.startswith (tx t) (tx s) = s.isPrefixOf t := by
  show (decide (0 + (tx s).length ≤ (tx t).length) && subAt (tx t) (tx s) 0) = _
  rw [tx_len, tx_len, sub_tx, List.drop_zero]
  by_cases h : s.isPrefixOf t = true
  · rw [h, Bool.and_true]
    have := (List.isPrefixOf_iff_prefix.mp h).length_le
    exact decide_eq_true (by omega)
  · rw [ne_tt h, Bool.and_false]
theorem ends_tx (t s : List Nat) : Txt.endswith (tx t) (tx s) = decide (s <:+ t) := by
  show (decide (0 + (tx s).length ≤ (tx t).length) && subAt (tx t) (tx s) ((tx t).length - (tx s).length)) = _
  rw [tx_len, tx_len, sub_tx, Bool.eq_iff_iff, Bool.and_eq_true, decide_eq_true_eq, decide_eq_true_eq, List.isPrefixOf_iff_prefix]
  constructor
  · rintro ⟨h1, h2⟩
    have e : s = t.drop (t.length - s.length) := by
      obtain ⟨r, hr⟩ := h2
      have hl := congrArg List.length hr
      rw [List.length_append, List.length_drop] at hl
      have : r = [] := List.length_eq_zero_iff.mp (by omega)
      rw [this, List.append_nil] at hr
      exact hr
    rw [e]
    exact List.drop_suffix _ _
  · intro h
    obtain ⟨r, hr⟩ := h
    subst hr
    rw [List.length_append]
    refine ⟨by omega, ?_⟩
    rw [show r.length + s.length - s.length = r.length by omega, List.drop_append_of_le_length (Nat.le_refl _), List.drop_length, List.nil_append]
    exact List.prefix_refl _
/-- how often a sign stands -/
theorem occ_count (t : List Nat) (c hi lim : Nat) (hh : hi ≤ t.length) : ∀ (n a free : Nat) (arr : Array Nat), a + n = hi + 1 → free ≤ a → arr.size + n ≤ lim → (forIn (List.range' a n) (arr, free) (occBody (tx t) (tx [c]) hi lim)).run.fst.size = arr.size + ((t.take hi).drop a).count c
  | 0, a, free, arr, h, _, _ => by
    rw [List.drop_eq_nil_of_le (by rw [List.length_take]; omega)]; rfl
  | n + 1, a, free, arr, h, hf, hn => by
    rw [List.range'_succ, List.forIn_cons]
    by_cases hlt : a < hi
    · have hl2 : a < (t.take hi).length := by rw [List.length_take]; omega
      have ed : (t.take hi).drop a = t[a] :: (t.take hi).drop (a + 1) := by
        rw [List.drop_eq_getElem_cons hl2, List.getElem_take]
      rw [ed, List.count_cons]
      have hsub : subAt (tx t) (tx [c]) a = (t[a] == c) := by
        rw [sub_tx, List.drop_eq_getElem_cons (by omega)]
        show (c == t[a] && true) = _
        rw [Bool.and_true, BEq.comm]
      by_cases hc : (t[a] == c) = true
      · have st : (occBody (tx t) (tx [c]) hi lim a (arr, free)) = pure (ForInStep.yield (arr.push a, a + (tx [c]).length)) := by
          unfold occBody
          rw [if_pos ⟨⟨⟨show arr.size < lim by omega, hf⟩, show a + 1 ≤ hi by omega⟩, by rw [hsub]; exact hc⟩]
        rw [st]
        show (forIn (List.range' (a + 1) n) (arr.push a, a + 1) (occBody (tx t) (tx [c]) hi lim)).run.fst.size = _
        rw [occ_count t c hi lim hh n (a + 1) (a + 1) (arr.push a) (by omega) (Nat.le_refl _) (by rw [Array.size_push]; omega), Array.size_push, if_pos hc]
        omega
      · have st : (occBody (tx t) (tx [c]) hi lim a (arr, free)) = pure (ForInStep.yield (arr, free)) := by
          unfold occBody
          rw [if_neg (fun z => hc (by rw [← hsub]; exact z.2))]
        rw [st]
        show (forIn (List.range' (a + 1) n) (arr, free) (occBody (tx t) (tx [c]) hi lim)).run.fst.size = _
        rw [occ_count t c hi lim hh n (a + 1) free arr (by omega) (by omega) (by omega), if_neg hc]
        omega
    · have ea : a = hi := by omega
      have en : n = 0 := by omega
      subst en
      rw [List.drop_eq_nil_of_le (by rw [List.length_take]; omega)]
      have st : (occBody (tx t) (tx [c]) hi lim a (arr, free)) = pure (ForInStep.yield (arr, free)) := by
        unfold occBody
        rw [if_neg (fun z => by have := z.1.2; rw [tx_len] at this; simp at this; omega)]
      rw [st]
      rfl
theorem countIn_tx (t : List Nat) (c p j : Nat) : Txt.countIn (tx t) (tx [c]) (p : Int) (j : Int) = (((t.take j).drop p).count c : Nat) := by
  unfold Txt.countIn
  rw [from_nat, tx_len, to_nat]
  have e : (t.take j).drop p = (t.take (min j t.length)).drop p := by
    by_cases h : j ≤ t.length
    · rw [Nat.min_eq_left h]
    · rw [Nat.min_eq_right (by omega), List.take_of_length_le (by omega), List.take_length]
  rw [e]
  by_cases hp : p ≤ min j t.length
  · have z := occ_count t c (min j t.length) (t.length + 1) (by omega) (min j t.length + 1 - p) p p #[] (by omega) (Nat.le_refl _) (by simp; omega)
    rw [occ_eq, Array.length_toList, z]
    simp
  · rw [occ_beyond _ _ _ _ _ (by omega), List.drop_eq_nil_of_le (by rw [List.length_take]; omega)]; rfl
theorem inS_tx (s t : List Nat) (h : s.length ≠ 1) : inS (tx s) (tx t) = (findL s t).isSome := by
  unfold inS
  split
  · rename_i c hc
    have e : s = [c] := by simpa using hc
    rw [e] at h; exact absurd rfl h
  · rw [tx_len, occ_one t s 0 t.length (Nat.le_refl _) (Nat.zero_le _), List.take_length, List.drop_zero]
    cases findL s t <;> rfl
end Pm
/-! tuple(text) -/
namespace Pm
open PySem PySem.Spec PyProof.Rows L2 TL
theorem meets_tuple_new_str (x : Str) (t : Tok) (hn : x.cps.size ≤ sizeLine) :
    Meets (Builtin.«tuple.__new__» ⟨[.type "tuple", .str x t], []⟩)
      (fun A R s => A.handled = none ∧ ∀ (s' : Shared) (acc : Array Value), (∀ b o', s.heap.get? b = some o' → s'.heap.get? b = some o') → s'.gens = s.gens → s'.drawn = s.drawn → s'.os = s.os → ItemsOf (SignAt x) acc x.cps.size → R (.ok (.ret (.ref s'.heap.objs.size))) { s' with heap := s'.heap.push { cls := .type "tuple", data := .seq acc } }) :=
  .of_wp fun prog w A R s h => by
    obtain ⟨hh, h⟩ := h
    have hsub := sub_tuple_self
    have hinit := init_tuple_lookup
    have hmh := madeHere_tuple
    have hT : Shared.TypeIs s (.str x t) "str" := rfl
    have hh1 : A.in1.handled = none := hh
    wp_walk using wpAny_typeOf hT, wpAny_collect_str hh1 x t
    intro s' acc k1 k2 k3 k4 k5
    show wpAny _ _ (Builtin.Tuple.tupleExact acc.toList.toArray >>= fun v => ret v) _ _ _
    unfold Builtin.Tuple.tupleExact
    refine wpAny_bind (wpAny_newObj_type ?_ (by show acc.toList.toArray.size ≤ sizeLine; rw [Array.toArray_toList, k5.1]; exact hn))
    refine wpAny_pure ⟨_, rfl, ?_⟩
    have e : acc.toList.toArray = acc := by simp
    rw [e]
    exact h s' acc k1 k2 k3 k4 k5
theorem vals_signs : ∀ (l : List Nat) (vs : List Value), vs.length = l.length → (∀ (j : Nat) (v : Value), vs[j]? = some v → ∃ c u, l[j]? = some c ∧ v = .str ⟨#[c]⟩ u) → Vals (l.map fun c => V.str ⟨#[c]⟩) vs
  | [], [], _, _ => .nil
  | [], v :: vs, h, _ => by simp at h
  | c :: l, [], h, _ => by simp at h
  | c :: l, v :: vs, h, k => by
    obtain ⟨c', u, h1, h2⟩ := k 0 v rfl
    have e : c = c' := by simpa using h1
    subst e
    exact .cons ⟨u, h2⟩ (vals_signs l vs (by simpa using h) fun j w hj => by simpa using k (j + 1) w (by simpa using hj))
theorem call_tupleS {X : Cx} (hc : X.calm = true) : CallR X (.type "tuple") (fun xs H Q => ∃ x : Str, xs = [.str x] ∧ x.length ≤ sizeLine ∧ ∀ l, H l = none → Q (.ref l) (upd H l (.tup (x.cps.toList.map fun c => V.str ⟨#[c]⟩)))) := by
  intro pins s σ H xs us Q I r h
  obtain ⟨x, rfl, hn, q⟩ := h
  obtain ⟨u, rfl, rx⟩ := vals1 r
  obtain ⟨t, rfl⟩ := rx
  have hA : X.A.handled = none := I.ok.hd hc
  refine callType_new F.called_tuple (by decide) (F.typeCall_tuple_1 _) (F.newCall_tuple_1 _) (fun obj => F.args_object_init_2 obj _) F.entry_tuple_new
    (meets_tuple_new_str x t hn) ⟨hA, fun s' acc k1 k2 k3 k4 k5 => ⟨⟨_, Heap.get?_push_size _ rfl, rfl⟩, ?_⟩⟩
  have es : s' = { s with heap := s'.heap, toks := s'.toks } := by
    obtain ⟨a, b, c, d, e⟩ := s'
    cases k2; cases k3; cases k4
    rfl
  rw [es]
  have I1 : Inv X pins σ H { s with heap := s'.heap, toks := s'.toks } := I.kept (t' := s'.toks) k1
  have rv : Vals (x.cps.toList.map fun c => V.str ⟨#[c]⟩) acc.toList := vals_signs _ _ (by rw [Array.length_toList, k5.1, Array.length_toList]) fun j v hj => by
    obtain ⟨c, u, h1, h2⟩ := k5.2 j v (by simpa using hj)
    exact ⟨c, u, by simpa using h1, h2⟩
  have I2 : Inv X pins σ (upd H s'.heap.objs.size (.tup (x.cps.toList.map fun c => V.str ⟨#[c]⟩))) { s with heap := s'.heap.push { cls := .type "tuple", data := .seq acc }, toks := s'.toks } :=
    I1.laid (t' := s'.toks) (fun b o e => Heap.get?_push_of_some _ e) (Nat.le_refl _) (show ObjOk X.prog X.w _ _ _ (.tup _) from ⟨by rw [List.length_map]; exact hn, acc.toList, rv, by simpa using IsTup.new _ _⟩)
  exact ⟨.ref s'.heap.objs.size, _, I2, rfl, q _ (I1.hok.fresh (Nat.le_refl _))⟩
def fTupleS : F1
  | .str x, P => x.length ≤ sizeLine ∧ P (.tuple (signsD x))
  | _, _ => False
section
variable {ι : Type} {X : ι → Cx} {K : Fr} {e : Expr} {we : WE} {pos : Pos}
theorem dt_signs {H : Hp} : ∀ l : List Nat, DtAll K H (l.map fun c => V.str ⟨#[c]⟩) (l.map fun c => .str ⟨#[c]⟩)
  | [] => .nil
  | c :: l => .cons (.str _) (dt_signs l)
theorem cd_tupleS : CallD K (fun xs H Q => ∃ x : Str, xs = [.str x] ∧ x.length ≤ sizeLine ∧ ∀ l, H l = none → Q (.ref l) (upd H l (.tup (x.cps.toList.map fun c => V.str ⟨#[c]⟩)))) fTupleS := by
  intro M H x v P Q dom r f k
  cases x with
  | str z =>
    rw [RV.isStr r]
    exact ⟨z, rfl, f.1, fun l nl => k _ _ _ f.2 (same_new nl) (.tup (.inl (.inl (rm_of (fun c => dom l c nl) upd_same))) (dt_signs _))⟩
  | _ => exact f.elim
theorem de_tupleS {p : Pos} (hm : ∀ i, (X i).mg "tuple" = none) (h : DE X K e we) (hg : ∀ i, Gl (X i) "tuple" := by intro i; rfl) (hc : ∀ i, (X i).calm = true := by intro i; rfl)
    (he : ∀ i, starEach (e :: []) (X i).env = (false, eval e (X i).env) :: starEach [] (X i).env := by intro i; rfl) : DE X K (.Call (.Name "tuple" p) [e] [] pos) (wU fTupleS we) :=
  de_u (fun i t h => pe_callTy (call_tupleS (hc i)) (hg i) (hm i) (by decide +kernel) (pa_cons h pa_nil (he i)) (by decide) (by decide) (he i) rfl) cd_tupleS h.v
end
def gTupleS : G1
  | .str x => if x.length ≤ 16777216 then some (.tuple (signsD x)) else none
  | _ => none
theorem k_tuples : fit1 fTupleS gTupleS := by
  intro x d h P p
  cases x <;> first | (obtain ⟨c, rfl⟩ := of_if h; exact ⟨by rw [sizeLine_eq]; exact c, p⟩) | cases h
theorem g_tupleS {s : List Nat} : gTupleS (.str (tx s)) = if s.length ≤ 16777216 then some (.tuple (s.map fun c => .str (tx [c]))) else none := by
  show (if (tx s).length ≤ 16777216 then some (PyData.tuple (signsD (tx s))) else none) = _
  rw [tx_len, signs_tx]
end Pm
/-! Dicts of the module: k in D, D[k]. -/
namespace Pm
open PySem PySem.Spec PyProof.Rows L2 TL
/-- entries that hold some pairs -/
inductive DEnt (w : World) : List DictEntry → List (Key × V) → Prop
  | nil : DEnt w [] []
  | cons {e : DictEntry} {es : List DictEntry} {k : Key} {v : V} {kvs : List (Key × V)} : keyIs k e.key = true → e.hash = keyH w k → RelV v e.val → DEnt w es kvs → DEnt w (e :: es) ((k, v) :: kvs)
structure DicK (K : Fr) (w : World) (d : Addr) (kvs : List (Key × V)) : Prop where
  ex : ∃ es n, K.lookup d = some ⟨.type "dict", none, .dict es n, #[]⟩ ∧ DEnt w es.toList kvs
  low : (d == sysModules) = false
theorem DEnt.keys {w : World} : ∀ {es : List DictEntry} {kvs : List (Key × V)}, DEnt w es kvs → ∀ e, e ∈ es → ∃ k, keyIs k e.key = true ∧ e.hash = keyH w k
  | _, _, .nil, e, h => by cases h
  | _, _, .cons h1 h2 _ r, e, h => by
    rcases List.mem_cons.mp h with q | q
    · subst q; exact ⟨_, h1, h2⟩
    · exact DEnt.keys r e q
theorem DEnt.find {P : Program} {w : World} {k : Key} : ∀ {es : List DictEntry} {kvs : List (Key × V)}, DEnt w es kvs → (∀ v, valV kvs k = some v → ∃ u, (es.find? fun e => keyIs k e.key).map (·.val) = some u ∧ RelV v u) ∧ (valV kvs k = none → (es.find? fun e => keyIs k e.key).map (·.val) = none)
  | _, _, .nil => ⟨fun v h => (by cases h), fun _ => rfl⟩
  | _, _, .cons (e := e) (es := es) (k := k') (v := v') (kvs := kvs) h1 h2 h3 r => by
    have ih := DEnt.find (P := P) (k := k) r
    have hd : keyIs k e.key = decide (k = k') := KeyKind.is_eq_decide (knd := mixKind P w) h1 k
    by_cases c : k' = k
    · subst c
      have e1 : keyIs k' e.key = true := h1
      refine ⟨fun v h => ⟨e.val, by rw [List.find?_cons_of_pos (p := fun e : DictEntry => keyIs k' e.key) e1]; rfl, ?_⟩, fun h => ?_⟩
      · have : valV ((k', v') :: kvs) k' = some v' := by unfold valV; rw [List.find?_cons_of_pos (by simp)]; rfl
        rw [this] at h; cases h; exact h3
      · have : valV ((k', v') :: kvs) k' = some v' := by unfold valV; rw [List.find?_cons_of_pos (by simp)]; rfl
        rw [this] at h; cases h
    · have e1 : ¬ keyIs k e.key = true := by rw [hd]; simp; exact fun q => c q.symm
      have e2 : valV ((k', v') :: kvs) k = valV kvs k := by unfold valV; rw [List.find?_cons_of_neg (by simpa using c)]
      rw [e2, List.find?_cons_of_neg (p := fun e : DictEntry => keyIs k e.key) e1]
      exact ih
theorem DicK.map {K : Fr} {P : Program} {w : World} {d : Addr} {kvs : List (Key × V)} {h : Heap} (D : DicK K w d kvs) (X : K.In h) : ∃ f : Key → Option Value, h.MapOf (mixKind P w) d f ∧ ∀ k, (∀ v, valV kvs k = some v → ∃ u, f k = some u ∧ RelV v u) ∧ (valV kvs k = none → f k = none) := by
  obtain ⟨es, n, hl, he⟩ := D.ex
  refine ⟨fun k => findBy keyIs es k, ⟨_, es, n, X _ _ hl, ⟨rfl, rfl, rfl⟩, rfl, fun e hm => ?_, fun _ => rfl⟩, fun k => ?_⟩
  · obtain ⟨k, h1, h2⟩ := he.keys e (Array.mem_toList_iff.mpr hm)
    exact ⟨k, h1, h2⟩
  · have z := DEnt.find (P := P) (k := k) he
    obtain ⟨l⟩ := es
    have ef : findBy keyIs (⟨l⟩ : Array DictEntry) k = (l.find? fun e => keyIs k e.key).map (·.val) := by
      unfold findBy
      rw [List.find?_toArray]
    show (∀ v, valV kvs k = some v → ∃ u, findBy keyIs (⟨l⟩ : Array DictEntry) k = some u ∧ RelV v u) ∧ (valV kvs k = none → findBy keyIs (⟨l⟩ : Array DictEntry) k = none)
    rw [ef]
    exact z
def rDIn (neg : Bool) (d : Addr) (kvs : List (Key × V)) : R2 := fun x y H Q => ∃ k, x = kV k ∧ y = .ref d ∧ Q (.bl (neg ^^ (valV kvs k).isSome)) H
theorem key_of {k : Key} {u : Value} (r : RelV (kV k) u) : keyIs k u = true := by
  cases k with
  | inl i => obtain ⟨t, rfl⟩ := r; exact keyIs_int i t
  | inr x => obtain ⟨t, rfl⟩ := r; exact keyIs_str x t
theorem some_eq {K : Fr} {kvs : List (Key × V)} {k : Key} {f : Key → Option Value} (z : (∀ v, valV kvs k = some v → ∃ u, f k = some u ∧ RelV v u) ∧ (valV kvs k = none → f k = none)) : (f k).isSome = (valV kvs k).isSome := by
  cases h : valV kvs k with
  | none => rw [z.2 h]; rfl
  | some v => obtain ⟨u, e, _⟩ := z.1 v h; rw [e]; rfl
theorem op_din {X : Cx} {d : Addr} {kvs : List (Key × V)} (D : DicK X.K X.w d kvs) : OpR X (compareOp .In) (rDIn false d kvs) := by
  intro pins s σ H x y v u Q I rx ry h
  obtain ⟨k, rfl, rfl, q⟩ := h
  cases ry
  obtain ⟨f, hm, z⟩ := D.map (P := X.prog) I.kIn
  refine wpAny_in_of (key_of rx) D.low hm ?_
  rw [some_eq (K := X.K) (z k)]
  exact ⟨.bl _, H, I.tok _, rfl, by simpa using q⟩
theorem op_dnotin {X : Cx} {d : Addr} {kvs : List (Key × V)} (D : DicK X.K X.w d kvs) : OpR X (compareOp .NotIn) (rDIn true d kvs) := by
  intro pins s σ H x y v u Q I rx ry h
  obtain ⟨k, rfl, rfl, q⟩ := h
  cases ry
  obtain ⟨f, hm, z⟩ := D.map (P := X.prog) I.kIn
  refine wpAny_notIn_of (key_of rx) D.low hm ?_
  rw [some_eq (K := X.K) (z k)]
  exact ⟨.bl _, H, I.tok _, rfl, by simpa using q⟩
def rDIx (d : Addr) (kvs : List (Key × V)) : R2 := fun x y H Q => ∃ k v, x = .ref d ∧ y = kV k ∧ valV kvs k = some v ∧ Q v H
theorem ix_dk {X : Cx} {d : Addr} {kvs : List (Key × V)} (D : DicK X.K X.w d kvs) : IxR X (rDIx d kvs) := by
  intro value slice pins s σ H x y v u Q I rx ry h hs
  obtain ⟨k, r, rfl, rfl, e, q⟩ := h
  obtain rfl : v = Value.ref d := rx
  obtain ⟨f, hm, z⟩ := D.map (P := X.prog) I.kIn
  obtain ⟨u0, e0, ru⟩ := (z k).1 r e
  exact tail_any hm.typeIs slot_dict_getitem.lookup (wpAny_getItem_of (key_of ry) hm e0 ⟨r, H, I.tok _, ru, q⟩) hs
/-! ### over data -/
abbrev KD := List (Key × PyData)
def keyD : PyData → Option Key
  | .int i => some (.inl i)
  | .str x => some (.inr x)
  | _ => none
def lookD (c : KD) (k : Key) : Option PyData := (c.find? fun p => decide (p.1 = k)).map (·.2)
/-- values of the pairs are those data -/
inductive DVals (K : Fr) : List (Key × V) → KD → Prop
  | nil : DVals K [] []
  | cons {k : Key} {v : V} {d : PyData} {kvs : List (Key × V)} {c : KD} : (∀ H, Dt K H v d) → DVals K kvs c → DVals K ((k, v) :: kvs) ((k, d) :: c)
theorem DVals.look {K : Fr} {k : Key} : ∀ {kvs : List (Key × V)} {c : KD}, DVals K kvs c → (∀ d, lookD c k = some d → ∃ v, valV kvs k = some v ∧ ∀ H, Dt K H v d) ∧ (valV kvs k).isSome = (lookD c k).isSome
  | _, _, .nil => ⟨fun d h => (by cases h), rfl⟩
  | _, _, .cons (k := k') (v := v) (d := d') (kvs := kvs) (c := c) h r => by
    have ih := DVals.look (k := k) r
    by_cases e : k' = k
    · have e1 : valV ((k', v) :: kvs) k = some v := by unfold valV; rw [List.find?_cons_of_pos (by simpa using e)]; rfl
      have e2 : lookD ((k', d') :: c) k = some d' := by unfold lookD; rw [List.find?_cons_of_pos (by simpa using e)]; rfl
      rw [e1, e2]
      exact ⟨fun d q => (by cases q; exact ⟨v, rfl, h⟩), rfl⟩
    · have e1 : valV ((k', v) :: kvs) k = valV kvs k := by unfold valV; rw [List.find?_cons_of_neg (by simpa using e)]
      have e2 : lookD ((k', d') :: c) k = lookD c k := by unfold lookD; rw [List.find?_cons_of_neg (by simpa using e)]
      rw [e1, e2]; exact ih
def DicOk (w : World) (K : Fr) (mg : Str → Option Value) (x : Str) (c : KD) : Prop := ∃ a kvs, mg x = some (.ref a) ∧ DicK K w a kvs ∧ DVals K kvs c
def fHasD (neg : Bool) (c : KD) : F1 := fun d P => ∃ k, keyD d = some k ∧ P (.bool (neg ^^ (lookD c k).isSome))
def fGetD (c : KD) : F1 := fun d P => ∃ k z, keyD d = some k ∧ lookD c k = some z ∧ P z
theorem key_v {K : Fr} {M : List Addr} {H : Hp} {v : V} {d : PyData} {k : Key} (r : Dt K (rm M H) v d) (h : keyD d = some k) : v = kV k := by
  cases d with
  | int i => cases h; exact Dt.isInt r
  | str x => cases h; exact Dt.isStr r
  | _ => cases h
section
variable {ι : Type} {X : ι → Cx} {K : Fr} {e : Expr} {we : WE} {pos p : Pos} {x : Str} {c : KD} {w : World} {mg : Str → Option Value}
theorem de_hasD (g : DicOk w K mg x c) (hm : ∀ i, (X i).mg = mg) (hw : ∀ i, (X i).w = w) (h : DE X K e we) (hK : ∀ i, (X i).K = K := by intro i; rfl) (hg : ∀ i, Gl (X i) x := by intro i; rfl) (hd : (x == ("__debug__" : Str)) = false := by decide) (hmk : behindInMarks .In (.Name x p) = false := by rfl) :
    DE X K (.Compare e [.In] [.Name x p] pos) (wU (fHasD false c) we) := by
  obtain ⟨a, kvs, hx, D, V⟩ := g
  obtain ⟨t, a1, a2⟩ := h
  refine ⟨tOp (rDIn false a kvs) t (tC (.ref a)), fun i => pe_cmpR (op_din (by rw [hK i, hw i]; exact D)) (a1 i) (pe_glob (hg i) (by rw [hm i]; exact hx) rfl hd) hmk, fun M0 M B σ H ρ P Q E w k => ?_⟩
  refine a2 M0 M B σ H ρ _ _ E w fun ρ1 d v H1 w1 x1 E1 r1 => ?_
  obtain ⟨k', hk, w1⟩ := w1
  refine ⟨k', key_v r1 hk, rfl, ?_⟩
  rw [(V.look (k := k')).2]
  exact k ρ1 _ _ H1 w1 x1 E1 (.bl _)
theorem de_hasnD (g : DicOk w K mg x c) (hm : ∀ i, (X i).mg = mg) (hw : ∀ i, (X i).w = w) (h : DE X K e we) (hK : ∀ i, (X i).K = K := by intro i; rfl) (hg : ∀ i, Gl (X i) x := by intro i; rfl) (hd : (x == ("__debug__" : Str)) = false := by decide) (hmk : behindInMarks .NotIn (.Name x p) = false := by rfl) :
    DE X K (.Compare e [.NotIn] [.Name x p] pos) (wU (fHasD true c) we) := by
  obtain ⟨a, kvs, hx, D, V⟩ := g
  obtain ⟨t, a1, a2⟩ := h
  refine ⟨tOp (rDIn true a kvs) t (tC (.ref a)), fun i => pe_cmpR (op_dnotin (by rw [hK i, hw i]; exact D)) (a1 i) (pe_glob (hg i) (by rw [hm i]; exact hx) rfl hd) hmk, fun M0 M B σ H ρ P Q E w k => ?_⟩
  refine a2 M0 M B σ H ρ _ _ E w fun ρ1 d v H1 w1 x1 E1 r1 => ?_
  obtain ⟨k', hk, w1⟩ := w1
  refine ⟨k', key_v r1 hk, rfl, ?_⟩
  rw [(V.look (k := k')).2]
  exact k ρ1 _ _ H1 w1 x1 E1 (.bl _)
theorem de_ixd (g : DicOk w K mg x c) (hm : ∀ i, (X i).mg = mg) (hw : ∀ i, (X i).w = w) (h : DE X K e we) (hs : PlainIx e := by exact fun _ _ => rfl) (hK : ∀ i, (X i).K = K := by intro i; rfl) (hg : ∀ i, Gl (X i) x := by intro i; rfl) (hd : (x == ("__debug__" : Str)) = false := by decide) :
    DE X K (.Subscript (.Name x p) e pos) (wU (fGetD c) we) := by
  obtain ⟨a, kvs, hx, D, V⟩ := g
  obtain ⟨t, a1, a2⟩ := h
  refine ⟨tOp (rDIx a kvs) (tC (.ref a)) t, fun i => pe_ix (ix_dk (by rw [hK i, hw i]; exact D)) (pe_glob (hg i) (by rw [hm i]; exact hx) rfl hd) (a1 i) hs, fun M0 M B σ H ρ P Q E w k => ?_⟩
  refine a2 M0 M B σ H ρ _ _ E w fun ρ1 d v H1 w1 x1 E1 r1 => ?_
  obtain ⟨k', z, hk, hz, w1⟩ := w1
  obtain ⟨u, hu, hd'⟩ := (V.look (k := k')).1 z hz
  exact ⟨k', u, rfl, key_v r1 hk, hu, k ρ1 _ _ H1 w1 x1 E1 (hd' _)⟩
end
theorem dt_ktup {K : Fr} {b : Addr} {od : Option Addr} {its : Array Value} {n : Nat} {sl : Array (Option Value)} {xs : List V} {ds : List PyData} (l : K.lookup b = some ⟨.type "tuple", od, .seq its n, sl⟩) (hz : its.size ≤ sizeLine) (hv : Vals xs its.toList) (hd : ∀ H, DtAll K H xs ds) : ∀ H, Dt K H (.ref b) (.tuple ds) :=
  fun H => .tup (.inr ⟨_, its, n, l, rfl, rfl, hz, hv⟩) (hd H)
section
variable {ι : Type} {X : ι → Cx} {K : Fr} {e : Expr} {we : WE} {pos p : Pos} {x : Str} {c : KD} {w : World} {mg : Str → Option Value}
theorem dt_hasD (g : DicOk w K mg x c) (hm : ∀ i, (X i).mg = mg) (hw : ∀ i, (X i).w = w) (h : DE X K e we) (hK : ∀ i, (X i).K = K := by intro i; rfl) (hg : ∀ i, Gl (X i) x := by intro i; rfl) (hd : (x == ("__debug__" : Str)) = false := by decide) (hmk : behindInMarks .In (.Name x p) = false := by rfl) :
    DT X K (.Compare e [.In] [.Name x p] pos) (wTst (wU (fHasD false c) we)) := by
  obtain ⟨a, kvs, hx, D, V⟩ := g
  obtain ⟨t, a1, a2⟩ := h
  refine ⟨tTest (tOp (rDIn false a kvs) t (tC (.ref a))), fun i => pt_cmpR (op_din (by rw [hK i, hw i]; exact D)) (a1 i) (pe_glob (hg i) (by rw [hm i]; exact hx) rfl hd) hmk, fun M0 M B σ H ρ P Q E w k => ?_⟩
  refine a2 M0 M B σ H ρ _ _ E w fun ρ1 d v H1 w1 x1 E1 r1 => ?_
  obtain ⟨k', hk, b, hb, w1⟩ := w1
  refine ⟨k', key_v r1 hk, rfl, b, ?_, k ρ1 b H1 w1 x1 E1⟩
  rw [(V.look (k := k')).2]
  cases hb; rfl
theorem dt_hasnD (g : DicOk w K mg x c) (hm : ∀ i, (X i).mg = mg) (hw : ∀ i, (X i).w = w) (h : DE X K e we) (hK : ∀ i, (X i).K = K := by intro i; rfl) (hg : ∀ i, Gl (X i) x := by intro i; rfl) (hd : (x == ("__debug__" : Str)) = false := by decide) (hmk : behindInMarks .NotIn (.Name x p) = false := by rfl) :
    DT X K (.Compare e [.NotIn] [.Name x p] pos) (wTst (wU (fHasD true c) we)) := by
  obtain ⟨a, kvs, hx, D, V⟩ := g
  obtain ⟨t, a1, a2⟩ := h
  refine ⟨tTest (tOp (rDIn true a kvs) t (tC (.ref a))), fun i => pt_cmpR (op_dnotin (by rw [hK i, hw i]; exact D)) (a1 i) (pe_glob (hg i) (by rw [hm i]; exact hx) rfl hd) hmk, fun M0 M B σ H ρ P Q E w k => ?_⟩
  refine a2 M0 M B σ H ρ _ _ E w fun ρ1 d v H1 w1 x1 E1 r1 => ?_
  obtain ⟨k', hk, b, hb, w1⟩ := w1
  refine ⟨k', key_v r1 hk, rfl, b, ?_, k ρ1 b H1 w1 x1 E1⟩
  rw [(V.look (k := k')).2]
  cases hb; rfl
end
def gHasD (neg : Bool) (c : KD) : G1 := fun d => (keyD d).map fun k => .bool (neg ^^ (lookD c k).isSome)
def gGetD (c : KD) : G1 := fun d => (keyD d).bind fun k => lookD c k
theorem k_hasd {neg : Bool} {c c' : KD} (e : c = c') : fit1 (fHasD neg c) (gHasD neg c') := by
  subst e
  intro x d h P p
  simp only [gHasD, Option.map_eq_some_iff] at h
  obtain ⟨k, h1, rfl⟩ := h
  exact ⟨k, h1, p⟩
theorem k_getd {c c' : KD} (e : c = c') : fit1 (fGetD c) (gGetD c') := by
  subst e
  intro x d h P p
  simp only [gGetD, Option.bind_eq_some_iff] at h
  obtain ⟨k, h1, h2⟩ := h
  exact ⟨k, d, h1, h2, p⟩
end Pm
/-! Dicts as data: displays, d[k], d.get(k, x), in. -/
namespace Pm
open PySem PySem.Spec PyProof.Rows L2 TL
abbrev PD := List (PyData × PyData)
def lookP (ds : PD) (k : Key) : Option PyData := (ds.find? fun p => decide (keyD p.1 = some k)).map (·.2)
theorem keyD_kD (k : Key) : keyD (kD k) = some k := by cases k <;> rfl
theorem DtKv.look {K : Fr} {H : Hp} {k : Key} : ∀ {kvs : List (Key × V)} {ds : PD}, DtKv K H kvs ds → (∀ d, lookP ds k = some d → ∃ v, valV kvs k = some v ∧ Dt K H v d) ∧ (valV kvs k).isSome = (lookP ds k).isSome
  | _, _, .nil => ⟨fun d h => (by cases h), rfl⟩
  | _, _, .cons (k := k') (v := v) (vs := kvs) (d := d') (ds := c) h r => by
    have ih := DtKv.look (k := k) r
    by_cases e : k' = k
    · have e1 : valV ((k', v) :: kvs) k = some v := by unfold valV; rw [List.find?_cons_of_pos (by simpa using e)]; rfl
      have e2 : lookP ((kD k', d') :: c) k = some d' := by unfold lookP; rw [List.find?_cons_of_pos (by simp [keyD_kD, e])]; rfl
      rw [e1, e2]
      exact ⟨fun d q => (by cases q; exact ⟨v, rfl, h⟩), rfl⟩
    · have e1 : valV ((k', v) :: kvs) k = valV kvs k := by unfold valV; rw [List.find?_cons_of_neg (by simpa using e)]
      have e2 : lookP ((kD k', d') :: c) k = lookP c k := by unfold lookP; rw [List.find?_cons_of_neg (by simp [keyD_kD]; exact e)]
      rw [e1, e2]; exact ih
theorem look_none {K : Fr} {H : Hp} {k : Key} {kvs : List (Key × V)} {ds : PD} (r : DtKv K H kvs ds) (h : lookP ds k = none) : valV kvs k = none := by
  have := (DtKv.look (k := k) r).2
  rw [h] at this
  cases e : valV kvs k with
  | none => rfl
  | some v => rw [e] at this; cases this
def fDGet : F2
  | .dict ds, y, P => ∃ k z, keyD y = some k ∧ lookP ds k = some z ∧ P z
  | _, _, _ => False
def fDIn (neg : Bool) : F2
  | y, .dict ds, P => ∃ k, keyD y = some k ∧ P (.bool (neg ^^ (lookP ds k).isSome))
  | _, _, _ => False
section
variable {ι : Type} {X : ι → Cx} {K : Fr} {a b c e : Expr} {wa wb wc : WE} {pos apos cpos : Pos}
theorem RV.isDic {M : List Addr} {H : Hp} {v : V} {ds : PD} (h : RV K M H v (.dict ds)) : ∃ p o kvs, v = .ref p ∧ H p = some (.frz o (.dK kvs)) ∧ DtKv K (rm M H) kvs ds := by
  rcases h with h | ⟨_, _, _, _, q, _⟩
  · obtain ⟨p, o, kvs, h1, h2, h3⟩ := Dt.isDic h
    exact ⟨p, o, kvs, h1, rm_le _ _ h2, h3⟩
  · cases q
theorem de_dget (hu : ∀ i, (X i).A.units + 64 < cLine) (ha : DE X K a wa) (hb : DE X K b wb) (hs : NoSl b := by exact fun _ _ => rfl) : DE X K (.Subscript a b pos) (wOp fDGet wa wb) := by
  obtain ⟨ta, a1, a2⟩ := ha
  obtain ⟨tb, b1, b2⟩ := hb
  refine ⟨tDGet ta tb, fun i => pe_dget (by have := hu i; omega) (a1 i) (b1 i) hs, fun M0 M B σ H ρ P Q E w k => ?_⟩
  refine a2 M0 M B σ H ρ _ _ E w fun ρ1 x v H1 w1 x1 E1 r1 => ?_
  refine b2 M0 M B σ H1 ρ1 _ _ E1 w1 fun ρ2 y u H2 w2 x2 E2 r2 => ?_
  cases x with
  | dict ds =>
    obtain ⟨k', z, hk, hz, w2⟩ := w2
    obtain ⟨p, o, kvs, rfl, h1, h2⟩ := Dt.isDic (E1.up x2 r1)
    obtain ⟨v', hv, hd⟩ := (h2.look (k := k')).1 z hz
    exact ⟨p, v', rfl, .inl ⟨kvs, k', .inr ⟨o, rm_le _ _ h1⟩, key_v r2 hk, hv.symm⟩, k ρ2 z v' H2 w2 (x1.trans x2) E2 hd⟩
  | _ => exact w2.elim
/-- d.get(k, x) -/
def wDGet2 (wa wb wc : WE) : WE := fun ρ P => wa ρ fun ρ1 x => ∃ ds, x = .dict ds ∧ wb ρ1 fun ρ2 y => wc ρ2 fun ρ3 z => ∃ k, keyD y = some k ∧ P ρ3 ((lookP ds k).getD z)
theorem de_dget2 (hu : ∀ i, (X i).A.units + 64 < cLine) (ha : DE X K a wa) (hb : DE X K b wb) (hc : DE X K c wc) (m : ∀ i, M2 (X i) a "get" apos b c cpos := by intro i; exact ⟨rfl, rfl, rfl, rfl⟩) : DE X K (.Call (.Attribute a "get" apos) [b, c] [] cpos) (wDGet2 wa wb wc) := by
  obtain ⟨ta, a1, a2⟩ := ha
  obtain ⟨tb, b1, b2⟩ := hb
  obtain ⟨tc, c1, c2⟩ := hc
  refine ⟨tDGet2 ta tb tc, fun i => pe_dget2 (by have := hu i; omega) (a1 i) (b1 i) (c1 i) (m i), fun M0 M B σ H ρ P Q E w k => ?_⟩
  refine a2 M0 M B σ H ρ _ _ E w fun ρ1 x v H1 w1 x1 E1 r1 => ?_
  obtain ⟨ds, rfl, w1⟩ := w1
  obtain ⟨p, o, kvs, rfl, h1, h2⟩ := Dt.isDic r1
  refine ⟨p, rfl, .inl ⟨kvs, .inr ⟨o, rm_le _ _ h1⟩⟩, ?_⟩
  refine b2 M0 M B σ H1 ρ1 _ _ E1 w1 fun ρ2 y u H2 w2 x2 E2 r2 => ?_
  refine c2 M0 M B σ H2 ρ2 _ _ E2 w2 fun ρ3 z uz H3 w3 x3 E3 r3 => ?_
  obtain ⟨k', hk, w3⟩ := w3
  obtain ⟨p', o', kvs', e, h1', h2'⟩ := Dt.isDic (E1.up (x2.trans x3) r1)
  cases e
  refine ⟨valV kvs' k', .inl ⟨kvs', k', .inr ⟨o', rm_le _ _ h1'⟩, key_v r2 hk, rfl⟩, ?_⟩
  cases hl : lookP ds k' with
  | none =>
    rw [look_none h2' hl]
    rw [hl] at w3
    exact k ρ3 _ _ H3 w3 (x1.trans (x2.trans x3)) E3 r3
  | some d =>
    obtain ⟨v', hv, hd⟩ := (h2'.look (k := k')).1 d hl
    rw [hv]
    rw [hl] at w3
    exact k ρ3 _ _ H3 w3 (x1.trans (x2.trans x3)) E3 hd
end
/-! ### displays -/
abbrev WPs := Env → (Env → PD → Prop) → Prop
def wPNil : WPs := fun ρ P => P ρ []
def wPCons (wk wv : WE) (r : WPs) : WPs := fun ρ P => wk ρ fun ρ1 k => wv ρ1 fun ρ2 v => r ρ2 fun ρ3 ps => P ρ3 ((k, v) :: ps)
abbrev VPs (K : Fr) (H : Hp) : List (V × V) → PD → Prop := Paired fun p q => Dt K H p.1 q.1 ∧ Dt K H p.2 q.2
theorem VPs.up {K : Fr} {H H' : Hp} (e : Same H H') : ∀ {vs : List (V × V)} {ps : PD}, VPs K H vs ps → VPs K H' vs ps
  | _, _, .nil => .nil
  | _, _, .cons h r => .cons ⟨Dt.up e h.1, Dt.up e h.2⟩ (VPs.up e r)
def DPs {ι : Type} (X : ι → Cx) (K : Fr) (pos : Pos) (keys : List (Option Expr)) (values : List Expr) (w : WPs) : Prop := ∃ trs, (∀ i, PPs (X i) pos keys values trs) ∧ ∀ (M0 M B : List Addr) (σ : L2.St) (H : Hp) (ρ : Env) (P : Env → PD → Prop) (Q : List (V × V) → Hp → Prop), EnvOk K M0 M B H σ ρ → w ρ P →
  (∀ ρ' ps vs H', P ρ' ps → Ext M B H M B H' → EnvOk K M0 M B H' σ ρ' → VPs K (rm M H') vs ps → Q vs H') → tPairs trs σ H Q
section
variable {ι : Type} {X : ι → Cx} {K : Fr} {pos : Pos} {k v : Expr} {ks : List (Option Expr)} {vs : List Expr} {wk wv : WE} {r : WPs}
theorem dps_nil : DPs X K pos [] [] wPNil := ⟨[], fun i => pps_nil, fun M0 M B σ H ρ P Q E w c => c ρ [] [] H w (Ext.refl ..) E .nil⟩
theorem dps_cons (hk : DE X K k wk) (hv : DE X K v wv) (hr : DPs X K pos ks vs r) : DPs X K pos (some k :: ks) (v :: vs) (wPCons wk wv r) := by
  obtain ⟨tk, k1, k2⟩ := hk
  obtain ⟨tv, v1, v2⟩ := hv
  obtain ⟨tr, r1, r2⟩ := hr
  refine ⟨(tk, tv) :: tr, fun i => pps_cons (k1 i) (v1 i) (r1 i), fun M0 M B σ H ρ P Q E w c => ?_⟩
  refine k2 M0 M B σ H ρ _ _ E w fun ρ1 d u H1 w1 x1 E1 q1 => ?_
  refine v2 M0 M B σ H1 ρ1 _ _ E1 w1 fun ρ2 d2 u2 H2 w2 x2 E2 q2 => ?_
  refine r2 M0 M B σ H2 ρ2 _ _ E2 w2 fun ρ3 ps us H3 w3 x3 E3 q3 => ?_
  exact c ρ3 _ _ H3 w3 ((x1.trans x2).trans x3) E3 (.cons ⟨E1.up (x2.trans x3) q1, E2.up x3 q2⟩ q3)
end
def keysP : PD → Option (List Key)
  | [] => some []
  | p :: r => (keyD p.1).bind fun k => (keysP r).map (k :: ·)
/-- {k: v, ..}: keys that are not alike -/
def wDict (w : WPs) : WE := fun ρ P => w ρ fun ρ1 ps => ∃ ks, keysP ps = some ks ∧ ks.Nodup ∧ ps.length ≤ 15 ∧ P ρ1 (.dict ps)
theorem putK_new {kvs : List (Key × V)} {k : Key} {v : V} (h : ∀ p, p ∈ kvs → p.1 ≠ k) : putK kvs k v = kvs ++ [(k, v)] := by
  unfold putK
  rw [if_neg]
  intro c
  obtain ⟨p, hp, e⟩ := List.any_eq_true.mp c
  exact h p hp (of_decide_eq_true e)
theorem merge_new : ∀ (more kvs : List (Key × V)), ((kvs ++ more).map (·.1)).Nodup → mergeK kvs more = kvs ++ more
  | [], kvs, _ => by simp [mergeK]
  | p :: more, kvs, h => by
    show mergeK (putK kvs p.1 p.2) more = _
    have hn : ∀ q, q ∈ kvs → q.1 ≠ p.1 := fun q hq e => by
      rw [List.map_append, List.map_cons, List.nodup_append] at h
      exact h.2.2 q.1 (List.mem_map.mpr ⟨q, hq, rfl⟩) p.1 (List.mem_cons_self ..) e
    rw [putK_new hn, merge_new more (kvs ++ [(p.1, p.2)]) (by rw [List.append_assoc]; exact h), List.append_assoc]; rfl
theorem pairs_of {K : Fr} {H : Hp} : ∀ {vs : List (V × V)} {ps : PD} {ks : List Key}, VPs K H vs ps → keysP ps = some ks → ∃ kvs : List (Key × V), vs = kvs.map (fun kv => (kV kv.1, kv.2)) ∧ kvs.map (·.1) = ks ∧ DtKv K H kvs ps
  | _, _, ks, .nil, h => by cases h; exact ⟨[], rfl, rfl, .nil⟩
  | a :: as, b :: bs, ks, .cons h r, e => by
    have e' : (keyD b.1).bind (fun k => (keysP bs).map (k :: ·)) = some ks := e
    simp only [Option.bind_eq_some_iff, Option.map_eq_some_iff] at e'
    obtain ⟨k, hk, ks', hks, rfl⟩ := e'
    obtain ⟨kvs, h1, h2, h3⟩ := pairs_of r hks
    obtain ⟨a1, a2⟩ := a
    obtain ⟨b1, b2⟩ := b
    have hb : b1 = kD k := by
      cases b1 with
      | int i => cases hk; rfl
      | str x => cases hk; rfl
      | _ => cases hk
    have ha : a1 = kV k := by
      cases b1 with
      | int i => cases hk; exact Dt.isInt h.1
      | str x => cases hk; exact Dt.isStr h.1
      | _ => cases hk
    subst ha
    refine ⟨(k, a2) :: kvs, by rw [h1]; rfl, by rw [← h2]; rfl, ?_⟩
    show DtKv K H ((k, a2) :: kvs) ((b1, b2) :: bs)
    rw [hb]
    exact .cons h.2 h3
theorem EnvOk.chg {K : Fr} {M0 M B : List Addr} {H : Hp} {σ : L2.St} {ρ : Env} {p : Addr} {o o' : HO} (E : EnvOk K M0 M B H σ ρ) (hM : p ∈ M) (hB : p ∉ B) : EnvOk K M0 M B (upd H p o) σ ρ where
  len := E.len
  sub := E.sub
  dom := fun a h q => by
    by_cases c : a = p
    · rw [c, upd_same] at q; cases q
    · rw [upd_ne c] at q; exact E.dom a h q
  m0 := E.m0
  slot := fun i s h => by
    have z := E.slot i s h
    have er : rm M (upd H p o) = rm M H := rm_upd hM
    cases s with
    | un => trivial
    | dat d => obtain ⟨v, h1, h2⟩ := z; exact ⟨v, h1, by rw [er]; exact h2⟩
    | scr ns => obtain ⟨v, h1, h2⟩ := z; exact ⟨v, h1, by rw [er]; exact h2⟩
    | own ds => obtain ⟨l, xs, h1, h2, h3, h4, h5⟩ := z; exact ⟨l, xs, h1, h2, h3, by
        have nl : l ≠ p := fun e => hB (by rw [← e]; exact h2)
        rw [upd_ne nl]; exact h4, by rw [er]; exact h5⟩
    | bor l ds => obtain ⟨xs, h1, h2, h3, h4, h5⟩ := z; exact ⟨xs, h1, h2, h3, by
        have nl : l ≠ p := fun e => hB (by rw [← e]; exact h2)
        rw [upd_ne nl]; exact h4, by rw [er]; exact h5⟩
  sep := E.sep
theorem de_dict {ι : Type} {X : ι → Cx} {K : Fr} {pos : Pos} {keys : List (Option Expr)} {values : List Expr} {w : WPs} (h : DPs X K pos keys values w) (hall : keys.all (·.isSome) = true := by rfl) (hl : keys.length = values.length := by rfl) (h0 : keys ≠ [] := by simp) (h15 : keys.length ≤ 15 := by decide) :
    DE X K (.Dict keys values pos) (wDict w) := by
  obtain ⟨trs, a1, a2⟩ := h
  refine ⟨tFrz (tDisp trs), fun i => pe_frz (pe_disp (a1 i) hall hl h0 h15), fun M0 M B σ H ρ P Q E w k p np => ?_⟩
  have hpM : p ∉ M := E.fresh np
  have hpB : p ∉ B := fun c => hpM (E.sub p c)
  have E1 : EnvOk K M0 (p :: M) B (upd H p (.dK [])) σ ρ := E.more np upd_same fun a u n e => by rw [upd_ne n]; exact e
  refine a2 M0 (p :: M) B σ _ ρ _ _ E1 w fun ρ1 ps vs H2 w1 x1 E2 r1 => ?_
  obtain ⟨ks, hk, nd, hz, w1⟩ := w1
  obtain ⟨kvs, rfl, rfl, r2⟩ := pairs_of r1 hk
  have hp2 : H2 p = some (.dK []) := x1.keep p _ hpB upd_same
  have hlen : kvs.length ≤ 15 := by
    have : (kvs.map fun kv => (kV kv.1, kv.2)).length = ps.length := Paired.length r1
    rw [List.length_map] at this
    omega
  refine ⟨hp2, kvs, rfl, hlen, ?_⟩
  rw [merge_new kvs [] (by simpa using nd), List.nil_append]
  refine ⟨p, kvs, rfl, upd_same, fun ob => ?_⟩
  rw [upd_upd]
  have E3 : EnvOk K M0 (p :: M) B (upd H2 p (.frz ob (.dK kvs))) σ ρ1 := E2.chg (o' := .dK []) (List.mem_cons_self ..) hpB
  have E4 : EnvOk K M0 M B (upd H2 p (.frz ob (.dK kvs))) σ ρ1 := E3.less (fun a h => E.m0 a h) (fun a h => E.sub a h)
  refine k ρ1 _ _ _ w1 ⟨fun _ h => h, fun _ h => .inl h, fun _ h => h, fun _ h => .inl h, fun a o hb e => ?_, fun a e => ?_⟩ E4 ?_
  · have n : a ≠ p := fun q => by rw [q, np] at e; cases e
    rw [upd_ne n]
    exact x1.keep a o hb (by rw [upd_ne n]; exact e)
  · by_cases c : a = p
    · rw [c]; exact np
    · rw [upd_ne c] at e
      have := x1.live a e
      rw [upd_ne c] at this
      exact this
  · refine .dic (rm_of hpM upd_same) (DtKv.up (fun a o e => ?_) r2)
    obtain ⟨z1, z2⟩ := rm_to e
    have n : a ≠ p := fun q => z1 (by rw [q]; exact List.mem_cons_self ..)
    exact rm_of (fun c => z1 (List.mem_cons_of_mem _ c)) (by rw [upd_ne n]; exact z2)
/-! ### functions -/
def gDGet : G2
  | .dict ds, y => (keyD y).bind fun k => lookP ds k
  | _, _ => none
theorem k_dget : fit2 fDGet gDGet := by
  intro x y d h P p
  cases x with
  | dict ds =>
    have h' : (keyD y).bind (fun k => lookP ds k) = some d := h
    simp only [Option.bind_eq_some_iff] at h'
    obtain ⟨k, h1, h2⟩ := h'
    exact ⟨k, d, h1, h2, p⟩
  | _ => cases h
variable {o : Option Addr}
abbrev FPs := Env → Option (Env × PD)
def cP (o : Option Addr) (w : WPs) (f : FPs) : Prop := ∀ ρ r, f ρ = some r → ∀ P : Env → PD → Prop, P (emb o r.1) r.2 → w (emb o ρ) P
def qPNil : FPs := fun ρ => some (ρ, [])
def qPCons (a b : FE) (c : FPs) : FPs := fun ρ => (a ρ).bind fun r => (b r.1).bind fun s => (c s.1).bind fun t => some (t.1, (r.2, s.2) :: t.2)
theorem c_pnil : cP o wPNil qPNil := by intro ρ r h P p; cases h; exact p
theorem c_pcons {wk wv : WE} {r : WPs} {a b : FE} {c : FPs} (ha : cE o wk a) (hb : cE o wv b) (hc : cP o r c) : cP o (wPCons wk wv r) (qPCons a b c) := by
  intro ρ r h P p
  simp only [qPCons, Option.bind_eq_some_iff] at h
  obtain ⟨r1, h1, r2, h2, r3, h3, h4⟩ := h
  cases h4
  exact ha _ _ h1 _ (hb _ _ h2 _ (hc _ _ h3 _ p))
def gDict (ps : PD) : Option PyData := (keysP ps).bind fun ks => if ks.Nodup ∧ ps.length ≤ 15 then some (.dict ps) else none
def qDict (c : FPs) : FE := fun ρ => (c ρ).bind fun r => (gDict r.2).bind fun d => some (r.1, d)
theorem c_dict {w : WPs} {c : FPs} (hc : cP o w c) : cE o (wDict w) (qDict c) := by
  intro ρ r h P p
  simp only [qDict, Option.bind_eq_some_iff] at h
  obtain ⟨r1, h1, d, h2, h3⟩ := h
  cases h3
  refine hc _ _ h1 _ ?_
  simp only [gDict, Option.bind_eq_some_iff] at h2
  obtain ⟨ks, h4, h5⟩ := h2
  obtain ⟨⟨h6, h7⟩, rfl⟩ := of_if h5
  exact ⟨ks, h4, h6, h7, p⟩
def qDGet2 (a b c : FE) : FE := fun ρ => (a ρ).bind fun r => match r.2 with
  | .dict ds => (b r.1).bind fun s => (c s.1).bind fun t => (keyD s.2).bind fun k => some (t.1, (lookP ds k).getD t.2)
  | _ => none
theorem c_dGet2 {wa wb wc : WE} {a b c : FE} (ha : cE o wa a) (hb : cE o wb b) (hc : cE o wc c) : cE o (wDGet2 wa wb wc) (qDGet2 a b c) := by
  intro ρ r h P p
  simp only [qDGet2, Option.bind_eq_some_iff] at h
  obtain ⟨r1, h1, h2⟩ := h
  refine ha _ _ h1 _ ?_
  split at h2
  · rename_i ds hd
    simp only [Option.bind_eq_some_iff] at h2
    obtain ⟨r2, h3, r3, h4, k, h5, h6⟩ := h2
    cases h6
    exact ⟨ds, hd, hb _ _ h3 _ (hc _ _ h4 _ ⟨k, h5, p⟩)⟩
  · cases h2
end Pm
namespace Pm
open PySem PySem.Spec PyProof.Rows L2 TL
variable {ρ : Env} {x y : PyData} {a b c : FE} {f : FPs}
theorem e_pnil : qPNil ρ = some (ρ, []) := rfl
def kPC3 (x y : PyData) (t : Env × PD) : Option (Env × PD) := some (t.1, (x, y) :: t.2)
def kPC2 (f : FPs) (x : PyData) (s : Env × PyData) : Option (Env × PD) := bnd (kPC3 x s.2) (f s.1)
def kPC1 (b : FE) (f : FPs) (r : Env × PyData) : Option (Env × PD) := bnd (kPC2 f r.2) (b r.1)
theorem e_pcons : qPCons a b f ρ = bnd (kPC1 b f) (a ρ) := rfl
theorem kpc1 : kPC1 b f (ρ, x) = bnd (kPC2 f x) (b ρ) := rfl
theorem kpc2 : kPC2 f x (ρ, y) = bnd (kPC3 x y) (f ρ) := rfl
theorem kpc3 {ps : PD} : kPC3 x y (ρ, ps) = some (ρ, (x, y) :: ps) := rfl
def kDct (r : Env × PD) : Option (Env × PyData) := bnd (kPut r.1) (gDict r.2)
theorem e_dict : qDict f ρ = bnd kDct (f ρ) := rfl
theorem kdct {ps : PD} : kDct (ρ, ps) = bnd (kPut ρ) (gDict ps) := rfl
theorem g_dget {ds : PD} : gDGet (.dict ds) y = (keyD y).bind fun k => lookP ds k := rfl
theorem key_i {i : Int} : keyD (.int i) = some (.inl i) := rfl
theorem key_s {s : Str} : keyD (.str s) = some (.inr s) := rfl
def kG3 (ds : PD) (y : PyData) (t : Env × PyData) : Option (Env × PyData) := (keyD y).bind fun k => some (t.1, (lookP ds k).getD t.2)
def kG2 (c : FE) (ds : PD) (s : Env × PyData) : Option (Env × PyData) := bnd (kG3 ds s.2) (c s.1)
def kG1 (b c : FE) (r : Env × PyData) : Option (Env × PyData) := match r.2 with
  | .dict ds => bnd (kG2 c ds) (b r.1)
  | _ => none
theorem e_dget2 : qDGet2 a b c ρ = bnd (kG1 b c) (a ρ) := by
  unfold qDGet2 bnd kG1
  congr 1
theorem kg1 {ds : PD} : kG1 b c (ρ, .dict ds) = bnd (kG2 c ds) (b ρ) := rfl
theorem kg2 {ds : PD} : kG2 c ds (ρ, y) = bnd (kG3 ds y) (c ρ) := rfl
theorem kg3_s {ds : PD} {s : Str} : kG3 ds (.str s) (ρ, x) = some (ρ, (lookP ds (.inr s)).getD x) := rfl
theorem kg3_i {ds : PD} {s : Int} : kG3 ds (.int s) (ρ, x) = some (ρ, (lookP ds (.inl s)).getD x) := rfl
theorem g_hasD_i {z : Bool} {d : KD} {i : Int} : gHasD z d (.int i) = some (.bool (z ^^ (lookD d (.inl i)).isSome)) := rfl
theorem g_hasD_s {z : Bool} {d : KD} {i : Str} : gHasD z d (.str i) = some (.bool (z ^^ (lookD d (.inr i)).isSome)) := rfl
theorem g_getD_i {d : KD} {i : Int} : gGetD d (.int i) = lookD d (.inl i) := rfl
theorem g_getD_s {d : KD} {i : Str} : gGetD d (.str i) = lookD d (.inr i) := rfl
theorem g_any_l {ds : List PyData} : gAny (.list ds) = (gBs ds).map fun bs => .bool (bs.any id) := rfl
theorem g_all_l {ds : List PyData} : gAll (.list ds) = (gBs ds).map fun bs => .bool (bs.all id) := rfl
theorem g_lower {s : Str} : gLower (.str s) = if s.length ≤ 5592405 then some (.str (Txt.lower s)) else none := rfl
theorem g_upper {s : Str} : gUpper (.str s) = if s.length ≤ 5592405 then some (.str (Txt.upper s)) else none := rfl
theorem g_strip {s r : Str} : gStrip s [.str r] = if s.length ≤ 16777216 then some (.str (Txt.stripChars s r)) else none := rfl
theorem g_split {s r : Str} : gSplit s [.str r] = if (r.length == 0) = false ∧ s.length + 2 ≤ 16777216 then some (.list ((Txt.split s r).map .str)) else none := rfl
theorem g_split0 {s : Str} : gSplit0 (.str s) = if s.length + 2 ≤ 16777216 then some (.list ((Txt.words s).map .str)) else none := rfl
theorem fxs2 : type_of% (And.intro @e_pnil (And.intro @e_pcons (And.intro @kpc1 (And.intro @kpc2 (And.intro @kpc3 (And.intro @e_dict (And.intro @kdct (And.intro @g_dget (And.intro @key_i (And.intro @key_s (And.intro @e_dget2 (And.intro @kg1 (And.intro @kg2 (And.intro @kg3_s (And.intro @kg3_i (And.intro @g_hasD_i (And.intro @g_hasD_s (And.intro @g_getD_i (And.intro @g_getD_s (And.intro @g_any_l (And.intro @g_all_l (And.intro @g_lower (And.intro @g_upper @g_strip))))))))))))))))))))))) := And.intro @e_pnil (And.intro @e_pcons (And.intro @kpc1 (And.intro @kpc2 (And.intro @kpc3 (And.intro @e_dict (And.intro @kdct (And.intro @g_dget (And.intro @key_i (And.intro @key_s (And.intro @e_dget2 (And.intro @kg1 (And.intro @kg2 (And.intro @kg3_s (And.intro @kg3_i (And.intro @g_hasD_i (And.intro @g_hasD_s (And.intro @g_getD_i (And.intro @g_getD_s (And.intro @g_any_l (And.intro @g_all_l (And.intro @g_lower (And.intro @g_upper @g_strip))))))))))))))))))))))
end Pm
namespace Pm
open PySem PySem.Spec PyProof.Rows L2
section
variable {ι : Type} {X : ι → Cx} {K : Fr} {a b c e tg : Expr} {wa wb wc wo we : WE} {wA : WA} {pos apos cpos : Pos}
/-! ### text.index(sign) -/
def fSIndex : FM
  | a, [.str b], P => ∃ i rest, Builtin.Str.occurrences a b 0 a.length 1 = i :: rest ∧ P (.int ((i : Nat) : Int))
  | _, _, _ => False
theorem md_sindex : MtD K (fun x xs H Q => ∃ a b i rest, x = .str a ∧ xs = [.str b] ∧ Builtin.Str.occurrences a b 0 a.length 1 = i :: rest ∧ Q (.int (i : Nat)) H) fSIndex := by
  intro M H x ds vs P Q dom r f k
  match ds, f with
  | [.str b], f =>
    cases r with
    | cons r1 r =>
      cases r
      rw [Dt.isStr r1]
      obtain ⟨i, rest, h, f⟩ := f
      exact ⟨x, b, i, rest, rfl, rfl, h, k _ _ H f (Same.refl _) (.int _)⟩
theorem de_sindex (h : DE X K a wo) (ha : DA X K [e] wA) (hK : ∀ i, (X i).K = K := by intro i; rfl)
    (hp : ∀ i t u, PE (X i) a t → PA (X i) [e] u → PE (X i) (.Call (.Attribute a "index" apos) [e] [] cpos) (tBM (X i).K "str" (fun x xs H Q => ∃ a b i rest, x = .str a ∧ xs = [.str b] ∧ Builtin.Str.occurrences a b 0 a.length 1 = i :: rest ∧ Q (.int (i : Nat)) H) t u) := by intro i t u h1 h2; exact pe_bm PySem.F.plainAttrs_str PySem.F.slot_str_index PySem.F.type_str_index mt_sindex h1 h2) :
    DE X K (.Call (.Attribute a "index" apos) [e] [] cpos) (wM fSIndex wo wA) :=
  de_m (fun i t u h1 h2 => by rw [← hK i]; exact hp i t u h1 h2) md_sindex h ha
def gSIndex : GM
  | a, [.str b] => match Builtin.Str.occurrences a b 0 a.length 1 with
    | i :: _ => some (.int ((i : Nat) : Int))
    | [] => none
  | _, _ => none
theorem k_sindex : fitM fSIndex gSIndex := by
  intro x ds d h P p
  match ds, h with
  | [.str b], h =>
    cases e : Builtin.Str.occurrences x b 0 x.length 1 with
    | nil => simp only [gSIndex, e] at h; cases h
    | cons i rest =>
      simp only [gSIndex, e] at h
      cases h
      exact ⟨i, rest, e, p⟩
theorem g_sindex {t s : List Nat} : gSIndex (tx t) [.str (tx s)] = (findL s t).map fun i => .int ((i : Nat) : Int) := by
  show (match Builtin.Str.occurrences (tx t) (tx s) 0 (tx t).length 1 with | i :: _ => some (PyData.int ((i : Nat) : Int)) | [] => none) = _
  rw [tx_len, occ_one t s 0 t.length (Nat.le_refl _) (Nat.zero_le _), List.take_length, List.drop_zero]
  cases findL s t with
  | none => rfl
  | some k => simp
/-! ### str(number) -/
def fStr : F1
  | .int i, P => i.natAbs.log2 < 1920 ∧ P (.str (toString i))
  | _, _ => False
theorem cd_toStr : CallD K (fun xs H Q => ∃ i, xs = [.int i] ∧ i.natAbs.log2 < 1920 ∧ Q (.str (toString i)) H) fStr := by
  intro M H x v P Q dom r f k
  cases x with
  | int i => rw [RV.isInt r]; exact ⟨i, rfl, f.1, k _ _ H f.2 (Same.refl _) (.str _)⟩
  | _ => exact f.elim
theorem de_toStr {p : Pos} (hm : ∀ i, (X i).mg "str" = none) (h : DE X K e we) (hg : ∀ i, Gl (X i) "str" := by intro i; rfl)
    (he : ∀ i, starEach (e :: []) (X i).env = (false, eval e (X i).env) :: starEach [] (X i).env := by intro i; rfl) : DE X K (.Call (.Name "str" p) [e] [] pos) (wU fStr we) :=
  de_u (fun i t h => pe_callTy call_str_int (hg i) (hm i) (by decide +kernel) (pa_cons h pa_nil (he i)) (by decide) (by decide) (he i) rfl) cd_toStr h.v
def gStr : G1
  | .int i => if i.natAbs.log2 < 1920 then some (.str (toString i)) else none
  | _ => none
theorem k_str : fit1 fStr gStr := by
  intro x d h P p
  cases x with
  | int i => obtain ⟨c, rfl⟩ := of_if h; exact ⟨c, p⟩
  | _ => cases h
/-! ### sorted(d) -/
def keysS : PD → Option (List Str)
  | [] => some []
  | (.str s, _) :: r => (keysS r).map (s :: ·)
  | _ => none
theorem keysS_of {H : Hp} : ∀ {kvs : List (Key × V)} {ds : PD} {ks : List Str}, DtKv K H kvs ds → keysS ds = some ks → kvs.map (·.1) = ks.map Sum.inr
  | _, _, ks, .nil, h => by cases h; rfl
  | _, _, ks, .cons (k := k) (v := v) (vs := kvs) (d := d) (ds := ds) r1 r, h => by
    cases k with
    | inl i => simp only [kD, keysS] at h; cases h
    | inr s =>
      simp only [kD, keysS] at h
      cases e : keysS ds with
      | none => rw [e] at h; cases h
      | some ks' =>
        rw [e] at h; cases h
        rw [List.map_cons, keysS_of r e]; rfl
def fSortD : F1
  | .dict ds, P => ∃ ks, keysS ds = some ks ∧ ks.length < 64 ∧ ∀ ys, ys.Perm ks → sortedS ys = true → P (.list (ys.map .str))
  | _, _ => False
theorem dt_strsV {H : Hp} : ∀ l : List Str, DtAll K H (l.map V.str) (l.map .str)
  | [] => .nil
  | s :: l => .cons (.str s) (dt_strsV l)
theorem cd_sortD : CallD K (fun xs H Q => ∃ (a : Addr) (kvs : List (Key × V)) (ks : List Str), xs = [.ref a] ∧ Rd H a (.dK kvs) ∧ kvs.map (·.1) = ks.map Sum.inr ∧ ks.length < 64 ∧
    ∀ ys p, ys.Perm ks → sortedS ys = true → H p = none → Q (.ref p) (upd H p (.lst (ys.map V.str)))) fSortD := by
  intro M H x v P Q dom r f k
  cases x with
  | dict ds =>
    obtain ⟨ks, h1, h2, h3⟩ := f
    obtain ⟨p, o, kvs, rfl, h4, h5⟩ := RV.isDic r
    refine ⟨p, kvs, ks, rfl, .inr ⟨o, h4⟩, keysS_of h5 h1, h2, fun ys q hp hs np => ?_⟩
    have hq : q ∉ M := fun c => dom q c np
    exact k _ _ _ (h3 ys hp hs) (same_new np) (.lst (rm_of hq upd_same) (dt_strsV ys))
  | _ => exact f.elim
theorem de_sortD {p : Pos} (hm : ∀ i, (X i).mg "sorted" = none) (h : DE X K e we) (hg : ∀ i, Gl (X i) "sorted" := by intro i; rfl) (hc : ∀ i, (X i).calm = true := by intro i; rfl)
    (he : ∀ i, starEach (e :: []) (X i).env = (false, eval e (X i).env) :: starEach [] (X i).env := by intro i; rfl) : DE X K (.Call (.Name "sorted" p) [e] [] pos) (wU fSortD we) :=
  de_u (fun i t h => pe_callB (call_sortedD (hc i)) (hg i) (hm i) (by kernel_rfl) (pa_cons h pa_nil (he i)) (by decide) (by decide) (he i) rfl) cd_sortD h.v
def leS (a b : Str) : Bool := !ltCps b.cps.toList a.cps.toList
def gSortD : G1
  | .dict ds => (keysS ds).bind fun ks => if ks.length < 64 then some (.list ((ks.mergeSort leS).map .str)) else none
  | _ => none
theorem leS_iff (a b : Str) : leS a b = true ↔ a.cps.toList ≤ b.cps.toList := by
  unfold leS
  rw [ltCps_eq, Bool.not_eq_true', decide_eq_false_iff_not]
  exact Iff.rfl
theorem rising_pw : ∀ (p : Str) (l : List Str), risingS p l = true → (p :: l).Pairwise fun a b => leS a b = true
  | p, [], _ => List.pairwise_singleton _ _
  | p, x :: r, h => by
    have h : (!ltCps x.cps.toList p.cps.toList && risingS x r) = true := h
    rw [Bool.and_eq_true] at h
    have ih := rising_pw x r h.2
    refine List.pairwise_cons.mpr ⟨fun y hy => ?_, ih⟩
    have hpx : leS p x = true := h.1
    rcases List.mem_cons.mp hy with rfl | hy
    · exact hpx
    · have hxy : leS x y = true := List.rel_of_pairwise_cons ih hy
      rw [leS_iff] at hpx hxy ⊢
      exact List.le_trans hpx hxy
theorem sorted_pw : ∀ l : List Str, sortedS l = true → l.Pairwise fun a b => leS a b = true
  | [], _ => .nil
  | x :: r, h => rising_pw x r h
theorem sorted_is {ks ys : List Str} (hp : ys.Perm ks) (hs : sortedS ys = true) : ys = ks.mergeSort leS := by
  refine List.Perm.eq_of_pairwise (le := fun a b => leS a b = true) (fun a b _ _ h1 h2 => ?_) (sorted_pw ys hs) ?_ (hp.trans (List.mergeSort_perm ks leS).symm)
  · rw [leS_iff] at h1 h2
    have e := List.le_antisymm h1 h2
    obtain ⟨⟨a⟩⟩ := a
    obtain ⟨⟨b⟩⟩ := b
    have : a = b := e
    rw [this]
  · refine List.pairwise_mergeSort (fun a b c h1 h2 => ?_) (fun a b => ?_) ks
    · rw [leS_iff] at h1 h2 ⊢
      exact List.le_trans h1 h2
    · rw [Bool.or_eq_true, leS_iff, leS_iff]
      exact List.le_total _ _
theorem k_sortd : fit1 fSortD gSortD := by
  intro x d h P p
  cases x with
  | dict ds =>
    simp only [gSortD, Option.bind_eq_some_iff] at h
    obtain ⟨ks, h1, h2⟩ := h
    obtain ⟨c, rfl⟩ := of_if h2
    exact ⟨ks, h1, c, fun ys hp hs => by rw [sorted_is hp hs]; exact p⟩
  | _ => cases h
/-! ### for k in d -/
def fKeys (d : PyData) (P : List PyData → Prop) : Prop := match d with
  | .dict ds => P (ds.map (·.1))
  | _ => False
def wKeysI (we : WE) : WI := fun ρ P => we ρ fun ρ1 d => fKeys d fun ds => P ρ1 ds
theorem kv_len {H : Hp} : ∀ {kvs : List (Key × V)} {ds : PD}, DtKv K H kvs ds → kvs.length = ds.length
  | _, _, .nil => rfl
  | _, _, .cons _ r => by rw [List.length_cons, List.length_cons, kv_len r]
theorem kv_get {H : Hp} : ∀ {kvs : List (Key × V)} {ds : PD} {i : Nat} {d : PyData}, DtKv K H kvs ds → (ds.map (·.1))[i]? = some d → ∃ k v, kvs[i]? = some (k, v) ∧ d = kD k
  | _, _, i, d, .nil, h => by simp at h
  | _, _, 0, d, .cons (k := k) (v := v) _ r, h => by
    rw [List.map_cons] at h
    exact ⟨k, v, rfl, (Option.some.inj h).symm⟩
  | _, _, i + 1, d, .cons _ r, h => by
    rw [List.map_cons, List.getElem?_cons_succ] at h
    obtain ⟨k, v, h1, h2⟩ := kv_get r h
    exact ⟨k, v, by rw [List.getElem?_cons_succ]; exact h1, h2⟩
theorem dt_key {H : Hp} (k : Key) : Dt K H (kV k) (kD k) := by
  cases k with
  | inl i => exact .int i
  | inr s => exact .str s
theorem di_keys (h : DE X K e we) : DI X K tg e (wKeysI we) := by
  obtain ⟨t, a1, a2⟩ := h
  refine ⟨iKeys t, fun i => pi_keys (a1 i), fun M0 M B σ H ρ P R E w k => ?_⟩
  refine a2 M0 M B σ H ρ _ _ E w fun ρ1 d v H1 w1 x1 E1 r1 => ?_
  cases d with
  | dict ds =>
    obtain ⟨p, o, kvs, rfl, h1, h2⟩ := Dt.isDic r1
    refine ⟨p, o, rfl, .inl ⟨kvs, rm_le _ _ h1, k ρ1 _ _ H1 w1 x1 E1 ?_⟩⟩
    intro M' H' s dom
    have h' : H' p = some (.frz o (.dK kvs)) := (rm_to (s _ _ h1)).2
    refine ⟨fun i d hd => ?_, ⟨h', by rw [List.length_map, kv_len h2]; exact Nat.le_refl _⟩⟩
    obtain ⟨k', v', e1, rfl⟩ := kv_get h2 hd
    refine ⟨⟨h', (List.getElem?_eq_some_iff.mp e1).1⟩, fun x H'' y => ?_⟩
    obtain ⟨rfl, k2, v2, e2, rfl⟩ := y
    rw [e1] at e2
    cases e2
    exact ⟨Same.refl _, dt_key k'⟩
  | _ => exact w1.elim
end
/-! ### a dict that is put together by update -/
section
variable {X : Cx} {pins : List (Addr × Obj)} {σ : L2.St} {H : Hp} {s : Shared} {p q : Addr} {kvs more : List (Key × V)} {A : Around} {E : Value → Shared → Prop}
theorem d_update {Q : Value → Shared → Prop} (I : Inv X pins σ H s) (e : H p = some (.dK kvs)) (e2 : H q = some (.dK more)) (ne : p ≠ q) (sz : kvs.length + more.length ≤ sizeLine) (h : ∀ s', Inv X pins σ (upd H p (.dK (mergeK kvs more))) s' → Q .none s') :
    wpAny (model X.prog X.w) A (call (.builtin "dict.update") [.ref p, .ref q]) Q E s := by
  obtain ⟨z, hd, vs, rel, dd⟩ := dk_of I.hok e
  obtain ⟨z2, hd2, vs2, rel2, dd2⟩ := dk_of I.hok e2
  have hz : vs.length + vs2.length ≤ sizeLine := by
    have h1 := rel.length
    have h2 := rel2.length
    omega
  refine call_meetsIn PySem.F.slot_dict_update dd.typeIs PySem.F.entry_dict_update (PySem.F.args_dict_update_2 _ _) (meets_dict_update (mixKind X.prog X.w) p q ne hd2) ⟨vs, vs2, dd, dd2, hz, fun h' d1 d2 hs => ?_⟩
  have hl : (mergeK kvs more).length ≤ sizeLine := Nat.le_trans (length_mergeK more kvs) sz
  have he : ∃ q, h'.get? p = some q := let ⟨q, _, _, hq, _⟩ := d1; ⟨q, hq⟩
  exact h _ (d_write I (by rw [e]; exact True.intro) hs he (dk_new hl hd (rel2.merge rel) d1))
def tDUpd (to td : TE) : TE := fun σ H Q => to σ H fun x H1 => ∃ p, x = .ref p ∧ IsD H1 p ∧ td σ H1 fun y H2 => ∃ q kvs more, y = .ref q ∧ p ≠ q ∧ H2 p = some (.dK kvs) ∧ H2 q = some (.dK more) ∧ kvs.length + more.length ≤ sizeLine ∧ Q .non (upd H2 p (.dK (mergeK kvs more)))
theorem pe_dupd {o e : Expr} {to td : TE} {apos cpos : Pos} (ho : PE X o to) (he : PE X e td) (m : M1 X o "update" apos e cpos) : PE X (.Call (.Attribute o "update" apos) [e] [] cpos) (tDUpd to td) := by
  refine ⟨fun pins s σ H Q I h => ?_⟩
  refine wpAny_Call_method m.base m.few m.line PySem.F.plainAttrs_dict PySem.F.slot_dict_update PySem.F.type_dict_update (thn (ho.run pins s σ H _ I h) fun u s1 ⟨x, H1, I1, rx, a, ex, d, q1⟩ => ?_)
  subst ex
  obtain rfl : u = Value.ref a := rx
  obtain ⟨t1, t2, _⟩ := isD_at I1 d
  refine ⟨t1, t2, ?_⟩
  rw [m.trees]
  refine Calls.callWith_builtin rfl (Calls.evalArgs_plain (Calls.spliced_cons (thn (he.run pins s1 σ H1 _ I1 q1) fun iv s2 ⟨y, H2, I2, ry, q, kvs, more, ey, ne, h1, h2, sz, q2⟩ => Calls.spliced_nil ?_)))
  subst ey
  obtain rfl : iv = Value.ref q := ry
  exact d_update I2 h1 h2 ne sz fun s3 I3 => ⟨.non, _, I3, rfl, q2⟩
end
end Pm
/-! x = {..}; x.update({..}); x.update({..}); return x -/
namespace Pm
open PySem PySem.Spec PyProof.Rows L2
section
variable {K : Fr}
/-- a display, its dict kept apart from the data -/
theorem disp_sem {trs : List (TE × TE)} {w : WPs} {M0 M B : List Addr} {σ : L2.St} {H : Hp} {ρ : Env} {P : Env → PD → List Key → Prop} {Q : VK}
    (a2 : ∀ (M0 M B : List Addr) (σ : L2.St) (H : Hp) (ρ : Env) (P : Env → PD → Prop) (Q : List (V × V) → Hp → Prop), EnvOk K M0 M B H σ ρ → w ρ P → (∀ ρ' ps vs H', P ρ' ps → Ext M B H M B H' → EnvOk K M0 M B H' σ ρ' → VPs K (rm M H') vs ps → Q vs H') → tPairs trs σ H Q)
    (E : EnvOk K M0 M B H σ ρ) (hw : w ρ fun ρ' ps => ∃ ks, keysP ps = some ks ∧ ks.Nodup ∧ ps.length ≤ 15 ∧ P ρ' ps ks)
    (k : ∀ p ρ' ps kvs H', H p = none → P ρ' ps (kvs.map (·.1)) → Ext M B H (p :: M) B H' → EnvOk K M0 (p :: M) B H' σ ρ' → H' p = some (.dK kvs) → DtKv K (rm (p :: M) H') kvs ps → kvs.length ≤ 15 → Q (.ref p) H') : tDisp trs σ H Q := by
  intro p np
  have hpM : p ∉ M := E.fresh np
  have hpB : p ∉ B := fun c => hpM (E.sub p c)
  have E1 : EnvOk K M0 (p :: M) B (upd H p (.dK [])) σ ρ := E.more np upd_same fun a u n e => by rw [upd_ne n]; exact e
  refine a2 M0 (p :: M) B σ _ ρ _ _ E1 hw fun ρ1 ps vs H2 w1 x1 E2 r1 => ?_
  obtain ⟨ks, hk, nd, hz, w1⟩ := w1
  obtain ⟨kvs, rfl, rfl, r2⟩ := pairs_of r1 hk
  have hp2 : H2 p = some (.dK []) := x1.keep p _ hpB upd_same
  have hlen : kvs.length ≤ 15 := by
    have : (kvs.map fun kv => (kV kv.1, kv.2)).length = ps.length := Paired.length r1
    rw [List.length_map] at this
    omega
  refine ⟨hp2, kvs, rfl, hlen, ?_⟩
  rw [merge_new kvs [] (by simpa using nd), List.nil_append]
  have E3 : EnvOk K M0 (p :: M) B (upd H2 p (.dK kvs)) σ ρ1 := E2.chg (o' := .dK []) (List.mem_cons_self ..) hpB
  refine k p ρ1 ps kvs _ np w1 ⟨fun _ h => List.mem_cons_of_mem _ h, fun a h => ?_, fun _ h => h, fun _ h => .inl h, fun a o hb e => ?_, fun a e => ?_⟩ E3 upd_same (by rw [rm_upd (List.mem_cons_self ..)]; exact r2) hlen
  · rcases List.mem_cons.mp h with rfl | h
    · exact .inr np
    · exact .inl h
  · have n : a ≠ p := fun q => by rw [q, np] at e; cases e
    rw [upd_ne n]
    exact x1.keep a o hb (by rw [upd_ne n]; exact e)
  · by_cases c : a = p
    · rw [c]; exact np
    · rw [upd_ne c] at e
      have := x1.live a e
      rw [upd_ne c] at this
      exact this
theorem kv_app {H : Hp} : ∀ {a b : List (Key × V)} {x y : PD}, DtKv K H a x → DtKv K H b y → DtKv K H (a ++ b) (x ++ y)
  | _, _, _, _, .nil, h => h
  | _, _, _, _, .cons h r, h2 => .cons h (kv_app r h2)
def wUpd3 (i : Nat) (w1 w2 w3 : WPs) : WS := fun E ρ => w1 ρ fun ρ1 ps1 => ∃ k1, keysP ps1 = some k1 ∧ k1.Nodup ∧ ps1.length ≤ 15 ∧ w2 (ρ1.set i .un) fun ρ2 ps2 => ∃ k2, keysP ps2 = some k2 ∧ k2.Nodup ∧ ps2.length ≤ 15 ∧ w3 ρ2 fun ρ3 ps3 =>
  ∃ k3, keysP ps3 = some k3 ∧ k3.Nodup ∧ ps3.length ≤ 15 ∧ (k1 ++ k2 ++ k3).Nodup ∧ E.rt ρ3 (.dict (ps1 ++ ps2 ++ ps3))
theorem EnvOk.upd1 {M0 M B : List Addr} {H : Hp} {σ : L2.St} {ρ : Env} {p : Addr} {o : HO} (E : EnvOk K M0 M B H σ ρ) (hM : p ∈ M) (hB : p ∉ B) : EnvOk K M0 M B (upd H p o) σ ρ := E.chg (o' := o) hM hB
theorem ext_upd {M B : List Addr} {H : Hp} {M' B' : List Addr} {H' : Hp} {p : Addr} {o : HO} (x : Ext M B H M' B' H') (np : H p = none) : Ext M B H M' B' (upd H' p o) where
  m := x.m
  new := x.new
  b := x.b
  newb := x.newb
  keep := fun a u hb e => by
    have n : a ≠ p := fun q => by rw [q, np] at e; cases e
    rw [upd_ne n]; exact x.keep a u hb e
  live := fun a e => by
    by_cases c : a = p
    · rw [c]; exact np
    · rw [upd_ne c] at e; exact x.live a e
theorem dss_upd3 {Y : Cx} (i : Nat) {x : Str} {ks1 ks2 ks3 : List (Option Expr)} {vs1 vs2 vs3 : List Expr} {q1 q2 q3 px pa pb pr aa ab ca cb pos ea eb rp : Pos} {w1 w2 w3 : WPs} (nd : Y.N.Nodup)
    (h1 : DPs (one Y) K q1 ks1 vs1 w1) (h2 : DPs (one Y) K q2 ks2 vs2 w2) (h3 : DPs (one Y) K q3 ks3 vs3 w3)
    (hv : ∀ p, PE Y (.Name x p) (tVar i)) (hp : Y.N.Nodup → ∀ t, PE Y (.Dict ks1 vs1 q1) t → PS Y (.Assign [.Name x px] (.Dict ks1 vs1 q1) pos) (tAsg t (gName i)))
    (m2 : M1 Y (.Name x pa) "update" aa (.Dict ks2 vs2 q2) ca) (m3 : M1 Y (.Name x pb) "update" ab (.Dict ks3 vs3 q3) cb)
    (a1 : ks1.all (·.isSome) = true := by rfl) (l1 : ks1.length = vs1.length := by rfl) (n1 : ks1 ≠ [] := by simp) (z1 : ks1.length ≤ 15 := by decide)
    (a2 : ks2.all (·.isSome) = true := by rfl) (l2 : ks2.length = vs2.length := by rfl) (n2 : ks2 ≠ [] := by simp) (z2 : ks2.length ≤ 15 := by decide)
    (a3 : ks3.all (·.isSome) = true := by rfl) (l3 : ks3.length = vs3.length := by rfl) (n3 : ks3 ≠ [] := by simp) (z3 : ks3.length ≤ 15 := by decide)
    (hx2 : ∀ t, PE Y (.Call (.Attribute (.Name x pa) "update" aa) [.Dict ks2 vs2 q2] [] ca) t → PS Y (.Expr (.Call (.Attribute (.Name x pa) "update" aa) [.Dict ks2 vs2 q2] [] ca) ea) (tDrop t) := by intro t h; exact ps_expr h)
    (hx3 : ∀ t, PE Y (.Call (.Attribute (.Name x pb) "update" ab) [.Dict ks3 vs3 q3] [] cb) t → PS Y (.Expr (.Call (.Attribute (.Name x pb) "update" ab) [.Dict ks3 vs3 q3] [] cb) eb) (tDrop t) := by intro t h; exact ps_expr h) :
    DSs Y K [.Assign [.Name x px] (.Dict ks1 vs1 q1) pos, .Expr (.Call (.Attribute (.Name x pa) "update" aa) [.Dict ks2 vs2 q2] [] ca) ea, .Expr (.Call (.Attribute (.Name x pb) "update" ab) [.Dict ks3 vs3 q3] [] cb) eb, .Return (some (.Name x pr)) rp] (fun E ρ => i < ρ.length ∧ wUpd3 i w1 w2 w3 E ρ) := by
  obtain ⟨t1, b1, c1⟩ := h1
  obtain ⟨t2, b2, c2⟩ := h2
  obtain ⟨t3, b3, c3⟩ := h3
  have s1 := hp nd _ (pe_disp (b1 ()) a1 l1 n1 z1)
  have s2 := hx2 _ (pe_dupd (hv pa) (pe_disp (b2 ()) a2 l2 n2 z2) m2)
  have s3 := hx3 _ (pe_dupd (hv pb) (pe_disp (b3 ()) a3 l3 n3 z3) m3)
  refine ⟨_, pss_cons s1 (pss_cons s2 (pss_cons s3 (pss_one (ps_ret (pe_frz (hv pr)))))), fun M0 M B σ H ρ E D Ev h F => ?_⟩
  obtain ⟨hil, h⟩ := h
  unfold wUpd3 at h
  unfold tSeq tAsg gName tDrop tRet tDUpd
  refine disp_sem c1 Ev h fun p ρ1 ps1 kvs1 H1 np hw1 x1 E1 hp1 r1 e1 => ?_
  have hpM : p ∉ M := Ev.fresh np
  have hpB : p ∉ B := fun c => hpM (Ev.sub p c)
  have E1f : EnvOk K M0 (p :: M) B H1 (σ.set i (some (.ref p))) (ρ1.set i .un) := E1.forget i _
  have hil1 : i < σ.length := by rw [Ev.len]; exact hil
  have hσ : (σ.set i (some (V.ref p)))[i]? = some (some (.ref p)) := by rw [List.getElem?_set_self hil1]
  refine ⟨_, hσ, p, rfl, .inl ⟨kvs1, .inl hp1⟩, ?_⟩
  refine disp_sem c2 E1f hw1 fun p2 ρ2 ps2 kvs2 H2 np2 hw2 x2 E2 hp2 r2 e2 => ?_
  have ne2 : p ≠ p2 := fun e => by rw [← e, hp1] at np2; cases np2
  have hp12 : H2 p = some (.dK kvs1) := x2.keep p _ hpB hp1
  refine ⟨p2, kvs1, kvs2, rfl, ne2, hp12, hp2, by rw [sizeLine_eq]; omega, ?_⟩
  have E2f := E2.upd1 (o := .dK (mergeK kvs1 kvs2)) (p := p) (List.mem_cons_of_mem _ (List.mem_cons_self ..)) hpB
  have x12 : Ext M B H (p2 :: p :: M) B (upd H2 p (.dK (mergeK kvs1 kvs2))) := ext_upd (x1.trans x2) np
  refine ⟨_, hσ, p, rfl, .inl ⟨_, .inl upd_same⟩, ?_⟩
  refine disp_sem c3 E2f hw2 fun p3 ρ3 ps3 kvs3 H3 np3 hw3 x3 E3 hp3 r3 e3 => ?_
  have ne3 : p ≠ p3 := fun e => by rw [← e, upd_same] at np3; cases np3
  have hp13 : H3 p = some (.dK (mergeK kvs1 kvs2)) := x3.keep p _ hpB upd_same
  obtain ⟨ndk, w⟩ := hw3
  have m12 : mergeK kvs1 kvs2 = kvs1 ++ kvs2 := merge_new kvs2 kvs1 (by
    rw [List.map_append]
    exact (List.nodup_append.mp ndk).1)
  have m123 : mergeK (kvs1 ++ kvs2) kvs3 = kvs1 ++ kvs2 ++ kvs3 := merge_new kvs3 _ (by
    rw [List.map_append, List.map_append]
    exact ndk)
  refine ⟨p3, _, kvs3, rfl, ne3, hp13, hp3, by
    have := length_mergeK kvs2 kvs1
    rw [sizeLine_eq]; omega, ?_⟩
  rw [m12, m123]
  refine ⟨_, hσ, p, _, rfl, upd_same, fun o => ?_⟩
  rw [upd_upd]
  have hpM3 : p ∈ p3 :: p2 :: p :: M := List.mem_cons_of_mem _ (List.mem_cons_of_mem _ (List.mem_cons_self ..))
  have E4 := E3.upd1 (o := .frz o (.dK (kvs1 ++ kvs2 ++ kvs3))) (p := p) hpM3 hpB
  have x4 : Ext M B H (p3 :: p2 :: p :: M) B (upd H3 p (.frz o (.dK (kvs1 ++ kvs2 ++ kvs3)))) := ext_upd (x12.trans x3) np
  refine F.rt ρ3 _ _ _ _ _ _ w x4 E4 (.dic (rm_of (fun c => hpM (Ev.m0 p c)) upd_same) ?_)
  have up2 : Same (rm (p :: M) H1) (rm (p2 :: p :: M) H2) := x2.rm E1f.sub
  have e23 : rm (p2 :: p :: M) (upd H2 p (.dK (mergeK kvs1 kvs2))) = rm (p2 :: p :: M) H2 := rm_upd (List.mem_cons_of_mem _ (List.mem_cons_self ..))
  have up3 : Same (rm (p2 :: p :: M) H2) (rm (p3 :: p2 :: p :: M) H3) := by rw [← e23]; exact x3.rm E2f.sub
  have up4 : Same (rm (p3 :: p2 :: p :: M) H3) (rm M0 (upd H3 p (.frz o (.dK (kvs1 ++ kvs2 ++ kvs3))))) := by
    rw [← rm_upd (o := .frz o (.dK (kvs1 ++ kvs2 ++ kvs3))) hpM3]
    exact rm_sub E4.m0
  exact DtKv.up up4 (kv_app (kv_app (DtKv.up up3 (DtKv.up up2 r1)) (DtKv.up up3 r2)) r3)
def gUpd3 (a b c : PD) : Option PyData := (keysP a).bind fun k1 => (keysP b).bind fun k2 => (keysP c).bind fun k3 => if k1.Nodup ∧ a.length ≤ 15 ∧ k2.Nodup ∧ b.length ≤ 15 ∧ k3.Nodup ∧ c.length ≤ 15 ∧ (k1 ++ k2 ++ k3).Nodup then some (.dict (a ++ b ++ c)) else none
def qUpd3 (i : Nat) (a b c : FPs) : FS := fun ρ => if i < ρ.length then (a ρ).bind fun r => (b (r.1.set i .un)).bind fun s => (c s.1).bind fun t => (gUpd3 r.2 s.2 t.2).bind fun d => some (.rt t.1 d) else none
def wUpd (i : Nat) (w1 w2 w3 : WPs) : WS := fun E ρ => i < ρ.length ∧ wUpd3 i w1 w2 w3 E ρ
theorem emb_len {o : Option Addr} {ρ : Env} : (emb o ρ).length = ρ.length := by
  cases o with
  | none => rfl
  | some l => cases ρ with
    | nil => rfl
    | cons s r => cases s <;> rfl
theorem c_upd {o : Option Addr} {i : Nat} {w1 w2 w3 : WPs} {a b c : FPs} (ha : cP o w1 a) (hb : cP o w2 b) (hc : cP o w3 c) : cS o (wUpd i w1 w2 w3) (qUpd3 i a b c) := by
  intro ρ fl h E e
  unfold qUpd3 at h
  split at h
  · rename_i hl
    simp only [Option.bind_eq_some_iff] at h
    obtain ⟨r, h1, s, h2, t, h3, d, h4, h5⟩ := h
    cases h5
    simp only [gUpd3, Option.bind_eq_some_iff] at h4
    obtain ⟨k1, e1, k2, e2, k3, e3, h4⟩ := h4
    obtain ⟨⟨n1, z1, n2, z2, n3, z3, n4⟩, rfl⟩ := of_if h4
    refine ⟨by rw [emb_len]; exact hl, ha ρ r h1 _ ⟨k1, e1, n1, z1, ?_⟩⟩
    rw [emb_uset]
    exact hb _ s h2 _ ⟨k2, e2, n2, z2, hc _ t h3 _ ⟨k3, e3, n3, z3, n4, e⟩⟩
  · cases h
/-! keys as items -/
def gKeys : PyData → Option (List PyData)
  | .dict ds => some (ds.map (·.1))
  | _ => none
def qKeysI (a : FE) : FA := fun ρ => (a ρ).bind fun r => (gKeys r.2).bind fun ds => some (r.1, ds)
theorem c_keysI {o : Option Addr} {w : WE} {a : FE} (ha : cE o w a) : cA o (wKeysI w) (qKeysI a) := by
  intro ρ r h P p
  simp only [qKeysI, Option.bind_eq_some_iff] at h
  obtain ⟨r1, h1, ds, h2, h3⟩ := h
  cases h3
  refine ha ρ r1 h1 _ ?_
  revert h2
  cases r1.2 <;> intro h2 <;> first | (cases h2; exact p) | cases h2
end
end Pm
/-! The end of a law over our own FnOk (its room knows that no repr is under way). -/
namespace Pm
open PySem PySem.Spec PyProof.Rows L2
section
variable {P : Program} {w : World} {K : Fr} {mg mb : Str → Option Value} {k : Nat} {fa a : Addr} {fd : FuncData} {x : Str} {s₁ : Shared} {vs : List Value} {ns : List Int}
/-- the script as the law's def finds it: an object of the module, or one that is tracked and never changed -/
abbrev scrO (vs : List Value) : Obj := { cls := .type "list", data := .seq vs.toArray }
def scrH (K : Fr) (a : Addr) (vs : List Value) (ns : List Int) : Hp := fun b => if b = a ∧ K.lookup a = none then some (.frz (scrO vs) (.lst (ns.map V.int))) else none
theorem scrH_some {b : Addr} {u : HO} (h : scrH K a vs ns b = some u) : (b = a ∧ K.lookup a = none) ∧ u = .frz (scrO vs) (.lst (ns.map V.int)) := by
  unfold scrH at h
  split at h
  · rename_i c
    exact ⟨c, (Option.some.inj h).symm⟩
  · cases h
theorem scrH_none {b : Addr} (h : ¬ (b = a ∧ K.lookup a = none)) : scrH K a vs ns b = none := if_neg h
theorem law_callP (inK : K.In s₁.heap) (top : s₁.heap.Ns mainGlobals mg) (blt : s₁.heap.Ns builtinsNs mb) (std : ∀ x : Str, x ≠ "__name__" → mb x = bootBuiltins x) (lim : s₁.heap.NoLimit) (quiet : s₁.gens = #[])
    (at_a : s₁.heap.get? a = some (scrO vs)) (hints : IntsAre vs ns) (few : ns.length ≤ 63) (room : Room k callerA)
    (F : ∀ base : Heap, K.In base → base.Ns mainGlobals mg → FnOk P w K mg base CX0 k fa fd [x] (spLaw K)) (bind : ∀ (s : Shared) (u : Value), BindsTo s fd ⟨[u], []⟩ [(x, u)]) :
    codeAny (model P w) callerA (.call (.ref fa) ⟨[.ref a], []⟩) (fun r s' => r = .ok (.ret (.bool true)) ∧ OldK s₁.heap s'.heap ∧ s'.os = s₁.os ∧ AllBare s'.gens) s₁ := by
  have line : ns.length ≤ sizeLine := Nat.le_trans few (by decide)
  have rel := vals_ints hints
  have size := hints.length
  -- a dict is never tracked
  have free : ∀ (b : Addr) (o : Obj) (es : Array DictEntry) (ep : Nat), s₁.heap.get? b = some o → o.data = .dict es ep → scrH K a vs ns b = none := fun b o es ep q d => by
    refine scrH_none fun c => ?_
    rw [c.1, at_a] at q
    rw [← Option.some.inj q] at d
    cases d
  have names : ∀ {b : Addr} {m : Str → Option Value}, s₁.heap.Ns b m → (hidT s₁.heap (scrH K a vs ns)).Ns b m := fun {b m} z => by
    obtain ⟨o, es, ep, q, d, r⟩ := z
    exact ⟨o, es, ep, hidT_get q (free b o es ep q d), d, r⟩
  have inB : K.In (hidT s₁.heap (scrH K a vs ns)) := fun b o q => hidT_get (inK b o q) (scrH_none fun c => by
    rw [c.1, c.2] at q
    cases q)
  have limB : (hidT s₁.heap (scrH K a vs ns)).NoLimit := by
    obtain ⟨m, n1, n2⟩ := lim
    exact ⟨m, names n1, n2⟩
  have hok : HOk P w (scrH K a vs ns) s₁.heap := fun b u q => by
    obtain ⟨⟨rfl, _⟩, rfl⟩ := scrH_some q
    exact ⟨at_a, by rw [List.length_map]; exact line, vs, _, rel, at_a⟩
  have start : Env0 P w K mg (hidT s₁.heap (scrH K a vs ns)) callerA [] s₁ (scrH K a vs ns) :=
    { frames := rfl
      mod := ⟨inB, names top, ⟨mb, names blt, std⟩, limB⟩
      bs := fun _ _ q => of_hidT q
      bsz := Nat.le_of_eq (hidT_size _ _)
      funs := trivial
      frf := fun _ hm => nomatch hm
      hok := hok
      bare := .of_eq quiet }
  have seq : SqL K (scrH K a vs ns) a (ns.map V.int) := by
    cases q : K.lookup a with
    | none => exact .inl (.inr ⟨scrO vs, if_pos ⟨rfl, q⟩⟩)
    | some o =>
      have z := inK a o q
      rw [at_a] at z
      cases z
      refine .inr ⟨_, vs.toArray, _, q, rfl, rfl, rfl, ?_, ?_⟩
      · rw [List.size_toArray, size]
        exact line
      · simpa using rel
  have run := (F _ inB (names top)).run callerA room [] s₁ (scrH K a vs ns) ⟨[.ref a], []⟩ [.ref a] [.ref a] (fun v _ => v = .bl true) (fun _ _ _ => False) start (bind s₁ (.ref a)) (.cons rfl .nil) ⟨a, ns, rfl, few, seq, fun _ => rfl⟩
  refine codeAny_mono run fun r s' z => ?_
  match r, z with
  | .ok (.ret u), z =>
    obtain ⟨v, H', os, bare, un, ok', rv, yes⟩ := z
    have yes' : v = .bl true := yes
    subst yes'
    obtain rfl : u = Value.bool true := rv
    refine ⟨rfl, OldK.of_keep fun b o q => ?_, os, bare⟩
    by_cases c : b = a ∧ K.lookup a = none
    · have tr : scrH K a vs ns b = some (.frz (scrO vs) (.lst (ns.map V.int))) := if_pos c
      have o1 := (hok b _ tr).1
      have o2 := (ok' b _ (un.frzs b _ _ tr)).1
      rw [q] at o1
      cases o1
      exact o2
    · exact un.keep b o q (scrH_none c) (fun hm => nomatch hm) (fun hm => nomatch hm)
  | .error e, z => exact z.elim
  | .ok .next, z => exact z.elim
  | .ok .brk, z => exact z.elim
  | .ok .cont, z => exact z.elim
end
theorem walk_ofP {l : PySem.W.OpenLaw} {k : Nat} {q : Program} {loose : List Str} {XP : (Str → Option Value) → Heap → Prop} {YP : World → Heap → Prop} {d : DefRec} {K : Params → PySem.W.Frag} {x : Str}
    (most : l.most = some 63) (plain : d.params.defaults = []) (room : Room k callerA) (inK : ∀ (w : World) (h : Heap), YP w h → (K w.params).In h)
    (F : ∀ (w : World) (mg : Str → Option Value) (fa : Addr) (h : Heap), (K w.params).In h → h.Ns mainGlobals mg → mg d.name = some (.ref fa) →
      ∃ fd : FuncData, (∀ (s : Shared) (u : Value), BindsTo s fd ⟨[u], []⟩ [(x, u)]) ∧ ∀ base : Heap, (K w.params).In base → base.Ns mainGlobals mg → FnOk l.prog w (K w.params) mg base CX0 k fa fd [x] (spLaw (K w.params))) :
    PySem.W.WalkO q loose XP YP l.row.toRowW d [] (fun f vs => PySem.call f vs) := by
  refine Att.attach_call most plain fun w s₀ s₁ mg mb fa o pm cd doc a vs ns G Y ho hd hcd hmg hobj hints hlen hg => ?_
  obtain ⟨fd, hb, hF⟩ := F w mg fa _ (inK w _ Y) G.T.g hmg
  exact law_callP (inK w _ Y) G.T.g G.T.b G.T.builtins G.T.nolimit hg hobj hints hlen room hF hb
end Pm
namespace Pm
open PySem PySem.Spec PyProof.Rows L2
variable {ι : Type} {X : ι → Cx} {K : Fr} {a b e : Expr} {es : List Expr} {wa wb we : WE} {pos : Pos}
/-! ### repr of lists and tuples -/
abbrev shOk (d : PyData) : Prop := d.canLay0 = true ∧ isDisplay d = true ∧ d.showable = true ∧ d.hasDict = false ∧ d.depth ≤ 60 ∧ d.shown.length ≤ sizeLine
def rRepr (K : Fr) : List V → Hp → VK → Prop := fun xs H Q => ∃ x d, xs = [x] ∧ Dp K H x d ∧ shOk d ∧ Q (.str d.shown) H
theorem call_repr {Y : Cx} (hg : Y.A.guards = some []) (hu : Y.A.units + 64 < cLine) : CallR Y (.builtin "repr") (rRepr Y.K) := by
  intro pins s σ H xs us Q I r h
  obtain ⟨x, d, rfl, hd, ⟨_, h1, h2, h3, h4, h5⟩, q⟩ := h
  obtain ⟨u, rfl, r1⟩ := vals1 r
  obtain ⟨as, rd⟩ := Dp.reads I d x u hd r1
  obtain ⟨p, rfl⟩ := isRef_of_reads rd h1
  exact repr_of_reads' rd h2 (PyData.noDict_hsm h3) hg (by omega) (fun _ _ e => e) (fun h' u' tk hk => ⟨.str d.shown, H, I.kept hk, ⟨_, rfl⟩, q⟩) h5
def fRepr : F1 := fun d P => shOk d ∧ P (.str d.shown)
theorem cd_repr : CallD K (rRepr K) fRepr := by
  intro M H x v P Q dom r f k
  exact ⟨v, x, rfl, r.dp f.1.1, f.1, k _ _ H f.2 (Same.refl _) (.str _)⟩
theorem de_repr {p : Pos} (hm : ∀ i, (X i).mg "repr" = none) (hg0 : ∀ i, (X i).A.guards = some []) (hu : ∀ i, (X i).A.units + 64 < cLine) (h : DV X K e we) (hK : ∀ i, (X i).K = K := by intro i; rfl) (hg : ∀ i, Gl (X i) "repr" := by intro i; rfl)
    (he : ∀ i, starEach (e :: []) (X i).env = (false, eval e (X i).env) :: starEach [] (X i).env := by intro i; rfl) : DE X K (.Call (.Name "repr" p) [e] [] pos) (wU fRepr we) :=
  de_u (fun i t h => by rw [← hK i]; exact pe_callB (call_repr (hg0 i) (hu i)) (hg i) (hm i) (by decide +kernel) (pa_cons h pa_nil (he i)) (by decide) (by decide) (he i) rfl) cd_repr h
/-! ### min of two numbers -/
def fMin2 : F2 := fI0 fun i j => .int (if j < i then j else i)
def rMin2 : List V → Hp → VK → Prop := fun xs H Q => ∃ i j, xs = [.int i, .int j] ∧ Q (.int (if j < i then j else i)) H
theorem de_min2 {p : Pos} (hm : ∀ i, (X i).mg "min" = none) (ha : DE X K a wa) (hb : DE X K b wb) (hc : ∀ i, (X i).calm = true := by intro i; rfl) (hg : ∀ i, Gl (X i) "min" := by intro i; rfl)
    (he : ∀ i, starEach (a :: [b]) (X i).env = (false, eval a (X i).env) :: starEach [b] (X i).env := by intro i; rfl) (he2 : ∀ i, starEach (b :: []) (X i).env = (false, eval b (X i).env) :: starEach [] (X i).env := by intro i; rfl) (hpl : ∀ i, (backTo pos (starEach [b] (X i).env)).any (·.1) = false := by intro i; rfl) : DE X K (.Call (.Name "min" p) [a, b] [] pos) (wOp fMin2 wa wb) := by
  obtain ⟨ta, a1, a2⟩ := ha
  obtain ⟨tb, b1, b2⟩ := hb
  refine ⟨tCB rMin2 (tCons ta (tCons tb tNil)), fun i => pe_callB (call_min2 (hc i)) (hg i) (hm i) (by decide +kernel) (pa_cons (a1 i) (pa_cons (b1 i) pa_nil (he2 i)) (he i)) (by decide) (by decide) (he i) (hpl i), fun M0 M B σ H ρ P Q E w k => ?_⟩
  refine a2 M0 M B σ H ρ _ _ E w fun ρ1 x v H1 w1 x1 E1 r1 => ?_
  refine b2 M0 M B σ H1 ρ1 _ _ E1 w1 fun ρ2 y u H2 w2 x2 E2 r2 => ?_
  cases x with
  | int n =>
    cases y with
    | int m =>
      rw [Dt.isInt r1, Dt.isInt r2]
      exact ⟨n, m, rfl, k ρ2 _ _ H2 w2 (x1.trans x2) E2 (.int _)⟩
    | _ => exact w2.elim
  | _ => exact w2.elim
/-! ### a list backwards -/
def fRev : F1
  | .list ds, P => P (.list ds.reverse)
  | _, _ => False
theorem dt_rev {H : Hp} : ∀ {vs : List V} {ds : List PyData}, DtAll K H vs ds → DtAll K H vs.reverse ds.reverse
  | _, _, .nil => .nil
  | _, _, .cons h r => by
    rw [List.reverse_cons, List.reverse_cons]
    exact DtAll.app (dt_rev r) (.cons h .nil)
theorem de_rev {k : Nat} {p1 p2 p3 : Pos} (h : DV X K e we) (hK : ∀ i, (X i).K = K := by intro i; rfl) : DE X K (.Subscript e (.Slice none none (some (.UnaryOp .USub (.Constant (.int 1) k p1) p2)) p3) pos) (wU fRev we) := by
  obtain ⟨t, a1, a2⟩ := h
  refine ⟨tRevL K t, fun i => by rw [← hK i]; exact pe_revL (a1 i), fun M0 M B σ H ρ P Q E w k => ?_⟩
  refine a2 M0 M B σ H ρ _ _ E w fun ρ1 d v H1 w1 x1 E1 r1 => ?_
  cases d with
  | list ds =>
    obtain ⟨p, vs, rfl, h1, h2⟩ := RV.isLst r1
    exact ⟨p, vs, rfl, SqL.of h1, fun q nq => k ρ1 _ _ _ w1 (x1.trans (Ext.same (same_new nq))) (E1.same (same_new nq)) (E1.newl nq (dt_rev h2))⟩
  | _ => exact w1.elim
/-! ### f(g(..)), g makes the list that f may change -/
def wCallWF (S : SpW) (SF : SpF) (w : WA) : WE := fun ρ P => w ρ fun ρ1 ds => SF ds fun ws => S ws [] fun _ d => P ρ1 d
theorem de_callWF {x y : Str} {S : SpW} {SF : SpF} {w : WA} {p p2 pos2 : Pos} (cW : ∀ i, CallOk (X i) x (spW K S)) (cF : ∀ i, CallOk (X i) y (spF K SF)) (h : DA X K (e :: es) w)
    (hg : ∀ i, Gl (X i) x := by intro i; rfl) (hdb : (x == ("__debug__" : Str)) = false := by decide) (hg2 : ∀ i, Gl (X i) y := by intro i; rfl) (hdb2 : (y == ("__debug__" : Str)) = false := by decide)
    (he : ∀ i, starEach (e :: es) (X i).env = (false, eval e (X i).env) :: starEach es (X i).env := by intro i; rfl) (hpl : ∀ i, (backTo pos2 (starEach es (X i).env)).any (·.1) = false := by intro i; rfl)
    (he2 : ∀ i, starEach [.Call (.Name y p2) (e :: es) [] pos2] (X i).env = (false, eval (.Call (.Name y p2) (e :: es) [] pos2) (X i).env) :: starEach [] (X i).env := by intro i; rfl) (hpl2 : ∀ i, (backTo pos (starEach [] (X i).env)).any (·.1) = false := by intro i; rfl) :
    DE X K (.Call (.Name x p) [.Call (.Name y p2) (e :: es) [] pos2] [] pos) (wCallWF S SF w) := by
  obtain ⟨t, a1, a2⟩ := h
  refine ⟨tCall (spW K S) [] E0 (tCons (tCall (spF K SF) [] E0 t) tNil), fun i => ?_, fun M0 M B σ H ρ P Q E w k => ?_⟩
  · obtain ⟨k, f, fd, ps, F, hr, hm, hk, hb⟩ := cW i
    obtain ⟨k2, f2, fd2, ps2, F2, hr2, hm2, hk2, hb2⟩ := cF i
    exact pe_call F hr (hg i) hm hk hb .nil pass0 (pa_cons (pe_call F2 hr2 (hg2 i) hm2 hk2 hb2 .nil pass0 (a1 i) hdb2 (he i) (hpl i)) pa_nil (he2 i)) hdb (he2 i) (hpl2 i)
  · refine a2 M0 M B σ H ρ _ _ E w fun ρ1 ds vs H1 w1 x1 E1 r1 => ?_
    refine ⟨M, ds, _, E1.dom, by rw [List.append_nil]; exact r1, w1, fun ws z xs H2 w2 np sm hz r2 => ?_⟩
    refine ⟨z :: M, z, [], xs, ws, [], _, rfl, fun a ha => ?_, List.mem_cons_self .., hz, r2, .nil, w2, fun ws' d v H3 xs' p3 kp hz3 r3 rv => ?_⟩
    · rcases List.mem_cons.mp ha with rfl | ha
      · rw [hz]; simp
      · intro q
        cases hq : H1 a with
        | none => exact E1.dom a ha hq
        | some o => rw [sm a o hq] at q; cases q
    · have all : Same H1 H3 := fun a o q => kp a o (fun c => by rw [c, np] at q; cases q) (sm a o q)
      exact k ρ1 d v H3 p3 (x1.trans (Ext.same all)) (E1.same all) (Dt.up (rm_sub fun a ha => List.mem_cons_of_mem _ ha) rv)
end Pm
namespace Pm.Q
open PySem PySem.Spec PyProof.Rows L2 TL Pm
instance shOkDec (d : PyData) : Decidable (shOk d) := inferInstance
def gRepr : G1 := fun d => if shOk d then some (.str d.shown) else none
theorem k_repr : fit1 fRepr gRepr := by
  intro x d h P p
  obtain ⟨c, rfl⟩ := of_if h
  exact ⟨c, p⟩
def qCallWF (f : FW) (g : FN) (a : FA) : FE := fun ρ => (a ρ).bind fun r => (g r.2).bind fun ws => (f ws []).bind fun q => some (r.1, q.2)
theorem c_callWF {o : Option Addr} {S : SpW} {SF : SpF} {f : FW} {g : FN} {w : WA} {a : FA} (hf : fitW S f) (hg : fitN SF g) (ha : cA o w a) : cE o (wCallWF S SF w) (qCallWF f g a) := by
  intro ρ r h P p
  simp only [qCallWF, Option.bind_eq_some_iff] at h
  obtain ⟨r1, h1, ws, h2, q, h3, h4⟩ := h
  cases h4
  exact ha ρ r1 h1 _ (hg _ _ h2 _ (hf _ _ _ h3 _ p))
abbrev gMin2 : G2 := gI0 fun i j => .int (if j < i then j else i)
theorem k_min2 : fit2 fMin2 gMin2 := k_I0
def gRev : G1
  | .list ds => some (.list ds.reverse)
  | _ => none
theorem k_rev : fit1 fRev gRev := by
  intro x d h P p
  cases x <;> first | (cases h; exact p) | cases h
end Pm.Q
namespace Pm.Q
open PySem PySem.Spec PyProof.Rows L2 TL Pm
/-- _law_draw(_law_well_here, _law_many): slots 0 _law_well_here 1 _law_many 2 _law_digit 3 _law_number 4 _law_more -/
def w_k_draw : WS :=
(wSeq (wIf (wTst (wOp fGe (wOpO fIx 0 (wC (.int 0))) (wOp fPow (wC (.int 10)) (wC (.int 18)))))
(wSeq (wSet 2 (wOp fMod (wU fInt (wOpO fIx 0 (wC (.int 0)))) (wVar 1)))
(wSeq (wPut 0 (wOp fDiv (wOpO fIx 0 (wC (.int 0))) (wVar 1)) (wC (.int 0)))
(wRet (wVar 2))))
wSkip)
(wSeq (wPut 0 (wOp fAdd (wOpO fIx 0 (wC (.int 1))) (wC (.int 1))) (wC (.int 1)))
(wSeq (wSet 3 (wOp fMod (wU fInt (wOp fMul (wU fInt (wOp fAdd (wOp fAdd (wOp fMod (wU fInt (wOpO fIx 0 (wC (.int 0)))) (wC (.int 2147483629))) (wOp fMul (wC (.int 60013)) (wOpO fIx 0 (wC (.int 1))))) (wC (.int 11)))) (wC (.int 48271)))) (wC (.int 2147483647))))
(wSeq (wSet 4 (wOp fMod (wU fInt (wOp fDiv (wOpO fIx 0 (wC (.int 0))) (wC (.int 2147483629)))) (wC (.int 9973))))
(wSeq (wSet 3 (wOp fMod (wU fInt (wOp fMul (wVar 3) (wOp fAdd (wOp fAdd (wOp fDiv (wVar 3) (wC (.int 1013))) (wC (.int 40692))) (wVar 4)))) (wC (.int 2147483587))))
(wRet (wOp fMod (wU fInt (wOp fDiv (wOp fMod (wU fInt (wOp fMul (wVar 3) (wOp fAdd (wOp fDiv (wVar 3) (wC (.int 2003))) (wC (.int 69621))))) (wC (.int 2147483563))) (wC (.int 5)))) (wVar 1))))))))

def q_k_draw (ρ : Env) : Option Fl :=
(qSeq (qIf (qTst (qOp gGe (qOpO gIx 0 (qC (.int 0))) (qOp gPow (qC (.int 10)) (qC (.int 18))))) (qSeq (qSet 2 (qOp gMod (qU gInt (qOpO gIx 0 (qC (.int 0)))) (qVar 1))) (qSeq (qPut 0 (qOp gDiv (qOpO gIx 0 (qC (.int 0))) (qVar 1)) (qC (.int 0))) (qRet (qVar 2)))) qSkip) (qSeq (qPut 0 (qOp gAdd (qOpO gIx 0 (qC (.int 1))) (qC (.int 1))) (qC (.int 1))) (qSeq (qSet 3 (qOp gMod (qU gInt (qOp gMul (qU gInt (qOp gAdd (qOp gAdd (qOp gMod (qU gInt (qOpO gIx 0 (qC (.int 0)))) (qC (.int 2147483629))) (qOp gMul (qC (.int 60013)) (qOpO gIx 0 (qC (.int 1))))) (qC (.int 11)))) (qC (.int 48271)))) (qC (.int 2147483647)))) (qSeq (qSet 4 (qOp gMod (qU gInt (qOp gDiv (qOpO gIx 0 (qC (.int 0))) (qC (.int 2147483629)))) (qC (.int 9973)))) (qSeq (qSet 3 (qOp gMod (qU gInt (qOp gMul (qVar 3) (qOp gAdd (qOp gAdd (qOp gDiv (qVar 3) (qC (.int 1013))) (qC (.int 40692))) (qVar 4)))) (qC (.int 2147483587)))) (qRet (qOp gMod (qU gInt (qOp gDiv (qOp gMod (qU gInt (qOp gMul (qVar 3) (qOp gAdd (qOp gDiv (qVar 3) (qC (.int 2003))) (qC (.int 69621))))) (qC (.int 2147483563))) (qC (.int 5)))) (qVar 1)))))))) ρ
def F_k_draw : FW
  | ws, [a1] => retW (q_k_draw (.own ws :: [.dat a1, .un, .un, .un]))
  | _, _ => none
abbrev S_k_draw : SpW := ofW F_k_draw
theorem c_k_draw {l : Addr} : cS (some l) w_k_draw q_k_draw := (c_seq (c_if (c_tst (c_op k_ge (c_opO k_ix (c_c rfl)) (c_op k_pow (c_c rfl) (c_c rfl)))) (c_seq (c_set (c_op k_mod (c_u k_int (c_opO k_ix (c_c rfl))) c_var)) (c_seq (c_put (c_op k_div (c_opO k_ix (c_c rfl)) c_var) (c_c rfl)) (c_ret c_var))) c_skip) (c_seq (c_put (c_op k_add (c_opO k_ix (c_c rfl)) (c_c rfl)) (c_c rfl)) (c_seq (c_set (c_op k_mod (c_u k_int (c_op k_mul (c_u k_int (c_op k_add (c_op k_add (c_op k_mod (c_u k_int (c_opO k_ix (c_c rfl))) (c_c rfl)) (c_op k_mul (c_c rfl) (c_opO k_ix (c_c rfl)))) (c_c rfl))) (c_c rfl))) (c_c rfl))) (c_seq (c_set (c_op k_mod (c_u k_int (c_op k_div (c_opO k_ix (c_c rfl)) (c_c rfl))) (c_c rfl))) (c_seq (c_set (c_op k_mod (c_u k_int (c_op k_mul c_var (c_op k_add (c_op k_add (c_op k_div c_var (c_c rfl)) (c_c rfl)) c_var))) (c_c rfl))) (c_ret (c_op k_mod (c_u k_int (c_op k_div (c_op k_mod (c_u k_int (c_op k_mul c_var (c_op k_add (c_op k_div c_var (c_c rfl)) (c_c rfl)))) (c_c rfl)) (c_c rfl))) c_var)))))))
theorem l_k_draw : ∀ ws ds P, S_k_draw ws ds P → ds.length + 1 = 2 := by
  rintro ws ds P ⟨r, h, _⟩
  unfold F_k_draw at h
  split at h
  · rfl
  · cases h
theorem m_k_draw : ∀ l ws ds Q, S_k_draw ws ds Q → w_k_draw { nx := fun ρ => ∃ ws', ρ.at 0 = .bor l ws' ∧ Q ws' .none, rt := fun ρ d => ∃ ws', ρ.at 0 = .bor l ws' ∧ Q ws' d } (startW l ["_law_well_here", "_law_many", "_law_digit", "_law_number", "_law_more"] ws ds) := by
  rintro l ws ds Q ⟨r, h, k⟩
  unfold F_k_draw at h
  split at h
  · exact mW_of c_k_draw h k
  · cases h
/-- _law_one(_law_well_here, _law_some): slots 0 _law_well_here 1 _law_some -/
def w_k_one : WS :=
(wRet (wOp fIx (wVar 1) (wCallW S_k_draw 0 (wCons (wU fLen (wVar 1)) wNil))))

def q_k_one (ρ : Env) : Option Fl :=
(qRet (qOp gIx (qVar 1) (qCallW F_k_draw 0 (qCons (qU gLen (qVar 1)) qNil)))) ρ
def F_k_one : FW
  | ws, [a1] => retW (q_k_one (.own ws :: [.dat a1]))
  | _, _ => none
abbrev S_k_one : SpW := ofW F_k_one
theorem c_k_one {l : Addr} : cS (some l) w_k_one q_k_one := (c_ret (c_op k_ix c_var (c_callW fit_w (c_cons (c_u k_len c_var) c_nil))))
theorem l_k_one : ∀ ws ds P, S_k_one ws ds P → ds.length + 1 = 2 := by
  rintro ws ds P ⟨r, h, _⟩
  unfold F_k_one at h
  split at h
  · rfl
  · cases h
theorem m_k_one : ∀ l ws ds Q, S_k_one ws ds Q → w_k_one { nx := fun ρ => ∃ ws', ρ.at 0 = .bor l ws' ∧ Q ws' .none, rt := fun ρ d => ∃ ws', ρ.at 0 = .bor l ws' ∧ Q ws' d } (startW l ["_law_well_here", "_law_some"] ws ds) := by
  rintro l ws ds Q ⟨r, h, k⟩
  unfold F_k_one at h
  split at h
  · exact mW_of c_k_one h k
  · cases h
end Pm.Q
namespace Pm.Q
open PySem PySem.Spec PyProof.Rows L2 TL Pm
/-! ### draws: what they may come to -/
theorem len_ok {n m : Nat} (h : n ≤ m) : (n ≤ m) = True := eq_true h
theorem len_lt {n m : Nat} (h : n < m) : (n < m) = True := eq_true h
theorem g_mul_i {i j : Int} : gMul (.int i) (.int j) = if (-(2 ^ 64) < i ∧ i < 2 ^ 64) ∨ (-(2 ^ 64) < j ∧ j < 2 ^ 64) then some (.int (i * j)) else none := rfl
theorem cm_mod {m : Int} (h0 : 0 < m) (h1 : m < 2 ^ 62) (y z : Int) : ((-(2 ^ 64) < y % m ∧ y % m < 2 ^ 64) ∨ (-(2 ^ 64) < z ∧ z < 2 ^ 64)) = True := by
  refine eq_true (.inl ?_)
  have a := Int.emod_nonneg y (Int.ne_of_gt h0)
  have b := Int.emod_lt_of_pos y h0
  omega
theorem cm_l {c : Int} (h : -(2 ^ 64) < c ∧ c < 2 ^ 64) (z : Int) : ((-(2 ^ 64) < c ∧ c < 2 ^ 64) ∨ (-(2 ^ 64) < z ∧ z < 2 ^ 64)) = True := eq_true (.inl h)
theorem cm_r {c : Int} (h : -(2 ^ 64) < c ∧ c < 2 ^ 64) (z : Int) : ((-(2 ^ 64) < z ∧ z < 2 ^ 64) ∨ (-(2 ^ 64) < c ∧ c < 2 ^ 64)) = True := eq_true (.inr h)
def Wl (r ws : List PyData) : Prop := ∃ a b : Int, ws = .int a :: .int b :: r
theorem draw_ok {r ws : List PyData} (hw : Wl r ws) (n : Nat) (h0 : 0 < n) (h1 : n < 2 ^ 62) : ∃ ws' d, F_k_draw ws [.int (n : Int)] = some (ws', .int ((d : Nat) : Int)) ∧ Wl r ws' ∧ d < n := by
  obtain ⟨a, b, rfl⟩ := hw
  have k0 : (0 : Int) < (n : Int) := by omega
  have k1 : (n : Int) < 2 ^ 62 := by omega
  have c0 : (0 ≤ (18 : Int) ∧ (18 : Int) ≤ 1000000 ∧ (10 : Int).natAbs < 2 ^ 64) = True := eq_true (by decide)
  have c1 : (0 < (2147483629 : Int) ∧ (2147483629 : Int) < 2 ^ 62) = True := eq_true (by decide)
  have c2 : (0 < (1013 : Int) ∧ (1013 : Int) < 2 ^ 62) = True := eq_true (by decide)
  have c3 : (0 < (2003 : Int) ∧ (2003 : Int) < 2 ^ 62) = True := eq_true (by decide)
  have c4 : (0 < (5 : Int) ∧ (5 : Int) < 2 ^ 62) = True := eq_true (by decide)
  have d1 : (0 < (2147483629 : Int)) = True := eq_true (by decide)
  have d2 : (0 < (2147483647 : Int)) = True := eq_true (by decide)
  have d3 : (0 < (9973 : Int)) = True := eq_true (by decide)
  have d4 : (0 < (2147483587 : Int)) = True := eq_true (by decide)
  have d5 : (0 < (2147483563 : Int)) = True := eq_true (by decide)
  have d6 : (0 < (n : Int)) = True := eq_true k0
  have d7 : ((n : Int) < 2 ^ 62) = True := eq_true k1
  have fin : ∀ x y z : Int, ∃ ws' d, some ((PyData.int x :: .int y :: r, PyData.int (z % (n : Int))) : List PyData × PyData) = some (ws', .int ((d : Nat) : Int)) ∧ Wl r ws' ∧ d < n := fun x y z => by
    have e0 := Int.emod_nonneg z (Int.ne_of_gt k0)
    have e1 := Int.emod_lt_of_pos z k0
    refine ⟨_, (z % (n : Int)).toNat, ?_, ⟨x, y, rfl⟩, by omega⟩
    rw [Int.toNat_of_nonneg e0]
  unfold F_k_draw
  simp only [fxs, isN, isiD, gOwn, List.set_cons_zero, List.set_cons_succ, List.length_cons, List.length_nil, Option.map_some, Option.map_none, ↓reduceIte, Bool.false_eq_true, Bool.true_eq_false, Bool.false_xor, Bool.true_xor, Bool.not_true, Bool.not_false, decide_true, decide_false, Bool.not_eq_true', decide_eq_true_eq, decide_eq_false_iff_not, Nat.reduceAdd, Nat.reduceLeDiff, Nat.reduceLT, Int.reduceAdd, q_k_draw, atI_0, atI_1, ixN_0, ixN_1, g_mul_i, c0, c1, c2, c3, c4, d1, d2, d3, d4, d5, d6, d7, true_and, cm_l (c := 60013) (by decide), cm_r (c := 48271) (by decide), cm_mod (m := 2147483647) (by decide) (by decide), cm_mod (m := 2147483587) (by decide) (by decide)]
  split
  · exact fin (a / (n : Int)) b a
  · exact fin _ _ _
theorem draw_at {r ws : List PyData} (hw : Wl r ws) (m : Int) (n : Nat) (e : m = (n : Int)) (h0 : 0 < n) (h1 : n < 2 ^ 62) : ∃ ws' d, F_k_draw ws [.int m] = some (ws', .int ((d : Nat) : Int)) ∧ Wl r ws' ∧ d < n := by
  subst e; exact draw_ok hw n h0 h1
theorem one_ok {r ws : List PyData} (hw : Wl r ws) (xs : List PyData) (h0 : xs ≠ []) (h1 : xs.length < 1000000) : ∃ ws' d, F_k_one ws [.list xs] = some (ws', d) ∧ Wl r ws' ∧ d ∈ xs := by
  have hl : 0 < xs.length := List.length_pos_iff.mpr h0
  obtain ⟨ws', d, e, hw', hd⟩ := draw_ok hw xs.length hl (by omega)
  unfold F_k_one
  simp only [fxs, isN, isiD, gOwn, List.set_cons_zero, List.set_cons_succ, List.length_cons, List.length_nil, Option.map_some, Option.map_none, ↓reduceIte, Bool.false_eq_true, Bool.true_eq_false, Bool.false_xor, Bool.true_xor, Bool.not_true, Bool.not_false, decide_true, decide_false, Bool.not_eq_true', decide_eq_true_eq, decide_eq_false_iff_not, Nat.reduceAdd, Nat.reduceLeDiff, Nat.reduceLT, Int.reduceAdd, q_k_one, e]
  have hx : xs[d]? = some xs[d] := List.getElem?_eq_getElem hd
  rw [atI_get rfl hx]
  exact ⟨ws', _, rfl, hw', List.getElem_mem hd⟩
/-- each turn goes on and keeps I -/
theorem for_inv {G : FG} {p : FS} (I : Env → Prop) : ∀ (items : List PyData), (∀ d, d ∈ items → ∀ ρ, I ρ → ∃ ρ', bnd p (G d ρ) = some (.nx ρ') ∧ I ρ') → ∀ ρ, I ρ → ∃ ρ', forQ G p items ρ = some (.nx ρ') ∧ I ρ'
  | [], _, ρ, h => ⟨ρ, rfl, h⟩
  | d :: ds, turn, ρ, h => by
    obtain ⟨ρ1, h1, i1⟩ := turn d (List.mem_cons_self ..) ρ h
    obtain ⟨ρ2, h2, i2⟩ := for_inv I ds (fun d' hd => turn d' (List.mem_cons_of_mem _ hd)) ρ1 i1
    refine ⟨ρ2, ?_, i2⟩
    rw [forQ_cons]
    unfold bnd at h1 ⊢
    cases hg : G d ρ with
    | none => rw [hg] at h1; cases h1
    | some ρ0 =>
      rw [hg] at h1
      show bnd (kTurn2 G p ds) (p ρ0) = _
      replace h1 : p ρ0 = some (.nx ρ1) := h1
      rw [h1]; exact h2
/-- .. by the number of turns -/
theorem for_invN {G : FG} {p : FS} (I : Nat → Env → Prop) (N : Nat) : ∀ (items : List PyData) (n : Nat), n + items.length ≤ N → (∀ d, d ∈ items → ∀ n ρ, n < N → I n ρ → ∃ ρ', bnd p (G d ρ) = some (.nx ρ') ∧ I (n + 1) ρ') → ∀ ρ, I n ρ → ∃ ρ', forQ G p items ρ = some (.nx ρ') ∧ I (n + items.length) ρ'
  | [], n, _, _, ρ, h => ⟨ρ, rfl, h⟩
  | d :: ds, n, hN, turn, ρ, h => by
    rw [List.length_cons] at hN
    obtain ⟨ρ1, h1, i1⟩ := turn d (List.mem_cons_self ..) n ρ (by omega) h
    obtain ⟨ρ2, h2, i2⟩ := for_invN I N ds (n + 1) (by omega) (fun d' hd => turn d' (List.mem_cons_of_mem _ hd)) ρ1 i1
    refine ⟨ρ2, ?_, by rw [List.length_cons, show n + (ds.length + 1) = n + 1 + ds.length by omega]; exact i2⟩
    rw [forQ_cons]
    unfold bnd at h1 ⊢
    cases hg : G d ρ with
    | none => rw [hg] at h1; cases h1
    | some ρ0 =>
      rw [hg] at h1
      show bnd (kTurn2 G p ds) (p ρ0) = _
      replace h1 : p ρ0 = some (.nx ρ1) := h1
      rw [h1]; exact h2
end Pm.Q
namespace Pm.Q
open PySem PySem.Spec PyProof.Rows L2 TL Pm

/-- lines_of(text): slots 0 text 1 found -/
def w_lines_of : WS :=
(wSeq (wSet 1 (wM fSplit (wVar 0) (wCons (wC (.str (PySem.Str.ofString "\n"))) wNil)))
(wRet (wIte (wTst (wOp (fEq false) (wOp fIx (wVar 1) (wU fNeg (wC (.int 1)))) (wC (.str (PySem.Str.ofString ""))))) (wSl (wVar 1) wNo (wSo (wU fNeg (wC (.int 1))))) (wVar 1))))

def q_lines_of (ρ : Env) : Option Fl :=
(qSeq (qSet 1 (qM gSplit (qVar 0) (qCons (qC (.str (tx [10]))) qNil))) (qRet (qIte (qTst (qOp (gEq false) (qOp gIx (qVar 1) (qU gNeg (qC (.int 1)))) (qC (.str (tx []))))) (qSl (qVar 1) qNo (qSo (qU gNeg (qC (.int 1))))) (qVar 1)))) ρ
def F_lines_of : FP
  | [a0] => retOf (q_lines_of [.dat a0, .un])
  | _ => none
abbrev S_lines_of : SpD := ofP F_lines_of
theorem c_lines_of : cS none w_lines_of q_lines_of := (c_seq (c_set (c_m k_split c_var (c_cons (c_c (congrArg PyData.str (by decide +kernel))) c_nil))) (c_ret (c_ite (c_tst (c_op k_eq (c_op k_ix c_var (c_u k_neg (c_c rfl))) (c_c (congrArg PyData.str (by decide +kernel))))) (c_sl c_var c_no (c_so (c_u k_neg (c_c rfl)))) c_var)))
theorem l_lines_of : ∀ ds P, S_lines_of ds P → ds.length = 1 := by
  rintro ds P ⟨r, h, _⟩
  unfold F_lines_of at h
  split at h
  · rfl
  · cases h
theorem m_lines_of : ∀ ds Q, S_lines_of ds Q → w_lines_of { nx := fun _ => Q .none, rt := fun _ d => Q d } (startE ["text", "found"] ds) := by
  rintro ds Q ⟨r, h, k⟩
  unfold F_lines_of at h
  split at h
  · exact m_of c_lines_of h k
  · cases h
def w_first_wrong_b1 : WS :=
(wIf (wAnd (wTst (wOp (fIn true) (wVar 2) (wC (.str (PySem.Str.ofString " \t\n"))))) (wAnd (wTst (wOp (fIn true) (wVar 2) (wC (.str (PySem.Str.ofString "abcdefghijklmnopqrstuvwxyzABCDEFGHIJKLMNOPQRSTUVWXYZ"))))) (wAnd (wTst (wOp (fIn true) (wVar 2) (wC (.str (PySem.Str.ofString "0123456789"))))) (wTst (wOp (fIn true) (wVar 2) (wC (.str (PySem.Str.ofString "!\"#$&'()*+,-./:;<=>?\x40[\\]^_`{|}~"))))))))
(wRet (wVar 1))
wSkip)
/-- first_wrong(text): slots 0 text 1 at 2 sign -/
def w_first_wrong : WS :=
(wSeq (wFor (wEnum (wVar 0)) (gT 2 (gCons' (gN 1) (gCons' (gN 2) gNil'))) w_first_wrong_b1)
(wRet (wC (.none))))

def q_first_wrong_b1 (ρ : Env) : Option Fl :=
(qIf (qAnd (qTst (qOp (gIn true) (qVar 2) (qC (.str (tx [32, 9, 10]))))) (qAnd (qTst (qOp (gIn true) (qVar 2) (qC (.str (tx [97, 98, 99, 100, 101, 102, 103, 104, 105, 106, 107, 108, 109, 110, 111, 112, 113, 114, 115, 116, 117, 118, 119, 120, 121, 122, 65, 66, 67, 68, 69, 70, 71, 72, 73, 74, 75, 76, 77, 78, 79, 80, 81, 82, 83, 84, 85, 86, 87, 88, 89, 90]))))) (qAnd (qTst (qOp (gIn true) (qVar 2) (qC (.str (tx [48, 49, 50, 51, 52, 53, 54, 55, 56, 57]))))) (qTst (qOp (gIn true) (qVar 2) (qC (.str (tx [33, 34, 35, 36, 38, 39, 40, 41, 42, 43, 44, 45, 46, 47, 58, 59, 60, 61, 62, 63, 64, 91, 92, 93, 94, 95, 96, 123, 124, 125, 126])))))))) (qRet (qVar 1)) qSkip) ρ
def q_first_wrong (ρ : Env) : Option Fl :=
(qSeq (qFor (qEnum (qVar 0)) (qT 2 (qGCons (qN 1) (qGCons (qN 2) qGNil))) q_first_wrong_b1) (qRet (qC (.none)))) ρ
def F_first_wrong : FP
  | [a0] => retOf (q_first_wrong [.dat a0, .un, .un])
  | _ => none
abbrev S_first_wrong : SpD := ofP F_first_wrong
theorem c_first_wrong_b1 : cS none w_first_wrong_b1 q_first_wrong_b1 := (c_if (c_and (c_tst (c_op k_in c_var (c_c (congrArg PyData.str (by decide +kernel))))) (c_and (c_tst (c_op k_in c_var (c_c (congrArg PyData.str (by decide +kernel))))) (c_and (c_tst (c_op k_in c_var (c_c (congrArg PyData.str (by decide +kernel))))) (c_tst (c_op k_in c_var (c_c (congrArg PyData.str (by decide +kernel)))))))) (c_ret c_var) c_skip)
theorem c_first_wrong : cS none w_first_wrong q_first_wrong := (c_seq (c_for (c_enum c_var) (c_t (c_gcons c_n (c_gcons c_n c_gnil))) c_first_wrong_b1) (c_ret (c_c rfl)))
theorem l_first_wrong : ∀ ds P, S_first_wrong ds P → ds.length = 1 := by
  rintro ds P ⟨r, h, _⟩
  unfold F_first_wrong at h
  split at h
  · rfl
  · cases h
theorem m_first_wrong : ∀ ds Q, S_first_wrong ds Q → w_first_wrong { nx := fun _ => Q .none, rt := fun _ d => Q d } (startE ["text", "at", "sign"] ds) := by
  rintro ds Q ⟨r, h, k⟩
  unfold F_first_wrong at h
  split at h
  · exact m_of c_first_wrong h k
  · cases h
/-- check_source(text): slots 0 text 1 place -/
def w_check_source : WS :=
(wSeq (wIf (wNot (wTst (wIsi .str (wVar 0))))
wNever
wSkip)
(wSeq (wSet 1 (wCall S_first_wrong (wCons (wVar 0) wNil)))
(wIf (wTst (wOp (fIs true) (wVar 1) (wC (.none))))
wNever
wSkip)))

def q_check_source (ρ : Env) : Option Fl :=
(qSeq (qIf (qNot (qTst (qIsi .str (qVar 0)))) qNever qSkip) (qSeq (qSet 1 (qCall F_first_wrong (qCons (qVar 0) qNil))) (qIf (qTst (qOp (gIs true) (qVar 1) (qC (.none)))) qNever qSkip))) ρ
def F_check_source : FP
  | [a0] => retOf (q_check_source [.dat a0, .un])
  | _ => none
abbrev S_check_source : SpD := ofP F_check_source
theorem c_check_source : cS none w_check_source q_check_source := (c_seq (c_if (c_not (c_tst (c_isi c_var))) c_never c_skip) (c_seq (c_set (c_call fit_p (c_cons c_var c_nil))) (c_if (c_tst (c_op k_is c_var (c_c rfl))) c_never c_skip)))
theorem l_check_source : ∀ ds P, S_check_source ds P → ds.length = 1 := by
  rintro ds P ⟨r, h, _⟩
  unfold F_check_source at h
  split at h
  · rfl
  · cases h
theorem m_check_source : ∀ ds Q, S_check_source ds Q → w_check_source { nx := fun _ => Q .none, rt := fun _ d => Q d } (startE ["text", "place"] ds) := by
  rintro ds Q ⟨r, h, k⟩
  unfold F_check_source at h
  split at h
  · exact m_of c_check_source h k
  · cases h
/-- is_number(thing, most): slots 0 thing 1 most -/
def w_is_number : WS :=
(wRet (wAndV (wIsi .int (wVar 0)) (wAndV (wNotV (wIsi .bool (wVar 0))) (wChain fLe fLe (wC (.int 0)) (wVar 0) (wVar 1)))))

def q_is_number (ρ : Env) : Option Fl :=
(qRet (qAndV (qIsi .int (qVar 0)) (qAndV (qNotV (qIsi .bool (qVar 0))) (qChain gLe gLe (qC (.int 0)) (qVar 0) (qVar 1))))) ρ
def F_is_number : FP
  | [a0, a1] => retOf (q_is_number [.dat a0, .dat a1])
  | _ => none
abbrev S_is_number : SpD := ofP F_is_number
theorem c_is_number : cS none w_is_number q_is_number := (c_ret (c_andV (c_isi c_var) (c_andV (c_notV (c_isi c_var)) (c_chain k_le k_le (c_c rfl) c_var c_var))))
theorem l_is_number : ∀ ds P, S_is_number ds P → ds.length = 2 := by
  rintro ds P ⟨r, h, _⟩
  unfold F_is_number at h
  split at h
  · rfl
  · cases h
theorem m_is_number : ∀ ds Q, S_is_number ds Q → w_is_number { nx := fun _ => Q .none, rt := fun _ d => Q d } (startE ["thing", "most"] ds) := by
  rintro ds Q ⟨r, h, k⟩
  unfold F_is_number at h
  split at h
  · exact m_of c_is_number h k
  · cases h
/-- is_line(thing): slots 0 thing -/
def w_is_line : WS :=
(wRet (wAndV (wIsi .str (wVar 0)) (wAndV (wOp (fIn true) (wC (.str (PySem.Str.ofString "\n"))) (wVar 0)) (wOp (fIs false) (wCall S_first_wrong (wCons (wVar 0) wNil)) (wC (.none))))))

def q_is_line (ρ : Env) : Option Fl :=
(qRet (qAndV (qIsi .str (qVar 0)) (qAndV (qOp (gIn true) (qC (.str (tx [10]))) (qVar 0)) (qOp (gIs false) (qCall F_first_wrong (qCons (qVar 0) qNil)) (qC (.none)))))) ρ
def F_is_line : FP
  | [a0] => retOf (q_is_line [.dat a0])
  | _ => none
abbrev S_is_line : SpD := ofP F_is_line
theorem c_is_line : cS none w_is_line q_is_line := (c_ret (c_andV (c_isi c_var) (c_andV (c_op k_in (c_c (congrArg PyData.str (by decide +kernel))) c_var) (c_op k_is (c_call fit_p (c_cons c_var c_nil)) (c_c rfl)))))
theorem l_is_line : ∀ ds P, S_is_line ds P → ds.length = 1 := by
  rintro ds P ⟨r, h, _⟩
  unfold F_is_line at h
  split at h
  · rfl
  · cases h
theorem m_is_line : ∀ ds Q, S_is_line ds Q → w_is_line { nx := fun _ => Q .none, rt := fun _ d => Q d } (startE ["thing"] ds) := by
  rintro ds Q ⟨r, h, k⟩
  unfold F_is_line at h
  split at h
  · exact m_of c_is_line h k
  · cases h
def w_check_edit_e1 : WE :=
(wCall S_is_line (wCons (wVar 5) wNil))
/-- check_edit(lines, edit): slots 0 lines 1 edit 2 first 3 many 4 more 5 one -/
def w_check_edit : WS :=
(wSeq (wIf (wOr (wNot (wTst (wIsi .tuple (wVar 1)))) (wTst (wOp (fEq true) (wU fLen (wVar 1)) (wC (.int 3)))))
wNever
wSkip)
(wSeq (wAsg (wVar 1) (gT 3 (gCons' (gN 2) (gCons' (gN 3) (gCons' (gN 4) gNil')))))
(wSeq (wIf (wNot (wTst (wCall S_is_number (wCons (wVar 2) (wCons (wU fLen (wVar 0)) wNil)))))
wNever
wSkip)
(wSeq (wIf (wNot (wTst (wCall S_is_number (wCons (wVar 3) (wCons (wOp fSub (wU fLen (wVar 0)) (wVar 2)) wNil)))))
wNever
wSkip)
(wIf (wOr (wNot (wTst (wIsi2 .list .tuple (wVar 4)))) (wNot (wTst (wU (fBools fun bs => bs.all id) (wLc 5 (wSeqI (wVar 4)) wYes w_check_edit_e1)))))
wNever
wSkip)))))

def q_check_edit_e1 (ρ : Env) : Option (Env × PyData) :=
(qCall F_is_line (qCons (qVar 5) qNil)) ρ
def q_check_edit (ρ : Env) : Option Fl :=
(qSeq (qIf (qOr (qNot (qTst (qIsi .tuple (qVar 1)))) (qTst (qOp (gEq true) (qU gLen (qVar 1)) (qC (.int 3))))) qNever qSkip) (qSeq (qAsg (qVar 1) (qT 3 (qGCons (qN 2) (qGCons (qN 3) (qGCons (qN 4) qGNil))))) (qSeq (qIf (qNot (qTst (qCall F_is_number (qCons (qVar 2) (qCons (qU gLen (qVar 0)) qNil))))) qNever qSkip) (qSeq (qIf (qNot (qTst (qCall F_is_number (qCons (qVar 3) (qCons (qOp gSub (qU gLen (qVar 0)) (qVar 2)) qNil))))) qNever qSkip) (qIf (qOr (qNot (qTst (qIsi2 .list .tuple (qVar 4)))) (qNot (qTst (qU gAll (qLc 5 (qSeqI (qVar 4)) qYes q_check_edit_e1))))) qNever qSkip))))) ρ
def F_check_edit : FP
  | [a0, a1] => retOf (q_check_edit [.dat a0, .dat a1, .un, .un, .un, .un])
  | _ => none
abbrev S_check_edit : SpD := ofP F_check_edit
theorem c_check_edit_e1 : cE none w_check_edit_e1 q_check_edit_e1 := (c_call fit_p (c_cons c_var c_nil))
theorem c_check_edit : cS none w_check_edit q_check_edit := (c_seq (c_if (c_or (c_not (c_tst (c_isi c_var))) (c_tst (c_op k_eq (c_u k_len c_var) (c_c rfl)))) c_never c_skip) (c_seq (c_asg c_var (c_t (c_gcons c_n (c_gcons c_n (c_gcons c_n c_gnil))))) (c_seq (c_if (c_not (c_tst (c_call fit_p (c_cons c_var (c_cons (c_u k_len c_var) c_nil))))) c_never c_skip) (c_seq (c_if (c_not (c_tst (c_call fit_p (c_cons c_var (c_cons (c_op k_sub (c_u k_len c_var) c_var) c_nil))))) c_never c_skip) (c_if (c_or (c_not (c_tst (c_isi2 c_var))) (c_not (c_tst (c_u k_all (c_lc (c_seqI c_var) c_yes c_check_edit_e1))))) c_never c_skip)))))
theorem l_check_edit : ∀ ds P, S_check_edit ds P → ds.length = 2 := by
  rintro ds P ⟨r, h, _⟩
  unfold F_check_edit at h
  split at h
  · rfl
  · cases h
theorem m_check_edit : ∀ ds Q, S_check_edit ds Q → w_check_edit { nx := fun _ => Q .none, rt := fun _ d => Q d } (startE ["lines", "edit", "first", "many", "more", "one"] ds) := by
  rintro ds Q ⟨r, h, k⟩
  unfold F_check_edit at h
  split at h
  · exact m_of c_check_edit h k
  · cases h
/-- lines_of_both(text, edit): slots 0 text 1 edit 2 lines 3 first 4 many 5 more -/
def w_lines_of_both : WS :=
(wSeq (wDrop (wCall S_check_source (wCons (wVar 0) wNil)))
(wSeq (wSet 2 (wCall S_lines_of (wCons (wVar 0) wNil)))
(wSeq (wDrop (wCall S_check_edit (wCons (wVar 2) (wCons (wVar 1) wNil))))
(wSeq (wAsg (wVar 1) (gT 3 (gCons' (gN 3) (gCons' (gN 4) (gCons' (gN 5) gNil')))))
(wRet (wTup (wCons (wVar 2) (wCons (wOp fAdd (wOp fAdd (wSl (wVar 2) wNo (wSo (wVar 3))) (wU fList (wVar 5))) (wSl (wVar 2) (wSo (wOp fAdd (wVar 3) (wVar 4))) wNo)) wNil))))))))

def q_lines_of_both (ρ : Env) : Option Fl :=
(qSeq (qDrop (qCall F_check_source (qCons (qVar 0) qNil))) (qSeq (qSet 2 (qCall F_lines_of (qCons (qVar 0) qNil))) (qSeq (qDrop (qCall F_check_edit (qCons (qVar 2) (qCons (qVar 1) qNil)))) (qSeq (qAsg (qVar 1) (qT 3 (qGCons (qN 3) (qGCons (qN 4) (qGCons (qN 5) qGNil))))) (qRet (qTup (qCons (qVar 2) (qCons (qOp gAdd (qOp gAdd (qSl (qVar 2) qNo (qSo (qVar 3))) (qU gList (qVar 5))) (qSl (qVar 2) (qSo (qOp gAdd (qVar 3) (qVar 4))) qNo)) qNil)))))))) ρ
def F_lines_of_both : FP
  | [a0, a1] => retOf (q_lines_of_both [.dat a0, .dat a1, .un, .un, .un, .un])
  | _ => none
abbrev S_lines_of_both : SpD := ofP F_lines_of_both
theorem c_lines_of_both : cS none w_lines_of_both q_lines_of_both := (c_seq (c_drop (c_call fit_p (c_cons c_var c_nil))) (c_seq (c_set (c_call fit_p (c_cons c_var c_nil))) (c_seq (c_drop (c_call fit_p (c_cons c_var (c_cons c_var c_nil)))) (c_seq (c_asg c_var (c_t (c_gcons c_n (c_gcons c_n (c_gcons c_n c_gnil))))) (c_ret (c_tup (c_cons c_var (c_cons (c_op k_add (c_op k_add (c_sl c_var c_no (c_so c_var)) (c_u k_list c_var)) (c_sl c_var (c_so (c_op k_add c_var c_var)) c_no)) c_nil))))))))
theorem l_lines_of_both : ∀ ds P, S_lines_of_both ds P → ds.length = 2 := by
  rintro ds P ⟨r, h, _⟩
  unfold F_lines_of_both at h
  split at h
  · rfl
  · cases h
theorem m_lines_of_both : ∀ ds Q, S_lines_of_both ds Q → w_lines_of_both { nx := fun _ => Q .none, rt := fun _ d => Q d } (startE ["text", "edit", "lines", "first", "many", "more"] ds) := by
  rintro ds Q ⟨r, h, k⟩
  unfold F_lines_of_both at h
  split at h
  · exact m_of c_lines_of_both h k
  · cases h
def w_text_of_e1 : WE :=
(wOp fAdd (wVar 1) (wC (.str (PySem.Str.ofString "\n"))))
/-- text_of(lines): slots 0 lines 1 line -/
def w_text_of : WS :=
(wRet (wJoin (wC (.str (PySem.Str.ofString ""))) (wLc 1 (wSeqI (wVar 0)) wYes w_text_of_e1)))

def q_text_of_e1 (ρ : Env) : Option (Env × PyData) :=
(qOp gAdd (qVar 1) (qC (.str (tx [10])))) ρ
def q_text_of (ρ : Env) : Option Fl :=
(qRet (qJoin (qC (.str (tx []))) (qLc 1 (qSeqI (qVar 0)) qYes q_text_of_e1))) ρ
def F_text_of : FP
  | [a0] => retOf (q_text_of [.dat a0, .un])
  | _ => none
abbrev S_text_of : SpD := ofP F_text_of
theorem c_text_of_e1 : cE none w_text_of_e1 q_text_of_e1 := (c_op k_add c_var (c_c (congrArg PyData.str (by decide +kernel))))
theorem c_text_of : cS none w_text_of q_text_of := (c_ret (c_join (c_c (congrArg PyData.str (by decide +kernel))) (c_lc (c_seqI c_var) c_yes c_text_of_e1)))
theorem l_text_of : ∀ ds P, S_text_of ds P → ds.length = 1 := by
  rintro ds P ⟨r, h, _⟩
  unfold F_text_of at h
  split at h
  · rfl
  · cases h
theorem m_text_of : ∀ ds Q, S_text_of ds Q → w_text_of { nx := fun _ => Q .none, rt := fun _ d => Q d } (startE ["lines", "line"] ds) := by
  rintro ds Q ⟨r, h, k⟩
  unfold F_text_of at h
  split at h
  · exact m_of c_text_of h k
  · cases h
/-- edited(text, edit): slots 0 text 1 edit -/
def w_edited : WS :=
(wRet (wCall S_text_of (wCons (wOp fIx (wCall S_lines_of_both (wCons (wVar 0) (wCons (wVar 1) wNil))) (wC (.int 1))) wNil)))

def q_edited (ρ : Env) : Option Fl :=
(qRet (qCall F_text_of (qCons (qOp gIx (qCall F_lines_of_both (qCons (qVar 0) (qCons (qVar 1) qNil))) (qC (.int 1))) qNil))) ρ
def F_edited : FP
  | [a0, a1] => retOf (q_edited [.dat a0, .dat a1])
  | _ => none
abbrev S_edited : SpD := ofP F_edited
theorem c_edited : cS none w_edited q_edited := (c_ret (c_call fit_p (c_cons (c_op k_ix (c_call fit_p (c_cons c_var (c_cons c_var c_nil))) (c_c rfl)) c_nil)))
theorem l_edited : ∀ ds P, S_edited ds P → ds.length = 2 := by
  rintro ds P ⟨r, h, _⟩
  unfold F_edited at h
  split at h
  · rfl
  · cases h
theorem m_edited : ∀ ds Q, S_edited ds Q → w_edited { nx := fun _ => Q .none, rt := fun _ d => Q d } (startE ["text", "edit"] ds) := by
  rintro ds Q ⟨r, h, k⟩
  unfold F_edited at h
  split at h
  · exact m_of c_edited h k
  · cases h
/-- back(text, edit): slots 0 text 1 edit 2 lines 3 others 4 first 5 many 6 more -/
def w_back : WS :=
(wSeq (wAsg (wCall S_lines_of_both (wCons (wVar 0) (wCons (wVar 1) wNil))) (gT 2 (gCons' (gN 2) (gCons' (gN 3) gNil'))))
(wSeq (wAsg (wVar 1) (gT 3 (gCons' (gN 4) (gCons' (gN 5) (gCons' (gN 6) gNil')))))
(wRet (wTup (wCons (wVar 4) (wCons (wU fLen (wVar 6)) (wCons (wSl (wVar 2) (wSo (wVar 4)) (wSo (wOp fAdd (wVar 4) (wVar 5)))) wNil)))))))

def q_back (ρ : Env) : Option Fl :=
(qSeq (qAsg (qCall F_lines_of_both (qCons (qVar 0) (qCons (qVar 1) qNil))) (qT 2 (qGCons (qN 2) (qGCons (qN 3) qGNil)))) (qSeq (qAsg (qVar 1) (qT 3 (qGCons (qN 4) (qGCons (qN 5) (qGCons (qN 6) qGNil))))) (qRet (qTup (qCons (qVar 4) (qCons (qU gLen (qVar 6)) (qCons (qSl (qVar 2) (qSo (qVar 4)) (qSo (qOp gAdd (qVar 4) (qVar 5)))) qNil))))))) ρ
def F_back : FP
  | [a0, a1] => retOf (q_back [.dat a0, .dat a1, .un, .un, .un, .un, .un])
  | _ => none
abbrev S_back : SpD := ofP F_back
theorem c_back : cS none w_back q_back := (c_seq (c_asg (c_call fit_p (c_cons c_var (c_cons c_var c_nil))) (c_t (c_gcons c_n (c_gcons c_n c_gnil)))) (c_seq (c_asg c_var (c_t (c_gcons c_n (c_gcons c_n (c_gcons c_n c_gnil))))) (c_ret (c_tup (c_cons c_var (c_cons (c_u k_len c_var) (c_cons (c_sl c_var (c_so c_var) (c_so (c_op k_add c_var c_var))) c_nil)))))))
theorem l_back : ∀ ds P, S_back ds P → ds.length = 2 := by
  rintro ds P ⟨r, h, _⟩
  unfold F_back at h
  split at h
  · rfl
  · cases h
theorem m_back : ∀ ds Q, S_back ds Q → w_back { nx := fun _ => Q .none, rt := fun _ d => Q d } (startE ["text", "edit", "lines", "others", "first", "many", "more"] ds) := by
  rintro ds Q ⟨r, h, k⟩
  unfold F_back at h
  split at h
  · exact m_of c_back h k
  · cases h
def w_same_lines_t1 : WT :=
(wAnd (wTst (wOp fLt (wVar 2) (wOp fMin2 (wU fLen (wVar 0)) (wU fLen (wVar 1))))) (wTst (wOp (fEq false) (wOp fIx (wVar 0) (wVar 2)) (wOp fIx (wVar 1) (wVar 2)))))
def w_same_lines_b2 : WS :=
(wSet 2 (wOp fAdd (wVar 2) (wC (.int 1))))
/-- same_lines(one, other): slots 0 one 1 other 2 many -/
def w_same_lines : WS :=
(wSeq (wSet 2 (wC (.int 0)))
(wSeq (wWhile w_same_lines_t1 w_same_lines_b2)
(wRet (wVar 2))))

def q_same_lines_t1 (ρ : Env) : Option (Env × Bool) :=
(qAnd (qTst (qOp gLt (qVar 2) (qOp gMin2 (qU gLen (qVar 0)) (qU gLen (qVar 1))))) (qTst (qOp (gEq false) (qOp gIx (qVar 0) (qVar 2)) (qOp gIx (qVar 1) (qVar 2))))) ρ
def q_same_lines_b2 (ρ : Env) : Option Fl :=
(qSet 2 (qOp gAdd (qVar 2) (qC (.int 1)))) ρ
def q_same_lines (ρ : Env) : Option Fl :=
(qSeq (qSet 2 (qC (.int 0))) (qSeq (qWhile q_same_lines_t1 q_same_lines_b2) (qRet (qVar 2)))) ρ
def F_same_lines : FP
  | [a0, a1] => retOf (q_same_lines [.dat a0, .dat a1, .un])
  | _ => none
abbrev S_same_lines : SpD := ofP F_same_lines
theorem c_same_lines_t1 : cT none w_same_lines_t1 q_same_lines_t1 := (c_and (c_tst (c_op k_lt c_var (c_op k_min2 (c_u k_len c_var) (c_u k_len c_var)))) (c_tst (c_op k_eq (c_op k_ix c_var c_var) (c_op k_ix c_var c_var))))
theorem c_same_lines_b2 : cS none w_same_lines_b2 q_same_lines_b2 := (c_set (c_op k_add c_var (c_c rfl)))
theorem c_same_lines : cS none w_same_lines q_same_lines := (c_seq (c_set (c_c rfl)) (c_seq (c_while c_same_lines_t1 c_same_lines_b2) (c_ret c_var)))
theorem l_same_lines : ∀ ds P, S_same_lines ds P → ds.length = 2 := by
  rintro ds P ⟨r, h, _⟩
  unfold F_same_lines at h
  split at h
  · rfl
  · cases h
theorem m_same_lines : ∀ ds Q, S_same_lines ds Q → w_same_lines { nx := fun _ => Q .none, rt := fun _ d => Q d } (startE ["one", "other", "many"] ds) := by
  rintro ds Q ⟨r, h, k⟩
  unfold F_same_lines at h
  split at h
  · exact m_of c_same_lines h k
  · cases h
/-- least_of(lines, others): slots 0 lines 1 others 2 first 3 one 4 other 5 tail -/
def w_least_of : WS :=
(wSeq (wSet 2 (wCall S_same_lines (wCons (wVar 0) (wCons (wVar 1) wNil))))
(wSeq (wPar 3 4 (wCons (wSl (wVar 0) (wSo (wVar 2)) wNo) (wCons (wSl (wVar 1) (wSo (wVar 2)) wNo) wNil)))
(wSeq (wSet 5 (wCall S_same_lines (wCons (wU fRev (wVar 3)) (wCons (wU fRev (wVar 4)) wNil))))
(wRet (wTup (wCons (wVar 2) (wCons (wOp fSub (wU fLen (wVar 3)) (wVar 5)) (wCons (wSl (wVar 4) wNo (wSo (wOp fSub (wU fLen (wVar 4)) (wVar 5)))) wNil))))))))

def q_least_of (ρ : Env) : Option Fl :=
(qSeq (qSet 2 (qCall F_same_lines (qCons (qVar 0) (qCons (qVar 1) qNil)))) (qSeq (qPar 3 4 (qCons (qSl (qVar 0) (qSo (qVar 2)) qNo) (qCons (qSl (qVar 1) (qSo (qVar 2)) qNo) qNil))) (qSeq (qSet 5 (qCall F_same_lines (qCons (qU gRev (qVar 3)) (qCons (qU gRev (qVar 4)) qNil)))) (qRet (qTup (qCons (qVar 2) (qCons (qOp gSub (qU gLen (qVar 3)) (qVar 5)) (qCons (qSl (qVar 4) qNo (qSo (qOp gSub (qU gLen (qVar 4)) (qVar 5)))) qNil)))))))) ρ
def F_least_of : FP
  | [a0, a1] => retOf (q_least_of [.dat a0, .dat a1, .un, .un, .un, .un])
  | _ => none
abbrev S_least_of : SpD := ofP F_least_of
theorem c_least_of : cS none w_least_of q_least_of := (c_seq (c_set (c_call fit_p (c_cons c_var (c_cons c_var c_nil)))) (c_seq (c_par (c_cons (c_sl c_var (c_so c_var) c_no) (c_cons (c_sl c_var (c_so c_var) c_no) c_nil))) (c_seq (c_set (c_call fit_p (c_cons (c_u k_rev c_var) (c_cons (c_u k_rev c_var) c_nil)))) (c_ret (c_tup (c_cons c_var (c_cons (c_op k_sub (c_u k_len c_var) c_var) (c_cons (c_sl c_var c_no (c_so (c_op k_sub (c_u k_len c_var) c_var))) c_nil))))))))
theorem l_least_of : ∀ ds P, S_least_of ds P → ds.length = 2 := by
  rintro ds P ⟨r, h, _⟩
  unfold F_least_of at h
  split at h
  · rfl
  · cases h
theorem m_least_of : ∀ ds Q, S_least_of ds Q → w_least_of { nx := fun _ => Q .none, rt := fun _ d => Q d } (startE ["lines", "others", "first", "one", "other", "tail"] ds) := by
  rintro ds Q ⟨r, h, k⟩
  unfold F_least_of at h
  split at h
  · exact m_of c_least_of h k
  · cases h
/-- least_edit(text, other): slots 0 text 1 other -/
def w_least_edit : WS :=
(wSeq (wDrop (wCall S_check_source (wCons (wVar 0) wNil)))
(wSeq (wDrop (wCall S_check_source (wCons (wVar 1) wNil)))
(wRet (wCall S_least_of (wCons (wCall S_lines_of (wCons (wVar 0) wNil)) (wCons (wCall S_lines_of (wCons (wVar 1) wNil)) wNil))))))

def q_least_edit (ρ : Env) : Option Fl :=
(qSeq (qDrop (qCall F_check_source (qCons (qVar 0) qNil))) (qSeq (qDrop (qCall F_check_source (qCons (qVar 1) qNil))) (qRet (qCall F_least_of (qCons (qCall F_lines_of (qCons (qVar 0) qNil)) (qCons (qCall F_lines_of (qCons (qVar 1) qNil)) qNil)))))) ρ
def F_least_edit : FP
  | [a0, a1] => retOf (q_least_edit [.dat a0, .dat a1])
  | _ => none
abbrev S_least_edit : SpD := ofP F_least_edit
theorem c_least_edit : cS none w_least_edit q_least_edit := (c_seq (c_drop (c_call fit_p (c_cons c_var c_nil))) (c_seq (c_drop (c_call fit_p (c_cons c_var c_nil))) (c_ret (c_call fit_p (c_cons (c_call fit_p (c_cons c_var c_nil)) (c_cons (c_call fit_p (c_cons c_var c_nil)) c_nil))))))
theorem l_least_edit : ∀ ds P, S_least_edit ds P → ds.length = 2 := by
  rintro ds P ⟨r, h, _⟩
  unfold F_least_edit at h
  split at h
  · rfl
  · cases h
theorem m_least_edit : ∀ ds Q, S_least_edit ds Q → w_least_edit { nx := fun _ => Q .none, rt := fun _ d => Q d } (startE ["text", "other"] ds) := by
  rintro ds Q ⟨r, h, k⟩
  unfold F_least_edit at h
  split at h
  · exact m_of c_least_edit h k
  · cases h
/-- _law_jar(_law_cell): slots 0 _law_cell -/
def w_j_jar : WA :=
(wCons (wOp fMul (wVar 0) (wU fInt (wOp fGe (wVar 0) (wOp fPow (wC (.int 10)) (wC (.int 18)))))) (wCons (wOp fMod (wU fInt (wVar 0)) (wC (.int 2147483587))) (wCons (wC (.int 0)) wNil)))

def q_j_jar (ρ : Env) : Option (Env × List PyData) :=
(qCons (qOp gMul (qVar 0) (qU gInt (qOp gGe (qVar 0) (qOp gPow (qC (.int 10)) (qC (.int 18)))))) (qCons (qOp gMod (qU gInt (qVar 0)) (qC (.int 2147483587))) (qCons (qC (.int 0)) qNil))) ρ
def F_j_jar : FN
  | [a0] => (q_j_jar [.dat a0]).bind fun r => if r.2.length ≤ 16777216 then some r.2 else none
  | _ => none
abbrev S_j_jar : SpF := ofN F_j_jar
theorem c_j_jar : cA none w_j_jar q_j_jar := (c_cons (c_op k_mul c_var (c_u k_int (c_op k_ge c_var (c_op k_pow (c_c rfl) (c_c rfl))))) (c_cons (c_op k_mod (c_u k_int c_var) (c_c rfl)) (c_cons (c_c rfl) c_nil)))
theorem l_j_jar : ∀ ds P, S_j_jar ds P → ds.length = 1 := by
  rintro ds P ⟨es, h, _⟩
  unfold F_j_jar at h
  split at h
  · rfl
  · cases h
theorem m_j_jar : ∀ ds Q, S_j_jar ds Q → w_j_jar (startE ["_law_cell"] ds) fun ρ es => es.length ≤ sizeLine ∧ Q es := by
  rintro ds Q ⟨es, h, k⟩
  unfold F_j_jar at h
  split at h
  · simp only [Option.bind_eq_some_iff] at h
    obtain ⟨r, h1, h2⟩ := h
    obtain ⟨hl, rfl⟩ := of_if h2
    exact c_j_jar _ r h1 _ ⟨by rw [sizeLine_eq]; exact hl, k⟩
  · cases h
/-- _law_dip(_law_jar_here, _law_many): slots 0 _law_jar_here 1 _law_many 2 _law_digit 3 _law_mixed -/
def w_j_dip : WS :=
(wSeq (wIf (wTst (wOp fGt (wOpO fIx 0 (wC (.int 0))) (wC (.int 0))))
(wSeq (wSet 2 (wOp fMod (wU fInt (wOpO fIx 0 (wC (.int 0)))) (wVar 1)))
(wSeq (wPut 0 (wOp fDiv (wOpO fIx 0 (wC (.int 0))) (wVar 1)) (wC (.int 0)))
(wRet (wVar 2))))
wSkip)
(wSeq (wPut 0 (wOp fAdd (wOpO fIx 0 (wC (.int 2))) (wC (.int 1))) (wC (.int 2)))
(wSeq (wSet 3 (wOp fMod (wU fInt (wOp fMul (wOp fAdd (wOp fAdd (wOpO fIx 0 (wC (.int 1))) (wOp fMul (wC (.int 70003)) (wOpO fIx 0 (wC (.int 2))))) (wC (.int 13))) (wC (.int 48271)))) (wC (.int 2147483647))))
(wSeq (wSet 3 (wOp fMod (wU fInt (wOp fAdd (wOp fMul (wVar 3) (wOp fAdd (wOp fDiv (wVar 3) (wC (.int 1021))) (wC (.int 69621)))) (wOpO fIx 0 (wC (.int 2))))) (wC (.int 2147483629))))
(wRet (wOp fMod (wU fInt (wOp fDiv (wOp fMod (wU fInt (wOp fMul (wVar 3) (wOp fAdd (wOp fDiv (wVar 3) (wC (.int 2011))) (wC (.int 40692))))) (wC (.int 2147483549))) (wC (.int 3)))) (wVar 1)))))))

def q_j_dip (ρ : Env) : Option Fl :=
(qSeq (qIf (qTst (qOp gGt (qOpO gIx 0 (qC (.int 0))) (qC (.int 0)))) (qSeq (qSet 2 (qOp gMod (qU gInt (qOpO gIx 0 (qC (.int 0)))) (qVar 1))) (qSeq (qPut 0 (qOp gDiv (qOpO gIx 0 (qC (.int 0))) (qVar 1)) (qC (.int 0))) (qRet (qVar 2)))) qSkip) (qSeq (qPut 0 (qOp gAdd (qOpO gIx 0 (qC (.int 2))) (qC (.int 1))) (qC (.int 2))) (qSeq (qSet 3 (qOp gMod (qU gInt (qOp gMul (qOp gAdd (qOp gAdd (qOpO gIx 0 (qC (.int 1))) (qOp gMul (qC (.int 70003)) (qOpO gIx 0 (qC (.int 2))))) (qC (.int 13))) (qC (.int 48271)))) (qC (.int 2147483647)))) (qSeq (qSet 3 (qOp gMod (qU gInt (qOp gAdd (qOp gMul (qVar 3) (qOp gAdd (qOp gDiv (qVar 3) (qC (.int 1021))) (qC (.int 69621)))) (qOpO gIx 0 (qC (.int 2))))) (qC (.int 2147483629)))) (qRet (qOp gMod (qU gInt (qOp gDiv (qOp gMod (qU gInt (qOp gMul (qVar 3) (qOp gAdd (qOp gDiv (qVar 3) (qC (.int 2011))) (qC (.int 40692))))) (qC (.int 2147483549))) (qC (.int 3)))) (qVar 1))))))) ρ
def F_j_dip : FW
  | ws, [a1] => retW (q_j_dip (.own ws :: [.dat a1, .un, .un]))
  | _, _ => none
abbrev S_j_dip : SpW := ofW F_j_dip
theorem c_j_dip {l : Addr} : cS (some l) w_j_dip q_j_dip := (c_seq (c_if (c_tst (c_op k_gt (c_opO k_ix (c_c rfl)) (c_c rfl))) (c_seq (c_set (c_op k_mod (c_u k_int (c_opO k_ix (c_c rfl))) c_var)) (c_seq (c_put (c_op k_div (c_opO k_ix (c_c rfl)) c_var) (c_c rfl)) (c_ret c_var))) c_skip) (c_seq (c_put (c_op k_add (c_opO k_ix (c_c rfl)) (c_c rfl)) (c_c rfl)) (c_seq (c_set (c_op k_mod (c_u k_int (c_op k_mul (c_op k_add (c_op k_add (c_opO k_ix (c_c rfl)) (c_op k_mul (c_c rfl) (c_opO k_ix (c_c rfl)))) (c_c rfl)) (c_c rfl))) (c_c rfl))) (c_seq (c_set (c_op k_mod (c_u k_int (c_op k_add (c_op k_mul c_var (c_op k_add (c_op k_div c_var (c_c rfl)) (c_c rfl))) (c_opO k_ix (c_c rfl)))) (c_c rfl))) (c_ret (c_op k_mod (c_u k_int (c_op k_div (c_op k_mod (c_u k_int (c_op k_mul c_var (c_op k_add (c_op k_div c_var (c_c rfl)) (c_c rfl)))) (c_c rfl)) (c_c rfl))) c_var))))))
theorem l_j_dip : ∀ ws ds P, S_j_dip ws ds P → ds.length + 1 = 2 := by
  rintro ws ds P ⟨r, h, _⟩
  unfold F_j_dip at h
  split at h
  · rfl
  · cases h
theorem m_j_dip : ∀ l ws ds Q, S_j_dip ws ds Q → w_j_dip { nx := fun ρ => ∃ ws', ρ.at 0 = .bor l ws' ∧ Q ws' .none, rt := fun ρ d => ∃ ws', ρ.at 0 = .bor l ws' ∧ Q ws' d } (startW l ["_law_jar_here", "_law_many", "_law_digit", "_law_mixed"] ws ds) := by
  rintro l ws ds Q ⟨r, h, k⟩
  unfold F_j_dip at h
  split at h
  · exact mW_of c_j_dip h k
  · cases h
/-- _law_one(_law_jar_here, _law_some): slots 0 _law_jar_here 1 _law_some -/
def w_j_one : WS :=
(wRet (wOp fIx (wVar 1) (wCallW S_j_dip 0 (wCons (wU fLen (wVar 1)) wNil))))

def q_j_one (ρ : Env) : Option Fl :=
(qRet (qOp gIx (qVar 1) (qCallW F_j_dip 0 (qCons (qU gLen (qVar 1)) qNil)))) ρ
def F_j_one : FW
  | ws, [a1] => retW (q_j_one (.own ws :: [.dat a1]))
  | _, _ => none
abbrev S_j_one : SpW := ofW F_j_one
theorem c_j_one {l : Addr} : cS (some l) w_j_one q_j_one := (c_ret (c_op k_ix c_var (c_callW fit_w (c_cons (c_u k_len c_var) c_nil))))
theorem l_j_one : ∀ ws ds P, S_j_one ws ds P → ds.length + 1 = 2 := by
  rintro ws ds P ⟨r, h, _⟩
  unfold F_j_one at h
  split at h
  · rfl
  · cases h
theorem m_j_one : ∀ l ws ds Q, S_j_one ws ds Q → w_j_one { nx := fun ρ => ∃ ws', ρ.at 0 = .bor l ws' ∧ Q ws' .none, rt := fun ρ d => ∃ ws', ρ.at 0 = .bor l ws' ∧ Q ws' d } (startW l ["_law_jar_here", "_law_some"] ws ds) := by
  rintro l ws ds Q ⟨r, h, k⟩
  unfold F_j_one at h
  split at h
  · exact mW_of c_j_one h k
  · cases h
/-- _law_line(_law_jar_here): slots 0 _law_jar_here 1 _law_heads 2 _law_some -/
def w_j_line : WS :=
(wSeq (wSet 1 (wLst (wCons (wC (.str (PySem.Str.ofString ""))) (wCons (wC (.str (PySem.Str.ofString ""))) (wCons (wC (.str (PySem.Str.ofString ""))) (wCons (wC (.str (PySem.Str.ofString "> "))) (wCons (wC (.str (PySem.Str.ofString ">"))) (wCons (wC (.str (PySem.Str.ofString "- "))) (wCons (wC (.str (PySem.Str.ofString "* "))) (wCons (wC (.str (PySem.Str.ofString "+ "))) (wCons (wC (.str (PySem.Str.ofString "1. "))) (wCons (wC (.str (PySem.Str.ofString "2) "))) (wCons (wC (.str (PySem.Str.ofString "10. "))) (wCons (wC (.str (PySem.Str.ofString "  "))) (wCons (wC (.str (PySem.Str.ofString "   "))) (wCons (wC (.str (PySem.Str.ofString "    "))) (wCons (wC (.str (PySem.Str.ofString "\t"))) (wCons (wC (.str (PySem.Str.ofString "- > "))) (wCons (wC (.str (PySem.Str.ofString "> - "))) wNil)))))))))))))))))))
(wSeq (wSet 2 (wLst (wCons (wC (.str (PySem.Str.ofString ""))) (wCons (wC (.str (PySem.Str.ofString ""))) (wCons (wC (.str (PySem.Str.ofString "a"))) (wCons (wC (.str (PySem.Str.ofString "b c"))) (wCons (wC (.str (PySem.Str.ofString "d"))) (wCons (wC (.str (PySem.Str.ofString "# e"))) (wCons (wC (.str (PySem.Str.ofString "#"))) (wCons (wC (.str (PySem.Str.ofString "## f ##"))) (wCons (wC (.str (PySem.Str.ofString "==="))) (wCons (wC (.str (PySem.Str.ofString "---"))) (wCons (wC (.str (PySem.Str.ofString "***"))) (wCons (wC (.str (PySem.Str.ofString "--"))) (wCons (wC (.str (PySem.Str.ofString "```"))) (wCons (wC (.str (PySem.Str.ofString "~~~~ g"))) (wCons (wC (.str (PySem.Str.ofString "````"))) wNil)))))))))))))))))
(wSeq (wSet 2 (wOp fAdd (wVar 2) (wLst (wCons (wC (.str (PySem.Str.ofString "[h]: /i"))) (wCons (wC (.str (PySem.Str.ofString "[h]: /j 'k'"))) (wCons (wC (.str (PySem.Str.ofString "[l"))) (wCons (wC (.str (PySem.Str.ofString "]: <m>"))) (wCons (wC (.str (PySem.Str.ofString "'n'"))) (wCons (wC (.str (PySem.Str.ofString "(o"))) (wCons (wC (.str (PySem.Str.ofString "<div>"))) (wCons (wC (.str (PySem.Str.ofString "</div>"))) (wCons (wC (.str (PySem.Str.ofString "<!-- p"))) (wCons (wC (.str (PySem.Str.ofString "q -->"))) (wCons (wC (.str (PySem.Str.ofString "<b>"))) wNil))))))))))))))
(wSeq (wSet 2 (wOp fAdd (wVar 2) (wLst (wCons (wC (.str (PySem.Str.ofString "<b c='d'>"))) (wCons (wC (.str (PySem.Str.ofString "<pre>"))) (wCons (wC (.str (PySem.Str.ofString "r</pre>"))) (wCons (wC (.str (PySem.Str.ofString "-"))) (wCons (wC (.str (PySem.Str.ofString "1."))) (wCons (wC (.str (PySem.Str.ofString "s  "))) (wCons (wC (.str (PySem.Str.ofString "t\\"))) (wCons (wC (.str (PySem.Str.ofString "[h]"))) (wCons (wC (.str (PySem.Str.ofString "<?u"))) (wCons (wC (.str (PySem.Str.ofString "v?>"))) (wCons (wC (.str (PySem.Str.ofString "="))) (wCons (wC (.str (PySem.Str.ofString "2. w"))) (wCons (wC (.str (PySem.Str.ofString "  x"))) wNil))))))))))))))))
(wRet (wOp fAdd (wOp fAdd (wCallW S_j_one 0 (wCons (wVar 1) wNil)) (wCallW S_j_one 0 (wCons (wVar 1) wNil))) (wCallW S_j_one 0 (wCons (wVar 2) wNil))))))))

def q_j_line (ρ : Env) : Option Fl :=
(qSeq (qSet 1 (qLst (qCons (qC (.str (tx []))) (qCons (qC (.str (tx []))) (qCons (qC (.str (tx []))) (qCons (qC (.str (tx [62, 32]))) (qCons (qC (.str (tx [62]))) (qCons (qC (.str (tx [45, 32]))) (qCons (qC (.str (tx [42, 32]))) (qCons (qC (.str (tx [43, 32]))) (qCons (qC (.str (tx [49, 46, 32]))) (qCons (qC (.str (tx [50, 41, 32]))) (qCons (qC (.str (tx [49, 48, 46, 32]))) (qCons (qC (.str (tx [32, 32]))) (qCons (qC (.str (tx [32, 32, 32]))) (qCons (qC (.str (tx [32, 32, 32, 32]))) (qCons (qC (.str (tx [9]))) (qCons (qC (.str (tx [45, 32, 62, 32]))) (qCons (qC (.str (tx [62, 32, 45, 32]))) qNil))))))))))))))))))) (qSeq (qSet 2 (qLst (qCons (qC (.str (tx []))) (qCons (qC (.str (tx []))) (qCons (qC (.str (tx [97]))) (qCons (qC (.str (tx [98, 32, 99]))) (qCons (qC (.str (tx [100]))) (qCons (qC (.str (tx [35, 32, 101]))) (qCons (qC (.str (tx [35]))) (qCons (qC (.str (tx [35, 35, 32, 102, 32, 35, 35]))) (qCons (qC (.str (tx [61, 61, 61]))) (qCons (qC (.str (tx [45, 45, 45]))) (qCons (qC (.str (tx [42, 42, 42]))) (qCons (qC (.str (tx [45, 45]))) (qCons (qC (.str (tx [96, 96, 96]))) (qCons (qC (.str (tx [126, 126, 126, 126, 32, 103]))) (qCons (qC (.str (tx [96, 96, 96, 96]))) qNil))))))))))))))))) (qSeq (qSet 2 (qOp gAdd (qVar 2) (qLst (qCons (qC (.str (tx [91, 104, 93, 58, 32, 47, 105]))) (qCons (qC (.str (tx [91, 104, 93, 58, 32, 47, 106, 32, 39, 107, 39]))) (qCons (qC (.str (tx [91, 108]))) (qCons (qC (.str (tx [93, 58, 32, 60, 109, 62]))) (qCons (qC (.str (tx [39, 110, 39]))) (qCons (qC (.str (tx [40, 111]))) (qCons (qC (.str (tx [60, 100, 105, 118, 62]))) (qCons (qC (.str (tx [60, 47, 100, 105, 118, 62]))) (qCons (qC (.str (tx [60, 33, 45, 45, 32, 112]))) (qCons (qC (.str (tx [113, 32, 45, 45, 62]))) (qCons (qC (.str (tx [60, 98, 62]))) qNil)))))))))))))) (qSeq (qSet 2 (qOp gAdd (qVar 2) (qLst (qCons (qC (.str (tx [60, 98, 32, 99, 61, 39, 100, 39, 62]))) (qCons (qC (.str (tx [60, 112, 114, 101, 62]))) (qCons (qC (.str (tx [114, 60, 47, 112, 114, 101, 62]))) (qCons (qC (.str (tx [45]))) (qCons (qC (.str (tx [49, 46]))) (qCons (qC (.str (tx [115, 32, 32]))) (qCons (qC (.str (tx [116, 92]))) (qCons (qC (.str (tx [91, 104, 93]))) (qCons (qC (.str (tx [60, 63, 117]))) (qCons (qC (.str (tx [118, 63, 62]))) (qCons (qC (.str (tx [61]))) (qCons (qC (.str (tx [50, 46, 32, 119]))) (qCons (qC (.str (tx [32, 32, 120]))) qNil)))))))))))))))) (qRet (qOp gAdd (qOp gAdd (qCallW F_j_one 0 (qCons (qVar 1) qNil)) (qCallW F_j_one 0 (qCons (qVar 1) qNil))) (qCallW F_j_one 0 (qCons (qVar 2) qNil)))))))) ρ
def F_j_line : FW
  | ws, [] => retW (q_j_line (.own ws :: [.un, .un]))
  | _, _ => none
abbrev S_j_line : SpW := ofW F_j_line
theorem c_j_line {l : Addr} : cS (some l) w_j_line q_j_line := (c_seq (c_set (c_lst (c_cons (c_c (congrArg PyData.str (by decide +kernel))) (c_cons (c_c (congrArg PyData.str (by decide +kernel))) (c_cons (c_c (congrArg PyData.str (by decide +kernel))) (c_cons (c_c (congrArg PyData.str (by decide +kernel))) (c_cons (c_c (congrArg PyData.str (by decide +kernel))) (c_cons (c_c (congrArg PyData.str (by decide +kernel))) (c_cons (c_c (congrArg PyData.str (by decide +kernel))) (c_cons (c_c (congrArg PyData.str (by decide +kernel))) (c_cons (c_c (congrArg PyData.str (by decide +kernel))) (c_cons (c_c (congrArg PyData.str (by decide +kernel))) (c_cons (c_c (congrArg PyData.str (by decide +kernel))) (c_cons (c_c (congrArg PyData.str (by decide +kernel))) (c_cons (c_c (congrArg PyData.str (by decide +kernel))) (c_cons (c_c (congrArg PyData.str (by decide +kernel))) (c_cons (c_c (congrArg PyData.str (by decide +kernel))) (c_cons (c_c (congrArg PyData.str (by decide +kernel))) (c_cons (c_c (congrArg PyData.str (by decide +kernel))) c_nil))))))))))))))))))) (c_seq (c_set (c_lst (c_cons (c_c (congrArg PyData.str (by decide +kernel))) (c_cons (c_c (congrArg PyData.str (by decide +kernel))) (c_cons (c_c (congrArg PyData.str (by decide +kernel))) (c_cons (c_c (congrArg PyData.str (by decide +kernel))) (c_cons (c_c (congrArg PyData.str (by decide +kernel))) (c_cons (c_c (congrArg PyData.str (by decide +kernel))) (c_cons (c_c (congrArg PyData.str (by decide +kernel))) (c_cons (c_c (congrArg PyData.str (by decide +kernel))) (c_cons (c_c (congrArg PyData.str (by decide +kernel))) (c_cons (c_c (congrArg PyData.str (by decide +kernel))) (c_cons (c_c (congrArg PyData.str (by decide +kernel))) (c_cons (c_c (congrArg PyData.str (by decide +kernel))) (c_cons (c_c (congrArg PyData.str (by decide +kernel))) (c_cons (c_c (congrArg PyData.str (by decide +kernel))) (c_cons (c_c (congrArg PyData.str (by decide +kernel))) c_nil))))))))))))))))) (c_seq (c_set (c_op k_add c_var (c_lst (c_cons (c_c (congrArg PyData.str (by decide +kernel))) (c_cons (c_c (congrArg PyData.str (by decide +kernel))) (c_cons (c_c (congrArg PyData.str (by decide +kernel))) (c_cons (c_c (congrArg PyData.str (by decide +kernel))) (c_cons (c_c (congrArg PyData.str (by decide +kernel))) (c_cons (c_c (congrArg PyData.str (by decide +kernel))) (c_cons (c_c (congrArg PyData.str (by decide +kernel))) (c_cons (c_c (congrArg PyData.str (by decide +kernel))) (c_cons (c_c (congrArg PyData.str (by decide +kernel))) (c_cons (c_c (congrArg PyData.str (by decide +kernel))) (c_cons (c_c (congrArg PyData.str (by decide +kernel))) c_nil)))))))))))))) (c_seq (c_set (c_op k_add c_var (c_lst (c_cons (c_c (congrArg PyData.str (by decide +kernel))) (c_cons (c_c (congrArg PyData.str (by decide +kernel))) (c_cons (c_c (congrArg PyData.str (by decide +kernel))) (c_cons (c_c (congrArg PyData.str (by decide +kernel))) (c_cons (c_c (congrArg PyData.str (by decide +kernel))) (c_cons (c_c (congrArg PyData.str (by decide +kernel))) (c_cons (c_c (congrArg PyData.str (by decide +kernel))) (c_cons (c_c (congrArg PyData.str (by decide +kernel))) (c_cons (c_c (congrArg PyData.str (by decide +kernel))) (c_cons (c_c (congrArg PyData.str (by decide +kernel))) (c_cons (c_c (congrArg PyData.str (by decide +kernel))) (c_cons (c_c (congrArg PyData.str (by decide +kernel))) (c_cons (c_c (congrArg PyData.str (by decide +kernel))) c_nil)))))))))))))))) (c_ret (c_op k_add (c_op k_add (c_callW fit_w (c_cons c_var c_nil)) (c_callW fit_w (c_cons c_var c_nil))) (c_callW fit_w (c_cons c_var c_nil))))))))
theorem l_j_line : ∀ ws ds P, S_j_line ws ds P → ds.length + 1 = 1 := by
  rintro ws ds P ⟨r, h, _⟩
  unfold F_j_line at h
  split at h
  · rfl
  · cases h
theorem m_j_line : ∀ l ws ds Q, S_j_line ws ds Q → w_j_line { nx := fun ρ => ∃ ws', ρ.at 0 = .bor l ws' ∧ Q ws' .none, rt := fun ρ d => ∃ ws', ρ.at 0 = .bor l ws' ∧ Q ws' d } (startW l ["_law_jar_here", "_law_heads", "_law_some"] ws ds) := by
  rintro l ws ds Q ⟨r, h, k⟩
  unfold F_j_line at h
  split at h
  · exact mW_of c_j_line h k
  · cases h
def w_j_lines_e1 : WE :=
(wCallW S_j_line 0 wNil)
/-- _law_lines(_law_jar_here, _law_most): slots 0 _law_jar_here 1 _law_most 2 _law_k -/
def w_j_lines : WS :=
(wRet (wLc 2 (wRange1 (wCons (wCallW S_j_dip 0 (wCons (wOp fAdd (wVar 1) (wC (.int 1))) wNil)) wNil)) wYes w_j_lines_e1))

def q_j_lines_e1 (ρ : Env) : Option (Env × PyData) :=
(qCallW F_j_line 0 qNil) ρ
def q_j_lines (ρ : Env) : Option Fl :=
(qRet (qLc 2 (qRange1 (qCons (qCallW F_j_dip 0 (qCons (qOp gAdd (qVar 1) (qC (.int 1))) qNil)) qNil)) qYes q_j_lines_e1)) ρ
def F_j_lines : FW
  | ws, [a1] => retW (q_j_lines (.own ws :: [.dat a1, .un]))
  | _, _ => none
abbrev S_j_lines : SpW := ofW F_j_lines
theorem c_j_lines_e1 {l : Addr} : cE (some l) w_j_lines_e1 q_j_lines_e1 := (c_callW fit_w c_nil)
theorem c_j_lines {l : Addr} : cS (some l) w_j_lines q_j_lines := (c_ret (c_lc (c_range1 (c_cons (c_callW fit_w (c_cons (c_op k_add c_var (c_c rfl)) c_nil)) c_nil)) c_yes c_j_lines_e1))
theorem l_j_lines : ∀ ws ds P, S_j_lines ws ds P → ds.length + 1 = 2 := by
  rintro ws ds P ⟨r, h, _⟩
  unfold F_j_lines at h
  split at h
  · rfl
  · cases h
theorem m_j_lines : ∀ l ws ds Q, S_j_lines ws ds Q → w_j_lines { nx := fun ρ => ∃ ws', ρ.at 0 = .bor l ws' ∧ Q ws' .none, rt := fun ρ d => ∃ ws', ρ.at 0 = .bor l ws' ∧ Q ws' d } (startW l ["_law_jar_here", "_law_most", "_law_k"] ws ds) := by
  rintro l ws ds Q ⟨r, h, k⟩
  unfold F_j_lines at h
  split at h
  · exact mW_of c_j_lines h k
  · cases h
def w_j_text_e1 : WE :=
(wOp fAdd (wVar 1) (wC (.str (PySem.Str.ofString "\n"))))
/-- _law_text(_law_lines_here): slots 0 _law_lines_here 1 _law_line_here -/
def w_j_text : WS :=
(wRet (wJoin (wC (.str (PySem.Str.ofString ""))) (wLc 1 (wSeqI (wVar 0)) wYes w_j_text_e1)))

def q_j_text_e1 (ρ : Env) : Option (Env × PyData) :=
(qOp gAdd (qVar 1) (qC (.str (tx [10])))) ρ
def q_j_text (ρ : Env) : Option Fl :=
(qRet (qJoin (qC (.str (tx []))) (qLc 1 (qSeqI (qVar 0)) qYes q_j_text_e1))) ρ
def F_j_text : FP
  | [a0] => retOf (q_j_text [.dat a0, .un])
  | _ => none
abbrev S_j_text : SpD := ofP F_j_text
theorem c_j_text_e1 : cE none w_j_text_e1 q_j_text_e1 := (c_op k_add c_var (c_c (congrArg PyData.str (by decide +kernel))))
theorem c_j_text : cS none w_j_text q_j_text := (c_ret (c_join (c_c (congrArg PyData.str (by decide +kernel))) (c_lc (c_seqI c_var) c_yes c_j_text_e1)))
theorem l_j_text : ∀ ds P, S_j_text ds P → ds.length = 1 := by
  rintro ds P ⟨r, h, _⟩
  unfold F_j_text at h
  split at h
  · rfl
  · cases h
theorem m_j_text : ∀ ds Q, S_j_text ds Q → w_j_text { nx := fun _ => Q .none, rt := fun _ d => Q d } (startE ["_law_lines_here", "_law_line_here"] ds) := by
  rintro ds Q ⟨r, h, k⟩
  unfold F_j_text at h
  split at h
  · exact m_of c_j_text h k
  · cases h
/-- _law_edit(_law_jar_here, _law_lines_here): slots 0 _law_jar_here 1 _law_lines_here 2 _law_first 3 _law_many 4 _law_more -/
def w_j_edit : WS :=
(wSeq (wSet 2 (wCallW S_j_dip 0 (wCons (wOp fAdd (wU fLen (wVar 1)) (wC (.int 1))) wNil)))
(wSeq (wSet 3 (wCallW S_j_dip 0 (wCons (wOp fAdd (wOp fMin2 (wC (.int 4)) (wOp fSub (wU fLen (wVar 1)) (wVar 2))) (wC (.int 1))) wNil)))
(wSeq (wSet 4 (wCallW S_j_lines 0 (wCons (wC (.int 3)) wNil)))
(wSeq (wIf (wTst (wOp (fEq false) (wCallW S_j_dip 0 (wCons (wC (.int 4)) wNil)) (wC (.int 0))))
(wSet 4 (wOp fAdd (wSl (wSl (wVar 1) (wSo (wVar 2)) (wSo (wOp fAdd (wVar 2) (wVar 3)))) wNo (wSo (wC (.int 1)))) (wVar 4)))
wSkip)
(wSeq (wIf (wTst (wOp (fEq false) (wCallW S_j_dip 0 (wCons (wC (.int 4)) wNil)) (wC (.int 0))))
(wSet 4 (wOp fAdd (wVar 4) (wSl (wSl (wVar 1) (wSo (wVar 2)) (wSo (wOp fAdd (wVar 2) (wVar 3)))) (wSo (wU fNeg (wC (.int 1)))) wNo)))
wSkip)
(wRet (wTup (wCons (wVar 2) (wCons (wVar 3) (wCons (wIte (wTst (wOp (fEq false) (wCallW S_j_dip 0 (wCons (wC (.int 2)) wNil)) (wC (.int 0)))) (wU fTuple (wVar 4)) (wVar 4)) wNil))))))))))

def q_j_edit (ρ : Env) : Option Fl :=
(qSeq (qSet 2 (qCallW F_j_dip 0 (qCons (qOp gAdd (qU gLen (qVar 1)) (qC (.int 1))) qNil))) (qSeq (qSet 3 (qCallW F_j_dip 0 (qCons (qOp gAdd (qOp gMin2 (qC (.int 4)) (qOp gSub (qU gLen (qVar 1)) (qVar 2))) (qC (.int 1))) qNil))) (qSeq (qSet 4 (qCallW F_j_lines 0 (qCons (qC (.int 3)) qNil))) (qSeq (qIf (qTst (qOp (gEq false) (qCallW F_j_dip 0 (qCons (qC (.int 4)) qNil)) (qC (.int 0)))) (qSet 4 (qOp gAdd (qSl (qSl (qVar 1) (qSo (qVar 2)) (qSo (qOp gAdd (qVar 2) (qVar 3)))) qNo (qSo (qC (.int 1)))) (qVar 4))) qSkip) (qSeq (qIf (qTst (qOp (gEq false) (qCallW F_j_dip 0 (qCons (qC (.int 4)) qNil)) (qC (.int 0)))) (qSet 4 (qOp gAdd (qVar 4) (qSl (qSl (qVar 1) (qSo (qVar 2)) (qSo (qOp gAdd (qVar 2) (qVar 3)))) (qSo (qU gNeg (qC (.int 1)))) qNo))) qSkip) (qRet (qTup (qCons (qVar 2) (qCons (qVar 3) (qCons (qIte (qTst (qOp (gEq false) (qCallW F_j_dip 0 (qCons (qC (.int 2)) qNil)) (qC (.int 0)))) (qU gTuple (qVar 4)) (qVar 4)) qNil)))))))))) ρ
def F_j_edit : FW
  | ws, [a1] => retW (q_j_edit (.own ws :: [.dat a1, .un, .un, .un]))
  | _, _ => none
abbrev S_j_edit : SpW := ofW F_j_edit
theorem c_j_edit {l : Addr} : cS (some l) w_j_edit q_j_edit := (c_seq (c_set (c_callW fit_w (c_cons (c_op k_add (c_u k_len c_var) (c_c rfl)) c_nil))) (c_seq (c_set (c_callW fit_w (c_cons (c_op k_add (c_op k_min2 (c_c rfl) (c_op k_sub (c_u k_len c_var) c_var)) (c_c rfl)) c_nil))) (c_seq (c_set (c_callW fit_w (c_cons (c_c rfl) c_nil))) (c_seq (c_if (c_tst (c_op k_eq (c_callW fit_w (c_cons (c_c rfl) c_nil)) (c_c rfl))) (c_set (c_op k_add (c_sl (c_sl c_var (c_so c_var) (c_so (c_op k_add c_var c_var))) c_no (c_so (c_c rfl))) c_var)) c_skip) (c_seq (c_if (c_tst (c_op k_eq (c_callW fit_w (c_cons (c_c rfl) c_nil)) (c_c rfl))) (c_set (c_op k_add c_var (c_sl (c_sl c_var (c_so c_var) (c_so (c_op k_add c_var c_var))) (c_so (c_u k_neg (c_c rfl))) c_no))) c_skip) (c_ret (c_tup (c_cons c_var (c_cons c_var (c_cons (c_ite (c_tst (c_op k_eq (c_callW fit_w (c_cons (c_c rfl) c_nil)) (c_c rfl))) (c_u k_tuple c_var) c_var) c_nil))))))))))
theorem l_j_edit : ∀ ws ds P, S_j_edit ws ds P → ds.length + 1 = 2 := by
  rintro ws ds P ⟨r, h, _⟩
  unfold F_j_edit at h
  split at h
  · rfl
  · cases h
theorem m_j_edit : ∀ l ws ds Q, S_j_edit ws ds Q → w_j_edit { nx := fun ρ => ∃ ws', ρ.at 0 = .bor l ws' ∧ Q ws' .none, rt := fun ρ d => ∃ ws', ρ.at 0 = .bor l ws' ∧ Q ws' d } (startW l ["_law_jar_here", "_law_lines_here", "_law_first", "_law_many", "_law_more"] ws ds) := by
  rintro l ws ds Q ⟨r, h, k⟩
  unfold F_j_edit at h
  split at h
  · exact mW_of c_j_edit h k
  · cases h
/-- _law_done(_law_lines_here, _law_edit_here): slots 0 _law_lines_here 1 _law_edit_here 2 _law_first 3 _law_many 4 _law_more -/
def w_j_done : WS :=
(wSeq (wAsg (wVar 1) (gT 3 (gCons' (gN 2) (gCons' (gN 3) (gCons' (gN 4) gNil')))))
(wRet (wOp fAdd (wOp fAdd (wSl (wVar 0) wNo (wSo (wVar 2))) (wU fList (wVar 4))) (wSl (wVar 0) (wSo (wOp fAdd (wVar 2) (wVar 3))) wNo))))

def q_j_done (ρ : Env) : Option Fl :=
(qSeq (qAsg (qVar 1) (qT 3 (qGCons (qN 2) (qGCons (qN 3) (qGCons (qN 4) qGNil))))) (qRet (qOp gAdd (qOp gAdd (qSl (qVar 0) qNo (qSo (qVar 2))) (qU gList (qVar 4))) (qSl (qVar 0) (qSo (qOp gAdd (qVar 2) (qVar 3))) qNo)))) ρ
def F_j_done : FP
  | [a0, a1] => retOf (q_j_done [.dat a0, .dat a1, .un, .un, .un])
  | _ => none
abbrev S_j_done : SpD := ofP F_j_done
theorem c_j_done : cS none w_j_done q_j_done := (c_seq (c_asg c_var (c_t (c_gcons c_n (c_gcons c_n (c_gcons c_n c_gnil))))) (c_ret (c_op k_add (c_op k_add (c_sl c_var c_no (c_so c_var)) (c_u k_list c_var)) (c_sl c_var (c_so (c_op k_add c_var c_var)) c_no))))
theorem l_j_done : ∀ ds P, S_j_done ds P → ds.length = 2 := by
  rintro ds P ⟨r, h, _⟩
  unfold F_j_done at h
  split at h
  · rfl
  · cases h
theorem m_j_done : ∀ ds Q, S_j_done ds Q → w_j_done { nx := fun _ => Q .none, rt := fun _ d => Q d } (startE ["_law_lines_here", "_law_edit_here", "_law_first", "_law_many", "_law_more"] ds) := by
  rintro ds Q ⟨r, h, k⟩
  unfold F_j_done at h
  split at h
  · exact m_of c_j_done h k
  · cases h
def w_j_least_b1 : WS :=
(wIf (wAnd (wTst (wOp (fEq false) (wVar 4) (wVar 3))) (wTst (wOp (fEq false) (wOp fIx (wVar 0) (wOp fSub (wOp fSub (wU fLen (wVar 0)) (wC (.int 1))) (wVar 3))) (wOp fIx (wVar 1) (wOp fSub (wOp fSub (wU fLen (wVar 1)) (wC (.int 1))) (wVar 3))))))
(wSet 4 (wOp fAdd (wVar 3) (wC (.int 1))))
wSkip)
def w_j_least_b2 : WS :=
(wIf (wAnd (wTst (wOp (fEq false) (wVar 2) (wVar 3))) (wTst (wOp (fEq false) (wOp fIx (wVar 0) (wVar 3)) (wOp fIx (wVar 1) (wVar 3)))))
(wSet 2 (wOp fAdd (wVar 3) (wC (.int 1))))
wSkip)
/-- _law_least(_law_lines_here, _law_others): slots 0 _law_lines_here 1 _law_others 2 _law_first 3 _law_k 4 _law_tail 5 _law_room -/
def w_j_least : WS :=
(wSeq (wSet 2 (wC (.int 0)))
(wSeq (wFor (wRange1 (wCons (wOp fMin2 (wU fLen (wVar 0)) (wU fLen (wVar 1))) wNil)) (gN 3) w_j_least_b2)
(wSeq (wPar 4 5 (wCons (wC (.int 0)) (wCons (wOp fSub (wOp fMin2 (wU fLen (wVar 0)) (wU fLen (wVar 1))) (wVar 2)) wNil)))
(wSeq (wFor (wRange1 (wCons (wVar 5) wNil)) (gN 3) w_j_least_b1)
(wRet (wTup (wCons (wVar 2) (wCons (wOp fSub (wOp fSub (wU fLen (wVar 0)) (wVar 2)) (wVar 4)) (wCons (wSl (wVar 1) (wSo (wVar 2)) (wSo (wOp fSub (wU fLen (wVar 1)) (wVar 4)))) wNil)))))))))

def q_j_least_b1 (ρ : Env) : Option Fl :=
(qIf (qAnd (qTst (qOp (gEq false) (qVar 4) (qVar 3))) (qTst (qOp (gEq false) (qOp gIx (qVar 0) (qOp gSub (qOp gSub (qU gLen (qVar 0)) (qC (.int 1))) (qVar 3))) (qOp gIx (qVar 1) (qOp gSub (qOp gSub (qU gLen (qVar 1)) (qC (.int 1))) (qVar 3)))))) (qSet 4 (qOp gAdd (qVar 3) (qC (.int 1)))) qSkip) ρ
def q_j_least_b2 (ρ : Env) : Option Fl :=
(qIf (qAnd (qTst (qOp (gEq false) (qVar 2) (qVar 3))) (qTst (qOp (gEq false) (qOp gIx (qVar 0) (qVar 3)) (qOp gIx (qVar 1) (qVar 3))))) (qSet 2 (qOp gAdd (qVar 3) (qC (.int 1)))) qSkip) ρ
def q_j_least (ρ : Env) : Option Fl :=
(qSeq (qSet 2 (qC (.int 0))) (qSeq (qFor (qRange1 (qCons (qOp gMin2 (qU gLen (qVar 0)) (qU gLen (qVar 1))) qNil)) (qN 3) q_j_least_b2) (qSeq (qPar 4 5 (qCons (qC (.int 0)) (qCons (qOp gSub (qOp gMin2 (qU gLen (qVar 0)) (qU gLen (qVar 1))) (qVar 2)) qNil))) (qSeq (qFor (qRange1 (qCons (qVar 5) qNil)) (qN 3) q_j_least_b1) (qRet (qTup (qCons (qVar 2) (qCons (qOp gSub (qOp gSub (qU gLen (qVar 0)) (qVar 2)) (qVar 4)) (qCons (qSl (qVar 1) (qSo (qVar 2)) (qSo (qOp gSub (qU gLen (qVar 1)) (qVar 4)))) qNil))))))))) ρ
def F_j_least : FP
  | [a0, a1] => retOf (q_j_least [.dat a0, .dat a1, .un, .un, .un, .un])
  | _ => none
abbrev S_j_least : SpD := ofP F_j_least
theorem c_j_least_b1 : cS none w_j_least_b1 q_j_least_b1 := (c_if (c_and (c_tst (c_op k_eq c_var c_var)) (c_tst (c_op k_eq (c_op k_ix c_var (c_op k_sub (c_op k_sub (c_u k_len c_var) (c_c rfl)) c_var)) (c_op k_ix c_var (c_op k_sub (c_op k_sub (c_u k_len c_var) (c_c rfl)) c_var))))) (c_set (c_op k_add c_var (c_c rfl))) c_skip)
theorem c_j_least_b2 : cS none w_j_least_b2 q_j_least_b2 := (c_if (c_and (c_tst (c_op k_eq c_var c_var)) (c_tst (c_op k_eq (c_op k_ix c_var c_var) (c_op k_ix c_var c_var)))) (c_set (c_op k_add c_var (c_c rfl))) c_skip)
theorem c_j_least : cS none w_j_least q_j_least := (c_seq (c_set (c_c rfl)) (c_seq (c_for (c_range1 (c_cons (c_op k_min2 (c_u k_len c_var) (c_u k_len c_var)) c_nil)) c_n c_j_least_b2) (c_seq (c_par (c_cons (c_c rfl) (c_cons (c_op k_sub (c_op k_min2 (c_u k_len c_var) (c_u k_len c_var)) c_var) c_nil))) (c_seq (c_for (c_range1 (c_cons c_var c_nil)) c_n c_j_least_b1) (c_ret (c_tup (c_cons c_var (c_cons (c_op k_sub (c_op k_sub (c_u k_len c_var) c_var) c_var) (c_cons (c_sl c_var (c_so c_var) (c_so (c_op k_sub (c_u k_len c_var) c_var))) c_nil)))))))))
theorem l_j_least : ∀ ds P, S_j_least ds P → ds.length = 2 := by
  rintro ds P ⟨r, h, _⟩
  unfold F_j_least at h
  split at h
  · rfl
  · cases h
theorem m_j_least : ∀ ds Q, S_j_least ds Q → w_j_least { nx := fun _ => Q .none, rt := fun _ d => Q d } (startE ["_law_lines_here", "_law_others", "_law_first", "_law_k", "_law_tail", "_law_room"] ds) := by
  rintro ds Q ⟨r, h, k⟩
  unfold F_j_least at h
  split at h
  · exact m_of c_j_least h k
  · cases h
/-- _law_plain(_law_edit_here): slots 0 _law_edit_here -/
def w_j_plain : WS :=
(wRet (wTup (wCons (wOp fIx (wVar 0) (wC (.int 0))) (wCons (wOp fIx (wVar 0) (wC (.int 1))) (wCons (wU fList (wOp fIx (wVar 0) (wC (.int 2)))) wNil)))))

def q_j_plain (ρ : Env) : Option Fl :=
(qRet (qTup (qCons (qOp gIx (qVar 0) (qC (.int 0))) (qCons (qOp gIx (qVar 0) (qC (.int 1))) (qCons (qU gList (qOp gIx (qVar 0) (qC (.int 2)))) qNil))))) ρ
def F_j_plain : FP
  | [a0] => retOf (q_j_plain [.dat a0])
  | _ => none
abbrev S_j_plain : SpD := ofP F_j_plain
theorem c_j_plain : cS none w_j_plain q_j_plain := (c_ret (c_tup (c_cons (c_op k_ix c_var (c_c rfl)) (c_cons (c_op k_ix c_var (c_c rfl)) (c_cons (c_u k_list (c_op k_ix c_var (c_c rfl))) c_nil)))))
theorem l_j_plain : ∀ ds P, S_j_plain ds P → ds.length = 1 := by
  rintro ds P ⟨r, h, _⟩
  unfold F_j_plain at h
  split at h
  · rfl
  · cases h
theorem m_j_plain : ∀ ds Q, S_j_plain ds Q → w_j_plain { nx := fun _ => Q .none, rt := fun _ d => Q d } (startE ["_law_edit_here"] ds) := by
  rintro ds Q ⟨r, h, k⟩
  unfold F_j_plain at h
  split at h
  · exact m_of c_j_plain h k
  · cases h
def w_j_right_b1 : WS :=
(wSeq (wSet 2 (wCallW S_j_lines 0 (wCons (wC (.int 12)) wNil)))
(wSeq (wPar 3 4 (wCons (wCall S_j_text (wCons (wVar 2) wNil)) (wCons (wCallW S_j_edit 0 (wCons (wVar 2) wNil)) wNil)))
(wSeq (wIf (wAnd (wTst (wOp (fEq true) (wVar 2) (wLst wNil))) (wAnd (wTst (wOp (fEq true) (wOp fIx (wVar 2) (wU fNeg (wC (.int 1)))) (wC (.str (PySem.Str.ofString ""))))) (wTst (wOp (fEq false) (wCallW S_j_dip 0 (wCons (wC (.int 2)) wNil)) (wC (.int 0))))))
(wSet 3 (wSl (wVar 3) wNo (wSo (wU fNeg (wC (.int 1))))))
wSkip)
(wSeq (wSet 5 (wU fRepr (wVar 4)))
(wSeq (wSet 6 (wCall S_j_done (wCons (wVar 2) (wCons (wVar 4) wNil))))
(wSeq (wSet 7 (wCall S_edited (wCons (wVar 3) (wCons (wVar 4) wNil))))
(wSeq (wIf (wOr (wTst (wOp (fEq true) (wVar 7) (wCall S_j_text (wCons (wVar 6) wNil)))) (wOr (wTst (wOp (fEq true) (wCall S_edited (wCons (wVar 3) (wCons (wVar 4) wNil))) (wVar 7))) (wTst (wOp (fEq true) (wU fRepr (wVar 4)) (wVar 5)))))
(wRet (wC (.bool false)))
wSkip)
(wSeq (wPar 8 9 (wCons (wCall S_back (wCons (wVar 3) (wCons (wVar 4) wNil))) (wCons (wSl (wSl (wVar 2) (wSo (wOp fIx (wVar 4) (wC (.int 0)))) wNo) wNo (wSo (wOp fIx (wVar 4) (wC (.int 1))))) wNil)))
(wSeq (wIf (wTst (wOp (fEq true) (wVar 8) (wTup (wCons (wOp fIx (wVar 4) (wC (.int 0))) (wCons (wU fLen (wOp fIx (wVar 4) (wC (.int 2)))) (wCons (wVar 9) wNil))))))
(wRet (wC (.bool false)))
wSkip)
(wSeq (wSet 10 (wCall S_back (wCons (wVar 7) (wCons (wVar 8) wNil))))
(wSeq (wIf (wOr (wTst (wOp (fEq true) (wCall S_edited (wCons (wVar 7) (wCons (wVar 8) wNil))) (wCall S_j_text (wCons (wVar 2) wNil)))) (wTst (wOp (fEq true) (wVar 10) (wCall S_j_plain (wCons (wVar 4) wNil)))))
(wRet (wC (.bool false)))
wSkip)
(wSeq (wIf (wTst (wOp (fEq true) (wCall S_least_edit (wCons (wVar 3) (wCons (wVar 7) wNil))) (wCall S_j_least (wCons (wVar 2) (wCons (wVar 6) wNil)))))
(wRet (wC (.bool false)))
wSkip)
(wSeq (wSet 11 (wCallW S_j_lines 0 (wCons (wC (.int 12)) wNil)))
(wSeq (wSet 12 (wCall S_least_edit (wCons (wVar 3) (wCons (wCall S_j_text (wCons (wVar 11) wNil)) wNil))))
(wIf (wOr (wTst (wOp (fEq true) (wVar 12) (wCall S_j_least (wCons (wVar 2) (wCons (wVar 11) wNil))))) (wTst (wOp (fEq true) (wCall S_edited (wCons (wVar 3) (wCons (wVar 12) wNil))) (wCall S_j_text (wCons (wVar 11) wNil)))))
(wRet (wC (.bool false)))
wSkip)))))))))))))))
/-- _law_right(_law_jar_here): slots 0 _law_jar_here 1 _law_turn 2 _law_rows 3 _law_before 4 _law_edit_here 5 _law_kept 6 _law_others 7 _law_later 8 _law_turned_so 9 _law_gone 10 _law_again 11 _law_wild 12 _law_other -/
def w_j_right : WS :=
(wSeq (wFor (wRange1 (wCons (wC (.int 8)) wNil)) (gN 1) w_j_right_b1)
(wRet (wC (.bool true))))

def q_j_right_b1 (ρ : Env) : Option Fl :=
(qSeq (qSet 2 (qCallW F_j_lines 0 (qCons (qC (.int 12)) qNil))) (qSeq (qPar 3 4 (qCons (qCall F_j_text (qCons (qVar 2) qNil)) (qCons (qCallW F_j_edit 0 (qCons (qVar 2) qNil)) qNil))) (qSeq (qIf (qAnd (qTst (qOp (gEq true) (qVar 2) (qLst qNil))) (qAnd (qTst (qOp (gEq true) (qOp gIx (qVar 2) (qU gNeg (qC (.int 1)))) (qC (.str (tx []))))) (qTst (qOp (gEq false) (qCallW F_j_dip 0 (qCons (qC (.int 2)) qNil)) (qC (.int 0)))))) (qSet 3 (qSl (qVar 3) qNo (qSo (qU gNeg (qC (.int 1)))))) qSkip) (qSeq (qSet 5 (qU gRepr (qVar 4))) (qSeq (qSet 6 (qCall F_j_done (qCons (qVar 2) (qCons (qVar 4) qNil)))) (qSeq (qSet 7 (qCall F_edited (qCons (qVar 3) (qCons (qVar 4) qNil)))) (qSeq (qIf (qOr (qTst (qOp (gEq true) (qVar 7) (qCall F_j_text (qCons (qVar 6) qNil)))) (qOr (qTst (qOp (gEq true) (qCall F_edited (qCons (qVar 3) (qCons (qVar 4) qNil))) (qVar 7))) (qTst (qOp (gEq true) (qU gRepr (qVar 4)) (qVar 5))))) (qRet (qC (.bool false))) qSkip) (qSeq (qPar 8 9 (qCons (qCall F_back (qCons (qVar 3) (qCons (qVar 4) qNil))) (qCons (qSl (qSl (qVar 2) (qSo (qOp gIx (qVar 4) (qC (.int 0)))) qNo) qNo (qSo (qOp gIx (qVar 4) (qC (.int 1))))) qNil))) (qSeq (qIf (qTst (qOp (gEq true) (qVar 8) (qTup (qCons (qOp gIx (qVar 4) (qC (.int 0))) (qCons (qU gLen (qOp gIx (qVar 4) (qC (.int 2)))) (qCons (qVar 9) qNil)))))) (qRet (qC (.bool false))) qSkip) (qSeq (qSet 10 (qCall F_back (qCons (qVar 7) (qCons (qVar 8) qNil)))) (qSeq (qIf (qOr (qTst (qOp (gEq true) (qCall F_edited (qCons (qVar 7) (qCons (qVar 8) qNil))) (qCall F_j_text (qCons (qVar 2) qNil)))) (qTst (qOp (gEq true) (qVar 10) (qCall F_j_plain (qCons (qVar 4) qNil))))) (qRet (qC (.bool false))) qSkip) (qSeq (qIf (qTst (qOp (gEq true) (qCall F_least_edit (qCons (qVar 3) (qCons (qVar 7) qNil))) (qCall F_j_least (qCons (qVar 2) (qCons (qVar 6) qNil))))) (qRet (qC (.bool false))) qSkip) (qSeq (qSet 11 (qCallW F_j_lines 0 (qCons (qC (.int 12)) qNil))) (qSeq (qSet 12 (qCall F_least_edit (qCons (qVar 3) (qCons (qCall F_j_text (qCons (qVar 11) qNil)) qNil)))) (qIf (qOr (qTst (qOp (gEq true) (qVar 12) (qCall F_j_least (qCons (qVar 2) (qCons (qVar 11) qNil))))) (qTst (qOp (gEq true) (qCall F_edited (qCons (qVar 3) (qCons (qVar 12) qNil))) (qCall F_j_text (qCons (qVar 11) qNil))))) (qRet (qC (.bool false))) qSkip))))))))))))))) ρ
def q_j_right (ρ : Env) : Option Fl :=
(qSeq (qFor (qRange1 (qCons (qC (.int 8)) qNil)) (qN 1) q_j_right_b1) (qRet (qC (.bool true)))) ρ
def F_j_right : FW
  | ws, [] => retW (q_j_right (.own ws :: [.un, .un, .un, .un, .un, .un, .un, .un, .un, .un, .un, .un]))
  | _, _ => none
abbrev S_j_right : SpW := ofW F_j_right
theorem c_j_right_b1 {l : Addr} : cS (some l) w_j_right_b1 q_j_right_b1 := (c_seq (c_set (c_callW fit_w (c_cons (c_c rfl) c_nil))) (c_seq (c_par (c_cons (c_call fit_p (c_cons c_var c_nil)) (c_cons (c_callW fit_w (c_cons c_var c_nil)) c_nil))) (c_seq (c_if (c_and (c_tst (c_op k_eq c_var (c_lst c_nil))) (c_and (c_tst (c_op k_eq (c_op k_ix c_var (c_u k_neg (c_c rfl))) (c_c (congrArg PyData.str (by decide +kernel))))) (c_tst (c_op k_eq (c_callW fit_w (c_cons (c_c rfl) c_nil)) (c_c rfl))))) (c_set (c_sl c_var c_no (c_so (c_u k_neg (c_c rfl))))) c_skip) (c_seq (c_set (c_u k_repr c_var)) (c_seq (c_set (c_call fit_p (c_cons c_var (c_cons c_var c_nil)))) (c_seq (c_set (c_call fit_p (c_cons c_var (c_cons c_var c_nil)))) (c_seq (c_if (c_or (c_tst (c_op k_eq c_var (c_call fit_p (c_cons c_var c_nil)))) (c_or (c_tst (c_op k_eq (c_call fit_p (c_cons c_var (c_cons c_var c_nil))) c_var)) (c_tst (c_op k_eq (c_u k_repr c_var) c_var)))) (c_ret (c_c rfl)) c_skip) (c_seq (c_par (c_cons (c_call fit_p (c_cons c_var (c_cons c_var c_nil))) (c_cons (c_sl (c_sl c_var (c_so (c_op k_ix c_var (c_c rfl))) c_no) c_no (c_so (c_op k_ix c_var (c_c rfl)))) c_nil))) (c_seq (c_if (c_tst (c_op k_eq c_var (c_tup (c_cons (c_op k_ix c_var (c_c rfl)) (c_cons (c_u k_len (c_op k_ix c_var (c_c rfl))) (c_cons c_var c_nil)))))) (c_ret (c_c rfl)) c_skip) (c_seq (c_set (c_call fit_p (c_cons c_var (c_cons c_var c_nil)))) (c_seq (c_if (c_or (c_tst (c_op k_eq (c_call fit_p (c_cons c_var (c_cons c_var c_nil))) (c_call fit_p (c_cons c_var c_nil)))) (c_tst (c_op k_eq c_var (c_call fit_p (c_cons c_var c_nil))))) (c_ret (c_c rfl)) c_skip) (c_seq (c_if (c_tst (c_op k_eq (c_call fit_p (c_cons c_var (c_cons c_var c_nil))) (c_call fit_p (c_cons c_var (c_cons c_var c_nil))))) (c_ret (c_c rfl)) c_skip) (c_seq (c_set (c_callW fit_w (c_cons (c_c rfl) c_nil))) (c_seq (c_set (c_call fit_p (c_cons c_var (c_cons (c_call fit_p (c_cons c_var c_nil)) c_nil)))) (c_if (c_or (c_tst (c_op k_eq c_var (c_call fit_p (c_cons c_var (c_cons c_var c_nil))))) (c_tst (c_op k_eq (c_call fit_p (c_cons c_var (c_cons c_var c_nil))) (c_call fit_p (c_cons c_var c_nil))))) (c_ret (c_c rfl)) c_skip)))))))))))))))
theorem c_j_right {l : Addr} : cS (some l) w_j_right q_j_right := (c_seq (c_for (c_range1 (c_cons (c_c rfl) c_nil)) c_n c_j_right_b1) (c_ret (c_c rfl)))
theorem l_j_right : ∀ ws ds P, S_j_right ws ds P → ds.length + 1 = 1 := by
  rintro ws ds P ⟨r, h, _⟩
  unfold F_j_right at h
  split at h
  · rfl
  · cases h
theorem m_j_right : ∀ l ws ds Q, S_j_right ws ds Q → w_j_right { nx := fun ρ => ∃ ws', ρ.at 0 = .bor l ws' ∧ Q ws' .none, rt := fun ρ d => ∃ ws', ρ.at 0 = .bor l ws' ∧ Q ws' d } (startW l ["_law_jar_here", "_law_turn", "_law_rows", "_law_before", "_law_edit_here", "_law_kept", "_law_others", "_law_later", "_law_turned_so", "_law_gone", "_law_again", "_law_wild", "_law_other"] ws ds) := by
  rintro l ws ds Q ⟨r, h, k⟩
  unfold F_j_right at h
  split at h
  · exact mW_of c_j_right h k
  · cases h
def w_law_i1 : WS :=
(wIf (wOr (wTst (wOp (fEq true) (wCall S_edited (wCons (wC (.str (PySem.Str.ofString "a"))) (wCons (wTup (wCons (wC (.int 1)) (wCons (wC (.int 0)) (wCons (wLst (wCons (wC (.str (PySem.Str.ofString ""))) (wCons (wC (.str (PySem.Str.ofString "b"))) wNil))) wNil)))) wNil))) (wC (.str (PySem.Str.ofString "a\n\nb\n"))))) (wOr (wTst (wOp (fEq true) (wCall S_edited (wCons (wC (.str (PySem.Str.ofString "a\n"))) (wCons (wTup (wCons (wC (.int 0)) (wCons (wC (.int 1)) (wCons (wTup wNil) wNil)))) wNil))) (wC (.str (PySem.Str.ofString ""))))) (wTst (wOp (fEq true) (wCall S_edited (wCons (wC (.str (PySem.Str.ofString ""))) (wCons (wTup (wCons (wC (.int 0)) (wCons (wC (.int 0)) (wCons (wLst wNil) wNil)))) wNil))) (wC (.str (PySem.Str.ofString "")))))))
(wRet (wC (.bool false)))
wSkip)
def w_law_i2 : WS :=
(wIf (wOr (wTst (wOp (fEq true) (wCall S_least_edit (wCons (wC (.str (PySem.Str.ofString "a\na\na"))) (wCons (wC (.str (PySem.Str.ofString "a\na"))) wNil))) (wTup (wCons (wC (.int 2)) (wCons (wC (.int 1)) (wCons (wLst wNil) wNil)))))) (wTst (wOp (fEq true) (wCall S_least_edit (wCons (wC (.str (PySem.Str.ofString ""))) (wCons (wC (.str (PySem.Str.ofString ""))) wNil))) (wTup (wCons (wC (.int 0)) (wCons (wC (.int 0)) (wCons (wLst wNil) wNil)))))))
(wRet (wC (.bool false)))
wSkip)
def w_law_i3 : WS :=
(wIf (wNot (wTst (wCallWF S_j_right S_j_jar (wCons (wVar 1) wNil))))
(wRet (wC (.bool false)))
wSkip)
def w_law_b4 : WS :=
w_law_i3
/-- law(_law_script): slots 0 _law_script 1 _law_cell -/
def w_law : WS :=
(wSeq (wFor (wSeqI (wOp fAdd (wSlS 0 wNo (wSo (wC (.int 6)))) (wLst (wCons (wC (.int 0)) wNil)))) (gN 1) w_law_b4)
(wSeq w_law_i2
(wSeq w_law_i1
(wRet (wOp (fEq false) (wCall S_back (wCons (wC (.str (PySem.Str.ofString "a\nb"))) (wCons (wTup (wCons (wC (.int 0)) (wCons (wC (.int 2)) (wCons (wTup (wCons (wC (.str (PySem.Str.ofString "c"))) wNil)) wNil)))) wNil))) (wTup (wCons (wC (.int 0)) (wCons (wC (.int 1)) (wCons (wLst (wCons (wC (.str (PySem.Str.ofString "a"))) (wCons (wC (.str (PySem.Str.ofString "b"))) wNil))) wNil)))))))))

def q_law_i1 (ρ : Env) : Option Fl :=
(qIf (qOr (qTst (qOp (gEq true) (qCall F_edited (qCons (qC (.str (tx [97]))) (qCons (qTup (qCons (qC (.int 1)) (qCons (qC (.int 0)) (qCons (qLst (qCons (qC (.str (tx []))) (qCons (qC (.str (tx [98]))) qNil))) qNil)))) qNil))) (qC (.str (tx [97, 10, 10, 98, 10]))))) (qOr (qTst (qOp (gEq true) (qCall F_edited (qCons (qC (.str (tx [97, 10]))) (qCons (qTup (qCons (qC (.int 0)) (qCons (qC (.int 1)) (qCons (qTup qNil) qNil)))) qNil))) (qC (.str (tx []))))) (qTst (qOp (gEq true) (qCall F_edited (qCons (qC (.str (tx []))) (qCons (qTup (qCons (qC (.int 0)) (qCons (qC (.int 0)) (qCons (qLst qNil) qNil)))) qNil))) (qC (.str (tx []))))))) (qRet (qC (.bool false))) qSkip) ρ
def q_law_i2 (ρ : Env) : Option Fl :=
(qIf (qOr (qTst (qOp (gEq true) (qCall F_least_edit (qCons (qC (.str (tx [97, 10, 97, 10, 97]))) (qCons (qC (.str (tx [97, 10, 97]))) qNil))) (qTup (qCons (qC (.int 2)) (qCons (qC (.int 1)) (qCons (qLst qNil) qNil)))))) (qTst (qOp (gEq true) (qCall F_least_edit (qCons (qC (.str (tx []))) (qCons (qC (.str (tx []))) qNil))) (qTup (qCons (qC (.int 0)) (qCons (qC (.int 0)) (qCons (qLst qNil) qNil))))))) (qRet (qC (.bool false))) qSkip) ρ
def q_law_i3 (ρ : Env) : Option Fl :=
(qIf (qNot (qTst (qCallWF F_j_right F_j_jar (qCons (qVar 1) qNil)))) (qRet (qC (.bool false))) qSkip) ρ
def q_law_b4 (ρ : Env) : Option Fl :=
q_law_i3 ρ
def q_law (ρ : Env) : Option Fl :=
(qSeq (qFor (qSeqI (qOp gAdd (qSlS 0 qNo (qSo (qC (.int 6)))) (qLst (qCons (qC (.int 0)) qNil)))) (qN 1) q_law_b4) (qSeq q_law_i2 (qSeq q_law_i1 (qRet (qOp (gEq false) (qCall F_back (qCons (qC (.str (tx [97, 10, 98]))) (qCons (qTup (qCons (qC (.int 0)) (qCons (qC (.int 2)) (qCons (qTup (qCons (qC (.str (tx [99]))) qNil)) qNil)))) qNil))) (qTup (qCons (qC (.int 0)) (qCons (qC (.int 1)) (qCons (qLst (qCons (qC (.str (tx [97]))) (qCons (qC (.str (tx [98]))) qNil))) qNil))))))))) ρ
theorem c_law_i1 : cS none w_law_i1 q_law_i1 := (c_if (c_or (c_tst (c_op k_eq (c_call fit_p (c_cons (c_c (congrArg PyData.str (by decide +kernel))) (c_cons (c_tup (c_cons (c_c rfl) (c_cons (c_c rfl) (c_cons (c_lst (c_cons (c_c (congrArg PyData.str (by decide +kernel))) (c_cons (c_c (congrArg PyData.str (by decide +kernel))) c_nil))) c_nil)))) c_nil))) (c_c (congrArg PyData.str (by decide +kernel))))) (c_or (c_tst (c_op k_eq (c_call fit_p (c_cons (c_c (congrArg PyData.str (by decide +kernel))) (c_cons (c_tup (c_cons (c_c rfl) (c_cons (c_c rfl) (c_cons (c_tup c_nil) c_nil)))) c_nil))) (c_c (congrArg PyData.str (by decide +kernel))))) (c_tst (c_op k_eq (c_call fit_p (c_cons (c_c (congrArg PyData.str (by decide +kernel))) (c_cons (c_tup (c_cons (c_c rfl) (c_cons (c_c rfl) (c_cons (c_lst c_nil) c_nil)))) c_nil))) (c_c (congrArg PyData.str (by decide +kernel))))))) (c_ret (c_c rfl)) c_skip)
theorem c_law_i2 : cS none w_law_i2 q_law_i2 := (c_if (c_or (c_tst (c_op k_eq (c_call fit_p (c_cons (c_c (congrArg PyData.str (by decide +kernel))) (c_cons (c_c (congrArg PyData.str (by decide +kernel))) c_nil))) (c_tup (c_cons (c_c rfl) (c_cons (c_c rfl) (c_cons (c_lst c_nil) c_nil)))))) (c_tst (c_op k_eq (c_call fit_p (c_cons (c_c (congrArg PyData.str (by decide +kernel))) (c_cons (c_c (congrArg PyData.str (by decide +kernel))) c_nil))) (c_tup (c_cons (c_c rfl) (c_cons (c_c rfl) (c_cons (c_lst c_nil) c_nil))))))) (c_ret (c_c rfl)) c_skip)
theorem c_law_i3 : cS none w_law_i3 q_law_i3 := (c_if (c_not (c_tst (c_callWF fit_w fit_n (c_cons c_var c_nil)))) (c_ret (c_c rfl)) c_skip)
theorem c_law_b4 : cS none w_law_b4 q_law_b4 := c_law_i3
theorem c_law : cS none w_law q_law := (c_seq (c_for (c_seqI (c_op k_add (c_slS c_no (c_so (c_c rfl))) (c_lst (c_cons (c_c rfl) c_nil)))) c_n c_law_b4) (c_seq c_law_i2 (c_seq c_law_i1 (c_ret (c_op k_eq (c_call fit_p (c_cons (c_c (congrArg PyData.str (by decide +kernel))) (c_cons (c_tup (c_cons (c_c rfl) (c_cons (c_c rfl) (c_cons (c_tup (c_cons (c_c (congrArg PyData.str (by decide +kernel))) c_nil)) c_nil)))) c_nil))) (c_tup (c_cons (c_c rfl) (c_cons (c_c rfl) (c_cons (c_lst (c_cons (c_c (congrArg PyData.str (by decide +kernel))) (c_cons (c_c (congrArg PyData.str (by decide +kernel))) c_nil))) c_nil)))))))))
def F_law (ns : List Int) : Option PyData := retOf (q_law [.scr ns, .un])
theorem m_law_of (ok : ∀ ns : List Int, ns.length ≤ 63 → ∃ ρ, q_law [.scr ns, .un] = some (.rt ρ (.bool true))) : ∀ ns : List Int, ns.length ≤ 63 → w_law { nx := fun _ => False, rt := fun _ d => d = .bool true } (startS ["_law_script", "_law_cell"] ns) := by
  intro ns hn
  obtain ⟨ρ, h⟩ := ok ns hn
  exact c_law [.scr ns, .un] _ h _ rfl
end Pm.Q
namespace Pm.Q
open PySem PySem.Spec PyProof.Rows L2 TL Pm
/-! ### general facts over the functions -/
def optN (p : Nat) : Option Nat → PyData
  | none => .none
  | some k => .int ((p + k : Nat) : Int)
abbrev TT (t : List Nat) : PyData := .str (tx t)
abbrev II (p : Nat) : PyData := .int (p : Int)
def sp (s l : List Nat) : Nat := (l.takeWhile fun c => decide (c ∈ s)).length
theorem inS1 (c : Nat) (s : List Nat) : inS (tx [c]) (tx s) = decide (c ∈ s) := rfl
theorem sp_cons (s : List Nat) (c : Nat) (l : List Nat) : sp s (c :: l) = if c ∈ s then sp s l + 1 else 0 := by
  unfold sp
  rw [List.takeWhile_cons]
  by_cases h : c ∈ s <;> simp [h]
theorem sp_nil (s : List Nat) : sp s [] = 0 := rfl
theorem sp_le (s l : List Nat) : sp s l ≤ l.length := (List.takeWhile_prefix _).length_le
theorem cast1 (p : Nat) : (p : Int) + 1 = ((p + 1 : Nat) : Int) := by omega
theorem cast2 (p : Nat) : (p : Int) + 2 = ((p + 2 : Nat) : Int) := by omega
theorem cast3 (p : Nat) : (p : Int) + 3 = ((p + 3 : Nat) : Int) := by omega
theorem cast4 (p : Nat) : (p : Int) + 4 = ((p + 4 : Nat) : Int) := by omega
theorem cast9 (p : Nat) : (p : Int) + 9 = ((p + 9 : Nat) : Int) := by omega
theorem castk (p k : Nat) : ((p : Int) + (k : Int)) = ((p + k : Nat) : Int) := by omega
theorem g_cut {t : List Nat} {i j : Nat} : gSl (.str (tx t)) (some (i : Int)) (some (j : Int)) = if t.length ≤ 16777216 then some (.str (tx ((t.drop i).take (j - i)))) else none := by
  rw [g_sl_s, tx_len, cut_mid]
theorem txeq {a b : List Nat} : (tx a = tx b) = (a = b) := propext ⟨tx_inj, fun h => by rw [h]⟩
def inOne (l : List Nat) : List Nat → Bool
  | [c] => decide (c ∈ l)
  | _ => false
theorem eqv_str (a b : Str) : PyData.eqv (.str a) (.str b) = decide (a = b) := by
  by_cases h : a = b
  · subst h; rw [decide_eq_true rfl]; show (a == a) = true; simp
  · rw [decide_eq_false h]; show (a == b) = false; simpa using h
theorem any_signs (s : List Nat) : ∀ l : List Nat, ((l.map fun c => PyData.str (tx [c])).any fun y => PyData.eqv y (.str (tx s))) = inOne l s
  | [] => by
    cases s with
    | nil => rfl
    | cons a r => cases r <;> simp [inOne]
  | c :: l => by
    rw [List.map_cons, List.any_cons, any_signs s l, eqv_str]
    simp only [txeq]
    cases s with
    | nil => simp [inOne]
    | cons a r =>
      cases r with
      | nil =>
        simp only [inOne, List.cons.injEq, and_true, List.mem_cons]
        by_cases h1 : c = a
        · subst h1; simp
        · have h2 : ¬ a = c := fun e => h1 e.symm
          simp [h1, h2]
      | cons b r => simp [inOne]
theorem flat_signs (l : List Nat) : (l.map fun c => PyData.str (tx [c])).all flatD = true := by
  rw [List.all_map, List.all_eq_true]
  intro x _; rfl
theorem g_in_signs {z : Bool} {s l : List Nat} : gIn z (.str (tx s)) (.tuple (l.map fun c => .str (tx [c]))) = some (.bool (z ^^ inOne l s)) := by
  show (if flatD (.str (tx s)) = true ∧ (l.map fun c => PyData.str (tx [c])).all flatD = true then some (PyData.bool (z ^^ (l.map fun c => PyData.str (tx [c])).any fun y => PyData.eqv y (.str (tx s)))) else none) = _
  rw [if_pos ⟨rfl, flat_signs l⟩, any_signs]
theorem g_in_two {z : Bool} {s : List Nat} {a b : Nat} : gIn z (.str (tx s)) (.tuple [.str (tx [a]), .str (tx [b])]) = some (.bool (z ^^ inOne [a, b] s)) := g_in_signs (l := [a, b])
theorem optN_n (p : Nat) : optN p none = .none := rfl
theorem optN_s (p k : Nat) : optN p (some k) = .int ((p + k : Nat) : Int) := rfl
theorem opts : type_of% (And.intro @optN_n @optN_s) := And.intro @optN_n @optN_s
def spn (s l : List Nat) : Nat := (l.takeWhile fun c => decide (c ∉ s)).length
theorem spn_cons (s : List Nat) (c : Nat) (l : List Nat) : spn s (c :: l) = if c ∈ s then 0 else spn s l + 1 := by
  unfold spn
  rw [List.takeWhile_cons]
  by_cases h : c ∈ s <;> simp [h]
theorem tx_tl (x : Str) : tx (tl x) = x := by obtain ⟨⟨x⟩⟩ := x; rfl
theorem strs_tl {xs : List Str} {ls : List (List Nat)} (h : xs.map tl = ls) : xs = ls.map tx := by
  subst h
  rw [List.map_map]
  conv => lhs; rw [← List.map_id xs]
  exact List.map_congr_left fun x _ => (tx_tl x).symm
theorem lower_tx {t : List Nat} (h : ∀ c, c ∈ t → c < 128) : Txt.lower (tx t) = tx (t.map lo1) := by
  rw [lower_ascii (x := tx t) h]
  simp
theorem upper_tx {t : List Nat} (h : ∀ c, c ∈ t → c < 128) : Txt.upper (tx t) = tx (t.map up1) := by
  rw [upper_ascii (x := tx t) h]
  simp
theorem lc_map {i : Nat} {e : FE} {f : PyData → PyData} {ρ : Env} (hρ : ρ.set i .un = ρ) : ∀ (items acc : List PyData), (∀ d, d ∈ items → e (ρ.set i (.dat d)) = some (ρ.set i (.dat d), f d)) → acc.length + items.length ≤ 16777216 → lcQ i qYes e items ρ acc = some (ρ, acc ++ items.map f)
  | [], acc, _, _ => by rw [List.map_nil, List.append_nil]; rfl
  | d :: ds, acc, h, hl => by
    rw [List.length_cons] at hl
    show (some (ρ.set i (.dat d), true)).bind _ = _
    rw [Option.bind_some]
    show (if true = true then (e (ρ.set i (.dat d))).bind _ else _) = _
    rw [if_pos rfl, h d (List.mem_cons_self ..), Option.bind_some]
    show (if acc.length < 16777216 then lcQ i qYes e ds ((ρ.set i (.dat d)).set i .un) (acc ++ [f d]) else none) = _
    rw [if_pos (by omega), List.set_set, hρ, lc_map hρ ds (acc ++ [f d]) (fun d' h' => h d' (List.mem_cons_of_mem _ h')) (by rw [List.length_append]; simp; omega), List.append_assoc]; rfl
theorem cut_to (t : List Nat) (j : Nat) : cutS (tx t) none (some (j : Int)) = tx (t.take j) := by
  have h := cut_mid t 0 j
  rw [List.drop_zero, Nat.sub_zero] at h
  rw [← h]
  unfold cutS
  have e : HT.sIx (tx t).length 0 none = HT.sIx (tx t).length 0 (some ((0 : Nat) : Int)) := by rw [HT.sIx_nat]; simp [HT.sIx]
  rw [e]
theorem cut_from (t : List Nat) (i : Nat) : cutS (tx t) (some (i : Int)) none = tx (t.drop i) := by
  have h := cut_mid t i t.length
  have e : HT.sIx (tx t).length (tx t).length none = HT.sIx (tx t).length (tx t).length (some ((t.length : Nat) : Int)) := by rw [HT.sIx_nat, tx_len]; simp [HT.sIx]
  unfold cutS at h ⊢
  rw [e, h, List.take_of_length_le (by rw [List.length_drop]; omega)]
theorem any_strs (s : List Nat) : ∀ l : List (List Nat), ((l.map fun c => PyData.str (tx c)).any fun y => PyData.eqv y (.str (tx s))) = decide (s ∈ l)
  | [] => rfl
  | c :: l => by
    rw [List.map_cons, List.any_cons, any_strs s l, eqv_str]
    simp only [txeq]
    by_cases h : c = s
    · subst h; simp
    · have h2 : ¬ s = c := fun e => h e.symm
      simp [h, h2]
theorem flat_strs (l : List (List Nat)) : (l.map fun c => PyData.str (tx c)).all flatD = true := by
  rw [List.all_map, List.all_eq_true]
  intro x _; rfl
theorem g_in_tts {z : Bool} {s : List Nat} {l : List (List Nat)} : gIn z (.str (tx s)) (.tuple (l.map fun c => .str (tx c))) = some (.bool (z ^^ decide (s ∈ l))) := by
  show (if flatD (.str (tx s)) = true ∧ (l.map fun c => PyData.str (tx c)).all flatD = true then some (PyData.bool (z ^^ (l.map fun c => PyData.str (tx c)).any fun y => PyData.eqv y (.str (tx s)))) else none) = _
  rw [if_pos ⟨rfl, flat_strs l⟩, any_strs]
theorem g_in_ttl {z : Bool} {s : List Nat} {l : List (List Nat)} : gIn z (.str (tx s)) (.list (l.map fun c => .str (tx c))) = some (.bool (z ^^ decide (s ∈ l))) := by
  show (if flatD (.str (tx s)) = true ∧ (l.map fun c => PyData.str (tx c)).all flatD = true then some (PyData.bool (z ^^ (l.map fun c => PyData.str (tx c)).any fun y => PyData.eqv y (.str (tx s)))) else none) = _
  rw [if_pos ⟨rfl, flat_strs l⟩, any_strs]
theorem nest_and {α : Type} {a b : Prop} [Decidable a] [Decidable b] {x r : α} : (if a then (if b then x else r) else r) = if a ∧ b then x else r := by
  by_cases h1 : a <;> by_cases h2 : b <;> simp [h1, h2]
theorem nest_or {α : Type} {a b : Prop} [Decidable a] [Decidable b] {x r : α} : (if a then x else (if b then x else r)) = if a ∨ b then x else r := by
  by_cases h1 : a <;> by_cases h2 : b <;> simp [h1, h2]
theorem ite_II {c : Prop} [Decidable c] {a b : Nat} : some (II (if c then a else b)) = if c then some (II a) else some (II b) := by split <;> rfl
/-! ### texts put together, cut and searched; comprehensions with draws -/
theorem drop_tw (p : Nat → Bool) : ∀ t : List Nat, t.drop (t.takeWhile p).length = t.dropWhile p
  | [] => rfl
  | c :: t => by
    by_cases h : p c = true
    · rw [List.takeWhile_cons_of_pos h, List.dropWhile_cons_of_pos h, List.length_cons, List.drop_succ_cons, drop_tw p t]
    · rw [List.takeWhile_cons_of_neg h, List.dropWhile_cons_of_neg h]; rfl
def stripL (s t : List Nat) : List Nat := ((t.dropWhile fun c => decide (c ∈ s)).reverse.dropWhile fun c => decide (c ∈ s)).reverse
theorem goes_tx (s : List Nat) : (fun c => (tx s).cps.contains c) = fun c => decide (c ∈ s) := by
  funext c
  show s.toArray.contains c = _
  simp
theorem strip_tx (t s : List Nat) : Txt.stripChars (tx t) (tx s) = tx (stripL s t) := by
  apply ext_tl
  unfold Txt.stripChars
  rw [PyProof.Rows.stripBy_eq, tl_strSub]
  simp only [stripLo, stripHi, if_true]
  rw [show (tx s).cps.contains = (fun c => (tx s).cps.contains c) from rfl, goes_tx]
  show List.take _ (List.drop (t.takeWhile _).length t) = stripL s t
  rw [drop_tw]
  unfold stripL
  rw [← drop_tw _ (List.reverse _), List.reverse_drop, List.reverse_reverse, List.length_reverse]
  have hl : (t.dropWhile fun c => decide (c ∈ s)).length = t.length - (t.takeWhile fun c => decide (c ∈ s)).length := by
    rw [← drop_tw, List.length_drop]
  rw [show (tx t).length = t.length from tx_len t]
  congr 1
  omega
theorem dw_nil (p : Nat → Bool) : ∀ t : List Nat, t.dropWhile p = [] ↔ t.all p = true
  | [] => by simp
  | c :: t => by
    by_cases h : p c = true
    · rw [List.dropWhile_cons_of_pos h, dw_nil p t]; simp [h]
    · rw [List.dropWhile_cons_of_neg h]; simp [h]
theorem dw_head (p : Nat → Bool) : ∀ (t : List Nat) {c : Nat} {r : List Nat}, t.dropWhile p = c :: r → ¬ p c = true
  | [], _, _, h => by cases h
  | a :: t, c, r, h => by
    by_cases ha : p a = true
    · rw [List.dropWhile_cons_of_pos ha] at h; exact dw_head p t h
    · rw [List.dropWhile_cons_of_neg ha] at h; cases h; exact ha
theorem strip_nil (s t : List Nat) : stripL s t = [] ↔ t.all (fun c => decide (c ∈ s)) = true := by
  unfold stripL
  rw [List.reverse_eq_nil_iff, dw_nil, List.all_reverse, ← dw_nil _ t]
  constructor
  · intro h
    cases e : t.dropWhile (fun c => decide (c ∈ s)) with
    | nil => rfl
    | cons c r =>
      rw [e] at h
      have h1 : decide (c ∈ s) = true := by rw [List.all_cons] at h; exact (Bool.and_eq_true_iff.mp h).1
      exact absurd h1 (dw_head (fun c => decide (c ∈ s)) t e)
  · intro h; rw [h]; rfl
theorem join0 (ls : List (List Nat)) : Txt.join (tx []) (ls.map tx) = tx ls.flatten := by
  apply ext_tl
  rw [join_eq, tl_join, List.map_map]
  have e : (tl ∘ tx) = id := rfl
  rw [e, List.map_id]
  show joinL [] ls = ls.flatten
  induction ls with
  | nil => rfl
  | cons a ls ih =>
    cases ls with
    | nil => simp [joinL]
    | cons b ls => simp only [joinL, List.flatten_cons, List.append_nil] at ih ⊢; rw [ih]; rfl
theorem g_join0 {ls : List (List Nat)} (h : ls.flatten.length ≤ 16777216) : gJoin (tx []) (.list (ls.map fun l => .str (tx l))) = some (.str (tx ls.flatten)) := by
  have e : (ls.map fun l => PyData.str (tx l)) = (ls.map tx).map .str := by rw [List.map_map]; rfl
  show (gSs _).bind _ = _
  rw [e, gSs_of, Option.bind_some]
  have h2 : ((ls.map tx).map (·.length)).sum = ls.flatten.length := by
    rw [List.map_map, List.length_flatten]
    rfl
  rw [h2, show (tx []).length = 0 from rfl, Nat.mul_zero, Nat.add_zero, if_pos h, join0]
inductive All2 (G : PyData → PyData → Prop) : List PyData → List PyData → Prop
  | nil : All2 G [] []
  | cons {x y : PyData} {xs ys : List PyData} : G x y → All2 G xs ys → All2 G (x :: xs) (y :: ys)
/-- a comprehension that draws -/
theorem lc_inv {W : List PyData → Prop} {i : Nat} {e : FE} {G : PyData → PyData → Prop} {R : List PyData → Env} (hR : ∀ ws, (R ws).set i .un = R ws) : ∀ (items acc : List PyData), (∀ d, d ∈ items → ∀ ws, W ws → ∃ ws' x, e ((R ws).set i (.dat d)) = some ((R ws').set i (.dat d), x) ∧ W ws' ∧ G d x) → acc.length + items.length ≤ 16777216 → ∀ ws, W ws → ∃ ws' ys, lcQ i qYes e items (R ws) acc = some (R ws', acc ++ ys) ∧ W ws' ∧ All2 G items ys
  | [], acc, _, _, ws, h => ⟨ws, [], by rw [List.append_nil]; rfl, h, .nil⟩
  | d :: ds, acc, turn, hl, ws, h => by
    rw [List.length_cons] at hl
    obtain ⟨ws1, x, e1, h1, g1⟩ := turn d (List.mem_cons_self ..) ws h
    obtain ⟨ws2, ys, e2, h2, g2⟩ := lc_inv hR ds (acc ++ [x]) (fun d' h' => turn d' (List.mem_cons_of_mem _ h')) (by rw [List.length_append]; simp; omega) ws1 h1
    refine ⟨ws2, x :: ys, ?_, h2, .cons g1 g2⟩
    show (some ((R ws).set i (.dat d), true)).bind _ = _
    rw [Option.bind_some]
    show (if true = true then (e ((R ws).set i (.dat d))).bind _ else _) = _
    rw [if_pos rfl, e1, Option.bind_some]
    show (if acc.length < 16777216 then lcQ i qYes e ds (((R ws1).set i (.dat d)).set i .un) (acc ++ [x]) else none) = _
    rw [if_pos (by omega), List.set_set, hR, e2, List.append_assoc]; rfl
/-- .. that leaves some out -/
theorem lc_filter {i : Nat} {t : FT} {e : FE} {p : PyData → Bool} {ρ : Env} (hρ : ρ.set i .un = ρ) : ∀ (items acc : List PyData), (∀ d, d ∈ items → t (ρ.set i (.dat d)) = some (ρ.set i (.dat d), p d)) → (∀ d, d ∈ items → e (ρ.set i (.dat d)) = some (ρ.set i (.dat d), d)) → acc.length + items.length ≤ 16777216 → lcQ i t e items ρ acc = some (ρ, acc ++ items.filter p)
  | [], acc, _, _, _ => by rw [List.filter_nil, List.append_nil]; rfl
  | d :: ds, acc, ht, he, hl => by
    rw [List.length_cons] at hl
    show (t (ρ.set i (.dat d))).bind _ = _
    rw [ht d (List.mem_cons_self ..), Option.bind_some]
    cases hp : p d with
    | true =>
      show (if true = true then (e (ρ.set i (.dat d))).bind _ else _) = _
      rw [if_pos rfl, he d (List.mem_cons_self ..), Option.bind_some]
      show (if acc.length < 16777216 then lcQ i t e ds ((ρ.set i (.dat d)).set i .un) (acc ++ [d]) else none) = _
      rw [if_pos (by omega), List.set_set, hρ, lc_filter hρ ds (acc ++ [d]) (fun d' h' => ht d' (List.mem_cons_of_mem _ h')) (fun d' h' => he d' (List.mem_cons_of_mem _ h')) (by rw [List.length_append]; simp; omega), List.append_assoc, List.filter_cons_of_pos hp]; rfl
    | false =>
      show (if false = true then _ else lcQ i t e ds ((ρ.set i (.dat d)).set i .un) acc) = _
      rw [if_neg Bool.false_ne_true, List.set_set, hρ, lc_filter hρ ds acc (fun d' h' => ht d' (List.mem_cons_of_mem _ h')) (fun d' h' => he d' (List.mem_cons_of_mem _ h')) (by omega), List.filter_cons_of_neg (by rw [hp]; exact Bool.false_ne_true)]
/-! finding -/
theorem pre_split {s l : List Nat} (h : s.isPrefixOf l = true) : ∃ y, l = s ++ y := by
  obtain ⟨y, hy⟩ := List.isPrefixOf_iff_prefix.mp h
  exact ⟨y, hy.symm⟩
theorem findL_split {s : List Nat} : ∀ {l : List Nat} {k : Nat}, findL s l = some k → ∃ x y, l = x ++ s ++ y ∧ x.length = k
  | [], k, h => by
    unfold findL at h
    split at h
    · rename_i hp
      obtain ⟨y, hy⟩ := pre_split hp
      exact ⟨[], y, by simpa using hy, by cases h; rfl⟩
    · cases h
  | c :: r, k, h => by
    unfold findL at h
    split at h
    · rename_i hp
      obtain ⟨y, hy⟩ := pre_split hp
      exact ⟨[], y, by simpa using hy, by cases h; rfl⟩
    · cases e : findL s r with
      | none => rw [e] at h; cases h
      | some j =>
        rw [e] at h; cases h
        obtain ⟨x, y, h1, h2⟩ := findL_split e
        exact ⟨c :: x, y, by rw [h1]; rfl, by rw [List.length_cons, h2]⟩
theorem findL_has {s : List Nat} (y : List Nat) : ∀ x : List Nat, (findL s (x ++ s ++ y)).isSome = true
  | [] => by
    have hp : s.isPrefixOf (s ++ y) = true := List.isPrefixOf_iff_prefix.mpr ⟨y, rfl⟩
    rw [List.nil_append]
    cases e : s ++ y with
    | nil => rw [e] at hp; unfold findL; rw [if_pos hp]; rfl
    | cons c r => rw [e] at hp; unfold findL; rw [if_pos hp]; rfl
  | c :: x => by
    show (findL s (c :: (x ++ s ++ y))).isSome = true
    unfold findL
    split
    · rfl
    · have := findL_has (s := s) y x
      cases e : findL s (x ++ s ++ y) with
      | none => rw [e] at this; cases this
      | some j => rfl
theorem findL_none {s l : List Nat} (h : ∀ x y, l ≠ x ++ s ++ y) : (findL s l).isSome = false := by
  cases e : findL s l with
  | none => rfl
  | some k => obtain ⟨x, y, h1, _⟩ := findL_split e; exact absurd h1 (h x y)
end Pm.Q
namespace Pm.Q
open PySem PySem.Spec PyProof.Rows L2 TL Pm
abbrev TTs (l : List (List Nat)) : List PyData := l.map fun s => .str (tx s)
theorem of_tts {l : List (List Nat)} {x : PyData} (h : x ∈ TTs l) : ∃ s, s ∈ l ∧ x = .str (tx s) := by
  obtain ⟨s, hs, e⟩ := List.mem_map.mp h
  exact ⟨s, hs, e.symm⟩
theorem tts_app (a b : List (List Nat)) : TTs a ++ TTs b = TTs (a ++ b) := (List.map_append ..).symm
theorem tts_take (l : List (List Nat)) (n : Nat) : (TTs l).take n = TTs (l.take n) := List.map_take.symm
theorem tts_drop (l : List (List Nat)) (n : Nat) : (TTs l).drop n = TTs (l.drop n) := List.map_drop.symm
/-! ### lines and texts -/
def textN (rows : List (List Nat)) : List Nat := (rows.map fun l => l ++ [10]).flatten
theorem text_cons (l : List Nat) (rows : List (List Nat)) : textN (l :: rows) = l ++ 10 :: textN rows := by simp [textN]
theorem pre_one (c a : Nat) (r : List Nat) : pre [c] (a :: r) = decide (a = c) := by
  show ([a] == [c]) = _
  by_cases h : a = c
  · subst h; simp
  · simp [h]
theorem spl_line : ∀ (l acc r : List Nat), 10 ∉ l → spl [10] 0 acc (l ++ 10 :: r) = (acc ++ l) :: spl [10] 0 [] r
  | [], acc, r, _ => by
    rw [List.nil_append, spl_hit (by rw [pre_one]; rfl), List.append_nil]; rfl
  | c :: l, acc, r, h => by
    have hc : ¬ c = 10 := fun e => h (by rw [e]; exact List.mem_cons_self ..)
    rw [List.cons_append, spl_miss (by rw [pre_one, decide_eq_false hc]), spl_line l (acc ++ [c]) r (fun z => h (List.mem_cons_of_mem _ z)), List.append_assoc]; rfl
theorem spl_last : ∀ (l acc : List Nat), 10 ∉ l → spl [10] 0 acc l = [acc ++ l]
  | [], acc, _ => by rw [spl_nil, List.append_nil]
  | c :: l, acc, h => by
    have hc : ¬ c = 10 := fun e => h (by rw [e]; exact List.mem_cons_self ..)
    rw [spl_miss (by rw [pre_one, decide_eq_false hc]), spl_last l (acc ++ [c]) (fun z => h (List.mem_cons_of_mem _ z)), List.append_assoc]; rfl
theorem spl_text : ∀ (rows : List (List Nat)) (r : List Nat), (∀ l, l ∈ rows → 10 ∉ l) → 10 ∉ r → spl [10] 0 [] (textN rows ++ r) = rows ++ [r]
  | [], r, _, hr => by
    show spl [10] 0 [] ([] ++ r) = _
    rw [List.nil_append, spl_last r [] hr]; rfl
  | l :: rows, r, h, hr => by
    rw [text_cons, List.append_assoc, List.cons_append, spl_line l [] _ (h l (List.mem_cons_self ..)), spl_text rows r (fun x hx => h x (List.mem_cons_of_mem _ hx)) hr]; rfl
/-- a text of some lines, with a line feed at its end or not -/
inductive TextOf : List (List Nat) → List Nat → Prop
  | full {rows : List (List Nat)} : TextOf rows (textN rows)
  | bare {rows : List (List Nat)} {l : List Nat} : l ≠ [] → TextOf (rows ++ [l]) (textN rows ++ l)
theorem text_split {rows : List (List Nat)} {t : List Nat} (h : TextOf rows t) (hl : ∀ l, l ∈ rows → 10 ∉ l) : ∃ z, spl [10] 0 [] t = (if z = [] then rows ++ [[]] else rows) ∧ (z ≠ [] → ∃ r, rows = r ++ [z]) := by
  cases h with
  | full =>
    refine ⟨[], ?_, fun h => absurd rfl h⟩
    have := spl_text rows [] hl (by simp)
    rw [List.append_nil] at this
    rw [if_pos rfl, this]
  | @bare rows l hn =>
    refine ⟨l, ?_, fun _ => ⟨rows, rfl⟩⟩
    rw [if_neg hn]
    exact spl_text rows l (fun x hx => hl x (List.mem_append_left _ hx)) (hl l (List.mem_append_right _ (List.mem_singleton.mpr rfl)))
theorem g_split_nl (t : List Nat) (h : t.length + 2 ≤ 16777216) : gSplit (tx t) [.str (tx [10])] = some (.list (TTs (spl [10] 0 [] t))) := by
  have h1 : (Txt.split (tx t) (tx [10])).map tl = spl [10] 0 [] t := split_spl _ _ (by simp [tl]) (TL.kind_ok (by decide +kernel))
  have h2 := strs_tl h1
  rw [g_split, if_pos ⟨by rfl, by rw [tx_len]; exact h⟩, h2, List.map_map]; rfl
theorem last_at {α : Type} (xs : List α) (x : α) : atI (xs ++ [x]) (-1) = some x := by
  have e : ixN (xs ++ [x]).length (-1) = some xs.length := by
    unfold ixN
    rw [if_neg (by decide), List.length_append, List.length_singleton, if_pos (by omega)]
    congr 1
    omega
  unfold atI
  rw [e, Option.bind_some, List.getElem?_append_right (Nat.le_refl _), Nat.sub_self]; rfl
theorem cut_init {α : Type} (xs : List α) (x : α) : cutD (xs ++ [x]) none (some (-1)) = xs := by
  have e : HT.sIx (xs ++ [x]).length (xs ++ [x]).length (some (-1)) = xs.length := by
    rw [List.length_append, List.length_singleton]
    show (if (-1 : Int) < 0 then (-1 + ((xs.length + 1 : Nat) : Int)).toNat else min (-1 : Int).toNat (xs.length + 1)) = _
    rw [if_pos (by decide)]
    omega
  unfold cutD
  rw [e]
  show ((xs ++ [x]).drop 0).take (xs.length - 0) = xs
  rw [List.drop_zero, Nat.sub_zero, List.take_left]
theorem F_lines {rows : List (List Nat)} {t : List Nat} (h : TextOf rows t) (hl : ∀ l, l ∈ rows → 10 ∉ l) (ht : t.length ≤ 100000) : F_lines_of [TT t] = some (.list (TTs rows)) := by
  obtain ⟨z, h1, h2⟩ := text_split h hl
  have g := g_split_nl t (by omega)
  rw [h1] at g
  unfold F_lines_of
  by_cases hz : z = []
  · rw [if_pos hz] at g
    have e : TTs (rows ++ [[]]) = TTs rows ++ [.str (tx [])] := List.map_append ..
    rw [e] at g
    have la := last_at (TTs rows) (.str (tx []))
    have ci := cut_init (TTs rows) (.str (tx []))
    simp only [fxs, fxs2, isN, isiD, gOwn, List.set_cons_zero, List.set_cons_succ, List.length_cons, List.length_nil, Option.map_some, Option.map_none, ↓reduceIte, Bool.false_eq_true, Bool.true_eq_false, Bool.false_xor, Bool.true_xor, Bool.not_true, Bool.not_false, decide_true, decide_false, Bool.not_eq_true', decide_eq_true_eq, decide_eq_false_iff_not, Nat.reduceAdd, Nat.reduceLeDiff, Nat.reduceLT, Int.reduceAdd, q_lines_of, g, la, txeq, ci]
  · rw [if_neg hz] at g
    obtain ⟨r, rfl⟩ := h2 hz
    have e : TTs (r ++ [z]) = TTs r ++ [.str (tx z)] := List.map_append ..
    rw [e] at g ⊢
    have la := last_at (TTs r) (.str (tx z))
    simp only [fxs, fxs2, isN, isiD, gOwn, List.set_cons_zero, List.set_cons_succ, List.length_cons, List.length_nil, Option.map_some, Option.map_none, ↓reduceIte, Bool.false_eq_true, Bool.true_eq_false, Bool.false_xor, Bool.true_xor, Bool.not_true, Bool.not_false, decide_true, decide_false, Bool.not_eq_true', decide_eq_true_eq, decide_eq_false_iff_not, Nat.reduceAdd, Nat.reduceLeDiff, Nat.reduceLT, Int.reduceAdd, q_lines_of, g, la, txeq, hz]
theorem F_text {rows : List (List Nat)} (h1 : rows.length ≤ 1000) (h2 : ∀ l, l ∈ rows → l.length ≤ 1000) (h3 : (textN rows).length ≤ 100000) : F_text_of [.list (TTs rows)] = some (TT (textN rows)) ∧ F_j_text [.list (TTs rows)] = some (TT (textN rows)) := by
  have j := g_join0 (ls := rows.map fun l => l ++ [10]) (by show (textN rows).length ≤ _; omega)
  have f : ∀ d, d ∈ TTs rows → ∃ l, l ∈ rows ∧ d = .str (tx l) := fun d hd => of_tts hd
  have lcA : lcQ 1 qYes q_text_of_e1 (TTs rows) [.dat (.list (TTs rows)), .un] [] = some ([.dat (.list (TTs rows)), .un], TTs (rows.map fun l => l ++ [10])) := by
    rw [lc_map (f := fun d => match d with | .str x => .str (tx (tl x ++ [10])) | _ => .none) rfl _ [] (fun d hd => by
      obtain ⟨l, hl, rfl⟩ := f d hd
      have ll : l.length ≤ 16777215 := by have := h2 l hl; omega
      simp only [fxs, fxs2, isN, isiD, gOwn, List.set_cons_zero, List.set_cons_succ, List.length_cons, List.length_nil, Option.map_some, Option.map_none, ↓reduceIte, Bool.false_eq_true, Bool.true_eq_false, Bool.false_xor, Bool.true_xor, Bool.not_true, Bool.not_false, decide_true, decide_false, Bool.not_eq_true', decide_eq_true_eq, decide_eq_false_iff_not, Nat.reduceAdd, Nat.reduceLeDiff, Nat.reduceLT, Int.reduceAdd, q_text_of_e1, tx_app, ll]) (by rw [List.length_map]; simp; omega)]
    show some (_, [] ++ (rows.map fun s => PyData.str (tx s)).map _) = some (_, (rows.map fun l => l ++ [10]).map fun s => PyData.str (tx s))
    rw [List.nil_append, List.map_map, List.map_map]; rfl
  have lcB : lcQ 1 qYes q_j_text_e1 (TTs rows) [.dat (.list (TTs rows)), .un] [] = some ([.dat (.list (TTs rows)), .un], TTs (rows.map fun l => l ++ [10])) := by
    rw [lc_map (f := fun d => match d with | .str x => .str (tx (tl x ++ [10])) | _ => .none) rfl _ [] (fun d hd => by
      obtain ⟨l, hl, rfl⟩ := f d hd
      have ll : l.length ≤ 16777215 := by have := h2 l hl; omega
      simp only [fxs, fxs2, isN, isiD, gOwn, List.set_cons_zero, List.set_cons_succ, List.length_cons, List.length_nil, Option.map_some, Option.map_none, ↓reduceIte, Bool.false_eq_true, Bool.true_eq_false, Bool.false_xor, Bool.true_xor, Bool.not_true, Bool.not_false, decide_true, decide_false, Bool.not_eq_true', decide_eq_true_eq, decide_eq_false_iff_not, Nat.reduceAdd, Nat.reduceLeDiff, Nat.reduceLT, Int.reduceAdd, q_j_text_e1, tx_app, ll]) (by rw [List.length_map]; simp; omega)]
    show some (_, [] ++ (rows.map fun s => PyData.str (tx s)).map _) = some (_, (rows.map fun l => l ++ [10]).map fun s => PyData.str (tx s))
    rw [List.nil_append, List.map_map, List.map_map]; rfl
  constructor
  · unfold F_text_of
    simp only [fxs, fxs2, isN, isiD, gOwn, List.set_cons_zero, List.set_cons_succ, List.length_cons, List.length_nil, Option.map_some, Option.map_none, ↓reduceIte, Bool.false_eq_true, Bool.true_eq_false, Bool.false_xor, Bool.true_xor, Bool.not_true, Bool.not_false, decide_true, decide_false, Bool.not_eq_true', decide_eq_true_eq, decide_eq_false_iff_not, Nat.reduceAdd, Nat.reduceLeDiff, Nat.reduceLT, Int.reduceAdd, q_text_of, lcA, j]
    rfl
  · unfold F_j_text
    simp only [fxs, fxs2, isN, isiD, gOwn, List.set_cons_zero, List.set_cons_succ, List.length_cons, List.length_nil, Option.map_some, Option.map_none, ↓reduceIte, Bool.false_eq_true, Bool.true_eq_false, Bool.false_xor, Bool.true_xor, Bool.not_true, Bool.not_false, decide_true, decide_false, Bool.not_eq_true', decide_eq_true_eq, decide_eq_false_iff_not, Nat.reduceAdd, Nat.reduceLeDiff, Nat.reduceLT, Int.reduceAdd, q_j_text, lcB, j]
    rfl
/-! ### signs that a text has -/
def okC (c : Nat) : Bool := decide (c ∈ [32, 9, 10]) || (decide (c ∈ [97, 98, 99, 100, 101, 102, 103, 104, 105, 106, 107, 108, 109, 110, 111, 112, 113, 114, 115, 116, 117, 118, 119, 120, 121, 122, 65, 66, 67, 68, 69, 70, 71, 72, 73, 74, 75, 76, 77, 78, 79, 80, 81, 82, 83, 84, 85, 86, 87, 88, 89, 90]) || (decide (c ∈ [48, 49, 50, 51, 52, 53, 54, 55, 56, 57]) || decide (c ∈ [33, 34, 35, 36, 38, 39, 40, 41, 42, 43, 44, 45, 46, 47, 58, 59, 60, 61, 62, 63, 64, 91, 92, 93, 94, 95, 96, 123, 124, 125, 126])))
def okL (l : List Nat) : Bool := l.all okC
theorem wrong_turn {c : Nat} (h : okC c = true) {v0 v1 : SV} : q_first_wrong_b1 [v0, v1, .dat (.str (tx [c]))] = some (.nx [v0, v1, .dat (.str (tx [c]))]) := by
  unfold okC at h
  rw [Bool.or_eq_true, Bool.or_eq_true, Bool.or_eq_true, decide_eq_true_eq, decide_eq_true_eq, decide_eq_true_eq, decide_eq_true_eq] at h
  by_cases h1 : c ∈ [32, 9, 10]
  · simp only [fxs, fxs2, isN, isiD, gOwn, List.set_cons_zero, List.set_cons_succ, List.length_cons, List.length_nil, Option.map_some, Option.map_none, ↓reduceIte, Bool.false_eq_true, Bool.true_eq_false, Bool.false_xor, Bool.true_xor, Bool.not_true, Bool.not_false, decide_true, decide_false, Bool.not_eq_true', decide_eq_true_eq, decide_eq_false_iff_not, Nat.reduceAdd, Nat.reduceLeDiff, Nat.reduceLT, Int.reduceAdd, q_first_wrong_b1, inS1, h1]
  · by_cases h2 : c ∈ [97, 98, 99, 100, 101, 102, 103, 104, 105, 106, 107, 108, 109, 110, 111, 112, 113, 114, 115, 116, 117, 118, 119, 120, 121, 122, 65, 66, 67, 68, 69, 70, 71, 72, 73, 74, 75, 76, 77, 78, 79, 80, 81, 82, 83, 84, 85, 86, 87, 88, 89, 90]
    · simp only [fxs, fxs2, isN, isiD, gOwn, List.set_cons_zero, List.set_cons_succ, List.length_cons, List.length_nil, Option.map_some, Option.map_none, ↓reduceIte, Bool.false_eq_true, Bool.true_eq_false, Bool.false_xor, Bool.true_xor, Bool.not_true, Bool.not_false, decide_true, decide_false, Bool.not_eq_true', decide_eq_true_eq, decide_eq_false_iff_not, Nat.reduceAdd, Nat.reduceLeDiff, Nat.reduceLT, Int.reduceAdd, q_first_wrong_b1, inS1, h1, h2]
    · by_cases h3 : c ∈ [48, 49, 50, 51, 52, 53, 54, 55, 56, 57]
      · simp only [fxs, fxs2, isN, isiD, gOwn, List.set_cons_zero, List.set_cons_succ, List.length_cons, List.length_nil, Option.map_some, Option.map_none, ↓reduceIte, Bool.false_eq_true, Bool.true_eq_false, Bool.false_xor, Bool.true_xor, Bool.not_true, Bool.not_false, decide_true, decide_false, Bool.not_eq_true', decide_eq_true_eq, decide_eq_false_iff_not, Nat.reduceAdd, Nat.reduceLeDiff, Nat.reduceLT, Int.reduceAdd, q_first_wrong_b1, inS1, h1, h2, h3]
      · have h4 := (h.resolve_left h1).resolve_left h2 |>.resolve_left h3
        simp only [fxs, fxs2, isN, isiD, gOwn, List.set_cons_zero, List.set_cons_succ, List.length_cons, List.length_nil, Option.map_some, Option.map_none, ↓reduceIte, Bool.false_eq_true, Bool.true_eq_false, Bool.false_xor, Bool.true_xor, Bool.not_true, Bool.not_false, decide_true, decide_false, Bool.not_eq_true', decide_eq_true_eq, decide_eq_false_iff_not, Nat.reduceAdd, Nat.reduceLeDiff, Nat.reduceLT, Int.reduceAdd, q_first_wrong_b1, inS1, h1, h2, h3, h4]
theorem F_wrong {t : List Nat} (h : okL t = true) : F_first_wrong [TT t] = some .none := by
  have hc : ∀ c, c ∈ t → okC c = true := List.all_eq_true.mp h
  have loop : ∃ ρ', forQ (qT 2 (qGCons (qN 1) (qGCons (qN 2) qGNil))) q_first_wrong_b1 (enumD (t.map fun c => .str (tx [c]))) [.dat (TT t), .un, .un] = some (.nx ρ') ∧ ∃ v1 v2, ρ' = [.dat (TT t), v1, v2] := by
    refine for_inv (fun ρ => ∃ v1 v2, ρ = [.dat (TT t), v1, v2]) _ ?_ _ ⟨_, _, rfl⟩
    rintro d hd ρ ⟨v1, v2, rfl⟩
    obtain ⟨i, hi⟩ := List.getElem?_of_mem hd
    obtain ⟨x, hx, rfl⟩ := enumD_get hi
    obtain ⟨c, hcm, rfl⟩ := List.mem_map.mp (List.mem_of_getElem? hx)
    exact ⟨_, wrong_turn (hc c hcm), _, _, rfl⟩
  obtain ⟨ρ', e, v1, v2, rfl⟩ := loop
  unfold F_first_wrong
  simp only [fxs, fxs2, isN, isiD, gOwn, List.set_cons_zero, List.set_cons_succ, List.length_cons, List.length_nil, Option.map_some, Option.map_none, ↓reduceIte, Bool.false_eq_true, Bool.true_eq_false, Bool.false_xor, Bool.true_xor, Bool.not_true, Bool.not_false, decide_true, decide_false, Bool.not_eq_true', decide_eq_true_eq, decide_eq_false_iff_not, Nat.reduceAdd, Nat.reduceLeDiff, Nat.reduceLT, Int.reduceAdd, q_first_wrong, e]
theorem F_source {t : List Nat} (h : okL t = true) : F_check_source [TT t] = some .none := by
  unfold F_check_source
  simp only [fxs, fxs2, isN, isiD, gOwn, List.set_cons_zero, List.set_cons_succ, List.length_cons, List.length_nil, Option.map_some, Option.map_none, ↓reduceIte, Bool.false_eq_true, Bool.true_eq_false, Bool.false_xor, Bool.true_xor, Bool.not_true, Bool.not_false, decide_true, decide_false, Bool.not_eq_true', decide_eq_true_eq, decide_eq_false_iff_not, Nat.reduceAdd, Nat.reduceLeDiff, Nat.reduceLT, Int.reduceAdd, q_check_source, F_wrong h]
def Gl (l : List Nat) : Prop := okL l = true ∧ 10 ∉ l ∧ l.length ≤ 100
theorem F_line {l : List Nat} (h : Gl l) : F_is_line [TT l] = some (.bool true) := by
  have hn : inS (tx [10]) (tx l) = false := by rw [inS1]; exact decide_eq_false h.2.1
  unfold F_is_line
  simp only [fxs, fxs2, isN, isiD, gOwn, List.set_cons_zero, List.set_cons_succ, List.length_cons, List.length_nil, Option.map_some, Option.map_none, ↓reduceIte, Bool.false_eq_true, Bool.true_eq_false, Bool.false_xor, Bool.true_xor, Bool.not_true, Bool.not_false, decide_true, decide_false, Bool.not_eq_true', decide_eq_true_eq, decide_eq_false_iff_not, Nat.reduceAdd, Nat.reduceLeDiff, Nat.reduceLT, Int.reduceAdd, q_is_line, hn, F_wrong h.1]
theorem F_number {a b : Nat} (h : a ≤ b) {m : Int} (em : m = (b : Int)) : F_is_number [II a, .int m] = some (.bool true) := by
  subst em
  have c1 : ((0 : Int) ≤ (a : Int)) = True := eq_true (by omega)
  have c2 : ((a : Int) ≤ (b : Int)) = True := eq_true (by omega)
  unfold F_is_number
  simp only [fxs, fxs2, isN, isiD, gOwn, List.set_cons_zero, List.set_cons_succ, List.length_cons, List.length_nil, Option.map_some, Option.map_none, ↓reduceIte, Bool.false_eq_true, Bool.true_eq_false, Bool.false_xor, Bool.true_xor, Bool.not_true, Bool.not_false, decide_true, decide_false, Bool.not_eq_true', decide_eq_true_eq, decide_eq_false_iff_not, Nat.reduceAdd, Nat.reduceLeDiff, Nat.reduceLT, Int.reduceAdd, q_is_number, c1, c2]
end Pm.Q
namespace Pm.Q
open PySem PySem.Spec PyProof.Rows L2 TL Pm
theorem cutD_to {α : Type} (xs : List α) (j : Nat) : cutD xs none (some (j : Int)) = xs.take j := by
  unfold cutD
  rw [HT.sIx_nat]
  show (xs.drop 0).take (min j xs.length - 0) = _
  rw [List.drop_zero, Nat.sub_zero]
  by_cases h : j ≤ xs.length
  · rw [Nat.min_eq_left h]
  · rw [Nat.min_eq_right (by omega), List.take_length, List.take_of_length_le (by omega)]
theorem cutD_from {α : Type} (xs : List α) (i : Nat) : cutD xs (some (i : Int)) none = xs.drop i := by
  unfold cutD
  rw [HT.sIx_nat]
  show (xs.drop (min i xs.length)).take (xs.length - min i xs.length) = _
  by_cases h : i ≤ xs.length
  · rw [Nat.min_eq_left h, List.take_of_length_le (by rw [List.length_drop]; omega)]
  · rw [Nat.min_eq_right (by omega), Nat.sub_self, List.take_zero, List.drop_eq_nil_of_le (by omega)]
theorem cutD_mid {α : Type} (xs : List α) (i j : Nat) : cutD xs (some (i : Int)) (some (j : Int)) = (xs.drop i).take (j - i) := by
  unfold cutD
  rw [HT.sIx_nat, HT.sIx_nat]
  by_cases h : i ≤ xs.length
  · rw [Nat.min_eq_left h]
    by_cases h2 : j ≤ xs.length
    · rw [Nat.min_eq_left h2]
    · rw [Nat.min_eq_right (by omega), List.take_of_length_le (by rw [List.length_drop]; omega), List.take_of_length_le (by rw [List.length_drop]; omega)]
  · have e : min i xs.length = xs.length := Nat.min_eq_right (by omega)
    rw [e, List.drop_eq_nil_of_le (Nat.le_refl _), List.drop_eq_nil_of_le (by omega), List.take_nil, List.take_nil]
def MD : Bool → List (List Nat) → PyData
  | true, l => .tuple (TTs l)
  | false, l => .list (TTs l)
abbrev ED (f m : Nat) (b : Bool) (more : List (List Nat)) : PyData := .tuple [II f, II m, MD b more]
structure Ed (rows : List (List Nat)) (f m : Nat) (more : List (List Nat)) : Prop where
  hf : f ≤ rows.length
  hm : m ≤ rows.length - f
  good : ∀ l, l ∈ more → Gl l
  few : more.length ≤ 100
  some : rows.length ≤ 100
theorem all_true : ∀ l : List PyData, gAll (.list (l.map fun _ => .bool true)) = some (.bool true) := by
  intro l
  have e : (l.map fun _ => PyData.bool true) = (l.map fun _ => true).map .bool := by rw [List.map_map]; rfl
  have h : gBs (l.map fun _ => PyData.bool true) = some (l.map fun _ => true) := by
    rw [e]
    exact gBs_of _
  show (gBs _).map _ = _
  rw [h]
  show some (PyData.bool ((l.map fun _ => true).all id)) = _
  have a : (l.map fun _ => true).all id = true := List.all_eq_true.mpr fun x hx => by
    obtain ⟨_, _, rfl⟩ := List.mem_map.mp hx
    rfl
  rw [a]
theorem F_check {rows : List (List Nat)} {f m : Nat} {b : Bool} {more : List (List Nat)} (h : Ed rows f m more) : F_check_edit [.list (TTs rows), ED f m b more] = some .none := by
  have n1 := F_number h.hf (m := (rows.length : Int)) rfl
  have n2 := F_number h.hm (m := (rows.length : Int) - (f : Int)) (by have := h.hf; omega)
  have lt : (TTs rows).length = rows.length := List.length_map ..
  have lc : ∀ v5 : SV, lcQ 5 qYes q_check_edit_e1 (TTs more) [.dat (.list (TTs rows)), .dat (ED f m b more), .dat (II f), .dat (II m), .dat (MD b more), .un] [] = some ([.dat (.list (TTs rows)), .dat (ED f m b more), .dat (II f), .dat (II m), .dat (MD b more), .un], (TTs more).map fun _ => .bool true) := fun v5 => by
    rw [lc_map (f := fun _ => .bool true) rfl _ [] (fun d hd => by
      obtain ⟨l, hl, rfl⟩ := of_tts hd
      simp only [fxs, fxs2, isN, isiD, gOwn, List.set_cons_zero, List.set_cons_succ, List.length_cons, List.length_nil, Option.map_some, Option.map_none, ↓reduceIte, Bool.false_eq_true, Bool.true_eq_false, Bool.false_xor, Bool.true_xor, Bool.not_true, Bool.not_false, decide_true, decide_false, Bool.not_eq_true', decide_eq_true_eq, decide_eq_false_iff_not, Nat.reduceAdd, Nat.reduceLeDiff, Nat.reduceLT, Int.reduceAdd, q_check_edit_e1, F_line (h.good l hl)]) (by rw [List.length_map]; have := h.few; simp; omega)]
    rfl
  have lc' := lc .un
  have at_ := all_true (TTs more)
  have e3 : (((3 : Nat) : Int) = 3) = True := by decide
  have b1 : ((false || true) = false) = False := by decide
  have b2 : ((true || false) = false) = False := by decide
  unfold F_check_edit
  cases b with
  | true =>
    have lc2 := lc'
    simp only [MD] at lc2
    simp only [fxs, fxs2, isN, isiD, gOwn, List.set_cons_zero, List.set_cons_succ, List.length_cons, List.length_nil, Option.map_some, Option.map_none, ↓reduceIte, Bool.false_eq_true, Bool.true_eq_false, Bool.false_xor, Bool.true_xor, Bool.not_true, Bool.not_false, decide_true, decide_false, Bool.not_eq_true', decide_eq_true_eq, decide_eq_false_iff_not, Nat.reduceAdd, Nat.reduceLeDiff, Nat.reduceLT, Int.reduceAdd, q_check_edit, lt, n1, n2, MD, e3, not_true, b1, lc2, at_]
  | false =>
    have lc2 := lc'
    simp only [MD] at lc2
    simp only [fxs, fxs2, isN, isiD, gOwn, List.set_cons_zero, List.set_cons_succ, List.length_cons, List.length_nil, Option.map_some, Option.map_none, ↓reduceIte, Bool.false_eq_true, Bool.true_eq_false, Bool.false_xor, Bool.true_xor, Bool.not_true, Bool.not_false, decide_true, decide_false, Bool.not_eq_true', decide_eq_true_eq, decide_eq_false_iff_not, Nat.reduceAdd, Nat.reduceLeDiff, Nat.reduceLT, Int.reduceAdd, q_check_edit, lt, n1, n2, MD, e3, not_true, b2, lc2, at_]
def doneN (rows : List (List Nat)) (f m : Nat) (more : List (List Nat)) : List (List Nat) := rows.take f ++ more ++ rows.drop (f + m)
theorem md_list {b : Bool} {more : List (List Nat)} : gList (MD b more) = some (.list (TTs more)) := by cases b <;> rfl
theorem md_len {b : Bool} {more : List (List Nat)} : gLen (MD b more) = some (.int (more.length : Int)) := by
  cases b
  · show some (PyData.int ((TTs more).length : Int)) = _
    rw [List.length_map]
  · show some (PyData.int ((TTs more).length : Int)) = _
    rw [List.length_map]
theorem F_both {rows : List (List Nat)} {t : List Nat} {f m : Nat} {b : Bool} {more : List (List Nat)} (ht : TextOf rows t) (hg : ∀ l, l ∈ rows → Gl l) (hok : okL t = true) (hl : t.length ≤ 100000) (h : Ed rows f m more) :
    F_lines_of_both [TT t, ED f m b more] = some (.tuple [.list (TTs rows), .list (TTs (doneN rows f m more))]) := by
  have e1 := F_source hok
  have e2 := F_lines ht (fun l hl => (hg l hl).2.1) hl
  have e3 := F_check (b := b) h
  have c1 := cutD_to (TTs rows) f
  have c2 := cutD_from (TTs rows) (f + m)
  rw [tts_take] at c1
  rw [tts_drop] at c2
  have k1 : (TTs (rows.take f)).length + (TTs more).length ≤ 16777216 := by
    rw [List.length_map, List.length_map, List.length_take]; have := h.few; have := h.some; omega
  have k2 : (TTs (rows.take f ++ more)).length + (TTs (rows.drop (f + m))).length ≤ 16777216 := by
    rw [List.length_map, List.length_map, List.length_append, List.length_take, List.length_drop]; have := h.few; have := h.some; omega
  unfold F_lines_of_both
  simp only [fxs, fxs2, isN, isiD, gOwn, List.set_cons_zero, List.set_cons_succ, List.length_cons, List.length_nil, Option.map_some, Option.map_none, ↓reduceIte, Bool.false_eq_true, Bool.true_eq_false, Bool.false_xor, Bool.true_xor, Bool.not_true, Bool.not_false, decide_true, decide_false, Bool.not_eq_true', decide_eq_true_eq, decide_eq_false_iff_not, Nat.reduceAdd, Nat.reduceLeDiff, Nat.reduceLT, Int.reduceAdd, q_lines_of_both, e1, e2, e3, c1, md_list, k1, tts_app, castk, c2, k2]
  rfl
theorem F_edit {rows : List (List Nat)} {t : List Nat} {f m : Nat} {b : Bool} {more : List (List Nat)} (ht : TextOf rows t) (hg : ∀ l, l ∈ rows → Gl l) (hok : okL t = true) (hl : t.length ≤ 100000) (h : Ed rows f m more)
    (h3 : (textN (doneN rows f m more)).length ≤ 100000) : F_edited [TT t, ED f m b more] = some (TT (textN (doneN rows f m more))) := by
  have e := F_both (b := b) ht hg hok hl h
  have e2 := (F_text (rows := doneN rows f m more) (by
    unfold doneN
    rw [List.length_append, List.length_append, List.length_take, List.length_drop]; have := h.few; have := h.some; omega) (fun l hm => by
    unfold doneN at hm
    rcases List.mem_append.mp hm with hm | hm
    · rcases List.mem_append.mp hm with hm | hm
      · have := (hg l (List.mem_of_mem_take hm)).2.2; omega
      · have := (h.good l hm).2.2; omega
    · have := (hg l (List.mem_of_mem_drop hm)).2.2; omega) h3).1
  unfold F_edited
  simp only [fxs, fxs2, isN, isiD, gOwn, List.set_cons_zero, List.set_cons_succ, List.length_cons, List.length_nil, Option.map_some, Option.map_none, ↓reduceIte, Bool.false_eq_true, Bool.true_eq_false, Bool.false_xor, Bool.true_xor, Bool.not_true, Bool.not_false, decide_true, decide_false, Bool.not_eq_true', decide_eq_true_eq, decide_eq_false_iff_not, Nat.reduceAdd, Nat.reduceLeDiff, Nat.reduceLT, Int.reduceAdd, q_edited, e, atI_1, e2]
theorem F_bk {rows : List (List Nat)} {t : List Nat} {f m : Nat} {b : Bool} {more : List (List Nat)} (ht : TextOf rows t) (hg : ∀ l, l ∈ rows → Gl l) (hok : okL t = true) (hl : t.length ≤ 100000) (h : Ed rows f m more) :
    F_back [TT t, ED f m b more] = some (ED f more.length false ((rows.drop f).take m)) := by
  have e := F_both (b := b) ht hg hok hl h
  have c := cutD_mid (TTs rows) f (f + m)
  rw [Nat.add_sub_cancel_left, tts_drop, tts_take] at c
  unfold F_back
  simp only [fxs, fxs2, isN, isiD, gOwn, List.set_cons_zero, List.set_cons_succ, List.length_cons, List.length_nil, Option.map_some, Option.map_none, ↓reduceIte, Bool.false_eq_true, Bool.true_eq_false, Bool.false_xor, Bool.true_xor, Bool.not_true, Bool.not_false, decide_true, decide_false, Bool.not_eq_true', decide_eq_true_eq, decide_eq_false_iff_not, Nat.reduceAdd, Nat.reduceLeDiff, Nat.reduceLT, Int.reduceAdd, q_back, e, md_len, castk, c]
  rfl
theorem F_dn {rows : List (List Nat)} {f m : Nat} {b : Bool} {more : List (List Nat)} (h : Ed rows f m more) : F_j_done [.list (TTs rows), ED f m b more] = some (.list (TTs (doneN rows f m more))) := by
  have c1 := cutD_to (TTs rows) f
  have c2 := cutD_from (TTs rows) (f + m)
  rw [tts_take] at c1
  rw [tts_drop] at c2
  have k1 : (TTs (rows.take f)).length + (TTs more).length ≤ 16777216 := by
    rw [List.length_map, List.length_map, List.length_take]; have := h.few; have := h.some; omega
  have k2 : (TTs (rows.take f ++ more)).length + (TTs (rows.drop (f + m))).length ≤ 16777216 := by
    rw [List.length_map, List.length_map, List.length_append, List.length_take, List.length_drop]; have := h.few; have := h.some; omega
  unfold F_j_done
  simp only [fxs, fxs2, isN, isiD, gOwn, List.set_cons_zero, List.set_cons_succ, List.length_cons, List.length_nil, Option.map_some, Option.map_none, ↓reduceIte, Bool.false_eq_true, Bool.true_eq_false, Bool.false_xor, Bool.true_xor, Bool.not_true, Bool.not_false, decide_true, decide_false, Bool.not_eq_true', decide_eq_true_eq, decide_eq_false_iff_not, Nat.reduceAdd, Nat.reduceLeDiff, Nat.reduceLT, Int.reduceAdd, q_j_done, c1, md_list, k1, tts_app, castk, c2, k2]
  rfl
theorem F_pl {f m : Nat} {b : Bool} {more : List (List Nat)} : F_j_plain [ED f m b more] = some (ED f m false more) := by
  unfold F_j_plain
  simp only [fxs, fxs2, isN, isiD, gOwn, List.set_cons_zero, List.set_cons_succ, List.length_cons, List.length_nil, Option.map_some, Option.map_none, ↓reduceIte, Bool.false_eq_true, Bool.true_eq_false, Bool.false_xor, Bool.true_xor, Bool.not_true, Bool.not_false, decide_true, decide_false, Bool.not_eq_true', decide_eq_true_eq, decide_eq_false_iff_not, Nat.reduceAdd, Nat.reduceLeDiff, Nat.reduceLT, Int.reduceAdd, q_j_plain, atI_0, atI_1, atI_2, md_list]
  rfl
end Pm.Q
namespace Pm.Q
open PySem PySem.Spec PyProof.Rows L2 TL Pm
def lcpN : List (List Nat) → List (List Nat) → Nat
  | a :: x, b :: y => if a = b then lcpN x y + 1 else 0
  | _, _ => 0
theorem lcp_le : ∀ x y : List (List Nat), lcpN x y ≤ x.length ∧ lcpN x y ≤ y.length
  | [], y => ⟨Nat.le_refl _, Nat.zero_le _⟩
  | a :: x, [] => ⟨Nat.zero_le _, Nat.le_refl _⟩
  | a :: x, b :: y => by
    have ih := lcp_le x y
    unfold lcpN
    split
    · rw [List.length_cons, List.length_cons]; omega
    · omega
theorem lcp_at : ∀ (x y : List (List Nat)) (k : Nat) (h1 : k < x.length) (h2 : k < y.length), k ≤ lcpN x y → (x[k] = y[k] ↔ k < lcpN x y)
  | [], y, k, h1, _, _ => absurd h1 (Nat.not_lt_zero _)
  | a :: x, [], k, _, h2, _ => absurd h2 (Nat.not_lt_zero _)
  | a :: x, b :: y, 0, _, _, _ => by
    unfold lcpN
    show a = b ↔ _
    split
    · rename_i h; exact ⟨fun _ => by omega, fun _ => h⟩
    · rename_i h; exact ⟨fun e => absurd e h, fun e => absurd e (by omega)⟩
  | a :: x, b :: y, k + 1, h1, h2, hk => by
    unfold lcpN at hk ⊢
    split at hk
    · rename_i h
      rw [if_pos h]
      have k1 : k < x.length := by simpa using h1
      have k2 : k < y.length := by simpa using h2
      have ih := lcp_at x y k k1 k2 (by omega)
      show x[k]'k1 = y[k]'k2 ↔ _
      rw [ih]; omega
    · omega
theorem g_line {x : List (List Nat)} {p : Nat} (hp : p < x.length) : atI (TTs x) (p : Int) = some (.str (tx x[p])) :=
  atI_get rfl (by rw [List.getElem?_map, List.getElem?_eq_getElem hp]; rfl)
theorem loop_same {x y : List (List Nat)} (hx : x.length ≤ 1000) (hy : y.length ≤ 1000) : ∀ (m n p : Nat), x.length ≤ p + m → x.length + 1 ≤ n + p → 1 ≤ n → p ≤ lcpN x y →
    whileQ q_same_lines_t1 q_same_lines_b2 n [.dat (.list (TTs x)), .dat (.list (TTs y)), .dat (II p)] = some (.nx [.dat (.list (TTs x)), .dat (.list (TTs y)), .dat (II (lcpN x y))])
  | m, 0, p, _, _, h, _ => by omega
  | 0, n + 1, p, hm, hn, _, hp => by
    have lx : (TTs x).length = x.length := List.length_map ..
    have ly : (TTs y).length = y.length := List.length_map ..
    have le := lcp_le x y
    have cmp : ((p : Int) < (if (y.length : Int) < (x.length : Int) then (y.length : Int) else (x.length : Int))) = False := eq_false (by split <;> omega)
    rw [whileQ_s]
    simp only [fxs, fxs2, isN, isiD, gOwn, List.set_cons_zero, List.set_cons_succ, List.length_cons, List.length_nil, Option.map_some, Option.map_none, ↓reduceIte, Bool.false_eq_true, Bool.true_eq_false, Bool.false_xor, Bool.true_xor, Bool.not_true, Bool.not_false, decide_true, decide_false, Bool.not_eq_true', decide_eq_true_eq, decide_eq_false_iff_not, Nat.reduceAdd, Nat.reduceLeDiff, Nat.reduceLT, Int.reduceAdd, q_same_lines_t1, lx, ly, cmp]
    rw [show lcpN x y = p from by omega]
  | m + 1, n + 1, p, hm, hn, _, hp => by
    have lx : (TTs x).length = x.length := List.length_map ..
    have ly : (TTs y).length = y.length := List.length_map ..
    have le := lcp_le x y
    rw [whileQ_s]
    by_cases h : p < x.length ∧ p < y.length
    · have cmp : ((p : Int) < (if (y.length : Int) < (x.length : Int) then (y.length : Int) else (x.length : Int))) = True := eq_true (by split <;> omega)
      have at_ := lcp_at x y p h.1 h.2 hp
      by_cases he : x[p]'h.1 = y[p]'h.2
      · simp only [fxs, fxs2, isN, isiD, gOwn, List.set_cons_zero, List.set_cons_succ, List.length_cons, List.length_nil, Option.map_some, Option.map_none, ↓reduceIte, Bool.false_eq_true, Bool.true_eq_false, Bool.false_xor, Bool.true_xor, Bool.not_true, Bool.not_false, decide_true, decide_false, Bool.not_eq_true', decide_eq_true_eq, decide_eq_false_iff_not, Nat.reduceAdd, Nat.reduceLeDiff, Nat.reduceLT, Int.reduceAdd, q_same_lines_t1, q_same_lines_b2, lx, ly, cmp, g_line h.1, g_line h.2, txeq, he, cast1]
        exact loop_same hx hy m n (p + 1) (by omega) (by omega) (by omega) (at_.mp he)
      · simp only [fxs, fxs2, isN, isiD, gOwn, List.set_cons_zero, List.set_cons_succ, List.length_cons, List.length_nil, Option.map_some, Option.map_none, ↓reduceIte, Bool.false_eq_true, Bool.true_eq_false, Bool.false_xor, Bool.true_xor, Bool.not_true, Bool.not_false, decide_true, decide_false, Bool.not_eq_true', decide_eq_true_eq, decide_eq_false_iff_not, Nat.reduceAdd, Nat.reduceLeDiff, Nat.reduceLT, Int.reduceAdd, q_same_lines_t1, q_same_lines_b2, lx, ly, cmp, g_line h.1, g_line h.2, txeq, he]
        have : ¬ p < lcpN x y := fun z => he (at_.mpr z)
        rw [show lcpN x y = p from by omega]
    · have cmp : ((p : Int) < (if (y.length : Int) < (x.length : Int) then (y.length : Int) else (x.length : Int))) = False := eq_false (by split <;> omega)
      simp only [fxs, fxs2, isN, isiD, gOwn, List.set_cons_zero, List.set_cons_succ, List.length_cons, List.length_nil, Option.map_some, Option.map_none, ↓reduceIte, Bool.false_eq_true, Bool.true_eq_false, Bool.false_xor, Bool.true_xor, Bool.not_true, Bool.not_false, decide_true, decide_false, Bool.not_eq_true', decide_eq_true_eq, decide_eq_false_iff_not, Nat.reduceAdd, Nat.reduceLeDiff, Nat.reduceLT, Int.reduceAdd, q_same_lines_t1, lx, ly, cmp]
      rw [show lcpN x y = p from by omega]
theorem F_same {x y : List (List Nat)} (hx : x.length ≤ 1000) (hy : y.length ≤ 1000) : F_same_lines [.list (TTs x), .list (TTs y)] = some (II (lcpN x y)) := by
  have e := loop_same hx hy x.length fuel 0 (by omega) (by have hf : fuel = 1000000 := rfl; omega) (by have hf : fuel = 1000000 := rfl; omega) (Nat.zero_le _)
  have z0 : (.int 0 : PyData) = II 0 := rfl
  unfold F_same_lines
  simp only [fxs, fxs2, isN, isiD, gOwn, List.set_cons_zero, List.set_cons_succ, List.length_cons, List.length_nil, Option.map_some, Option.map_none, ↓reduceIte, Bool.false_eq_true, Bool.true_eq_false, Bool.false_xor, Bool.true_xor, Bool.not_true, Bool.not_false, decide_true, decide_false, Bool.not_eq_true', decide_eq_true_eq, decide_eq_false_iff_not, Nat.reduceAdd, Nat.reduceLeDiff, Nat.reduceLT, Int.reduceAdd, q_same_lines, qWhile, z0, e]
def tailN (x y : List (List Nat)) : Nat := lcpN (x.drop (lcpN x y)).reverse (y.drop (lcpN x y)).reverse
theorem tail_le (x y : List (List Nat)) : tailN x y ≤ x.length - lcpN x y ∧ tailN x y ≤ y.length - lcpN x y := by
  have := lcp_le (x.drop (lcpN x y)).reverse (y.drop (lcpN x y)).reverse
  rw [List.length_reverse, List.length_reverse, List.length_drop, List.length_drop] at this
  exact this
abbrev leastD (x y : List (List Nat)) : PyData := ED (lcpN x y) (x.length - lcpN x y - tailN x y) false ((y.drop (lcpN x y)).take (y.length - lcpN x y - tailN x y))
theorem F_least {x y : List (List Nat)} (hx : x.length ≤ 1000) (hy : y.length ≤ 1000) : F_least_of [.list (TTs x), .list (TTs y)] = some (leastD x y) := by
  have e1 := F_same hx hy
  have c1 := cutD_from (TTs x) (lcpN x y)
  have c2 := cutD_from (TTs y) (lcpN x y)
  rw [tts_drop] at c1 c2
  have r1 : (TTs (x.drop (lcpN x y))).reverse = TTs (x.drop (lcpN x y)).reverse := List.map_reverse.symm
  have r2 : (TTs (y.drop (lcpN x y))).reverse = TTs (y.drop (lcpN x y)).reverse := List.map_reverse.symm
  have e2 := F_same (x := (x.drop (lcpN x y)).reverse) (y := (y.drop (lcpN x y)).reverse) (by rw [List.length_reverse, List.length_drop]; omega) (by rw [List.length_reverse, List.length_drop]; omega)
  have g1 : gRev (.list (TTs (x.drop (lcpN x y)))) = some (.list (TTs (x.drop (lcpN x y)).reverse)) := by rw [← r1]; rfl
  have g2 : gRev (.list (TTs (y.drop (lcpN x y)))) = some (.list (TTs (y.drop (lcpN x y)).reverse)) := by rw [← r2]; rfl
  have l1 : (TTs (x.drop (lcpN x y))).length = x.length - lcpN x y := by rw [List.length_map, List.length_drop]
  have l2 : (TTs (y.drop (lcpN x y))).length = y.length - lcpN x y := by rw [List.length_map, List.length_drop]
  have tl := tail_le x y
  have i1 : ((x.length - lcpN x y : Nat) : Int) - ((tailN x y : Nat) : Int) = ((x.length - lcpN x y - tailN x y : Nat) : Int) := by omega
  have i2 : ((y.length - lcpN x y : Nat) : Int) - ((tailN x y : Nat) : Int) = ((y.length - lcpN x y - tailN x y : Nat) : Int) := by omega
  have c3 := cutD_to (TTs (y.drop (lcpN x y))) (y.length - lcpN x y - tailN x y)
  rw [tts_take] at c3
  have et : lcpN (x.drop (lcpN x y)).reverse (y.drop (lcpN x y)).reverse = tailN x y := rfl
  rw [et] at e2
  unfold F_least_of
  simp only [fxs, fxs2, isN, isiD, gOwn, List.set_cons_zero, List.set_cons_succ, List.length_cons, List.length_nil, Option.map_some, Option.map_none, ↓reduceIte, Bool.false_eq_true, Bool.true_eq_false, Bool.false_xor, Bool.true_xor, Bool.not_true, Bool.not_false, decide_true, decide_false, Bool.not_eq_true', decide_eq_true_eq, decide_eq_false_iff_not, Nat.reduceAdd, Nat.reduceLeDiff, Nat.reduceLT, Int.reduceAdd, q_least_of, e1, c1, c2, g1, g2, e2, l1, l2, i1, i2, c3]
  rfl
theorem F_le {x y : List (List Nat)} {s t : List Nat} (hs : TextOf x s) (ht : TextOf y t) (gx : ∀ l, l ∈ x → Gl l) (gy : ∀ l, l ∈ y → Gl l) (os : okL s = true) (ot : okL t = true) (ls : s.length ≤ 100000) (lt : t.length ≤ 100000) (hx : x.length ≤ 1000) (hy : y.length ≤ 1000) :
    F_least_edit [TT s, TT t] = some (leastD x y) := by
  unfold F_least_edit
  simp only [fxs, fxs2, isN, isiD, gOwn, List.set_cons_zero, List.set_cons_succ, List.length_cons, List.length_nil, Option.map_some, Option.map_none, ↓reduceIte, Bool.false_eq_true, Bool.true_eq_false, Bool.false_xor, Bool.true_xor, Bool.not_true, Bool.not_false, decide_true, decide_false, Bool.not_eq_true', decide_eq_true_eq, decide_eq_false_iff_not, Nat.reduceAdd, Nat.reduceLeDiff, Nat.reduceLT, Int.reduceAdd, q_least_edit, F_source os, F_source ot, F_lines hs (fun l hl => (gx l hl).2.1) ls, F_lines ht (fun l hl => (gy l hl).2.1) lt, F_least hx hy]
/-! ### .. as the law finds it -/
theorem for_rg {G : FG} {p : FS} (I : Nat → Env → Prop) : ∀ (n s : Nat), (∀ k ρ, s ≤ k → k < s + n → I k ρ → ∃ ρ', bnd p (G (.int (k : Int)) ρ) = some (.nx ρ') ∧ I (k + 1) ρ') → ∀ ρ, I s ρ → ∃ ρ', forQ G p ((List.range' s n).map fun (k : Nat) => PyData.int (k : Int)) ρ = some (.nx ρ') ∧ I (s + n) ρ'
  | 0, s, _, ρ, h => ⟨ρ, rfl, h⟩
  | n + 1, s, turn, ρ, h => by
    obtain ⟨ρ1, e1, h1⟩ := turn s ρ (Nat.le_refl _) (by omega) h
    obtain ⟨ρ2, e2, h2⟩ := for_rg I n (s + 1) (fun k ρ a b => turn k ρ (by omega) (by omega)) ρ1 h1
    refine ⟨ρ2, ?_, by rw [show s + (n + 1) = s + 1 + n from by omega]; exact h2⟩
    rw [List.range'_succ, List.map_cons, forQ_cons]
    unfold bnd at e1 ⊢
    cases hg : G (.int (s : Int)) ρ with
    | none => rw [hg] at e1; cases e1
    | some ρ0 =>
      rw [hg] at e1
      show bnd (kTurn2 G p _) (p ρ0) = _
      have e1' : p ρ0 = some (.nx ρ1) := e1
      rw [e1']
      exact e2
theorem range_rg (n : Nat) : rangeD 0 n = (List.range' 0 n).map fun (k : Nat) => PyData.int (k : Int) := by
  unfold rangeD
  rw [List.range_eq_range']
  exact List.map_congr_left fun k _ => by rw [Int.zero_add]
theorem F_jl {x y : List (List Nat)} (hx : x.length ≤ 1000) (hy : y.length ≤ 1000) : F_j_least [.list (TTs x), .list (TTs y)] = some (leastD x y) := by
  have lx : (TTs x).length = x.length := List.length_map ..
  have ly : (TTs y).length = y.length := List.length_map ..
  have le := lcp_le x y
  have tl := tail_le x y
  have mn : (if (y.length : Int) < (x.length : Int) then (y.length : Int) else (x.length : Int)) = ((min x.length y.length : Nat) : Int) := by split <;> omega
  have rg1 : gRange1 [.int ((min x.length y.length : Nat) : Int)] = some (rangeD 0 (min x.length y.length)) := by
    rw [g_r1, if_pos ⟨by omega, by omega⟩, Int.toNat_natCast]
  have rg2 : gRange1 [.int ((min x.length y.length - lcpN x y : Nat) : Int)] = some (rangeD 0 (min x.length y.length - lcpN x y)) := by
    rw [g_r1, if_pos ⟨by omega, by omega⟩, Int.toNat_natCast]
  have first : ∃ ρ', forQ (qN 3) q_j_least_b2 (rangeD 0 (min x.length y.length)) [.dat (.list (TTs x)), .dat (.list (TTs y)), .dat (II 0), .un, .un, .un] = some (.nx ρ') ∧ ∃ v3, ρ' = [.dat (.list (TTs x)), .dat (.list (TTs y)), .dat (II (min (0 + min x.length y.length) (lcpN x y))), v3, .un, .un] := by
    rw [range_rg]
    refine for_rg (fun k ρ => ∃ v3, ρ = [.dat (.list (TTs x)), .dat (.list (TTs y)), .dat (II (min k (lcpN x y))), v3, .un, .un]) _ 0 ?_ _ ⟨.un, by rw [Nat.zero_min]⟩
    rintro k ρ _ hk ⟨v3, rfl⟩
    have k1 : k < x.length := by omega
    have k2 : k < y.length := by omega
    by_cases h1 : k ≤ lcpN x y
    · have c1 : (((min k (lcpN x y) : Nat) : Int) = (k : Int)) = True := eq_true (by omega)
      have at_ := lcp_at x y k k1 k2 h1
      by_cases he : x[k] = y[k]
      · have := at_.mp he
        refine ⟨[.dat (.list (TTs x)), .dat (.list (TTs y)), .dat (II (k + 1)), .dat (II k), .un, .un], ?_, .dat (II k), by rw [Nat.min_eq_left (by omega)]⟩
        simp only [fxs, fxs2, isN, isiD, gOwn, List.set_cons_zero, List.set_cons_succ, List.length_cons, List.length_nil, Option.map_some, Option.map_none, ↓reduceIte, Bool.false_eq_true, Bool.true_eq_false, Bool.false_xor, Bool.true_xor, Bool.not_true, Bool.not_false, decide_true, decide_false, Bool.not_eq_true', decide_eq_true_eq, decide_eq_false_iff_not, Nat.reduceAdd, Nat.reduceLeDiff, Nat.reduceLT, Int.reduceAdd, q_j_least_b2, c1, g_line k1, g_line k2, txeq, he, cast1]
      · have : ¬ k < lcpN x y := fun z => he (at_.mpr z)
        refine ⟨[.dat (.list (TTs x)), .dat (.list (TTs y)), .dat (II (min k (lcpN x y))), .dat (II k), .un, .un], ?_, .dat (II k), by rw [show min (k + 1) (lcpN x y) = min k (lcpN x y) from by omega]⟩
        simp only [fxs, fxs2, isN, isiD, gOwn, List.set_cons_zero, List.set_cons_succ, List.length_cons, List.length_nil, Option.map_some, Option.map_none, ↓reduceIte, Bool.false_eq_true, Bool.true_eq_false, Bool.false_xor, Bool.true_xor, Bool.not_true, Bool.not_false, decide_true, decide_false, Bool.not_eq_true', decide_eq_true_eq, decide_eq_false_iff_not, Nat.reduceAdd, Nat.reduceLeDiff, Nat.reduceLT, Int.reduceAdd, q_j_least_b2, c1, g_line k1, g_line k2, txeq, he]
    · have c1 : (((min k (lcpN x y) : Nat) : Int) = (k : Int)) = False := eq_false (by omega)
      refine ⟨[.dat (.list (TTs x)), .dat (.list (TTs y)), .dat (II (min k (lcpN x y))), .dat (II k), .un, .un], ?_, .dat (II k), by rw [show min (k + 1) (lcpN x y) = min k (lcpN x y) from by omega]⟩
      simp only [fxs, fxs2, isN, isiD, gOwn, List.set_cons_zero, List.set_cons_succ, List.length_cons, List.length_nil, Option.map_some, Option.map_none, ↓reduceIte, Bool.false_eq_true, Bool.true_eq_false, Bool.false_xor, Bool.true_xor, Bool.not_true, Bool.not_false, decide_true, decide_false, Bool.not_eq_true', decide_eq_true_eq, decide_eq_false_iff_not, Nat.reduceAdd, Nat.reduceLeDiff, Nat.reduceLT, Int.reduceAdd, q_j_least_b2, c1]
  rw [show min (0 + min x.length y.length) (lcpN x y) = lcpN x y from by omega] at first
  obtain ⟨ρ', e1, v3, rfl⟩ := first
  have rm : ((min x.length y.length : Nat) : Int) - ((lcpN x y : Nat) : Int) = ((min x.length y.length - lcpN x y : Nat) : Int) := by omega
  have second : ∃ ρ', forQ (qN 3) q_j_least_b1 (rangeD 0 (min x.length y.length - lcpN x y)) [.dat (.list (TTs x)), .dat (.list (TTs y)), .dat (II (lcpN x y)), v3, .dat (II 0), .dat (II (min x.length y.length - lcpN x y))] = some (.nx ρ') ∧ ∃ v3, ρ' = [.dat (.list (TTs x)), .dat (.list (TTs y)), .dat (II (lcpN x y)), v3, .dat (II (min (0 + (min x.length y.length - lcpN x y)) (tailN x y))), .dat (II (min x.length y.length - lcpN x y))] := by
    rw [range_rg]
    refine for_rg (fun k ρ => ∃ v3, ρ = [.dat (.list (TTs x)), .dat (.list (TTs y)), .dat (II (lcpN x y)), v3, .dat (II (min k (tailN x y))), .dat (II (min x.length y.length - lcpN x y))]) _ 0 ?_ _ ⟨v3, by rw [Nat.zero_min]⟩
    rintro k ρ _ hk ⟨v3, rfl⟩
    have k1 : x.length - 1 - k < x.length := by omega
    have k2 : y.length - 1 - k < y.length := by omega
    have i1 : (x.length : Int) - 1 - (k : Int) = ((x.length - 1 - k : Nat) : Int) := by omega
    have i2 : (y.length : Int) - 1 - (k : Int) = ((y.length - 1 - k : Nat) : Int) := by omega
    have q1 : k < (x.drop (lcpN x y)).reverse.length := by rw [List.length_reverse, List.length_drop]; omega
    have q2 : k < (y.drop (lcpN x y)).reverse.length := by rw [List.length_reverse, List.length_drop]; omega
    have r1 : (x.drop (lcpN x y)).reverse[k]'q1 = x[x.length - 1 - k] := by
      rw [List.getElem_reverse, List.getElem_drop]
      exact getElem_congr_idx (by rw [List.length_drop]; omega)
    have r2 : (y.drop (lcpN x y)).reverse[k]'q2 = y[y.length - 1 - k] := by
      rw [List.getElem_reverse, List.getElem_drop]
      exact getElem_congr_idx (by rw [List.length_drop]; omega)
    by_cases h1 : k ≤ tailN x y
    · have c1 : (((min k (tailN x y) : Nat) : Int) = (k : Int)) = True := eq_true (by omega)
      have at_ := lcp_at _ _ k q1 q2 h1
      rw [r1, r2] at at_
      by_cases he : x[x.length - 1 - k] = y[y.length - 1 - k]
      · have : k < tailN x y := at_.mp he
        refine ⟨[.dat (.list (TTs x)), .dat (.list (TTs y)), .dat (II (lcpN x y)), .dat (II k), .dat (II (k + 1)), .dat (II (min x.length y.length - lcpN x y))], ?_, .dat (II k), by rw [show min (k + 1) (tailN x y) = k + 1 from by omega]⟩
        simp only [fxs, fxs2, isN, isiD, gOwn, List.set_cons_zero, List.set_cons_succ, List.length_cons, List.length_nil, Option.map_some, Option.map_none, ↓reduceIte, Bool.false_eq_true, Bool.true_eq_false, Bool.false_xor, Bool.true_xor, Bool.not_true, Bool.not_false, decide_true, decide_false, Bool.not_eq_true', decide_eq_true_eq, decide_eq_false_iff_not, Nat.reduceAdd, Nat.reduceLeDiff, Nat.reduceLT, Int.reduceAdd, q_j_least_b1, c1, lx, ly, i1, i2, g_line k1, g_line k2, txeq, he, cast1]
      · have : ¬ k < tailN x y := fun z => he (at_.mpr z)
        refine ⟨[.dat (.list (TTs x)), .dat (.list (TTs y)), .dat (II (lcpN x y)), .dat (II k), .dat (II (min k (tailN x y))), .dat (II (min x.length y.length - lcpN x y))], ?_, .dat (II k), by rw [show min (k + 1) (tailN x y) = min k (tailN x y) from by omega]⟩
        simp only [fxs, fxs2, isN, isiD, gOwn, List.set_cons_zero, List.set_cons_succ, List.length_cons, List.length_nil, Option.map_some, Option.map_none, ↓reduceIte, Bool.false_eq_true, Bool.true_eq_false, Bool.false_xor, Bool.true_xor, Bool.not_true, Bool.not_false, decide_true, decide_false, Bool.not_eq_true', decide_eq_true_eq, decide_eq_false_iff_not, Nat.reduceAdd, Nat.reduceLeDiff, Nat.reduceLT, Int.reduceAdd, q_j_least_b1, c1, lx, ly, i1, i2, g_line k1, g_line k2, txeq, he]
    · have c1 : (((min k (tailN x y) : Nat) : Int) = (k : Int)) = False := eq_false (by omega)
      refine ⟨[.dat (.list (TTs x)), .dat (.list (TTs y)), .dat (II (lcpN x y)), .dat (II k), .dat (II (min k (tailN x y))), .dat (II (min x.length y.length - lcpN x y))], ?_, .dat (II k), by rw [show min (k + 1) (tailN x y) = min k (tailN x y) from by omega]⟩
      simp only [fxs, fxs2, isN, isiD, gOwn, List.set_cons_zero, List.set_cons_succ, List.length_cons, List.length_nil, Option.map_some, Option.map_none, ↓reduceIte, Bool.false_eq_true, Bool.true_eq_false, Bool.false_xor, Bool.true_xor, Bool.not_true, Bool.not_false, decide_true, decide_false, Bool.not_eq_true', decide_eq_true_eq, decide_eq_false_iff_not, Nat.reduceAdd, Nat.reduceLeDiff, Nat.reduceLT, Int.reduceAdd, q_j_least_b1, c1]
  rw [show min (0 + (min x.length y.length - lcpN x y)) (tailN x y) = tailN x y from by omega] at second
  obtain ⟨ρ', e2, u3, rfl⟩ := second
  have z0 : (.int 0 : PyData) = II 0 := rfl
  have i3 : (x.length : Int) - ((lcpN x y : Nat) : Int) - ((tailN x y : Nat) : Int) = ((x.length - lcpN x y - tailN x y : Nat) : Int) := by omega
  have i4 : (y.length : Int) - ((tailN x y : Nat) : Int) = ((y.length - tailN x y : Nat) : Int) := by omega
  have c3 := cutD_mid (TTs y) (lcpN x y) (y.length - tailN x y)
  rw [tts_drop, tts_take, show y.length - tailN x y - lcpN x y = y.length - lcpN x y - tailN x y from by omega] at c3
  unfold F_j_least
  simp only [fxs, fxs2, isN, isiD, gOwn, List.set_cons_zero, List.set_cons_succ, List.length_cons, List.length_nil, Option.map_some, Option.map_none, ↓reduceIte, Bool.false_eq_true, Bool.true_eq_false, Bool.false_xor, Bool.true_xor, Bool.not_true, Bool.not_false, decide_true, decide_false, Bool.not_eq_true', decide_eq_true_eq, decide_eq_false_iff_not, Nat.reduceAdd, Nat.reduceLeDiff, Nat.reduceLT, Int.reduceAdd, q_j_least, lx, ly, mn, rg1, z0, e1, rm, rg2, e2, i3, i4, c3]
  rfl
end Pm.Q
namespace Pm.Q
open PySem PySem.Spec PyProof.Rows L2 TL Pm
/-! ### draws -/
def J (ws : List PyData) : Prop := ∃ a b c : Int, ws = [.int a, .int b, .int c]
theorem ixN_2 {n : Nat} : ixN (n + 1 + 1 + 1) 2 = some 2 := by
  unfold ixN
  rw [if_pos (by decide), if_pos (by omega)]; rfl
theorem dip_ok {ws : List PyData} (hw : J ws) (n : Nat) (h0 : 0 < n) (h1 : n < 2 ^ 62) {i : Int} (ei : i = (n : Int)) : ∃ ws' d, F_j_dip ws [.int i] = some (ws', .int ((d : Nat) : Int)) ∧ J ws' ∧ d < n := by
  subst ei
  obtain ⟨a, b, c, rfl⟩ := hw
  have k0 : (0 : Int) < (n : Int) := by omega
  have k1 : (n : Int) < 2 ^ 62 := by omega
  have c2 : (0 < (1021 : Int) ∧ (1021 : Int) < 2 ^ 62) = True := eq_true (by decide)
  have c3 : (0 < (2011 : Int) ∧ (2011 : Int) < 2 ^ 62) = True := eq_true (by decide)
  have c4 : (0 < (3 : Int) ∧ (3 : Int) < 2 ^ 62) = True := eq_true (by decide)
  have d2 : (0 < (2147483647 : Int)) = True := eq_true (by decide)
  have d4 : (0 < (2147483629 : Int)) = True := eq_true (by decide)
  have d5 : (0 < (2147483549 : Int)) = True := eq_true (by decide)
  have d6 : (0 < (n : Int)) = True := eq_true k0
  have d7 : ((n : Int) < 2 ^ 62) = True := eq_true k1
  have fin : ∀ x y u z : Int, ∃ ws' d, some (([PyData.int x, .int y, .int u], PyData.int (z % (n : Int))) : List PyData × PyData) = some (ws', .int ((d : Nat) : Int)) ∧ J ws' ∧ d < n := fun x y u z => by
    have e0 := Int.emod_nonneg z (Int.ne_of_gt k0)
    have e1 := Int.emod_lt_of_pos z k0
    refine ⟨_, (z % (n : Int)).toNat, ?_, ⟨x, y, u, rfl⟩, by omega⟩
    rw [Int.toNat_of_nonneg e0]
  unfold F_j_dip
  simp only [fxs, fxs2, isN, isiD, gOwn, List.set_cons_zero, List.set_cons_succ, List.length_cons, List.length_nil, Option.map_some, Option.map_none, ↓reduceIte, Bool.false_eq_true, Bool.true_eq_false, Bool.false_xor, Bool.true_xor, Bool.not_true, Bool.not_false, decide_true, decide_false, Bool.not_eq_true', decide_eq_true_eq, decide_eq_false_iff_not, Nat.reduceAdd, Nat.reduceLeDiff, Nat.reduceLT, Int.reduceAdd, q_j_dip, atI_0, atI_1, atI_2, ixN_0, ixN_2, g_mul_i, c2, c3, c4, d2, d4, d5, d6, d7, true_and, cm_l (c := 70003) (by decide), cm_r (c := 48271) (by decide), cm_mod (m := 2147483647) (by decide) (by decide), cm_mod (m := 2147483629) (by decide) (by decide)]
  split
  · exact fin (a / (n : Int)) b c a
  · exact fin _ _ _ _
theorem pick_ok {ws : List PyData} (hw : J ws) (xs : List PyData) (h0 : xs ≠ []) (h1 : xs.length < 1000000) : ∃ ws' d, F_j_one ws [.list xs] = some (ws', d) ∧ J ws' ∧ d ∈ xs := by
  have hl : 0 < xs.length := List.length_pos_iff.mpr h0
  obtain ⟨ws', d, e, hw', hd⟩ := dip_ok hw xs.length hl (by omega) (i := (xs.length : Int)) rfl
  unfold F_j_one
  simp only [fxs, fxs2, isN, isiD, gOwn, List.set_cons_zero, List.set_cons_succ, List.length_cons, List.length_nil, Option.map_some, Option.map_none, ↓reduceIte, Bool.false_eq_true, Bool.true_eq_false, Bool.false_xor, Bool.true_xor, Bool.not_true, Bool.not_false, decide_true, decide_false, Bool.not_eq_true', decide_eq_true_eq, decide_eq_false_iff_not, Nat.reduceAdd, Nat.reduceLeDiff, Nat.reduceLT, Int.reduceAdd, q_j_one, e]
  have hx : xs[d]? = some xs[d] := List.getElem?_eq_getElem hd
  rw [atI_get rfl hx]
  exact ⟨ws', _, rfl, hw', List.getElem_mem hd⟩
def HEADS : List (List Nat) := [[], [], [], [62, 32], [62], [45, 32], [42, 32], [43, 32], [49, 46, 32], [50, 41, 32], [49, 48, 46, 32], [32, 32], [32, 32, 32], [32, 32, 32, 32], [9], [45, 32, 62, 32], [62, 32, 45, 32]]
def SOME : List (List Nat) := [[], [], [97], [98, 32, 99], [100], [35, 32, 101], [35], [35, 35, 32, 102, 32, 35, 35], [61, 61, 61], [45, 45, 45], [42, 42, 42], [45, 45], [96, 96, 96], [126, 126, 126, 126, 32, 103], [96, 96, 96, 96], [91, 104, 93, 58, 32, 47, 105], [91, 104, 93, 58, 32, 47, 106, 32, 39, 107, 39], [91, 108], [93, 58, 32, 60, 109, 62], [39, 110, 39], [40, 111], [60, 100, 105, 118, 62], [60, 47, 100, 105, 118, 62], [60, 33, 45, 45, 32, 112], [113, 32, 45, 45, 62], [60, 98, 62], [60, 98, 32, 99, 61, 39, 100, 39, 62], [60, 112, 114, 101, 62], [114, 60, 47, 112, 114, 101, 62], [45], [49, 46], [115, 32, 32], [116, 92], [91, 104, 93], [60, 63, 117], [118, 63, 62], [61], [50, 46, 32, 119], [32, 32, 120]]
theorem heads_all : ∀ l, l ∈ HEADS → okL l = true ∧ 10 ∉ l ∧ l.length ≤ 4 := by decide +kernel
theorem some_all : ∀ l, l ∈ SOME → okL l = true ∧ 10 ∉ l ∧ l.length ≤ 12 := by decide +kernel
/-- a drawn line -/
def Ln (l : List Nat) : Prop := okL l = true ∧ 10 ∉ l ∧ l.length ≤ 20
theorem Ln.gl {l : List Nat} (h : Ln l) : Gl l := ⟨h.1, h.2.1, by have := h.2.2; omega⟩
theorem okL_app {a b : List Nat} (ha : okL a = true) (hb : okL b = true) : okL (a ++ b) = true := by
  unfold okL at *
  rw [List.all_append, ha, hb]; rfl
theorem line_ok {ws : List PyData} (hw : J ws) : ∃ ws' l, F_j_line ws [] = some (ws', TT l) ∧ J ws' ∧ Ln l := by
  obtain ⟨ws1, x1, e1, hw1, h1⟩ := pick_ok hw (TTs HEADS) (by simp [HEADS]) (by simp [HEADS])
  obtain ⟨l1, m1, rfl⟩ := of_tts h1
  obtain ⟨ws2, x2, e2, hw2, h2⟩ := pick_ok hw1 (TTs HEADS) (by simp [HEADS]) (by simp [HEADS])
  obtain ⟨l2, m2, rfl⟩ := of_tts h2
  obtain ⟨ws3, x3, e3, hw3, h3⟩ := pick_ok hw2 (TTs SOME) (by simp [SOME]) (by simp [SOME])
  obtain ⟨l3, m3, rfl⟩ := of_tts h3
  obtain ⟨a1, b1, c1⟩ := heads_all l1 m1
  obtain ⟨a2, b2, c2⟩ := heads_all l2 m2
  obtain ⟨a3, b3, c3⟩ := some_all l3 m3
  simp only [TTs, HEADS, SOME, List.map_cons, List.map_nil] at e1 e2 e3
  have k1 : l1.length + l2.length ≤ 16777216 := by omega
  have k2 : (l1 ++ l2).length + l3.length ≤ 16777216 := by rw [List.length_append]; omega
  unfold F_j_line
  simp only [fxs, fxs2, isN, isiD, gOwn, List.set_cons_zero, List.set_cons_succ, List.length_cons, List.length_nil, Option.map_some, Option.map_none, ↓reduceIte, Bool.false_eq_true, Bool.true_eq_false, Bool.false_xor, Bool.true_xor, Bool.not_true, Bool.not_false, decide_true, decide_false, Bool.not_eq_true', decide_eq_true_eq, decide_eq_false_iff_not, Nat.reduceAdd, Nat.reduceLeDiff, Nat.reduceLT, Int.reduceAdd, q_j_line, List.cons_append, List.nil_append]
  simp only [fxs, fxs2, isN, isiD, gOwn, List.set_cons_zero, List.set_cons_succ, List.length_cons, List.length_nil, Option.map_some, Option.map_none, ↓reduceIte, Bool.false_eq_true, Bool.true_eq_false, Bool.false_xor, Bool.true_xor, Bool.not_true, Bool.not_false, decide_true, decide_false, Bool.not_eq_true', decide_eq_true_eq, decide_eq_false_iff_not, Nat.reduceAdd, Nat.reduceLeDiff, Nat.reduceLT, Int.reduceAdd, e1, e2, e3, tx_app, k1, k2]
  refine ⟨ws3, l1 ++ l2 ++ l3, rfl, hw3, okL_app (okL_app a1 a2) a3, ?_, by rw [List.length_append, List.length_append]; omega⟩
  intro h
  rcases List.mem_append.mp h with h | h
  · rcases List.mem_append.mp h with h | h
    · exact b1 h
    · exact b2 h
  · exact b3 h
theorem rows_of : ∀ (xs ys : List PyData), All2 (fun _ y => ∃ l, y = TT l ∧ Ln l) xs ys → ∃ rows : List (List Nat), ys = TTs rows ∧ rows.length = xs.length ∧ ∀ l, l ∈ rows → Ln l
  | [], _, h => by cases h; exact ⟨[], rfl, rfl, fun l hl => (nomatch hl)⟩
  | x :: xs, _, h => by
    cases h with
    | cons g r =>
      obtain ⟨l, rfl, hl⟩ := g
      obtain ⟨rows, rfl, h1, h2⟩ := rows_of xs _ r
      refine ⟨l :: rows, rfl, by rw [List.length_cons, List.length_cons, h1], fun t ht => ?_⟩
      rcases List.mem_cons.mp ht with rfl | ht
      · exact hl
      · exact h2 t ht
theorem lines_ok {ws : List PyData} (hw : J ws) (n : Nat) (hn : n ≤ 100) {i : Int} (ei : i = (n : Int)) : ∃ ws' rows, F_j_lines ws [.int i] = some (ws', .list (TTs rows)) ∧ J ws' ∧ rows.length ≤ n ∧ ∀ l, l ∈ rows → Ln l := by
  obtain ⟨ws1, d, e1, hw1, hd⟩ := dip_ok hw (n + 1) (by omega) (by omega) (i := i + 1) (by omega)
  have rg : gRange1 [.int (d : Int)] = some (rangeD 0 d) := by rw [g_r1, if_pos ⟨by omega, by omega⟩, Int.toNat_natCast]
  obtain ⟨ws2, ys, e2, hw2, hy⟩ := lc_inv (W := J) (i := 2) (e := q_j_lines_e1) (R := fun ws => [.own ws, .dat (.int i), .un]) (G := fun _ y => ∃ l, y = TT l ∧ Ln l) (fun ws => rfl) (rangeD 0 d) [] (fun x hx ws hw => by
    obtain ⟨ws', l, e, hw', hl⟩ := line_ok hw
    simp only [fxs, fxs2, isN, isiD, gOwn, List.set_cons_zero, List.set_cons_succ, List.length_cons, List.length_nil, Option.map_some, Option.map_none, ↓reduceIte, Bool.false_eq_true, Bool.true_eq_false, Bool.false_xor, Bool.true_xor, Bool.not_true, Bool.not_false, decide_true, decide_false, Bool.not_eq_true', decide_eq_true_eq, decide_eq_false_iff_not, Nat.reduceAdd, Nat.reduceLeDiff, Nat.reduceLT, Int.reduceAdd, q_j_lines_e1, e]
    exact ⟨ws', _, rfl, hw', l, rfl, hl⟩) (by rw [rangeD_len]; simp; omega) ws1 hw1
  obtain ⟨rows, rfl, r1, r2⟩ := rows_of _ _ hy
  rw [rangeD_len] at r1
  rw [List.nil_append] at e2
  unfold F_j_lines
  simp only [fxs, fxs2, isN, isiD, gOwn, List.set_cons_zero, List.set_cons_succ, List.length_cons, List.length_nil, Option.map_some, Option.map_none, ↓reduceIte, Bool.false_eq_true, Bool.true_eq_false, Bool.false_xor, Bool.true_xor, Bool.not_true, Bool.not_false, decide_true, decide_false, Bool.not_eq_true', decide_eq_true_eq, decide_eq_false_iff_not, Nat.reduceAdd, Nat.reduceLeDiff, Nat.reduceLT, Int.reduceAdd, q_j_lines, e1, rg, e2]
  exact ⟨ws2, rows, rfl, hw2, by omega, r2⟩
end Pm.Q
namespace Pm.Q
open PySem PySem.Spec PyProof.Rows L2 TL Pm
theorem cut_end {α : Type} (xs : List α) : cutD xs (some (-1)) none = xs.drop (xs.length - 1) := by
  have e : HT.sIx xs.length 0 (some (-1)) = xs.length - 1 := by
    show (if (-1 : Int) < 0 then (-1 + (xs.length : Int)).toNat else min (-1 : Int).toNat xs.length) = _
    rw [if_pos (by decide)]
    omega
  unfold cutD
  rw [e]
  show (xs.drop (xs.length - 1)).take (xs.length - (xs.length - 1)) = _
  rw [List.take_of_length_le (by rw [List.length_drop]; omega)]
/-! ### drawn edits -/
theorem edit_ok {ws : List PyData} (hw : J ws) {rows : List (List Nat)} (hr : rows.length ≤ 12) (hg : ∀ l, l ∈ rows → Ln l) : ∃ ws' f m b more, F_j_edit ws [.list (TTs rows)] = some (ws', ED f m b more) ∧ J ws' ∧ Ed rows f m more ∧ more.length ≤ 5 ∧ ∀ l, l ∈ more → Ln l := by
  have lt : (TTs rows).length = rows.length := List.length_map ..
  obtain ⟨ws1, f, e1, hw1, hf⟩ := dip_ok hw (rows.length + 1) (by omega) (by omega) (i := (rows.length : Int) + 1) (by omega)
  have mn : (if (rows.length : Int) - (f : Int) < 4 then (rows.length : Int) - (f : Int) else 4) = ((min 4 (rows.length - f) : Nat) : Int) := by split <;> omega
  obtain ⟨ws2, m, e2, hw2, hm⟩ := dip_ok hw1 (min 4 (rows.length - f) + 1) (by omega) (by omega) (i := ((min 4 (rows.length - f) : Nat) : Int) + 1) (by omega)
  obtain ⟨ws3, more, e3, hw3, h3, g3⟩ := lines_ok hw2 3 (by omega) (i := 3) rfl
  obtain ⟨ws4, d4, e4, hw4, h4⟩ := dip_ok hw3 4 (by omega) (by omega) (i := 4) rfl
  obtain ⟨ws5, d5, e5, hw5, h5⟩ := dip_ok hw4 4 (by omega) (by omega) (i := 4) rfl
  obtain ⟨ws6, d6, e6, hw6, h6⟩ := dip_ok hw5 2 (by omega) (by omega) (i := 2) rfl
  have c1 := cutD_mid (TTs rows) f (f + m)
  rw [Nat.add_sub_cancel_left, tts_drop, tts_take] at c1
  have c2 : cutD (TTs ((rows.drop f).take m)) none (some 1) = TTs (((rows.drop f).take m).take 1) := by
    have := cutD_to (TTs ((rows.drop f).take m)) 1
    rw [tts_take] at this
    exact this
  have c3 : cutD (TTs ((rows.drop f).take m)) (some (-1)) none = TTs (((rows.drop f).take m).drop (((rows.drop f).take m).length - 1)) := by
    rw [cut_end, List.length_map, tts_drop]
  have s1 : ((rows.drop f).take m).length ≤ m := by rw [List.length_take]; omega
  have t1 : (((rows.drop f).take m).take 1).length ≤ 1 := by rw [List.length_take]; omega
  have t2 : (((rows.drop f).take m).drop (((rows.drop f).take m).length - 1)).length ≤ 1 := by rw [List.length_drop]; omega
  have gA : ∀ l, l ∈ ((rows.drop f).take m).take 1 → Ln l := fun l h => hg l (List.mem_of_mem_drop (List.mem_of_mem_take (List.mem_of_mem_take h)))
  have gB : ∀ l, l ∈ ((rows.drop f).take m).drop (((rows.drop f).take m).length - 1) → Ln l := fun l h => hg l (List.mem_of_mem_drop (List.mem_of_mem_take (List.mem_of_mem_drop h)))
  have fin : ∀ (b : Bool) (M : List (List Nat)), M.length ≤ 5 → (∀ l, l ∈ M → Ln l) → Ed rows f m M ∧ M.length ≤ 5 ∧ ∀ l, l ∈ M → Ln l := fun b M h1 h2 =>
    ⟨⟨by omega, by omega, fun l hl => (h2 l hl).gl, by omega, by omega⟩, h1, h2⟩
  have app : ∀ (A B : List (List Nat)), (∀ l, l ∈ A → Ln l) → (∀ l, l ∈ B → Ln l) → ∀ l, l ∈ A ++ B → Ln l := fun A B ha hb l hl => (List.mem_append.mp hl).elim (ha l) (hb l)
  have k1 : (TTs (((rows.drop f).take m).take 1)).length + (TTs more).length ≤ 16777216 := by rw [List.length_map, List.length_map]; omega
  have k2 : (TTs (((rows.drop f).take m).take 1 ++ more)).length + (TTs (((rows.drop f).take m).drop (((rows.drop f).take m).length - 1))).length ≤ 16777216 := by rw [List.length_map, List.length_map, List.length_append]; omega
  have k3 : (TTs more).length + (TTs (((rows.drop f).take m).drop (((rows.drop f).take m).length - 1))).length ≤ 16777216 := by rw [List.length_map, List.length_map]; omega
  unfold F_j_edit
  by_cases q4 : d4 = 0
  · have v4 : ((d4 : Int) = 0) = True := eq_true (by omega)
    by_cases q5 : d5 = 0
    · have v5 : ((d5 : Int) = 0) = True := eq_true (by omega)
      have F := fin true (((rows.drop f).take m).take 1 ++ more ++ ((rows.drop f).take m).drop (((rows.drop f).take m).length - 1)) (by rw [List.length_append, List.length_append]; omega) (app _ _ (app _ _ gA g3) gB)
      by_cases q6 : d6 = 0
      · have v6 : ((d6 : Int) = 0) = True := eq_true (by omega)
        simp only [fxs, fxs2, isN, isiD, gOwn, List.set_cons_zero, List.set_cons_succ, List.length_cons, List.length_nil, Option.map_some, Option.map_none, ↓reduceIte, Bool.false_eq_true, Bool.true_eq_false, Bool.false_xor, Bool.true_xor, Bool.not_true, Bool.not_false, decide_true, decide_false, Bool.not_eq_true', decide_eq_true_eq, decide_eq_false_iff_not, Nat.reduceAdd, Nat.reduceLeDiff, Nat.reduceLT, Int.reduceAdd, q_j_edit, lt, e1, mn, e2, e3, e4, v4, castk, c1, c2, tts_app, k1, e5, v5, c3, k2, e6, v6]
        exact ⟨ws6, f, m, true, _, rfl, hw6, F⟩
      · have v6 : ((d6 : Int) = 0) = False := eq_false (by omega)
        simp only [fxs, fxs2, isN, isiD, gOwn, List.set_cons_zero, List.set_cons_succ, List.length_cons, List.length_nil, Option.map_some, Option.map_none, ↓reduceIte, Bool.false_eq_true, Bool.true_eq_false, Bool.false_xor, Bool.true_xor, Bool.not_true, Bool.not_false, decide_true, decide_false, Bool.not_eq_true', decide_eq_true_eq, decide_eq_false_iff_not, Nat.reduceAdd, Nat.reduceLeDiff, Nat.reduceLT, Int.reduceAdd, q_j_edit, lt, e1, mn, e2, e3, e4, v4, castk, c1, c2, tts_app, k1, e5, v5, c3, k2, e6, v6]
        exact ⟨ws6, f, m, false, _, rfl, hw6, F⟩
    · have v5 : ((d5 : Int) = 0) = False := eq_false (by omega)
      have F := fin true (((rows.drop f).take m).take 1 ++ more) (by rw [List.length_append]; omega) (app _ _ gA g3)
      by_cases q6 : d6 = 0
      · have v6 : ((d6 : Int) = 0) = True := eq_true (by omega)
        simp only [fxs, fxs2, isN, isiD, gOwn, List.set_cons_zero, List.set_cons_succ, List.length_cons, List.length_nil, Option.map_some, Option.map_none, ↓reduceIte, Bool.false_eq_true, Bool.true_eq_false, Bool.false_xor, Bool.true_xor, Bool.not_true, Bool.not_false, decide_true, decide_false, Bool.not_eq_true', decide_eq_true_eq, decide_eq_false_iff_not, Nat.reduceAdd, Nat.reduceLeDiff, Nat.reduceLT, Int.reduceAdd, q_j_edit, lt, e1, mn, e2, e3, e4, v4, castk, c1, c2, tts_app, k1, e5, v5, e6, v6]
        exact ⟨ws6, f, m, true, _, rfl, hw6, F⟩
      · have v6 : ((d6 : Int) = 0) = False := eq_false (by omega)
        simp only [fxs, fxs2, isN, isiD, gOwn, List.set_cons_zero, List.set_cons_succ, List.length_cons, List.length_nil, Option.map_some, Option.map_none, ↓reduceIte, Bool.false_eq_true, Bool.true_eq_false, Bool.false_xor, Bool.true_xor, Bool.not_true, Bool.not_false, decide_true, decide_false, Bool.not_eq_true', decide_eq_true_eq, decide_eq_false_iff_not, Nat.reduceAdd, Nat.reduceLeDiff, Nat.reduceLT, Int.reduceAdd, q_j_edit, lt, e1, mn, e2, e3, e4, v4, castk, c1, c2, tts_app, k1, e5, v5, e6, v6]
        exact ⟨ws6, f, m, false, _, rfl, hw6, F⟩
  · have v4 : ((d4 : Int) = 0) = False := eq_false (by omega)
    by_cases q5 : d5 = 0
    · have v5 : ((d5 : Int) = 0) = True := eq_true (by omega)
      have F := fin true (more ++ ((rows.drop f).take m).drop (((rows.drop f).take m).length - 1)) (by rw [List.length_append]; omega) (app _ _ g3 gB)
      by_cases q6 : d6 = 0
      · have v6 : ((d6 : Int) = 0) = True := eq_true (by omega)
        simp only [fxs, fxs2, isN, isiD, gOwn, List.set_cons_zero, List.set_cons_succ, List.length_cons, List.length_nil, Option.map_some, Option.map_none, ↓reduceIte, Bool.false_eq_true, Bool.true_eq_false, Bool.false_xor, Bool.true_xor, Bool.not_true, Bool.not_false, decide_true, decide_false, Bool.not_eq_true', decide_eq_true_eq, decide_eq_false_iff_not, Nat.reduceAdd, Nat.reduceLeDiff, Nat.reduceLT, Int.reduceAdd, q_j_edit, lt, e1, mn, e2, e3, e4, v4, castk, c1, tts_app, e5, v5, c3, k3, e6, v6]
        exact ⟨ws6, f, m, true, _, rfl, hw6, F⟩
      · have v6 : ((d6 : Int) = 0) = False := eq_false (by omega)
        simp only [fxs, fxs2, isN, isiD, gOwn, List.set_cons_zero, List.set_cons_succ, List.length_cons, List.length_nil, Option.map_some, Option.map_none, ↓reduceIte, Bool.false_eq_true, Bool.true_eq_false, Bool.false_xor, Bool.true_xor, Bool.not_true, Bool.not_false, decide_true, decide_false, Bool.not_eq_true', decide_eq_true_eq, decide_eq_false_iff_not, Nat.reduceAdd, Nat.reduceLeDiff, Nat.reduceLT, Int.reduceAdd, q_j_edit, lt, e1, mn, e2, e3, e4, v4, castk, c1, tts_app, e5, v5, c3, k3, e6, v6]
        exact ⟨ws6, f, m, false, _, rfl, hw6, F⟩
    · have v5 : ((d5 : Int) = 0) = False := eq_false (by omega)
      have F := fin true more (by omega) g3
      by_cases q6 : d6 = 0
      · have v6 : ((d6 : Int) = 0) = True := eq_true (by omega)
        simp only [fxs, fxs2, isN, isiD, gOwn, List.set_cons_zero, List.set_cons_succ, List.length_cons, List.length_nil, Option.map_some, Option.map_none, ↓reduceIte, Bool.false_eq_true, Bool.true_eq_false, Bool.false_xor, Bool.true_xor, Bool.not_true, Bool.not_false, decide_true, decide_false, Bool.not_eq_true', decide_eq_true_eq, decide_eq_false_iff_not, Nat.reduceAdd, Nat.reduceLeDiff, Nat.reduceLT, Int.reduceAdd, q_j_edit, lt, e1, mn, e2, e3, e4, v4, e5, v5, e6, v6]
        exact ⟨ws6, f, m, true, _, rfl, hw6, F⟩
      · have v6 : ((d6 : Int) = 0) = False := eq_false (by omega)
        simp only [fxs, fxs2, isN, isiD, gOwn, List.set_cons_zero, List.set_cons_succ, List.length_cons, List.length_nil, Option.map_some, Option.map_none, ↓reduceIte, Bool.false_eq_true, Bool.true_eq_false, Bool.false_xor, Bool.true_xor, Bool.not_true, Bool.not_false, decide_true, decide_false, Bool.not_eq_true', decide_eq_true_eq, decide_eq_false_iff_not, Nat.reduceAdd, Nat.reduceLeDiff, Nat.reduceLT, Int.reduceAdd, q_j_edit, lt, e1, mn, e2, e3, e4, v4, e5, v5, e6, v6]
        exact ⟨ws6, f, m, false, _, rfl, hw6, F⟩
end Pm.Q
namespace Pm.Q
open PySem PySem.Spec PyProof.Rows L2 TL Pm
theorem okC_lt {c : Nat} (h : okC c = true) : c < 128 := by
  unfold okC at h
  rw [Bool.or_eq_true, Bool.or_eq_true, Bool.or_eq_true, decide_eq_true_eq, decide_eq_true_eq, decide_eq_true_eq, decide_eq_true_eq] at h
  rcases h with h | h | h | h
  · exact (by decide : ∀ c, c ∈ [32, 9, 10] → c < 128) c h
  · exact (by decide : ∀ c, c ∈ [97, 98, 99, 100, 101, 102, 103, 104, 105, 106, 107, 108, 109, 110, 111, 112, 113, 114, 115, 116, 117, 118, 119, 120, 121, 122, 65, 66, 67, 68, 69, 70, 71, 72, 73, 74, 75, 76, 77, 78, 79, 80, 81, 82, 83, 84, 85, 86, 87, 88, 89, 90] → c < 128) c h
  · exact (by decide : ∀ c, c ∈ [48, 49, 50, 51, 52, 53, 54, 55, 56, 57] → c < 128) c h
  · exact (by decide : ∀ c, c ∈ [33, 34, 35, 36, 38, 39, 40, 41, 42, 43, 44, 45, 46, 47, 58, 59, 60, 61, 62, 63, 64, 91, 92, 93, 94, 95, 96, 123, 124, 125, 126] → c < 128) c h
theorem lay_line {l : List Nat} (h : okL l = true) : PyData.canLay0 (TT l) = true := by
  show PyData.strOk (tx l) = true
  unfold PyData.strOk
  show (l.toArray).all (· < 0x110000) = true
  rw [List.all_toArray, List.all_eq_true]
  intro c hc
  have := okC_lt (List.all_eq_true.mp h c hc)
  exact decide_eq_true (by omega)
theorem lay_tts : ∀ {ls : List (List Nat)}, (∀ l, l ∈ ls → okL l = true) → PyData.canLay0 (.tuple (TTs ls)) = true
  | [], _ => rfl
  | l :: ls, h => by
    show (PyData.canLay0 (TT l) && PyData.canLay0 (.tuple (TTs ls))) = true
    rw [lay_line (h l (List.mem_cons_self ..)), lay_tts fun x hx => h x (List.mem_cons_of_mem _ hx)]; rfl
theorem lay_md {b : Bool} {ls : List (List Nat)} (h : ∀ l, l ∈ ls → okL l = true) : PyData.canLay0 (MD b ls) = true := by
  cases b <;> exact lay_tts h
theorem lay_ed {f m : Nat} {b : Bool} {ls : List (List Nat)} (h : ∀ l, l ∈ ls → okL l = true) : PyData.canLay0 (ED f m b ls) = true := by
  show (true && (true && (PyData.canLay0 (MD b ls) && true))) = true
  rw [lay_md h]; rfl
theorem depth_tts : ∀ ls : List (List Nat), PyData.depthAll (TTs ls) = 0
  | [] => rfl
  | l :: ls => by
    show max 0 (PyData.depthAll (TTs ls)) = 0
    rw [depth_tts ls]; rfl
theorem depth_ed {f m : Nat} {b : Bool} {ls : List (List Nat)} : (ED f m b ls).depth = 2 := by
  have e : (MD b ls).depth = 1 := by
    cases b
    · show PyData.depthAll (TTs ls) + 1 = 1
      rw [depth_tts]
    · show PyData.depthAll (TTs ls) + 1 = 1
      rw [depth_tts]
  show max 0 (max 0 (max (MD b ls).depth 0)) + 1 = 2
  rw [e]; rfl
theorem g_eq_ed {z : Bool} {f m : Nat} {b : Bool} {ls : List (List Nat)} (h : ∀ l, l ∈ ls → okL l = true) : gEq z (ED f m b ls) (ED f m b ls) = some (.bool (z ^^ true)) := by
  have l0 := lay_ed (f := f) (m := m) (b := b) h
  have l1 : eqOk (ED f m b ls) (ED f m b ls) = true := by
    unfold eqOk
    rw [l0, depth_ed]; rfl
  have l2 : PyData.eqv (ED f m b ls) (ED f m b ls) = true := SeqAt.eqv_refl _ l0
  show (if eqOk (ED f m b ls) (ED f m b ls) = true then some (PyData.bool (z ^^ PyData.eqv (ED f m b ls) (ED f m b ls))) else none) = _
  rw [if_pos l1, l2]
theorem show_tts : ∀ ls : List (List Nat), PyData.showableAll (TTs ls) = true
  | [] => rfl
  | l :: ls => by
    show (true && PyData.showableAll (TTs ls)) = true
    rw [show_tts ls]; rfl
theorem dict_tts : ∀ ls : List (List Nat), PyData.hasDictAll (TTs ls) = false
  | [] => rfl
  | l :: ls => by
    show (false || PyData.hasDictAll (TTs ls)) = false
    rw [dict_tts ls]; rfl
theorem ints_tts : ∀ ls : List (List Nat), PyData.intsShortAll 13 (TTs ls) = true
  | [] => rfl
  | l :: ls => by
    show (true && PyData.intsShortAll 13 (TTs ls)) = true
    rw [ints_tts ls]; rfl
theorem wt_tts : ∀ ls : List (List Nat), (∀ l, l ∈ ls → l.length ≤ 100) → PyData.weightAll (TTs ls) ≤ 101 * ls.length
  | [], _ => Nat.le_refl _
  | l :: ls, h => by
    have ih := wt_tts ls fun x hx => h x (List.mem_cons_of_mem _ hx)
    have hl := h l (List.mem_cons_self ..)
    show (tx l).cps.size + 1 + PyData.weightAll (TTs ls) ≤ _
    have e : (tx l).cps.size = l.length := tx_len l
    rw [e, List.length_cons]
    omega
theorem log_small {n : Nat} (h : n ≤ 1000) : (n : Int).natAbs.log2 < 20 := by
  rw [Int.natAbs_natCast]
  by_cases h0 : n = 0
  · subst h0; decide
  · exact (Nat.log2_lt h0).mpr (by omega)
theorem repr_ok {f m : Nat} {b : Bool} {ls : List (List Nat)} (hf : f ≤ 1000) (hm : m ≤ 1000) (hl : ls.length ≤ 100) (h : ∀ l, l ∈ ls → Gl l) : gRepr (ED f m b ls) = some (.str (ED f m b ls).shown) := by
  have ok : ∀ l, l ∈ ls → okL l = true := fun l hl => (h l hl).1
  have l0 := lay_ed (f := f) (m := m) (b := b) ok
  have lf := log_small hf
  have lm := log_small hm
  have sh : (ED f m b ls).showable = true := by
    have e : (MD b ls).showable = true := by cases b <;> exact show_tts ls
    show (decide ((f : Int).natAbs.log2 < 1920) && (decide ((m : Int).natAbs.log2 < 1920) && ((MD b ls).showable && true))) = true
    rw [e, decide_eq_true (by omega), decide_eq_true (by omega)]; rfl
  have hd : (ED f m b ls).hasDict = false := by
    have e : (MD b ls).hasDict = false := by cases b <;> exact dict_tts ls
    show (false || (false || ((MD b ls).hasDict || false))) = false
    rw [e]; rfl
  have is : PyData.intsShort 13 (ED f m b ls) = true := by
    have e : PyData.intsShort 13 (MD b ls) = true := by cases b <;> exact ints_tts ls
    have i1 := PyData.shown_int_le (i := (f : Int)) (by rw [Int.natAbs_natCast]; omega)
    have i2 := PyData.shown_int_le (i := (m : Int)) (by rw [Int.natAbs_natCast]; omega)
    show (decide (_ ≤ 13) && (decide (_ ≤ 13) && (PyData.intsShort 13 (MD b ls) && true))) = true
    rw [e, decide_eq_true i1, decide_eq_true i2]; rfl
  have wt : (ED f m b ls).weight ≤ 2 ^ 20 := by
    have e : (MD b ls).weight ≤ 101 * ls.length := by
      cases b <;> exact wt_tts ls fun l hl => (h l hl).2.2
    have w1 : PyData.weight (II f) ≤ 20 := by
      show (if (f : Int) == 0 then 0 else (f : Int).natAbs.log2 + 1) ≤ 20
      split <;> omega
    have w2 : PyData.weight (II m) ≤ 20 := by
      show (if (m : Int) == 0 then 0 else (m : Int).natAbs.log2 + 1) ≤ 20
      split <;> omega
    show PyData.weight (II f) + 1 + (PyData.weight (II m) + 1 + (PyData.weight (MD b ls) + 1 + 0)) ≤ 2 ^ 20
    omega
  have len := PyData.shown_fits (B := 13) (by decide) (by decide) (PyData.leavesShort_of_canLay0 13 _ l0 is) wt
  have all : shOk (ED f m b ls) := ⟨l0, rfl, sh, hd, by rw [depth_ed]; decide, len⟩
  show (if shOk (ED f m b ls) then some (PyData.str (ED f m b ls).shown) else none) = _
  rw [if_pos all]
/-! ### there and back -/
theorem done_back {rows more : List (List Nat)} {f m : Nat} (hf : f ≤ rows.length) (hm : m ≤ rows.length - f) :
    doneN (doneN rows f m more) f more.length ((rows.drop f).take m) = rows ∧ ((doneN rows f m more).drop f).take more.length = more ∧ (doneN rows f m more).length = f + more.length + (rows.length - (f + m)) ∧ ((rows.drop f).take m).length = m := by
  have lt : (rows.take f).length = f := by rw [List.length_take]; omega
  have e0 : (doneN rows f m more).take f = rows.take f := by
    unfold doneN
    rw [List.append_assoc, List.take_append_of_le_length (by omega), List.take_of_length_le (by omega)]
  have e1 : (doneN rows f m more).drop f = more ++ rows.drop (f + m) := by
    unfold doneN
    rw [List.append_assoc]
    have := List.drop_left (l₁ := rows.take f) (l₂ := more ++ rows.drop (f + m))
    rwa [lt] at this
  have e2 : (doneN rows f m more).drop (f + more.length) = rows.drop (f + m) := by
    rw [← List.drop_drop, e1, List.drop_left]
  have l3 : ((rows.drop f).take m).length = m := by rw [List.length_take, List.length_drop]; omega
  refine ⟨?_, by rw [e1, List.take_left], ?_, l3⟩
  · show (doneN rows f m more).take f ++ (rows.drop f).take m ++ (doneN rows f m more).drop (f + more.length) = rows
    rw [e0, e2, List.append_assoc, ← List.drop_drop, List.take_append_drop, List.take_append_drop]
  · unfold doneN
    rw [List.length_append, List.length_append, lt, List.length_drop]
theorem lcp_take : ∀ x y : List (List Nat), x.take (lcpN x y) = y.take (lcpN x y)
  | [], y => by simp [lcpN]
  | a :: x, [] => by simp [lcpN]
  | a :: x, b :: y => by
    unfold lcpN
    split
    · rename_i h
      rw [List.take_succ_cons, List.take_succ_cons, h, lcp_take x y]
    · rfl
theorem rev_take (x : List (List Nat)) (t : Nat) : x.reverse.take t = (x.drop (x.length - t)).reverse := by
  rw [List.take_reverse]
theorem least_done (x y : List (List Nat)) : doneN x (lcpN x y) (x.length - lcpN x y - tailN x y) ((y.drop (lcpN x y)).take (y.length - lcpN x y - tailN x y)) = y := by
  have le := lcp_le x y
  have tl := tail_le x y
  have h1 := lcp_take x y
  have h2 := lcp_take (x.drop (lcpN x y)).reverse (y.drop (lcpN x y)).reverse
  have et : lcpN (x.drop (lcpN x y)).reverse (y.drop (lcpN x y)).reverse = tailN x y := rfl
  rw [et, rev_take, rev_take] at h2
  have h3 := List.reverse_inj.mp h2
  rw [List.length_drop, List.length_drop, List.drop_drop, List.drop_drop] at h3
  unfold doneN
  rw [show lcpN x y + (x.length - lcpN x y - tailN x y) = lcpN x y + (x.length - lcpN x y - tailN x y) from rfl, h3, h1, List.append_assoc, ← List.drop_drop, List.take_append_drop, List.take_append_drop]
end Pm.Q
namespace Pm.Q
open PySem PySem.Spec PyProof.Rows L2 TL Pm
theorem text_len : ∀ {rows : List (List Nat)}, (∀ l, l ∈ rows → l.length ≤ 100) → (textN rows).length ≤ rows.length * 101
  | [], _ => Nat.le_refl _
  | l :: rows, h => by
    have ih := text_len (rows := rows) fun x hx => h x (List.mem_cons_of_mem _ hx)
    have hl := h l (List.mem_cons_self ..)
    rw [text_cons, List.length_append, List.length_cons, List.length_cons, Nat.add_mul, Nat.one_mul]
    omega
theorem text_okL : ∀ {rows : List (List Nat)}, (∀ l, l ∈ rows → okL l = true) → okL (textN rows) = true
  | [], _ => rfl
  | l :: rows, h => by
    have ih := text_okL (rows := rows) fun x hx => h x (List.mem_cons_of_mem _ hx)
    rw [text_cons]
    exact okL_app (h l (List.mem_cons_self ..)) (by
      show (okC 10 && okL (textN rows)) = true
      rw [ih]; rfl)
theorem text_app (r : List (List Nat)) (l : List Nat) : textN (r ++ [l]) = textN r ++ l ++ [10] := by simp [textN]
theorem g_ne_empty {ls : List (List Nat)} (h : ∀ l, l ∈ ls → okL l = true) : gEq true (.list (TTs ls)) (.list []) = some (.bool (!decide (ls = []))) := by
  have h0 : PyData.canLay0 (.list (TTs ls)) = true := lay_tts h
  have h1 : eqOk (.list (TTs ls)) (.list []) = true := by
    unfold eqOk
    rw [h0]
    show (true && true && decide (min (PyData.list (TTs ls)).depth (PyData.list []).depth ≤ 64)) = true
    rw [decide_eq_true (Nat.le_trans (Nat.min_le_right _ _) (by decide))]; rfl
  have h2 : PyData.eqv (.list (TTs ls)) (.list []) = decide (ls = []) := by
    cases ls with
    | nil => rfl
    | cons d ds => rfl
  show (if eqOk (.list (TTs ls)) (.list []) = true then some (PyData.bool (true ^^ PyData.eqv (.list (TTs ls)) (.list []))) else none) = _
  rw [if_pos h1, h2, Bool.true_xor]
theorem cut_last (s : List Nat) : cutS (tx s) none (some (-1)) = tx s.dropLast := by
  have h := cut_to s (s.length - 1)
  rw [List.dropLast_eq_take, ← h]
  unfold cutS
  have e : HT.sIx (tx s).length (tx s).length (some (-1)) = HT.sIx (tx s).length (tx s).length (some ((s.length - 1 : Nat) : Int)) := by
    rw [HT.sIx_nat, tx_len]
    show (if (-1 : Int) < 0 then (-1 + (s.length : Int)).toNat else min (-1 : Int).toNat s.length) = _
    rw [if_pos (by decide)]
    omega
  rw [e]
structure Facts (rows O gone : List (List Nat)) (t : List Nat) (f m : Nat) (b : Bool) (more : List (List Nat)) : Prop where
  e1 : F_edited [TT t, ED f m b more] = some (TT (textN O))
  e2 : F_j_text [.list (TTs O)] = some (TT (textN O))
  e3 : F_back [TT t, ED f m b more] = some (ED f more.length false gone)
  e4 : F_back [TT (textN O), ED f more.length false gone] = some (ED f m false more)
  e5 : F_edited [TT (textN O), ED f more.length false gone] = some (TT (textN rows))
  e6 : F_least_edit [TT t, TT (textN O)] = some (leastD rows O)
  e7 : F_j_least [.list (TTs rows), .list (TTs O)] = some (leastD rows O)
  gO : ∀ l, l ∈ O → Gl l
theorem facts {rows more : List (List Nat)} {t : List Nat} {f m : Nat} {b : Bool} (hr : rows.length ≤ 12) (hg : ∀ l, l ∈ rows → Ln l) (h : Ed rows f m more) (h5 : more.length ≤ 5) (hm : ∀ l, l ∈ more → Ln l) (ht : TextOf rows t) (ot : okL t = true) (lt : t.length ≤ 2000) :
    Facts rows (doneN rows f m more) ((rows.drop f).take m) t f m b more := by
  have gr : ∀ l, l ∈ rows → Gl l := fun l hl => (hg l hl).gl
  have gg : ∀ l, l ∈ (rows.drop f).take m → Gl l := fun l hl => gr l (List.mem_of_mem_drop (List.mem_of_mem_take hl))
  have gO : ∀ l, l ∈ doneN rows f m more → Gl l := fun l hl => by
    unfold doneN at hl
    rcases List.mem_append.mp hl with hl | hl
    · rcases List.mem_append.mp hl with hl | hl
      · exact gr l (List.mem_of_mem_take hl)
      · exact (hm l hl).gl
    · exact gr l (List.mem_of_mem_drop hl)
  obtain ⟨d1, d2, d3, d4⟩ := done_back (more := more) h.hf h.hm
  have lO : (doneN rows f m more).length ≤ 30 := by rw [d3]; have := h.hf; omega
  have tO := text_len (rows := doneN rows f m more) fun l hl => (gO l hl).2.2
  have tR := text_len (rows := rows) fun l hl => (gr l hl).2.2
  have oO := text_okL (rows := doneN rows f m more) fun l hl => (gO l hl).1
  have h' : Ed (doneN rows f m more) f more.length ((rows.drop f).take m) :=
    ⟨by rw [d3]; omega, by rw [d3]; omega, gg, by rw [d4]; have := h.hm; omega, by omega⟩
  have s4 := F_bk (b := false) TextOf.full gO oO (by omega) h'
  rw [d2, d4] at s4
  have s5 := F_edit (b := false) TextOf.full gO oO (by omega) h' (by rw [d1]; omega)
  rw [d1] at s5
  exact ⟨F_edit ht gr ot (by omega) h (by omega), (F_text (by omega) (fun l hl => by have := (gO l hl).2.2; omega) (by omega)).2, F_bk ht gr ot (by omega) h, s4, s5, F_le ht TextOf.full gr gO ot oO (by omega) (by omega) (by omega) (by omega), F_jl (by omega) (by omega), gO⟩
theorem wild_ok {rows wild : List (List Nat)} {t : List Nat} (hr : rows.length ≤ 12) (hg : ∀ l, l ∈ rows → Ln l) (hw : wild.length ≤ 12) (hk : ∀ l, l ∈ wild → Ln l) (ht : TextOf rows t) (ot : okL t = true) (lt : t.length ≤ 2000) :
    F_j_text [.list (TTs wild)] = some (TT (textN wild)) ∧ F_least_edit [TT t, TT (textN wild)] = some (leastD rows wild) ∧ F_j_least [.list (TTs rows), .list (TTs wild)] = some (leastD rows wild) ∧ F_edited [TT t, leastD rows wild] = some (TT (textN wild)) ∧ gEq true (leastD rows wild) (leastD rows wild) = some (.bool false) := by
  have gr : ∀ l, l ∈ rows → Gl l := fun l hl => (hg l hl).gl
  have gw : ∀ l, l ∈ wild → Gl l := fun l hl => (hk l hl).gl
  have tW := text_len (rows := wild) fun l hl => (gw l hl).2.2
  have oW := text_okL (rows := wild) fun l hl => (gw l hl).1
  have le := lcp_le rows wild
  have tl := tail_le rows wild
  have gm : ∀ l, l ∈ (wild.drop (lcpN rows wild)).take (wild.length - lcpN rows wild - tailN rows wild) → Gl l := fun l hl => gw l (List.mem_of_mem_drop (List.mem_of_mem_take hl))
  have h' : Ed rows (lcpN rows wild) (rows.length - lcpN rows wild - tailN rows wild) ((wild.drop (lcpN rows wild)).take (wild.length - lcpN rows wild - tailN rows wild)) :=
    ⟨by omega, by omega, gm, by rw [List.length_take, List.length_drop]; omega, by omega⟩
  have e := F_edit (b := false) ht gr ot (by omega) h' (by rw [least_done]; omega)
  rw [least_done] at e
  exact ⟨(F_text (by omega) (fun l hl => by have := (gw l hl).2.2; omega) (by omega)).2, F_le ht TextOf.full gr gw ot oW (by omega) (by omega) (by omega) (by omega), F_jl (by omega) (by omega), e, g_eq_ed fun l hl => (gm l hl).1⟩
theorem right_turn {ws : List PyData} (hw : J ws) {v1 v2 v3 v4 v5 v6 v7 v8 v9 v10 v11 v12 v13 : SV} (hn : v13 = .un) : ∃ ws' w2 w3 w4 w5 w6 w7 w8 w9 w10 w11 w12, q_j_right_b1 [.own ws, v1, v2, v3, v4, v5, v6, v7, v8, v9, v10, v11, v12] = some (.nx [.own ws', v1, w2, w3, w4, w5, w6, w7, w8, w9, w10, w11, w12]) ∧ J ws' := by
  obtain ⟨ws1, rows, e1, hw1, hr, hg⟩ := lines_ok hw 12 (by omega) (i := 12) rfl
  obtain ⟨ws2, f, m, b, more, e2, hw2, hE, h5, hm⟩ := edit_ok hw1 hr hg
  have gr : ∀ l, l ∈ rows → Gl l := fun l hl => (hg l hl).gl
  have tR := text_len (rows := rows) fun l hl => (gr l hl).2.2
  have oR := text_okL (rows := rows) fun l hl => (gr l hl).1
  have eT := (F_text (rows := rows) (by omega) (fun l hl => by have := (gr l hl).2.2; omega) (by omega)).2
  have ne := g_ne_empty fun l hl => (gr l hl).1
  have rp := repr_ok (b := b) (f := f) (m := m) (ls := more) (by have := hE.hf; omega) (by have := hE.hm; omega) (by omega) fun l hl => (hm l hl).gl
  have dn := F_dn (b := b) hE
  have pl := F_pl (f := f) (m := m) (b := b) (more := more)
  have gone1 := cutD_from (TTs rows) f
  rw [tts_drop] at gone1
  have gone2 := cutD_to (TTs (rows.drop f)) m
  rw [tts_take] at gone2
  have main : ∀ (ws : List PyData) (t : List Nat), J ws → TextOf rows t → okL t = true → t.length ≤ 2000 → ∃ ws' wild, F_j_lines ws [.int 12] = some (ws', .list (TTs wild)) ∧ J ws' ∧ Facts rows (doneN rows f m more) ((rows.drop f).take m) t f m b more ∧
      (F_j_text [.list (TTs wild)] = some (TT (textN wild)) ∧ F_least_edit [TT t, TT (textN wild)] = some (leastD rows wild) ∧ F_j_least [.list (TTs rows), .list (TTs wild)] = some (leastD rows wild) ∧ F_edited [TT t, leastD rows wild] = some (TT (textN wild)) ∧ gEq true (leastD rows wild) (leastD rows wild) = some (.bool false)) := by
    intro ws t hj ht ot lt
    obtain ⟨ws', wild, e, hw', l1, l2⟩ := lines_ok hj 12 (by omega) (i := 12) rfl
    exact ⟨ws', wild, e, hw', facts hr hg hE h5 hm ht ot lt, wild_ok hr hg l1 l2 ht ot lt⟩
  have gk : ∀ l, l ∈ (rows.drop f).take m → okL l = true := fun l hl => (gr l (List.mem_of_mem_drop (List.mem_of_mem_take hl))).1
  have q1 : gEq true (ED f more.length false ((rows.drop f).take m)) (.tuple [II f, .int (more.length : Int), .list (TTs ((rows.drop f).take m))]) = some (.bool false) := g_eq_ed gk
  have q2 : gEq true (ED f m false more) (ED f m false more) = some (.bool false) := g_eq_ed fun l hl => (hm l hl).1
  have kk : (textN rows).length ≤ 16777216 := by omega
  by_cases h0 : rows = []
  · have c0 : (rows = []) = True := eq_true h0
    obtain ⟨ws9, wild, eL, hw9, S, w1, w2, w3, w4, w5⟩ := main ws2 (textN rows) hw2 TextOf.full oR (by omega)
    have q3 : gEq true (leastD rows (doneN rows f m more)) (leastD rows (doneN rows f m more)) = some (.bool false) := g_eq_ed fun l hl => (S.gO l (List.mem_of_mem_drop (List.mem_of_mem_take hl))).1
    simp only [fxs, fxs2, isN, isiD, gOwn, List.set_cons_zero, List.set_cons_succ, List.length_cons, List.length_nil, Option.map_some, Option.map_none, ↓reduceIte, Bool.false_eq_true, Bool.true_eq_false, Bool.false_xor, Bool.true_xor, Bool.not_true, Bool.not_false, decide_true, decide_false, Bool.not_eq_true', decide_eq_true_eq, decide_eq_false_iff_not, Nat.reduceAdd, Nat.reduceLeDiff, Nat.reduceLT, Int.reduceAdd, q_j_right_b1, e1, eT, e2, ne, c0, decide_true, Bool.not_true, rp, dn, S.e1, S.e2, txeq, not_true, S.e3, atI_0, atI_1, atI_2, gone1, gone2, md_len, q1, S.e4, S.e5, pl, q2, S.e6, S.e7, q3, eL, w1, w2, w3, w5, w4]
    exact ⟨ws9, _, _, _, _, _, _, _, _, _, _, _, rfl, hw9⟩
  · obtain ⟨r, l, hrl⟩ : ∃ r l, rows = r ++ [l] := ⟨rows.dropLast, rows.getLast h0, (List.dropLast_concat_getLast h0).symm⟩
    have la : atI (TTs rows) (-1) = some (.str (tx l)) := by
      rw [hrl]
      have e : TTs (r ++ [l]) = TTs r ++ [.str (tx l)] := List.map_append ..
      rw [e, last_at]
    by_cases h1 : l = []
    · have c1 : (l = []) = True := eq_true h1
      obtain ⟨ws9, wild, eL, hw9, S, w1, w2, w3, w4, w5⟩ := main ws2 (textN rows) hw2 TextOf.full oR (by omega)
      have q3 : gEq true (leastD rows (doneN rows f m more)) (leastD rows (doneN rows f m more)) = some (.bool false) := g_eq_ed fun l hl => (S.gO l (List.mem_of_mem_drop (List.mem_of_mem_take hl))).1
      simp only [fxs, fxs2, isN, isiD, gOwn, List.set_cons_zero, List.set_cons_succ, List.length_cons, List.length_nil, Option.map_some, Option.map_none, ↓reduceIte, Bool.false_eq_true, Bool.true_eq_false, Bool.false_xor, Bool.true_xor, Bool.not_true, Bool.not_false, decide_true, decide_false, Bool.not_eq_true', decide_eq_true_eq, decide_eq_false_iff_not, Nat.reduceAdd, Nat.reduceLeDiff, Nat.reduceLT, Int.reduceAdd, q_j_right_b1, e1, eT, e2, ne, h0, decide_false, Bool.not_false, la, c1, rp, dn, S.e1, S.e2, txeq, not_true, S.e3, atI_0, atI_1, atI_2, gone1, gone2, md_len, q1, S.e4, S.e5, pl, q2, S.e6, S.e7, q3, eL, w1, w2, w3, w5, w4]
      exact ⟨ws9, _, _, _, _, _, _, _, _, _, _, _, rfl, hw9⟩
    · obtain ⟨ws3, d, e3, hw3, _⟩ := dip_ok hw2 2 (by omega) (by omega) (i := 2) rfl
      by_cases h2 : d = 0
      · have c2 : ((d : Int) = 0) = True := eq_true (by omega)
        have et : (textN rows).dropLast = textN r ++ l := by rw [hrl, text_app, List.dropLast_concat]
        have ot : okL (textN r ++ l) = true := by
          have := oR
          rw [hrl, text_app] at this
          unfold okL at this ⊢
          rw [List.all_append, Bool.and_eq_true] at this
          exact this.1
        have lt : (textN r ++ l).length ≤ 2000 := by
          rw [← et, List.length_dropLast]; omega
        have tx_ : TextOf rows (textN r ++ l) := by rw [hrl]; exact .bare h1
        obtain ⟨ws9, wild, eL, hw9, S, w1, w2, w3, w4, w5⟩ := main ws3 (textN r ++ l) hw3 tx_ ot lt
        have q3 : gEq true (leastD rows (doneN rows f m more)) (leastD rows (doneN rows f m more)) = some (.bool false) := g_eq_ed fun l hl => (S.gO l (List.mem_of_mem_drop (List.mem_of_mem_take hl))).1
        simp only [fxs, fxs2, isN, isiD, gOwn, List.set_cons_zero, List.set_cons_succ, List.length_cons, List.length_nil, Option.map_some, Option.map_none, ↓reduceIte, Bool.false_eq_true, Bool.true_eq_false, Bool.false_xor, Bool.true_xor, Bool.not_true, Bool.not_false, decide_true, decide_false, Bool.not_eq_true', decide_eq_true_eq, decide_eq_false_iff_not, Nat.reduceAdd, Nat.reduceLeDiff, Nat.reduceLT, Int.reduceAdd, q_j_right_b1, e1, eT, e2, ne, h0, decide_false, Bool.not_false, la, h1, not_false_eq_true, e3, c2, kk, cut_last, et, rp, dn, S.e1, S.e2, txeq, not_true, S.e3, atI_0, atI_1, atI_2, gone1, gone2, md_len, q1, S.e4, S.e5, pl, q2, S.e6, S.e7, q3, eL, w1, w2, w3, w5, w4]
        exact ⟨ws9, _, _, _, _, _, _, _, _, _, _, _, rfl, hw9⟩
      · have c2 : ((d : Int) = 0) = False := eq_false (by omega)
        obtain ⟨ws9, wild, eL, hw9, S, w1, w2, w3, w4, w5⟩ := main ws3 (textN rows) hw3 TextOf.full oR (by omega)
        have q3 : gEq true (leastD rows (doneN rows f m more)) (leastD rows (doneN rows f m more)) = some (.bool false) := g_eq_ed fun l hl => (S.gO l (List.mem_of_mem_drop (List.mem_of_mem_take hl))).1
        simp only [fxs, fxs2, isN, isiD, gOwn, List.set_cons_zero, List.set_cons_succ, List.length_cons, List.length_nil, Option.map_some, Option.map_none, ↓reduceIte, Bool.false_eq_true, Bool.true_eq_false, Bool.false_xor, Bool.true_xor, Bool.not_true, Bool.not_false, decide_true, decide_false, Bool.not_eq_true', decide_eq_true_eq, decide_eq_false_iff_not, Nat.reduceAdd, Nat.reduceLeDiff, Nat.reduceLT, Int.reduceAdd, q_j_right_b1, e1, eT, e2, ne, h0, decide_false, Bool.not_false, la, h1, not_false_eq_true, e3, c2, rp, dn, S.e1, S.e2, txeq, not_true, S.e3, atI_0, atI_1, atI_2, gone1, gone2, md_len, q1, S.e4, S.e5, pl, q2, S.e6, S.e7, q3, eL, w1, w2, w3, w5, w4]
        exact ⟨ws9, _, _, _, _, _, _, _, _, _, _, _, rfl, hw9⟩
end Pm.Q
namespace Pm.Q
open PySem PySem.Spec PyProof.Rows L2 TL Pm
theorem right_ok {ws : List PyData} (hw : J ws) : ∃ ws', F_j_right ws [] = some (ws', .bool true) ∧ J ws' := by
  have r8 : gRange1 [.int 8] = some (rangeD 0 8) := rfl
  have loop : ∃ ρ', forQ (qN 1) q_j_right_b1 (rangeD 0 8) [.own ws, .un, .un, .un, .un, .un, .un, .un, .un, .un, .un, .un, .un] = some (.nx ρ') ∧ ∃ ws v1 v2 v3 v4 v5 v6 v7 v8 v9 v10 v11 v12, ρ' = [.own ws, v1, v2, v3, v4, v5, v6, v7, v8, v9, v10, v11, v12] ∧ J ws := by
    refine for_inv (fun ρ => ∃ ws v1 v2 v3 v4 v5 v6 v7 v8 v9 v10 v11 v12, ρ = [.own ws, v1, v2, v3, v4, v5, v6, v7, v8, v9, v10, v11, v12] ∧ J ws) _ ?_ _ ⟨ws, .un, .un, .un, .un, .un, .un, .un, .un, .un, .un, .un, .un, rfl, hw⟩
    rintro d _ ρ ⟨ws, v1, v2, v3, v4, v5, v6, v7, v8, v9, v10, v11, v12, rfl, hw⟩
    obtain ⟨ws', w2, w3, w4, w5, w6, w7, w8, w9, w10, w11, w12, e, hw'⟩ := right_turn hw (v1 := .dat d) (v2 := v2) (v3 := v3) (v4 := v4) (v5 := v5) (v6 := v6) (v7 := v7) (v8 := v8) (v9 := v9) (v10 := v10) (v11 := v11) (v12 := v12) (v13 := .un) rfl
    exact ⟨_, e, ws', _, _, _, _, _, _, _, _, _, _, _, _, rfl, hw'⟩
  obtain ⟨ρ', h1, ws', v1, v2, v3, v4, v5, v6, v7, v8, v9, v10, v11, v12, rfl, hw'⟩ := loop
  unfold F_j_right
  simp only [fxs, fxs2, isN, isiD, gOwn, List.set_cons_zero, List.set_cons_succ, List.length_cons, List.length_nil, Option.map_some, Option.map_none, ↓reduceIte, Bool.false_eq_true, Bool.true_eq_false, Bool.false_xor, Bool.true_xor, Bool.not_true, Bool.not_false, decide_true, decide_false, Bool.not_eq_true', decide_eq_true_eq, decide_eq_false_iff_not, Nat.reduceAdd, Nat.reduceLeDiff, Nat.reduceLT, Int.reduceAdd, q_j_right, r8, h1]
  exact ⟨ws', rfl, hw'⟩
theorem jar_ok (i : Int) : ∃ ws, F_j_jar [.int i] = some ws ∧ J ws := by
  have c0 : (0 ≤ (18 : Int) ∧ (18 : Int) ≤ 1000000 ∧ (10 : Int).natAbs < 2 ^ 64) = True := eq_true (by decide)
  have d4 : (0 < (2147483587 : Int)) = True := eq_true (by decide)
  unfold F_j_jar
  by_cases h : i ≥ 10 ^ (18 : Int).toNat
  · have c1 : (i ≥ 10 ^ (18 : Int).toNat) = True := eq_true h
    simp only [fxs, fxs2, isN, isiD, gOwn, List.set_cons_zero, List.set_cons_succ, List.length_cons, List.length_nil, Option.map_some, Option.map_none, ↓reduceIte, Bool.false_eq_true, Bool.true_eq_false, Bool.false_xor, Bool.true_xor, Bool.not_true, Bool.not_false, decide_true, decide_false, Bool.not_eq_true', decide_eq_true_eq, decide_eq_false_iff_not, Nat.reduceAdd, Nat.reduceLeDiff, Nat.reduceLT, Int.reduceAdd, q_j_jar, c0, c1, g_mul_i, cm_r (c := 1) (by decide), d4]
    exact ⟨_, rfl, _, _, _, rfl⟩
  · have c1 : (i ≥ 10 ^ (18 : Int).toNat) = False := eq_false h
    simp only [fxs, fxs2, isN, isiD, gOwn, List.set_cons_zero, List.set_cons_succ, List.length_cons, List.length_nil, Option.map_some, Option.map_none, ↓reduceIte, Bool.false_eq_true, Bool.true_eq_false, Bool.false_xor, Bool.true_xor, Bool.not_true, Bool.not_false, decide_true, decide_false, Bool.not_eq_true', decide_eq_true_eq, decide_eq_false_iff_not, Nat.reduceAdd, Nat.reduceLeDiff, Nat.reduceLT, Int.reduceAdd, q_j_jar, c0, c1, g_mul_i, cm_r (c := 0) (by decide), d4]
    exact ⟨_, rfl, _, _, _, rfl⟩
theorem turn_cell {ns : List Int} {i : Int} : q_law_b4 [.scr ns, .dat (.int i)] = some (.nx [.scr ns, .dat (.int i)]) := by
  obtain ⟨ws, e1, hw⟩ := jar_ok i
  obtain ⟨ws', e2, _⟩ := right_ok hw
  have e : qCallWF F_j_right F_j_jar (qCons (qVar 1) qNil) [.scr ns, .dat (.int i)] = some ([.scr ns, .dat (.int i)], .bool true) := by
    show (some ([SV.scr ns, SV.dat (.int i)], [PyData.int i])).bind _ = _
    rw [Option.bind_some]
    show (F_j_jar [PyData.int i]).bind _ = _
    rw [e1, Option.bind_some, e2]; rfl
  simp only [fxs, fxs2, isN, isiD, gOwn, List.set_cons_zero, List.set_cons_succ, List.length_cons, List.length_nil, Option.map_some, Option.map_none, ↓reduceIte, Bool.false_eq_true, Bool.true_eq_false, Bool.false_xor, Bool.true_xor, Bool.not_true, Bool.not_false, decide_true, decide_false, Bool.not_eq_true', decide_eq_true_eq, decide_eq_false_iff_not, Nat.reduceAdd, Nat.reduceLeDiff, Nat.reduceLT, Int.reduceAdd, q_law_b4, q_law_i3, e]
theorem gl_small {l : List Nat} (h : okL l = true ∧ 10 ∉ l ∧ l.length ≤ 100) : Gl l := h
theorem fixed : F_least_edit [.str (tx [97, 10, 97, 10, 97]), .str (tx [97, 10, 97])] = some (ED 2 1 false []) ∧ F_least_edit [.str (tx []), .str (tx [])] = some (ED 0 0 false []) ∧
    F_edited [.str (tx [97]), .tuple [.int 1, .int 0, .list [.str (tx []), .str (tx [98])]]] = some (.str (tx [97, 10, 10, 98, 10])) ∧ F_edited [.str (tx [97, 10]), .tuple [.int 0, .int 1, .tuple []]] = some (.str (tx [])) ∧ F_edited [.str (tx []), .tuple [.int 0, .int 0, .list []]] = some (.str (tx [])) ∧
    F_back [.str (tx [97, 10, 98]), .tuple [.int 0, .int 2, .tuple [.str (tx [99])]]] = some (ED 0 1 false [[97], [98]]) := by
  have gd : ∀ rows : List (List Nat), (rows.all fun l => okL l && !l.contains 10 && decide (l.length ≤ 100)) = true → ∀ l, l ∈ rows → Gl l := fun rows h l hl => by
    have := List.all_eq_true.mp h l hl
    rw [Bool.and_eq_true, Bool.and_eq_true, decide_eq_true_eq] at this
    refine ⟨this.1.1, fun z => ?_, this.2⟩
    have h2 := this.1.2
    simp [z] at h2
  have t3 : TextOf [[97], [97], [97]] [97, 10, 97, 10, 97] := TextOf.bare (rows := [[97], [97]]) (l := [97]) (by simp)
  have t2 : TextOf [[97], [97]] [97, 10, 97] := TextOf.bare (rows := [[97]]) (l := [97]) (by simp)
  have t1 : TextOf [[97]] [97] := TextOf.bare (rows := []) (l := [97]) (by simp)
  have t1f : TextOf [[97]] [97, 10] := TextOf.full (rows := [[97]])
  have t0 : TextOf [] [] := TextOf.full (rows := [])
  have tb : TextOf [[97], [98]] [97, 10, 98] := TextOf.bare (rows := [[97]]) (l := [98]) (by simp)
  refine ⟨?_, ?_, ?_, ?_, ?_, ?_⟩
  · have h := F_le t3 t2 (gd _ (by decide)) (gd _ (by decide)) (by decide) (by decide) (by decide) (by decide) (by decide) (by decide)
    rw [h]; rfl
  · have h := F_le t0 t0 (gd _ (by decide)) (gd _ (by decide)) (by decide) (by decide) (by decide) (by decide) (by decide) (by decide)
    rw [h]; rfl
  · exact F_edit (rows := [[97]]) (t := [97]) (f := 1) (m := 0) (b := false) (more := [[], [98]]) t1 (gd _ (by decide)) (by decide) (by decide) ⟨by decide, by decide, gd _ (by decide), by decide, by decide⟩ (by decide)
  · exact F_edit (rows := [[97]]) (t := [97, 10]) (f := 0) (m := 1) (b := true) (more := []) t1f (gd _ (by decide)) (by decide) (by decide) ⟨by decide, by decide, gd _ (by decide), by decide, by decide⟩ (by decide)
  · exact F_edit (rows := []) (t := []) (f := 0) (m := 0) (b := false) (more := []) t0 (gd _ (by decide)) (by decide) (by decide) ⟨by decide, by decide, gd _ (by decide), by decide, by decide⟩ (by decide)
  · exact F_bk (rows := [[97], [98]]) (t := [97, 10, 98]) (f := 0) (m := 2) (b := true) (more := [[99]]) tb (gd _ (by decide)) (by decide) (by decide) ⟨by decide, by decide, gd _ (by decide), by decide, by decide⟩
theorem law_ok : ∀ ns : List Int, ns.length ≤ 63 → ∃ ρ, q_law [.scr ns, .un] = some (.rt ρ (.bool true)) := by
  intro ns hn
  obtain ⟨x1, x2, x3, x4, x5, x6⟩ := fixed
  have outer : ∃ ρ', forQ (qN 1) q_law_b4 ((cutD ns none (some 6)).map PyData.int ++ [.int 0]) [.scr ns, .un] = some (.nx ρ') ∧ ∃ v1, ρ' = [.scr ns, v1] := by
    refine for_inv (fun ρ => ∃ v1, ρ = [.scr ns, v1]) _ ?_ _ ⟨.un, rfl⟩
    rintro d hd ρ ⟨v1, rfl⟩
    obtain ⟨i, rfl⟩ : ∃ i : Int, d = .int i := by
      rcases List.mem_append.mp hd with h | h
      · obtain ⟨i, _, e⟩ := List.mem_map.mp h
        exact ⟨i, e.symm⟩
      · exact ⟨0, List.mem_singleton.mp h⟩
    exact ⟨_, turn_cell, _, rfl⟩
  obtain ⟨ρ', h1, v1, rfl⟩ := outer
  have hs : ((cutD ns none (some 6)).map PyData.int).length ≤ 16777215 := by
    have : (cutD ns none (some 6)).length ≤ ns.length := by unfold cutD; rw [List.length_take, List.length_drop]; omega
    rw [List.length_map]; omega
  have eS : qSlS 0 qNo (qSo (qC (.int 6))) [.scr ns, .un] = some ([.scr ns, .un], .list ((cutD ns none (some 6)).map .int)) := rfl
  have y1 : gEq true (ED 2 1 false []) (.tuple [.int 2, .int 1, .list []]) = some (.bool false) := rfl
  have y2 : gEq true (ED 0 0 false []) (.tuple [.int 0, .int 0, .list []]) = some (.bool false) := rfl
  have y3 : gEq false (ED 0 1 false [[97], [98]]) (.tuple [.int 0, .int 1, .list [.str (tx [97]), .str (tx [98])]]) = some (.bool true) := g_eq_ed (z := false) (f := 0) (m := 1) (b := false) (ls := [[97], [98]]) (by decide)
  simp only [fxs, fxs2, isN, isiD, gOwn, List.set_cons_zero, List.set_cons_succ, List.length_cons, List.length_nil, Option.map_some, Option.map_none, ↓reduceIte, Bool.false_eq_true, Bool.true_eq_false, Bool.false_xor, Bool.true_xor, Bool.not_true, Bool.not_false, decide_true, decide_false, Bool.not_eq_true', decide_eq_true_eq, decide_eq_false_iff_not, Nat.reduceAdd, Nat.reduceLeDiff, Nat.reduceLT, Int.reduceAdd, q_law, eS]
  rw [if_pos hs, h1]
  simp only [fxs, fxs2, isN, isiD, gOwn, List.set_cons_zero, List.set_cons_succ, List.length_cons, List.length_nil, Option.map_some, Option.map_none, ↓reduceIte, Bool.false_eq_true, Bool.true_eq_false, Bool.false_xor, Bool.true_xor, Bool.not_true, Bool.not_false, decide_true, decide_false, Bool.not_eq_true', decide_eq_true_eq, decide_eq_false_iff_not, Nat.reduceAdd, Nat.reduceLeDiff, Nat.reduceLT, Int.reduceAdd, q_law_i1, q_law_i2, x1, x2, x3, x4, x5, x6, y1, y2, txeq, not_true, y3]
  exact ⟨_, rfl⟩
end Pm.Q
namespace Pm.plainmark_k80_edits_there_and_back
open PySem PySem.Spec PyProof.Rows L2 Pm Pm.Q
def top (i : Nat) : Stmt := PySem.Challenge.pw_plainmark_k80_edits_there_and_back.main.body.getD i (.Pass ⟨0, 0, 0, 0⟩)
abbrev s_lines_of : Stmt := top 1
theorem sc_lines_of : FnScope ["text", "found"] ["text"] (defScope s_lines_of) := ⟨rfl, rfl, rfl, by decide +kernel, rfl, by decide +kernel, by decide +kernel⟩
abbrev s_first_wrong : Stmt := top 11
theorem sc_first_wrong : FnScope ["text", "at", "sign"] ["text"] (defScope s_first_wrong) := ⟨rfl, rfl, rfl, by decide +kernel, rfl, by decide +kernel, by decide +kernel⟩
abbrev s_check_source : Stmt := top 13
theorem sc_check_source : FnScope ["text", "place"] ["text"] (defScope s_check_source) := ⟨rfl, rfl, rfl, by decide +kernel, rfl, by decide +kernel, by decide +kernel⟩
abbrev s_is_number : Stmt := top 15
theorem sc_is_number : FnScope ["thing", "most"] ["thing", "most"] (defScope s_is_number) := ⟨rfl, rfl, rfl, by decide +kernel, rfl, by decide +kernel, by decide +kernel⟩
abbrev s_is_line : Stmt := top 16
theorem sc_is_line : FnScope ["thing"] ["thing"] (defScope s_is_line) := ⟨rfl, rfl, rfl, by decide +kernel, rfl, by decide +kernel, by decide +kernel⟩
abbrev s_check_edit : Stmt := top 17
theorem sc_check_edit : FnScope ["lines", "edit", "first", "many", "more", "one"] ["lines", "edit"] (defScope s_check_edit) := ⟨rfl, rfl, rfl, by decide +kernel, rfl, by decide +kernel, by decide +kernel⟩
abbrev s_lines_of_both : Stmt := top 18
theorem sc_lines_of_both : FnScope ["text", "edit", "lines", "first", "many", "more"] ["text", "edit"] (defScope s_lines_of_both) := ⟨rfl, rfl, rfl, by decide +kernel, rfl, by decide +kernel, by decide +kernel⟩
abbrev s_text_of : Stmt := top 19
theorem sc_text_of : FnScope ["lines", "line"] ["lines"] (defScope s_text_of) := ⟨rfl, rfl, rfl, by decide +kernel, rfl, by decide +kernel, by decide +kernel⟩
abbrev s_edited : Stmt := top 20
theorem sc_edited : FnScope ["text", "edit"] ["text", "edit"] (defScope s_edited) := ⟨rfl, rfl, rfl, by decide +kernel, rfl, by decide +kernel, by decide +kernel⟩
abbrev s_back : Stmt := top 21
theorem sc_back : FnScope ["text", "edit", "lines", "others", "first", "many", "more"] ["text", "edit"] (defScope s_back) := ⟨rfl, rfl, rfl, by decide +kernel, rfl, by decide +kernel, by decide +kernel⟩
abbrev s_same_lines : Stmt := top 22
theorem sc_same_lines : FnScope ["one", "other", "many"] ["one", "other"] (defScope s_same_lines) := ⟨rfl, rfl, rfl, by decide +kernel, rfl, by decide +kernel, by decide +kernel⟩
abbrev s_least_of : Stmt := top 23
theorem sc_least_of : FnScope ["lines", "others", "first", "one", "other", "tail"] ["lines", "others"] (defScope s_least_of) := ⟨rfl, rfl, rfl, by decide +kernel, rfl, by decide +kernel, by decide +kernel⟩
abbrev s_least_edit : Stmt := top 24
theorem sc_least_edit : FnScope ["text", "other"] ["text", "other"] (defScope s_least_edit) := ⟨rfl, rfl, rfl, by decide +kernel, rfl, by decide +kernel, by decide +kernel⟩
abbrev s_j_jar : Stmt := top 26
theorem sc_j_jar : FnScope ["_law_cell"] ["_law_cell"] (defScope s_j_jar) := ⟨rfl, rfl, rfl, by decide +kernel, rfl, by decide +kernel, by decide +kernel⟩
abbrev s_j_dip : Stmt := top 27
theorem sc_j_dip : FnScope ["_law_jar_here", "_law_many", "_law_digit", "_law_mixed"] ["_law_jar_here", "_law_many"] (defScope s_j_dip) := ⟨rfl, rfl, rfl, by decide +kernel, rfl, by decide +kernel, by decide +kernel⟩
abbrev s_j_one : Stmt := top 28
theorem sc_j_one : FnScope ["_law_jar_here", "_law_some"] ["_law_jar_here", "_law_some"] (defScope s_j_one) := ⟨rfl, rfl, rfl, by decide +kernel, rfl, by decide +kernel, by decide +kernel⟩
abbrev s_j_line : Stmt := top 29
theorem sc_j_line : FnScope ["_law_jar_here", "_law_heads", "_law_some"] ["_law_jar_here"] (defScope s_j_line) := ⟨rfl, rfl, rfl, by decide +kernel, rfl, by decide +kernel, by decide +kernel⟩
abbrev s_j_lines : Stmt := top 30
theorem sc_j_lines : FnScope ["_law_jar_here", "_law_most", "_law_k"] ["_law_jar_here", "_law_most"] (defScope s_j_lines) := ⟨rfl, rfl, rfl, by decide +kernel, rfl, by decide +kernel, by decide +kernel⟩
abbrev s_j_text : Stmt := top 31
theorem sc_j_text : FnScope ["_law_lines_here", "_law_line_here"] ["_law_lines_here"] (defScope s_j_text) := ⟨rfl, rfl, rfl, by decide +kernel, rfl, by decide +kernel, by decide +kernel⟩
abbrev s_j_edit : Stmt := top 32
theorem sc_j_edit : FnScope ["_law_jar_here", "_law_lines_here", "_law_first", "_law_many", "_law_more"] ["_law_jar_here", "_law_lines_here"] (defScope s_j_edit) := ⟨rfl, rfl, rfl, by decide +kernel, rfl, by decide +kernel, by decide +kernel⟩
abbrev s_j_done : Stmt := top 33
theorem sc_j_done : FnScope ["_law_lines_here", "_law_edit_here", "_law_first", "_law_many", "_law_more"] ["_law_lines_here", "_law_edit_here"] (defScope s_j_done) := ⟨rfl, rfl, rfl, by decide +kernel, rfl, by decide +kernel, by decide +kernel⟩
abbrev s_j_least : Stmt := top 34
theorem sc_j_least : FnScope ["_law_lines_here", "_law_others", "_law_first", "_law_k", "_law_tail", "_law_room"] ["_law_lines_here", "_law_others"] (defScope s_j_least) := ⟨rfl, rfl, rfl, by decide +kernel, rfl, by decide +kernel, by decide +kernel⟩
abbrev s_j_plain : Stmt := top 35
theorem sc_j_plain : FnScope ["_law_edit_here"] ["_law_edit_here"] (defScope s_j_plain) := ⟨rfl, rfl, rfl, by decide +kernel, rfl, by decide +kernel, by decide +kernel⟩
abbrev s_j_right : Stmt := top 36
theorem sc_j_right : FnScope ["_law_jar_here", "_law_turn", "_law_rows", "_law_before", "_law_edit_here", "_law_kept", "_law_others", "_law_later", "_law_turned_so", "_law_gone", "_law_again", "_law_wild", "_law_other"] ["_law_jar_here"] (defScope s_j_right) := ⟨rfl, rfl, rfl, by decide +kernel, rfl, by decide +kernel, by decide +kernel⟩
abbrev s_law : Stmt := top 37
theorem sc_law : FnScope ["_law_script", "_law_cell"] ["_law_script"] (defScope s_law) := ⟨rfl, rfl, rfl, by decide +kernel, rfl, by decide +kernel, by decide +kernel⟩
/-- what the top has written -/
structure Txt (w : World) (K : Fr) (mg : Str → Option Value) : Prop where
  D_lines_of : Def K mg "lines_of" s_lines_of ["text"]
  D_first_wrong : Def K mg "first_wrong" s_first_wrong ["text"]
  D_check_source : Def K mg "check_source" s_check_source ["text"]
  D_is_number : Def K mg "is_number" s_is_number ["thing", "most"]
  D_is_line : Def K mg "is_line" s_is_line ["thing"]
  D_check_edit : Def K mg "check_edit" s_check_edit ["lines", "edit"]
  D_lines_of_both : Def K mg "lines_of_both" s_lines_of_both ["text", "edit"]
  D_text_of : Def K mg "text_of" s_text_of ["lines"]
  D_edited : Def K mg "edited" s_edited ["text", "edit"]
  D_back : Def K mg "back" s_back ["text", "edit"]
  D_same_lines : Def K mg "same_lines" s_same_lines ["one", "other"]
  D_least_of : Def K mg "least_of" s_least_of ["lines", "others"]
  D_least_edit : Def K mg "least_edit" s_least_edit ["text", "other"]
  D_j_jar : Def K mg "_law_jar" s_j_jar ["_law_cell"]
  D_j_dip : Def K mg "_law_dip" s_j_dip ["_law_jar_here", "_law_many"]
  D_j_one : Def K mg "_law_one" s_j_one ["_law_jar_here", "_law_some"]
  D_j_line : Def K mg "_law_line" s_j_line ["_law_jar_here"]
  D_j_lines : Def K mg "_law_lines" s_j_lines ["_law_jar_here", "_law_most"]
  D_j_text : Def K mg "_law_text" s_j_text ["_law_lines_here"]
  D_j_edit : Def K mg "_law_edit" s_j_edit ["_law_jar_here", "_law_lines_here"]
  D_j_done : Def K mg "_law_done" s_j_done ["_law_lines_here", "_law_edit_here"]
  D_j_least : Def K mg "_law_least" s_j_least ["_law_lines_here", "_law_others"]
  D_j_plain : Def K mg "_law_plain" s_j_plain ["_law_edit_here"]
  D_j_right : Def K mg "_law_right" s_j_right ["_law_jar_here"]
  D_law : Def K mg "law" s_law ["_law_script"]
  g_LETTERS : ∃ t : Tok, mg "LETTERS" = some (.str (PySem.Str.ofString "abcdefghijklmnopqrstuvwxyzABCDEFGHIJKLMNOPQRSTUVWXYZ") t)
  g_DIGITS : ∃ t : Tok, mg "DIGITS" = some (.str (PySem.Str.ofString "0123456789") t)
  g_PUNCTUATION : ∃ t : Tok, mg "PUNCTUATION" = some (.str (PySem.Str.ofString "!\"#$&'()*+,-./:;<=>?\x40[\\]^_`{|}~") t)
  g_WHITE : ∃ t : Tok, mg "WHITE" = some (.str (PySem.Str.ofString " \t\n") t)
  n_enumerate : mg "enumerate" = none
  n_str : mg "str" = none
  n_isinstance : mg "isinstance" = none
  n_int : mg "int" = none
  n_bool : mg "bool" = none
  n_len : mg "len" = none
  n_tuple : mg "tuple" = none
  n_list : mg "list" = none
  n_all : mg "all" = none
  n_min : mg "min" = none
  n_range : mg "range" = none
  n_repr : mg "repr" = none
section
variable {P : Program} {w : World} {K : Fr} {mg : Str → Option Value} {base : Heap} (T : Txt w K mg)
include T
set_option maxHeartbeats 4000000 in
theorem d_lines_of  {f : Addr} {cdv : Value} {A : Around} {outer : List PySem.Env} {s : Shared} {H : Hp} {E : XK} (hr : Room 0 (A.deeper (envOfC "lines_of" (defScope s_lines_of) s.heap.objs.size f cdv))) :
    DSs (cxOf CX0 P w K mg base ["text", "found"] "lines_of" (defScope s_lines_of) f cdv A outer s H E).nox K (defBody s_lines_of) w_lines_of := by
  have nd := sc_lines_of.nd
  exact
(dss_cons (ds_set 1 nd (de_split (de_v 0) (da_cons de_str da_nil)))
(dss_one (ds_ret (de_ite (dt_eq (fun _ => hr.units) (de_ix (de_v 1) (de_neg de_int)) (DE.v de_str)) (de_sl (de_v 1) do_no (do_so (de_neg de_int))) (de_v 1)))))

theorem has_lines_of  : Has P w K mg base 1 "lines_of" (spP K S_lines_of) := T.D_lines_of.has fun f fd F =>
  fn_pure F sc_lines_of l_lines_of (fun cdv A outer s H E hr => d_lines_of T  hr) m_lines_of
set_option maxHeartbeats 4000000 in
theorem d_first_wrong  {f : Addr} {cdv : Value} {A : Around} {outer : List PySem.Env} {s : Shared} {H : Hp} {E : XK} (hr : Room 0 (A.deeper (envOfC "first_wrong" (defScope s_first_wrong) s.heap.objs.size f cdv))) :
    DSs (cxOf CX0 P w K mg base ["text", "at", "sign"] "first_wrong" (defScope s_first_wrong) f cdv A outer s H E).nox K (defBody s_first_wrong) w_first_wrong := by
  have nd := sc_first_wrong.nd
  exact
(dss_cons (ds_for (di_enum (fun _ => T.n_enumerate) (de_v 0)) (dg_tup (dgs_cons (dg_name 1 nd) (dgs_cons (dg_name 2 nd) dgs_nil)))
(dss_one (ds_if (DW.t (dw_and (dt_notin (de_v 2) (DE.v (de_globS (T.g_WHITE.imp fun _ h _ => h)))) (dw_and (dt_notin (de_v 2) (DE.v (de_globS (T.g_LETTERS.imp fun _ h _ => h)))) (dw_and (dt_notin (de_v 2) (DE.v (de_globS (T.g_DIGITS.imp fun _ h _ => h)))) (dw_and1 (dt_notin (de_v 2) (DE.v (de_globS (T.g_PUNCTUATION.imp fun _ h _ => h)))))))))
(dss_one (ds_ret (de_v 1)))
dss_nil)))
(dss_one (ds_ret de_non)))

theorem has_first_wrong  : Has P w K mg base 1 "first_wrong" (spP K S_first_wrong) := T.D_first_wrong.has fun f fd F =>
  fn_pure F sc_first_wrong l_first_wrong (fun cdv A outer s H E hr => d_first_wrong T  hr) m_first_wrong
set_option maxHeartbeats 4000000 in
theorem d_check_source (C_first_wrong : Has P w K mg base 1 "first_wrong" (spP K S_first_wrong)) {f : Addr} {cdv : Value} {A : Around} {outer : List PySem.Env} {s : Shared} {H : Hp} {E : XK} (hr : Room 1 (A.deeper (envOfC "check_source" (defScope s_check_source) s.heap.objs.size f cdv))) :
    DSs (cxOf CX0 P w K mg base ["text", "place"] "check_source" (defScope s_check_source) f cdv A outer s H E).nox K (defBody s_check_source) w_check_source := by
  have nd := sc_check_source.nd
  exact
(dss_cons (ds_if (dt_not (dt_val (de_isi .str (fun _ => T.n_isinstance) (fun _ => T.n_str) (de_v 0))))
(dss_one ds_never)
dss_nil)
(dss_cons (ds_set 1 nd (de_call (fun _ => callOk C_first_wrong hr (by decide)) (da_cons (de_v 0) da_nil)))
(dss_one (ds_if (dt_isnot (de_v 1) de_non)
(dss_one ds_never)
dss_nil))))

theorem has_check_source (C_first_wrong : Has P w K mg base 1 "first_wrong" (spP K S_first_wrong)) : Has P w K mg base 2 "check_source" (spP K S_check_source) := T.D_check_source.has fun f fd F =>
  fn_pure F sc_check_source l_check_source (fun cdv A outer s H E hr => d_check_source T C_first_wrong hr) m_check_source
set_option maxHeartbeats 4000000 in
theorem d_is_number  {f : Addr} {cdv : Value} {A : Around} {outer : List PySem.Env} {s : Shared} {H : Hp} {E : XK} (hr : Room 0 (A.deeper (envOfC "is_number" (defScope s_is_number) s.heap.objs.size f cdv))) :
    DSs (cxOf CX0 P w K mg base ["thing", "most"] "is_number" (defScope s_is_number) f cdv A outer s H E).nox K (defBody s_is_number) w_is_number := by
  have nd := sc_is_number.nd
  exact
(dss_one (ds_ret (de_and (de_isi .int (fun _ => T.n_isinstance) (fun _ => T.n_int) (de_v 0)) (de_and (de_not (de_isi .bool (fun _ => T.n_isinstance) (fun _ => T.n_bool) (de_v 0))) (de_one (de_chain (fun _ => op_le) (fun _ => op_le) (od_I0 fun _ _ _ => .bl _) (od_I0 fun _ _ _ => .bl _) de_int (de_v 0) (de_v 1)))))))

theorem has_is_number  : Has P w K mg base 1 "is_number" (spP K S_is_number) := T.D_is_number.has fun f fd F =>
  fn_pure F sc_is_number l_is_number (fun cdv A outer s H E hr => d_is_number T  hr) m_is_number
set_option maxHeartbeats 4000000 in
theorem d_is_line (C_first_wrong : Has P w K mg base 1 "first_wrong" (spP K S_first_wrong)) {f : Addr} {cdv : Value} {A : Around} {outer : List PySem.Env} {s : Shared} {H : Hp} {E : XK} (hr : Room 1 (A.deeper (envOfC "is_line" (defScope s_is_line) s.heap.objs.size f cdv))) :
    DSs (cxOf CX0 P w K mg base ["thing"] "is_line" (defScope s_is_line) f cdv A outer s H E).nox K (defBody s_is_line) w_is_line := by
  have nd := sc_is_line.nd
  exact
(dss_one (ds_ret (de_and (de_isi .str (fun _ => T.n_isinstance) (fun _ => T.n_str) (de_v 0)) (de_and (de_notin de_str (DE.v (de_v 0))) (de_one (de_is (de_call (fun _ => callOk C_first_wrong hr (by decide)) (da_cons (de_v 0) da_nil)) de_non))))))

theorem has_is_line (C_first_wrong : Has P w K mg base 1 "first_wrong" (spP K S_first_wrong)) : Has P w K mg base 2 "is_line" (spP K S_is_line) := T.D_is_line.has fun f fd F =>
  fn_pure F sc_is_line l_is_line (fun cdv A outer s H E hr => d_is_line T C_first_wrong hr) m_is_line
set_option maxHeartbeats 4000000 in
theorem d_check_edit (C_is_number : Has P w K mg base 1 "is_number" (spP K S_is_number)) (C_is_line : Has P w K mg base 2 "is_line" (spP K S_is_line)) {f : Addr} {cdv : Value} {A : Around} {outer : List PySem.Env} {s : Shared} {H : Hp} {E : XK} (hr : Room 2 (A.deeper (envOfC "check_edit" (defScope s_check_edit) s.heap.objs.size f cdv))) :
    DSs (cxOf CX0 P w K mg base ["lines", "edit", "first", "many", "more", "one"] "check_edit" (defScope s_check_edit) f cdv A outer s H E).nox K (defBody s_check_edit) w_check_edit := by
  have nd := sc_check_edit.nd
  exact
(dss_cons (ds_if (DW.t (dw_or (dt_not (dt_val (de_isi .tuple (fun _ => T.n_isinstance) (fun _ => T.n_tuple) (de_v 1)))) (dw_or1 (dt_ne (fun _ => hr.units) (de_len (fun _ => T.n_len) (DE.v (de_v 1))) (DE.v de_int)))))
(dss_one ds_never)
dss_nil)
(dss_cons (ds_asg (de_v 1) (dg_tup (dgs_cons (dg_name 2 nd) (dgs_cons (dg_name 3 nd) (dgs_cons (dg_name 4 nd) dgs_nil)))))
(dss_cons (ds_if (dt_not (dt_val (de_call (fun _ => callOk C_is_number hr (by decide)) (da_cons (de_v 2) (da_cons (de_len (fun _ => T.n_len) (DE.v (de_v 0))) da_nil)))))
(dss_one ds_never)
dss_nil)
(dss_cons (ds_if (dt_not (dt_val (de_call (fun _ => callOk C_is_number hr (by decide)) (da_cons (de_v 3) (da_cons (de_sub (de_len (fun _ => T.n_len) (DE.v (de_v 0))) (de_v 2)) da_nil)))))
(dss_one ds_never)
dss_nil)
(dss_one (ds_if (DW.t (dw_or (dt_not (dt_val (de_isi2 .list .tuple (fun _ => T.n_isinstance) (fun _ => T.n_list) (fun _ => T.n_tuple) (de_v 4)))) (dw_or1 (dt_not (dt_val (de_all (fun _ => T.n_all) (DE.v (de_lc 5 (fun _ => nd) (di_seq (de_v 4)) (de_call (fun _ => callOk C_is_line hr (by decide)) (da_cons (de_v 5) da_nil)) (ok := fun _ => (by decide +kernel : blkC ["lines", "edit", "first", "many", "more", "one"] (defScope s_check_edit) _ _ = true))))))))))
(dss_one ds_never)
dss_nil))))))

theorem has_check_edit (C_is_number : Has P w K mg base 1 "is_number" (spP K S_is_number)) (C_is_line : Has P w K mg base 2 "is_line" (spP K S_is_line)) : Has P w K mg base 3 "check_edit" (spP K S_check_edit) := T.D_check_edit.has fun f fd F =>
  fn_pure F sc_check_edit l_check_edit (fun cdv A outer s H E hr => d_check_edit T C_is_number C_is_line hr) m_check_edit
set_option maxHeartbeats 4000000 in
theorem d_lines_of_both (C_check_source : Has P w K mg base 2 "check_source" (spP K S_check_source)) (C_lines_of : Has P w K mg base 1 "lines_of" (spP K S_lines_of)) (C_check_edit : Has P w K mg base 3 "check_edit" (spP K S_check_edit)) {f : Addr} {cdv : Value} {A : Around} {outer : List PySem.Env} {s : Shared} {H : Hp} {E : XK} (hr : Room 3 (A.deeper (envOfC "lines_of_both" (defScope s_lines_of_both) s.heap.objs.size f cdv))) :
    DSs (cxOf CX0 P w K mg base ["text", "edit", "lines", "first", "many", "more"] "lines_of_both" (defScope s_lines_of_both) f cdv A outer s H E).nox K (defBody s_lines_of_both) w_lines_of_both := by
  have nd := sc_lines_of_both.nd
  exact
(dss_cons (ds_expr (de_call (fun _ => callOk C_check_source hr (by decide)) (da_cons (de_v 0) da_nil)))
(dss_cons (ds_set 2 nd (de_call (fun _ => callOk C_lines_of hr (by decide)) (da_cons (de_v 0) da_nil)))
(dss_cons (ds_expr (de_call (fun _ => callOk C_check_edit hr (by decide)) (da_cons (de_v 2) (da_cons (de_v 1) da_nil))))
(dss_cons (ds_asg (de_v 1) (dg_tup (dgs_cons (dg_name 3 nd) (dgs_cons (dg_name 4 nd) (dgs_cons (dg_name 5 nd) dgs_nil)))))
(dss_one (ds_ret (de_tup (da_cons (de_v 2) (da_cons (de_add (de_add (de_sl (de_v 2) do_no (do_so (de_v 3))) (DE.v (de_list (fun _ => T.n_list) (DE.v (de_v 5))))) (DE.v (de_sl (de_v 2) (do_so (de_add (de_v 3) (DE.v (de_v 4)))) do_no))) da_nil)))))))))

theorem has_lines_of_both (C_check_source : Has P w K mg base 2 "check_source" (spP K S_check_source)) (C_lines_of : Has P w K mg base 1 "lines_of" (spP K S_lines_of)) (C_check_edit : Has P w K mg base 3 "check_edit" (spP K S_check_edit)) : Has P w K mg base 4 "lines_of_both" (spP K S_lines_of_both) := T.D_lines_of_both.has fun f fd F =>
  fn_pure F sc_lines_of_both l_lines_of_both (fun cdv A outer s H E hr => d_lines_of_both T C_check_source C_lines_of C_check_edit hr) m_lines_of_both
set_option maxHeartbeats 4000000 in
theorem d_text_of  {f : Addr} {cdv : Value} {A : Around} {outer : List PySem.Env} {s : Shared} {H : Hp} {E : XK} (hr : Room 0 (A.deeper (envOfC "text_of" (defScope s_text_of) s.heap.objs.size f cdv))) :
    DSs (cxOf CX0 P w K mg base ["lines", "line"] "text_of" (defScope s_text_of) f cdv A outer s H E).nox K (defBody s_text_of) w_text_of := by
  have nd := sc_text_of.nd
  exact
(dss_one (ds_ret (de_join de_str (DE.v (de_lc 1 (fun _ => nd) (di_seq (de_v 0)) (de_add (de_v 1) (DE.v de_str)) (ok := fun _ => (by decide +kernel : blkC ["lines", "line"] (defScope s_text_of) _ _ = true)))))))

theorem has_text_of  : Has P w K mg base 1 "text_of" (spP K S_text_of) := T.D_text_of.has fun f fd F =>
  fn_pure F sc_text_of l_text_of (fun cdv A outer s H E hr => d_text_of T  hr) m_text_of
set_option maxHeartbeats 4000000 in
theorem d_edited (C_text_of : Has P w K mg base 1 "text_of" (spP K S_text_of)) (C_lines_of_both : Has P w K mg base 4 "lines_of_both" (spP K S_lines_of_both)) {f : Addr} {cdv : Value} {A : Around} {outer : List PySem.Env} {s : Shared} {H : Hp} {E : XK} (hr : Room 4 (A.deeper (envOfC "edited" (defScope s_edited) s.heap.objs.size f cdv))) :
    DSs (cxOf CX0 P w K mg base ["text", "edit"] "edited" (defScope s_edited) f cdv A outer s H E).nox K (defBody s_edited) w_edited := by
  have nd := sc_edited.nd
  exact
(dss_one (ds_ret (de_call (fun _ => callOk C_text_of hr (by decide)) (da_cons (de_ix (de_call (fun _ => callOk C_lines_of_both hr (by decide)) (da_cons (de_v 0) (da_cons (de_v 1) da_nil))) de_int) da_nil))))

theorem has_edited (C_text_of : Has P w K mg base 1 "text_of" (spP K S_text_of)) (C_lines_of_both : Has P w K mg base 4 "lines_of_both" (spP K S_lines_of_both)) : Has P w K mg base 5 "edited" (spP K S_edited) := T.D_edited.has fun f fd F =>
  fn_pure F sc_edited l_edited (fun cdv A outer s H E hr => d_edited T C_text_of C_lines_of_both hr) m_edited
set_option maxHeartbeats 4000000 in
theorem d_back (C_lines_of_both : Has P w K mg base 4 "lines_of_both" (spP K S_lines_of_both)) {f : Addr} {cdv : Value} {A : Around} {outer : List PySem.Env} {s : Shared} {H : Hp} {E : XK} (hr : Room 4 (A.deeper (envOfC "back" (defScope s_back) s.heap.objs.size f cdv))) :
    DSs (cxOf CX0 P w K mg base ["text", "edit", "lines", "others", "first", "many", "more"] "back" (defScope s_back) f cdv A outer s H E).nox K (defBody s_back) w_back := by
  have nd := sc_back.nd
  exact
(dss_cons (ds_asg (de_call (fun _ => callOk C_lines_of_both hr (by decide)) (da_cons (de_v 0) (da_cons (de_v 1) da_nil))) (dg_tup (dgs_cons (dg_name 2 nd) (dgs_cons (dg_name 3 nd) dgs_nil))))
(dss_cons (ds_asg (de_v 1) (dg_tup (dgs_cons (dg_name 4 nd) (dgs_cons (dg_name 5 nd) (dgs_cons (dg_name 6 nd) dgs_nil)))))
(dss_one (ds_ret (de_tup (da_cons (de_v 4) (da_cons (de_len (fun _ => T.n_len) (DE.v (de_v 6))) (da_cons (de_sl (de_v 2) (do_so (de_v 4)) (do_so (de_add (de_v 4) (DE.v (de_v 5))))) da_nil))))))))

theorem has_back (C_lines_of_both : Has P w K mg base 4 "lines_of_both" (spP K S_lines_of_both)) : Has P w K mg base 5 "back" (spP K S_back) := T.D_back.has fun f fd F =>
  fn_pure F sc_back l_back (fun cdv A outer s H E hr => d_back T C_lines_of_both hr) m_back
set_option maxHeartbeats 4000000 in
theorem d_same_lines  {f : Addr} {cdv : Value} {A : Around} {outer : List PySem.Env} {s : Shared} {H : Hp} {E : XK} (hr : Room 0 (A.deeper (envOfC "same_lines" (defScope s_same_lines) s.heap.objs.size f cdv))) :
    DSs (cxOf CX0 P w K mg base ["one", "other", "many"] "same_lines" (defScope s_same_lines) f cdv A outer s H E).nox K (defBody s_same_lines) w_same_lines := by
  have nd := sc_same_lines.nd
  exact
(dss_cons (ds_set 2 nd de_int)
(dss_cons (ds_while (DW.t (dw_and (dt_lt (de_v 2) (de_min2 (fun _ => T.n_min) (de_len (fun _ => T.n_len) (DE.v (de_v 0))) (de_len (fun _ => T.n_len) (DE.v (de_v 1))))) (dw_and1 (dt_eq (fun _ => hr.units) (de_ix (de_v 0) (de_v 2)) (DE.v (de_ix (de_v 1) (de_v 2)))))))
(dss_one (ds_set 2 nd (de_add (de_v 2) (DE.v de_int)))))
(dss_one (ds_ret (de_v 2)))))

theorem has_same_lines  : Has P w K mg base 1 "same_lines" (spP K S_same_lines) := T.D_same_lines.has fun f fd F =>
  fn_pure F sc_same_lines l_same_lines (fun cdv A outer s H E hr => d_same_lines T  hr) m_same_lines
set_option maxHeartbeats 4000000 in
theorem d_least_of (C_same_lines : Has P w K mg base 1 "same_lines" (spP K S_same_lines)) {f : Addr} {cdv : Value} {A : Around} {outer : List PySem.Env} {s : Shared} {H : Hp} {E : XK} (hr : Room 1 (A.deeper (envOfC "least_of" (defScope s_least_of) s.heap.objs.size f cdv))) :
    DSs (cxOf CX0 P w K mg base ["lines", "others", "first", "one", "other", "tail"] "least_of" (defScope s_least_of) f cdv A outer s H E).nox K (defBody s_least_of) w_least_of := by
  have nd := sc_least_of.nd
  exact
(dss_cons (ds_set 2 nd (de_call (fun _ => callOk C_same_lines hr (by decide)) (da_cons (de_v 0) (da_cons (de_v 1) da_nil))))
(dss_cons (ds_par 3 4 nd (da_cons (de_sl (de_v 0) (do_so (de_v 2)) do_no) (da_cons (de_sl (de_v 1) (do_so (de_v 2)) do_no) da_nil)))
(dss_cons (ds_set 5 nd (de_call (fun _ => callOk C_same_lines hr (by decide)) (da_cons (de_rev (DE.v (de_v 3))) (da_cons (de_rev (DE.v (de_v 4))) da_nil))))
(dss_one (ds_ret (de_tup (da_cons (de_v 2) (da_cons (de_sub (de_len (fun _ => T.n_len) (DE.v (de_v 3))) (de_v 5)) (da_cons (de_sl (de_v 4) do_no (do_so (de_sub (de_len (fun _ => T.n_len) (DE.v (de_v 4))) (de_v 5)))) da_nil)))))))))

theorem has_least_of (C_same_lines : Has P w K mg base 1 "same_lines" (spP K S_same_lines)) : Has P w K mg base 2 "least_of" (spP K S_least_of) := T.D_least_of.has fun f fd F =>
  fn_pure F sc_least_of l_least_of (fun cdv A outer s H E hr => d_least_of T C_same_lines hr) m_least_of
set_option maxHeartbeats 4000000 in
theorem d_least_edit (C_check_source : Has P w K mg base 2 "check_source" (spP K S_check_source)) (C_least_of : Has P w K mg base 2 "least_of" (spP K S_least_of)) (C_lines_of : Has P w K mg base 1 "lines_of" (spP K S_lines_of)) {f : Addr} {cdv : Value} {A : Around} {outer : List PySem.Env} {s : Shared} {H : Hp} {E : XK} (hr : Room 2 (A.deeper (envOfC "least_edit" (defScope s_least_edit) s.heap.objs.size f cdv))) :
    DSs (cxOf CX0 P w K mg base ["text", "other"] "least_edit" (defScope s_least_edit) f cdv A outer s H E).nox K (defBody s_least_edit) w_least_edit := by
  have nd := sc_least_edit.nd
  exact
(dss_cons (ds_expr (de_call (fun _ => callOk C_check_source hr (by decide)) (da_cons (de_v 0) da_nil)))
(dss_cons (ds_expr (de_call (fun _ => callOk C_check_source hr (by decide)) (da_cons (de_v 1) da_nil)))
(dss_one (ds_ret (de_call (fun _ => callOk C_least_of hr (by decide)) (da_cons (de_call (fun _ => callOk C_lines_of hr (by decide)) (da_cons (de_v 0) da_nil)) (da_cons (de_call (fun _ => callOk C_lines_of hr (by decide)) (da_cons (de_v 1) da_nil)) da_nil)))))))

theorem has_least_edit (C_check_source : Has P w K mg base 2 "check_source" (spP K S_check_source)) (C_least_of : Has P w K mg base 2 "least_of" (spP K S_least_of)) (C_lines_of : Has P w K mg base 1 "lines_of" (spP K S_lines_of)) : Has P w K mg base 3 "least_edit" (spP K S_least_edit) := T.D_least_edit.has fun f fd F =>
  fn_pure F sc_least_edit l_least_edit (fun cdv A outer s H E hr => d_least_edit T C_check_source C_least_of C_lines_of hr) m_least_edit
theorem has_j_jar : Has P w K mg base 1 "_law_jar" (spF K S_j_jar) := T.D_j_jar.has fun f fd F => by
  have nd := sc_j_jar.nd
  exact fn_fresh F sc_j_jar l_j_jar rfl (fun cdv A outer s H E hr => (da_cons (de_mul (de_v 0) (de_toInt (fun _ => T.n_int) (de_ge (de_v 0) (de_pow de_int de_int)))) (da_cons (de_mod (de_toInt (fun _ => T.n_int) (de_v 0)) de_int) (da_cons de_int da_nil)))) m_j_jar
set_option maxHeartbeats 4000000 in
theorem d_j_dip  {f : Addr} {cdv : Value} {A : Around} {outer : List PySem.Env} {s : Shared} {H : Hp} {E : XK} (hr : Room 0 (A.deeper (envOfC "_law_dip" (defScope s_j_dip) s.heap.objs.size f cdv))) :
    DSs (cxOf CX0 P w K mg base ["_law_jar_here", "_law_many", "_law_digit", "_law_mixed"] "_law_dip" (defScope s_j_dip) f cdv A outer s H E).nox K (defBody s_j_dip) w_j_dip := by
  have nd := sc_j_dip.nd
  exact
(dss_cons (ds_if (dt_gt (de_ixo 0 de_int) de_int)
(dss_cons (ds_set 2 nd (de_mod (de_toInt (fun _ => T.n_int) (de_ixo 0 de_int)) (de_v 1)))
(dss_cons (ds_put 0 (de_div (de_ixo 0 de_int) (de_v 1)) de_int)
(dss_one (ds_ret (de_v 2)))))
dss_nil)
(dss_cons (ds_put 0 (de_add (de_ixo 0 de_int) (DE.v de_int)) de_int)
(dss_cons (ds_set 3 nd (de_mod (de_toInt (fun _ => T.n_int) (de_mul (de_add (de_add (de_ixo 0 de_int) (DE.v (de_mul de_int (de_ixo 0 de_int)))) (DE.v de_int)) de_int)) de_int))
(dss_cons (ds_set 3 nd (de_mod (de_toInt (fun _ => T.n_int) (de_add (de_mul (de_v 3) (de_add (de_div (de_v 3) de_int) (DE.v de_int))) (DE.v (de_ixo 0 de_int)))) de_int))
(dss_one (ds_ret (de_mod (de_toInt (fun _ => T.n_int) (de_div (de_mod (de_toInt (fun _ => T.n_int) (de_mul (de_v 3) (de_add (de_div (de_v 3) de_int) (DE.v de_int)))) de_int) de_int)) (de_v 1))))))))

theorem has_j_dip  : Has P w K mg base 1 "_law_dip" (spW K S_j_dip) := T.D_j_dip.has fun f fd F =>
  fn_well F sc_j_dip l_j_dip (fun cdv A outer s H E hr => d_j_dip T  hr) m_j_dip
set_option maxHeartbeats 4000000 in
theorem d_j_one (C_j_dip : Has P w K mg base 1 "_law_dip" (spW K S_j_dip)) {f : Addr} {cdv : Value} {A : Around} {outer : List PySem.Env} {s : Shared} {H : Hp} {E : XK} (hr : Room 1 (A.deeper (envOfC "_law_one" (defScope s_j_one) s.heap.objs.size f cdv))) :
    DSs (cxOf CX0 P w K mg base ["_law_jar_here", "_law_some"] "_law_one" (defScope s_j_one) f cdv A outer s H E).nox K (defBody s_j_one) w_j_one := by
  have nd := sc_j_one.nd
  exact
(dss_one (ds_ret (de_ix (de_v 1) (de_callW 0 (fun _ => callOk C_j_dip hr (by decide)) (da_cons (de_len (fun _ => T.n_len) (DE.v (de_v 1))) da_nil)))))

theorem has_j_one (C_j_dip : Has P w K mg base 1 "_law_dip" (spW K S_j_dip)) : Has P w K mg base 2 "_law_one" (spW K S_j_one) := T.D_j_one.has fun f fd F =>
  fn_well F sc_j_one l_j_one (fun cdv A outer s H E hr => d_j_one T C_j_dip hr) m_j_one
set_option maxHeartbeats 4000000 in
theorem d_j_line (C_j_one : Has P w K mg base 2 "_law_one" (spW K S_j_one)) {f : Addr} {cdv : Value} {A : Around} {outer : List PySem.Env} {s : Shared} {H : Hp} {E : XK} (hr : Room 2 (A.deeper (envOfC "_law_line" (defScope s_j_line) s.heap.objs.size f cdv))) :
    DSs (cxOf CX0 P w K mg base ["_law_jar_here", "_law_heads", "_law_some"] "_law_line" (defScope s_j_line) f cdv A outer s H E).nox K (defBody s_j_line) w_j_line := by
  have nd := sc_j_line.nd
  exact
(dss_cons (ds_set 1 nd (de_lst (da_cons de_str (da_cons de_str (da_cons de_str (da_cons de_str (da_cons de_str (da_cons de_str (da_cons de_str (da_cons de_str (da_cons de_str (da_cons de_str (da_cons de_str (da_cons de_str (da_cons de_str (da_cons de_str (da_cons de_str (da_cons de_str (da_cons de_str da_nil)))))))))))))))))))
(dss_cons (ds_set 2 nd (de_lst (da_cons de_str (da_cons de_str (da_cons de_str (da_cons de_str (da_cons de_str (da_cons de_str (da_cons de_str (da_cons de_str (da_cons de_str (da_cons de_str (da_cons de_str (da_cons de_str (da_cons de_str (da_cons de_str (da_cons de_str da_nil)))))))))))))))))
(dss_cons (ds_set 2 nd (de_add (de_v 2) (DE.v (de_lst (da_cons de_str (da_cons de_str (da_cons de_str (da_cons de_str (da_cons de_str (da_cons de_str (da_cons de_str (da_cons de_str (da_cons de_str (da_cons de_str (da_cons de_str da_nil)))))))))))))))
(dss_cons (ds_set 2 nd (de_add (de_v 2) (DE.v (de_lst (da_cons de_str (da_cons de_str (da_cons de_str (da_cons de_str (da_cons de_str (da_cons de_str (da_cons de_str (da_cons de_str (da_cons de_str (da_cons de_str (da_cons de_str (da_cons de_str (da_cons de_str da_nil)))))))))))))))))
(dss_one (ds_ret (de_add (de_add (de_callW 0 (fun _ => callOk C_j_one hr (by decide)) (da_cons (de_v 1) da_nil)) (DE.v (de_callW 0 (fun _ => callOk C_j_one hr (by decide)) (da_cons (de_v 1) da_nil)))) (DE.v (de_callW 0 (fun _ => callOk C_j_one hr (by decide)) (da_cons (de_v 2) da_nil))))))))))

theorem has_j_line (C_j_one : Has P w K mg base 2 "_law_one" (spW K S_j_one)) : Has P w K mg base 3 "_law_line" (spW K S_j_line) := T.D_j_line.has fun f fd F =>
  fn_well F sc_j_line l_j_line (fun cdv A outer s H E hr => d_j_line T C_j_one hr) m_j_line
set_option maxHeartbeats 4000000 in
theorem d_j_lines (C_j_line : Has P w K mg base 3 "_law_line" (spW K S_j_line)) (C_j_dip : Has P w K mg base 1 "_law_dip" (spW K S_j_dip)) {f : Addr} {cdv : Value} {A : Around} {outer : List PySem.Env} {s : Shared} {H : Hp} {E : XK} (hr : Room 3 (A.deeper (envOfC "_law_lines" (defScope s_j_lines) s.heap.objs.size f cdv))) :
    DSs (cxOf CX0 P w K mg base ["_law_jar_here", "_law_most", "_law_k"] "_law_lines" (defScope s_j_lines) f cdv A outer s H E).nox K (defBody s_j_lines) w_j_lines := by
  have nd := sc_j_lines.nd
  exact
(dss_one (ds_ret (de_lc 2 (fun _ => nd) (di_range1 (fun _ => T.n_range) (da_cons (de_callW 0 (fun _ => callOk C_j_dip hr (by decide)) (da_cons (de_add (de_v 1) (DE.v de_int)) da_nil)) da_nil)) (de_callW 0 (fun _ => callOk C_j_line hr (by decide)) da_nil) (ok := fun _ => (by decide +kernel : blkC ["_law_jar_here", "_law_most", "_law_k"] (defScope s_j_lines) _ _ = true)))))

theorem has_j_lines (C_j_line : Has P w K mg base 3 "_law_line" (spW K S_j_line)) (C_j_dip : Has P w K mg base 1 "_law_dip" (spW K S_j_dip)) : Has P w K mg base 4 "_law_lines" (spW K S_j_lines) := T.D_j_lines.has fun f fd F =>
  fn_well F sc_j_lines l_j_lines (fun cdv A outer s H E hr => d_j_lines T C_j_line C_j_dip hr) m_j_lines
set_option maxHeartbeats 4000000 in
theorem d_j_text  {f : Addr} {cdv : Value} {A : Around} {outer : List PySem.Env} {s : Shared} {H : Hp} {E : XK} (hr : Room 0 (A.deeper (envOfC "_law_text" (defScope s_j_text) s.heap.objs.size f cdv))) :
    DSs (cxOf CX0 P w K mg base ["_law_lines_here", "_law_line_here"] "_law_text" (defScope s_j_text) f cdv A outer s H E).nox K (defBody s_j_text) w_j_text := by
  have nd := sc_j_text.nd
  exact
(dss_one (ds_ret (de_join de_str (DE.v (de_lc 1 (fun _ => nd) (di_seq (de_v 0)) (de_add (de_v 1) (DE.v de_str)) (ok := fun _ => (by decide +kernel : blkC ["_law_lines_here", "_law_line_here"] (defScope s_j_text) _ _ = true)))))))

theorem has_j_text  : Has P w K mg base 1 "_law_text" (spP K S_j_text) := T.D_j_text.has fun f fd F =>
  fn_pure F sc_j_text l_j_text (fun cdv A outer s H E hr => d_j_text T  hr) m_j_text
set_option maxHeartbeats 4000000 in
theorem d_j_edit (C_j_dip : Has P w K mg base 1 "_law_dip" (spW K S_j_dip)) (C_j_lines : Has P w K mg base 4 "_law_lines" (spW K S_j_lines)) {f : Addr} {cdv : Value} {A : Around} {outer : List PySem.Env} {s : Shared} {H : Hp} {E : XK} (hr : Room 4 (A.deeper (envOfC "_law_edit" (defScope s_j_edit) s.heap.objs.size f cdv))) :
    DSs (cxOf CX0 P w K mg base ["_law_jar_here", "_law_lines_here", "_law_first", "_law_many", "_law_more"] "_law_edit" (defScope s_j_edit) f cdv A outer s H E).nox K (defBody s_j_edit) w_j_edit := by
  have nd := sc_j_edit.nd
  exact
(dss_cons (ds_set 2 nd (de_callW 0 (fun _ => callOk C_j_dip hr (by decide)) (da_cons (de_add (de_len (fun _ => T.n_len) (DE.v (de_v 1))) (DE.v de_int)) da_nil)))
(dss_cons (ds_set 3 nd (de_callW 0 (fun _ => callOk C_j_dip hr (by decide)) (da_cons (de_add (de_min2 (fun _ => T.n_min) de_int (de_sub (de_len (fun _ => T.n_len) (DE.v (de_v 1))) (de_v 2))) (DE.v de_int)) da_nil)))
(dss_cons (ds_set 4 nd (de_callW 0 (fun _ => callOk C_j_lines hr (by decide)) (da_cons de_int da_nil)))
(dss_cons (ds_if (dt_eq (fun _ => hr.units) (de_callW 0 (fun _ => callOk C_j_dip hr (by decide)) (da_cons de_int da_nil)) (DE.v de_int))
(dss_one (ds_set 4 nd (de_add (de_sl (de_sl (de_v 1) (do_so (de_v 2)) (do_so (de_add (de_v 2) (DE.v (de_v 3))))) do_no (do_so de_int)) (DE.v (de_v 4)))))
dss_nil)
(dss_cons (ds_if (dt_eq (fun _ => hr.units) (de_callW 0 (fun _ => callOk C_j_dip hr (by decide)) (da_cons de_int da_nil)) (DE.v de_int))
(dss_one (ds_set 4 nd (de_add (de_v 4) (DE.v (de_sl (de_sl (de_v 1) (do_so (de_v 2)) (do_so (de_add (de_v 2) (DE.v (de_v 3))))) (do_so (de_neg de_int)) do_no)))))
dss_nil)
(dss_one (ds_ret (de_tup (da_cons (de_v 2) (da_cons (de_v 3) (da_cons (de_ite (dt_eq (fun _ => hr.units) (de_callW 0 (fun _ => callOk C_j_dip hr (by decide)) (da_cons de_int da_nil)) (DE.v de_int)) (de_tuple (fun _ => T.n_tuple) (DE.v (de_v 4))) (de_v 4)) da_nil)))))))))))

theorem has_j_edit (C_j_dip : Has P w K mg base 1 "_law_dip" (spW K S_j_dip)) (C_j_lines : Has P w K mg base 4 "_law_lines" (spW K S_j_lines)) : Has P w K mg base 5 "_law_edit" (spW K S_j_edit) := T.D_j_edit.has fun f fd F =>
  fn_well F sc_j_edit l_j_edit (fun cdv A outer s H E hr => d_j_edit T C_j_dip C_j_lines hr) m_j_edit
set_option maxHeartbeats 4000000 in
theorem d_j_done  {f : Addr} {cdv : Value} {A : Around} {outer : List PySem.Env} {s : Shared} {H : Hp} {E : XK} (hr : Room 0 (A.deeper (envOfC "_law_done" (defScope s_j_done) s.heap.objs.size f cdv))) :
    DSs (cxOf CX0 P w K mg base ["_law_lines_here", "_law_edit_here", "_law_first", "_law_many", "_law_more"] "_law_done" (defScope s_j_done) f cdv A outer s H E).nox K (defBody s_j_done) w_j_done := by
  have nd := sc_j_done.nd
  exact
(dss_cons (ds_asg (de_v 1) (dg_tup (dgs_cons (dg_name 2 nd) (dgs_cons (dg_name 3 nd) (dgs_cons (dg_name 4 nd) dgs_nil)))))
(dss_one (ds_ret (de_add (de_add (de_sl (de_v 0) do_no (do_so (de_v 2))) (DE.v (de_list (fun _ => T.n_list) (DE.v (de_v 4))))) (DE.v (de_sl (de_v 0) (do_so (de_add (de_v 2) (DE.v (de_v 3)))) do_no))))))

theorem has_j_done  : Has P w K mg base 1 "_law_done" (spP K S_j_done) := T.D_j_done.has fun f fd F =>
  fn_pure F sc_j_done l_j_done (fun cdv A outer s H E hr => d_j_done T  hr) m_j_done
set_option maxHeartbeats 4000000 in
theorem d_j_least  {f : Addr} {cdv : Value} {A : Around} {outer : List PySem.Env} {s : Shared} {H : Hp} {E : XK} (hr : Room 0 (A.deeper (envOfC "_law_least" (defScope s_j_least) s.heap.objs.size f cdv))) :
    DSs (cxOf CX0 P w K mg base ["_law_lines_here", "_law_others", "_law_first", "_law_k", "_law_tail", "_law_room"] "_law_least" (defScope s_j_least) f cdv A outer s H E).nox K (defBody s_j_least) w_j_least := by
  have nd := sc_j_least.nd
  exact
(dss_cons (ds_set 2 nd de_int)
(dss_cons (ds_for (di_range1 (fun _ => T.n_range) (da_cons (de_min2 (fun _ => T.n_min) (de_len (fun _ => T.n_len) (DE.v (de_v 0))) (de_len (fun _ => T.n_len) (DE.v (de_v 1)))) da_nil)) (dg_name 3 nd)
(dss_one (ds_if (DW.t (dw_and (dt_eq (fun _ => hr.units) (de_v 2) (DE.v (de_v 3))) (dw_and1 (dt_eq (fun _ => hr.units) (de_ix (de_v 0) (de_v 3)) (DE.v (de_ix (de_v 1) (de_v 3)))))))
(dss_one (ds_set 2 nd (de_add (de_v 3) (DE.v de_int))))
dss_nil)))
(dss_cons (ds_par 4 5 nd (da_cons de_int (da_cons (de_sub (de_min2 (fun _ => T.n_min) (de_len (fun _ => T.n_len) (DE.v (de_v 0))) (de_len (fun _ => T.n_len) (DE.v (de_v 1)))) (de_v 2)) da_nil)))
(dss_cons (ds_for (di_range1 (fun _ => T.n_range) (da_cons (de_v 5) da_nil)) (dg_name 3 nd)
(dss_one (ds_if (DW.t (dw_and (dt_eq (fun _ => hr.units) (de_v 4) (DE.v (de_v 3))) (dw_and1 (dt_eq (fun _ => hr.units) (de_ix (de_v 0) (de_sub (de_sub (de_len (fun _ => T.n_len) (DE.v (de_v 0))) de_int) (de_v 3))) (DE.v (de_ix (de_v 1) (de_sub (de_sub (de_len (fun _ => T.n_len) (DE.v (de_v 1))) de_int) (de_v 3))))))))
(dss_one (ds_set 4 nd (de_add (de_v 3) (DE.v de_int))))
dss_nil)))
(dss_one (ds_ret (de_tup (da_cons (de_v 2) (da_cons (de_sub (de_sub (de_len (fun _ => T.n_len) (DE.v (de_v 0))) (de_v 2)) (de_v 4)) (da_cons (de_sl (de_v 1) (do_so (de_v 2)) (do_so (de_sub (de_len (fun _ => T.n_len) (DE.v (de_v 1))) (de_v 4)))) da_nil))))))))))

theorem has_j_least  : Has P w K mg base 1 "_law_least" (spP K S_j_least) := T.D_j_least.has fun f fd F =>
  fn_pure F sc_j_least l_j_least (fun cdv A outer s H E hr => d_j_least T  hr) m_j_least
set_option maxHeartbeats 4000000 in
theorem d_j_plain  {f : Addr} {cdv : Value} {A : Around} {outer : List PySem.Env} {s : Shared} {H : Hp} {E : XK} (hr : Room 0 (A.deeper (envOfC "_law_plain" (defScope s_j_plain) s.heap.objs.size f cdv))) :
    DSs (cxOf CX0 P w K mg base ["_law_edit_here"] "_law_plain" (defScope s_j_plain) f cdv A outer s H E).nox K (defBody s_j_plain) w_j_plain := by
  have nd := sc_j_plain.nd
  exact
(dss_one (ds_ret (de_tup (da_cons (de_ix (de_v 0) de_int) (da_cons (de_ix (de_v 0) de_int) (da_cons (de_list (fun _ => T.n_list) (DE.v (de_ix (de_v 0) de_int))) da_nil))))))

theorem has_j_plain  : Has P w K mg base 1 "_law_plain" (spP K S_j_plain) := T.D_j_plain.has fun f fd F =>
  fn_pure F sc_j_plain l_j_plain (fun cdv A outer s H E hr => d_j_plain T  hr) m_j_plain
set_option maxHeartbeats 4000000 in
theorem d_j_right (C_j_lines : Has P w K mg base 4 "_law_lines" (spW K S_j_lines)) (C_j_done : Has P w K mg base 1 "_law_done" (spP K S_j_done)) (C_edited : Has P w K mg base 5 "edited" (spP K S_edited)) (C_back : Has P w K mg base 5 "back" (spP K S_back)) (C_least_edit : Has P w K mg base 3 "least_edit" (spP K S_least_edit)) (C_j_text : Has P w K mg base 1 "_law_text" (spP K S_j_text)) (C_j_edit : Has P w K mg base 5 "_law_edit" (spW K S_j_edit)) (C_j_least : Has P w K mg base 1 "_law_least" (spP K S_j_least)) (C_j_dip : Has P w K mg base 1 "_law_dip" (spW K S_j_dip)) (C_j_plain : Has P w K mg base 1 "_law_plain" (spP K S_j_plain)) {f : Addr} {cdv : Value} {A : Around} {outer : List PySem.Env} {s : Shared} {H : Hp} {E : XK} (hr : Room 5 (A.deeper (envOfC "_law_right" (defScope s_j_right) s.heap.objs.size f cdv))) :
    DSs (cxOf CX0 P w K mg base ["_law_jar_here", "_law_turn", "_law_rows", "_law_before", "_law_edit_here", "_law_kept", "_law_others", "_law_later", "_law_turned_so", "_law_gone", "_law_again", "_law_wild", "_law_other"] "_law_right" (defScope s_j_right) f cdv A outer s H E).nox K (defBody s_j_right) w_j_right := by
  have nd := sc_j_right.nd
  exact
(dss_cons (ds_for (di_range1 (fun _ => T.n_range) (da_cons de_int da_nil)) (dg_name 1 nd)
(dss_cons (ds_set 2 nd (de_callW 0 (fun _ => callOk C_j_lines hr (by decide)) (da_cons de_int da_nil)))
(dss_cons (ds_par 3 4 nd (da_cons (de_call (fun _ => callOk C_j_text hr (by decide)) (da_cons (de_v 2) da_nil)) (da_cons (de_callW 0 (fun _ => callOk C_j_edit hr (by decide)) (da_cons (de_v 2) da_nil)) da_nil)))
(dss_cons (ds_if (DW.t (dw_and (dt_ne (fun _ => hr.units) (de_v 2) (DE.v (de_lst da_nil))) (dw_and (dt_ne (fun _ => hr.units) (de_ix (de_v 2) (de_neg de_int)) (DE.v de_str)) (dw_and1 (dt_eq (fun _ => hr.units) (de_callW 0 (fun _ => callOk C_j_dip hr (by decide)) (da_cons de_int da_nil)) (DE.v de_int))))))
(dss_one (ds_set 3 nd (de_sl (de_v 3) do_no (do_so (de_neg de_int)))))
dss_nil)
(dss_cons (ds_set 5 nd (de_repr (fun _ => T.n_repr) (fun _ => hr.gd) (fun _ => hr.units) (DE.v (de_v 4))))
(dss_cons (ds_set 6 nd (de_call (fun _ => callOk C_j_done hr (by decide)) (da_cons (de_v 2) (da_cons (de_v 4) da_nil))))
(dss_cons (ds_set 7 nd (de_call (fun _ => callOk C_edited hr (by decide)) (da_cons (de_v 3) (da_cons (de_v 4) da_nil))))
(dss_cons (ds_if (DW.t (dw_or (dt_ne (fun _ => hr.units) (de_v 7) (DE.v (de_call (fun _ => callOk C_j_text hr (by decide)) (da_cons (de_v 6) da_nil)))) (dw_or (dt_ne (fun _ => hr.units) (de_call (fun _ => callOk C_edited hr (by decide)) (da_cons (de_v 3) (da_cons (de_v 4) da_nil))) (DE.v (de_v 7))) (dw_or1 (dt_ne (fun _ => hr.units) (de_repr (fun _ => T.n_repr) (fun _ => hr.gd) (fun _ => hr.units) (DE.v (de_v 4))) (DE.v (de_v 5)))))))
(dss_one (ds_ret de_bl))
dss_nil)
(dss_cons (ds_par 8 9 nd (da_cons (de_call (fun _ => callOk C_back hr (by decide)) (da_cons (de_v 3) (da_cons (de_v 4) da_nil))) (da_cons (de_sl (de_sl (de_v 2) (do_so (de_ix (de_v 4) de_int)) do_no) do_no (do_so (de_ix (de_v 4) de_int))) da_nil)))
(dss_cons (ds_if (dt_ne (fun _ => hr.units) (de_v 8) (DE.v (de_tup (da_cons (de_ix (de_v 4) de_int) (da_cons (de_len (fun _ => T.n_len) (DE.v (de_ix (de_v 4) de_int))) (da_cons (de_v 9) da_nil))))))
(dss_one (ds_ret de_bl))
dss_nil)
(dss_cons (ds_set 10 nd (de_call (fun _ => callOk C_back hr (by decide)) (da_cons (de_v 7) (da_cons (de_v 8) da_nil))))
(dss_cons (ds_if (DW.t (dw_or (dt_ne (fun _ => hr.units) (de_call (fun _ => callOk C_edited hr (by decide)) (da_cons (de_v 7) (da_cons (de_v 8) da_nil))) (DE.v (de_call (fun _ => callOk C_j_text hr (by decide)) (da_cons (de_v 2) da_nil)))) (dw_or1 (dt_ne (fun _ => hr.units) (de_v 10) (DE.v (de_call (fun _ => callOk C_j_plain hr (by decide)) (da_cons (de_v 4) da_nil)))))))
(dss_one (ds_ret de_bl))
dss_nil)
(dss_cons (ds_if (dt_ne (fun _ => hr.units) (de_call (fun _ => callOk C_least_edit hr (by decide)) (da_cons (de_v 3) (da_cons (de_v 7) da_nil))) (DE.v (de_call (fun _ => callOk C_j_least hr (by decide)) (da_cons (de_v 2) (da_cons (de_v 6) da_nil)))))
(dss_one (ds_ret de_bl))
dss_nil)
(dss_cons (ds_set 11 nd (de_callW 0 (fun _ => callOk C_j_lines hr (by decide)) (da_cons de_int da_nil)))
(dss_cons (ds_set 12 nd (de_call (fun _ => callOk C_least_edit hr (by decide)) (da_cons (de_v 3) (da_cons (de_call (fun _ => callOk C_j_text hr (by decide)) (da_cons (de_v 11) da_nil)) da_nil))))
(dss_one (ds_if (DW.t (dw_or (dt_ne (fun _ => hr.units) (de_v 12) (DE.v (de_call (fun _ => callOk C_j_least hr (by decide)) (da_cons (de_v 2) (da_cons (de_v 11) da_nil))))) (dw_or1 (dt_ne (fun _ => hr.units) (de_call (fun _ => callOk C_edited hr (by decide)) (da_cons (de_v 3) (da_cons (de_v 12) da_nil))) (DE.v (de_call (fun _ => callOk C_j_text hr (by decide)) (da_cons (de_v 11) da_nil)))))))
(dss_one (ds_ret de_bl))
dss_nil)))))))))))))))))
(dss_one (ds_ret de_bl)))

theorem has_j_right (C_j_lines : Has P w K mg base 4 "_law_lines" (spW K S_j_lines)) (C_j_done : Has P w K mg base 1 "_law_done" (spP K S_j_done)) (C_edited : Has P w K mg base 5 "edited" (spP K S_edited)) (C_back : Has P w K mg base 5 "back" (spP K S_back)) (C_least_edit : Has P w K mg base 3 "least_edit" (spP K S_least_edit)) (C_j_text : Has P w K mg base 1 "_law_text" (spP K S_j_text)) (C_j_edit : Has P w K mg base 5 "_law_edit" (spW K S_j_edit)) (C_j_least : Has P w K mg base 1 "_law_least" (spP K S_j_least)) (C_j_dip : Has P w K mg base 1 "_law_dip" (spW K S_j_dip)) (C_j_plain : Has P w K mg base 1 "_law_plain" (spP K S_j_plain)) : Has P w K mg base 6 "_law_right" (spW K S_j_right) := T.D_j_right.has fun f fd F =>
  fn_well F sc_j_right l_j_right (fun cdv A outer s H E hr => d_j_right T C_j_lines C_j_done C_edited C_back C_least_edit C_j_text C_j_edit C_j_least C_j_dip C_j_plain hr) m_j_right
set_option maxHeartbeats 4000000 in
theorem d_law (C_back : Has P w K mg base 5 "back" (spP K S_back)) (C_j_right : Has P w K mg base 6 "_law_right" (spW K S_j_right)) (C_least_edit : Has P w K mg base 3 "least_edit" (spP K S_least_edit)) (C_edited : Has P w K mg base 5 "edited" (spP K S_edited)) (C_j_jar : Has P w K mg base 1 "_law_jar" (spF K S_j_jar)) {f : Addr} {cdv : Value} {A : Around} {outer : List PySem.Env} {s : Shared} {H : Hp} {E : XK} (hr : Room 6 (A.deeper (envOfC "law" (defScope s_law) s.heap.objs.size f cdv))) :
    DSs (cxOf CX0 P w K mg base ["_law_script", "_law_cell"] "law" (defScope s_law) f cdv A outer s H E).nox K (defBody s_law) w_law := by
  have nd := sc_law.nd
  exact
(dss_cons (ds_for (di_seq (de_add (de_sls 0 do_no (do_so de_int)) (DE.v (de_lst (da_cons de_int da_nil))))) (dg_name 1 nd)
(dss_one (ds_if (dt_not (dt_val (de_callWF (fun _ => callOk C_j_right hr (by decide)) (fun _ => callOk C_j_jar hr (by decide)) (da_cons (de_v 1) da_nil))))
(dss_one (ds_ret de_bl))
dss_nil)))
(dss_cons (ds_if (DW.t (dw_or (dt_ne (fun _ => hr.units) (de_call (fun _ => callOk C_least_edit hr (by decide)) (da_cons de_str (da_cons de_str da_nil))) (DE.v (de_tup (da_cons de_int (da_cons de_int (da_cons (de_lst da_nil) da_nil)))))) (dw_or1 (dt_ne (fun _ => hr.units) (de_call (fun _ => callOk C_least_edit hr (by decide)) (da_cons de_str (da_cons de_str da_nil))) (DE.v (de_tup (da_cons de_int (da_cons de_int (da_cons (de_lst da_nil) da_nil)))))))))
(dss_one (ds_ret de_bl))
dss_nil)
(dss_cons (ds_if (DW.t (dw_or (dt_ne (fun _ => hr.units) (de_call (fun _ => callOk C_edited hr (by decide)) (da_cons de_str (da_cons (de_tup (da_cons de_int (da_cons de_int (da_cons (de_lst (da_cons de_str (da_cons de_str da_nil))) da_nil)))) da_nil))) (DE.v de_str)) (dw_or (dt_ne (fun _ => hr.units) (de_call (fun _ => callOk C_edited hr (by decide)) (da_cons de_str (da_cons (de_tup (da_cons de_int (da_cons de_int (da_cons (de_tup da_nil) da_nil)))) da_nil))) (DE.v de_str)) (dw_or1 (dt_ne (fun _ => hr.units) (de_call (fun _ => callOk C_edited hr (by decide)) (da_cons de_str (da_cons (de_tup (da_cons de_int (da_cons de_int (da_cons (de_lst da_nil) da_nil)))) da_nil))) (DE.v de_str))))))
(dss_one (ds_ret de_bl))
dss_nil)
(dss_one (ds_ret (de_eq (fun _ => hr.units) (de_call (fun _ => callOk C_back hr (by decide)) (da_cons de_str (da_cons (de_tup (da_cons de_int (da_cons de_int (da_cons (de_tup (da_cons de_str da_nil)) da_nil)))) da_nil))) (DE.v (de_tup (da_cons de_int (da_cons de_int (da_cons (de_lst (da_cons de_str (da_cons de_str da_nil))) da_nil)))))))))))

theorem ok_law (C_back : Has P w K mg base 5 "back" (spP K S_back)) (C_j_right : Has P w K mg base 6 "_law_right" (spW K S_j_right)) (C_least_edit : Has P w K mg base 3 "least_edit" (spP K S_least_edit)) (C_edited : Has P w K mg base 5 "edited" (spP K S_edited)) (C_j_jar : Has P w K mg base 1 "_law_jar" (spF K S_j_jar)) {f : Addr} {fd : FuncData} (F : Fun K "law" "law" s_law f fd) : FnOk P w K mg base CX0 7 f fd ["_law_script"] (spLaw K) :=
  fn_law F sc_law (fun cdv A outer s H E hr => d_law T C_back C_j_right C_least_edit C_edited C_j_jar hr) (m_law_of law_ok)
theorem all_law {f : Addr} {fd : FuncData} (F : Fun K "law" "law" s_law f fd) : FnOk P w K mg base CX0 7 f fd ["_law_script"] (spLaw K) := by
  have C_lines_of := has_lines_of (P := P) (w := w) (base := base) T 
  have C_first_wrong := has_first_wrong (P := P) (w := w) (base := base) T 
  have C_check_source := has_check_source (P := P) (w := w) (base := base) T C_first_wrong
  have C_is_number := has_is_number (P := P) (w := w) (base := base) T 
  have C_is_line := has_is_line (P := P) (w := w) (base := base) T C_first_wrong
  have C_check_edit := has_check_edit (P := P) (w := w) (base := base) T C_is_number C_is_line
  have C_lines_of_both := has_lines_of_both (P := P) (w := w) (base := base) T C_check_source C_lines_of C_check_edit
  have C_text_of := has_text_of (P := P) (w := w) (base := base) T 
  have C_edited := has_edited (P := P) (w := w) (base := base) T C_text_of C_lines_of_both
  have C_back := has_back (P := P) (w := w) (base := base) T C_lines_of_both
  have C_same_lines := has_same_lines (P := P) (w := w) (base := base) T 
  have C_least_of := has_least_of (P := P) (w := w) (base := base) T C_same_lines
  have C_least_edit := has_least_edit (P := P) (w := w) (base := base) T C_check_source C_least_of C_lines_of
  have C_j_jar := has_j_jar (P := P) (w := w) (base := base) T 
  have C_j_dip := has_j_dip (P := P) (w := w) (base := base) T 
  have C_j_one := has_j_one (P := P) (w := w) (base := base) T C_j_dip
  have C_j_line := has_j_line (P := P) (w := w) (base := base) T C_j_one
  have C_j_lines := has_j_lines (P := P) (w := w) (base := base) T C_j_line C_j_dip
  have C_j_text := has_j_text (P := P) (w := w) (base := base) T 
  have C_j_edit := has_j_edit (P := P) (w := w) (base := base) T C_j_dip C_j_lines
  have C_j_done := has_j_done (P := P) (w := w) (base := base) T 
  have C_j_least := has_j_least (P := P) (w := w) (base := base) T 
  have C_j_plain := has_j_plain (P := P) (w := w) (base := base) T 
  have C_j_right := has_j_right (P := P) (w := w) (base := base) T C_j_lines C_j_done C_edited C_back C_least_edit C_j_text C_j_edit C_j_least C_j_dip C_j_plain
  exact ok_law T C_back C_j_right C_least_edit C_edited C_j_jar F
end
theorem all_mk {l : PySem.W.OpenLaw} {w : World} {K : Fr} {h : Heap} {mg : Str → Option Value} {fa : Addr} (X : K.In h) (G : h.Ns mainGlobals mg) (hfa : mg "law" = some (.ref fa))
    {f_lines_of : Addr} {od_lines_of an_lines_of : Option Addr} {sl_lines_of : Array (Option Value)} {oc_lines_of kV_lines_of dc_lines_of pm_lines_of cd_lines_of ct_lines_of : Value}
    {f_first_wrong : Addr} {od_first_wrong an_first_wrong : Option Addr} {sl_first_wrong : Array (Option Value)} {oc_first_wrong kV_first_wrong dc_first_wrong pm_first_wrong cd_first_wrong ct_first_wrong : Value}
    {f_check_source : Addr} {od_check_source an_check_source : Option Addr} {sl_check_source : Array (Option Value)} {oc_check_source kV_check_source dc_check_source pm_check_source cd_check_source ct_check_source : Value}
    {f_is_number : Addr} {od_is_number an_is_number : Option Addr} {sl_is_number : Array (Option Value)} {oc_is_number kV_is_number dc_is_number pm_is_number cd_is_number ct_is_number : Value}
    {f_is_line : Addr} {od_is_line an_is_line : Option Addr} {sl_is_line : Array (Option Value)} {oc_is_line kV_is_line dc_is_line pm_is_line cd_is_line ct_is_line : Value}
    {f_check_edit : Addr} {od_check_edit an_check_edit : Option Addr} {sl_check_edit : Array (Option Value)} {oc_check_edit kV_check_edit dc_check_edit pm_check_edit cd_check_edit ct_check_edit : Value}
    {f_lines_of_both : Addr} {od_lines_of_both an_lines_of_both : Option Addr} {sl_lines_of_both : Array (Option Value)} {oc_lines_of_both kV_lines_of_both dc_lines_of_both pm_lines_of_both cd_lines_of_both ct_lines_of_both : Value}
    {f_text_of : Addr} {od_text_of an_text_of : Option Addr} {sl_text_of : Array (Option Value)} {oc_text_of kV_text_of dc_text_of pm_text_of cd_text_of ct_text_of : Value}
    {f_edited : Addr} {od_edited an_edited : Option Addr} {sl_edited : Array (Option Value)} {oc_edited kV_edited dc_edited pm_edited cd_edited ct_edited : Value}
    {f_back : Addr} {od_back an_back : Option Addr} {sl_back : Array (Option Value)} {oc_back kV_back dc_back pm_back cd_back ct_back : Value}
    {f_same_lines : Addr} {od_same_lines an_same_lines : Option Addr} {sl_same_lines : Array (Option Value)} {oc_same_lines kV_same_lines dc_same_lines pm_same_lines cd_same_lines ct_same_lines : Value}
    {f_least_of : Addr} {od_least_of an_least_of : Option Addr} {sl_least_of : Array (Option Value)} {oc_least_of kV_least_of dc_least_of pm_least_of cd_least_of ct_least_of : Value}
    {f_least_edit : Addr} {od_least_edit an_least_edit : Option Addr} {sl_least_edit : Array (Option Value)} {oc_least_edit kV_least_edit dc_least_edit pm_least_edit cd_least_edit ct_least_edit : Value}
    {f_j_jar : Addr} {od_j_jar an_j_jar : Option Addr} {sl_j_jar : Array (Option Value)} {oc_j_jar kV_j_jar dc_j_jar pm_j_jar cd_j_jar ct_j_jar : Value}
    {f_j_dip : Addr} {od_j_dip an_j_dip : Option Addr} {sl_j_dip : Array (Option Value)} {oc_j_dip kV_j_dip dc_j_dip pm_j_dip cd_j_dip ct_j_dip : Value}
    {f_j_one : Addr} {od_j_one an_j_one : Option Addr} {sl_j_one : Array (Option Value)} {oc_j_one kV_j_one dc_j_one pm_j_one cd_j_one ct_j_one : Value}
    {f_j_line : Addr} {od_j_line an_j_line : Option Addr} {sl_j_line : Array (Option Value)} {oc_j_line kV_j_line dc_j_line pm_j_line cd_j_line ct_j_line : Value}
    {f_j_lines : Addr} {od_j_lines an_j_lines : Option Addr} {sl_j_lines : Array (Option Value)} {oc_j_lines kV_j_lines dc_j_lines pm_j_lines cd_j_lines ct_j_lines : Value}
    {f_j_text : Addr} {od_j_text an_j_text : Option Addr} {sl_j_text : Array (Option Value)} {oc_j_text kV_j_text dc_j_text pm_j_text cd_j_text ct_j_text : Value}
    {f_j_edit : Addr} {od_j_edit an_j_edit : Option Addr} {sl_j_edit : Array (Option Value)} {oc_j_edit kV_j_edit dc_j_edit pm_j_edit cd_j_edit ct_j_edit : Value}
    {f_j_done : Addr} {od_j_done an_j_done : Option Addr} {sl_j_done : Array (Option Value)} {oc_j_done kV_j_done dc_j_done pm_j_done cd_j_done ct_j_done : Value}
    {f_j_least : Addr} {od_j_least an_j_least : Option Addr} {sl_j_least : Array (Option Value)} {oc_j_least kV_j_least dc_j_least pm_j_least cd_j_least ct_j_least : Value}
    {f_j_plain : Addr} {od_j_plain an_j_plain : Option Addr} {sl_j_plain : Array (Option Value)} {oc_j_plain kV_j_plain dc_j_plain pm_j_plain cd_j_plain ct_j_plain : Value}
    {f_j_right : Addr} {od_j_right an_j_right : Option Addr} {sl_j_right : Array (Option Value)} {oc_j_right kV_j_right dc_j_right pm_j_right cd_j_right ct_j_right : Value}
    {f_law : Addr} {od_law an_law : Option Addr} {sl_law : Array (Option Value)} {oc_law kV_law dc_law pm_law cd_law ct_law : Value}
    (a_lines_of : PySem.W.nsIn K mainGlobals "lines_of" = some (some (.ref f_lines_of))) (l_lines_of : K.lookup f_lines_of = some ⟨oc_lines_of, od_lines_of, .func (PySem.W.fnOf "lines_of" "lines_of" (defArgs s_lines_of) (defBody s_lines_of) (defScope s_lines_of) .none kV_lines_of dc_lines_of pm_lines_of an_lines_of cd_lines_of ct_lines_of), sl_lines_of⟩) (e_lines_of : PySem.W.codeIn K cd_lines_of "lines_of" = true) (k_lines_of : PySem.W.keepIn K (.ref f_lines_of) = true)
    (a_first_wrong : PySem.W.nsIn K mainGlobals "first_wrong" = some (some (.ref f_first_wrong))) (l_first_wrong : K.lookup f_first_wrong = some ⟨oc_first_wrong, od_first_wrong, .func (PySem.W.fnOf "first_wrong" "first_wrong" (defArgs s_first_wrong) (defBody s_first_wrong) (defScope s_first_wrong) .none kV_first_wrong dc_first_wrong pm_first_wrong an_first_wrong cd_first_wrong ct_first_wrong), sl_first_wrong⟩) (e_first_wrong : PySem.W.codeIn K cd_first_wrong "first_wrong" = true) (k_first_wrong : PySem.W.keepIn K (.ref f_first_wrong) = true)
    (a_check_source : PySem.W.nsIn K mainGlobals "check_source" = some (some (.ref f_check_source))) (l_check_source : K.lookup f_check_source = some ⟨oc_check_source, od_check_source, .func (PySem.W.fnOf "check_source" "check_source" (defArgs s_check_source) (defBody s_check_source) (defScope s_check_source) .none kV_check_source dc_check_source pm_check_source an_check_source cd_check_source ct_check_source), sl_check_source⟩) (e_check_source : PySem.W.codeIn K cd_check_source "check_source" = true) (k_check_source : PySem.W.keepIn K (.ref f_check_source) = true)
    (a_is_number : PySem.W.nsIn K mainGlobals "is_number" = some (some (.ref f_is_number))) (l_is_number : K.lookup f_is_number = some ⟨oc_is_number, od_is_number, .func (PySem.W.fnOf "is_number" "is_number" (defArgs s_is_number) (defBody s_is_number) (defScope s_is_number) .none kV_is_number dc_is_number pm_is_number an_is_number cd_is_number ct_is_number), sl_is_number⟩) (e_is_number : PySem.W.codeIn K cd_is_number "is_number" = true) (k_is_number : PySem.W.keepIn K (.ref f_is_number) = true)
    (a_is_line : PySem.W.nsIn K mainGlobals "is_line" = some (some (.ref f_is_line))) (l_is_line : K.lookup f_is_line = some ⟨oc_is_line, od_is_line, .func (PySem.W.fnOf "is_line" "is_line" (defArgs s_is_line) (defBody s_is_line) (defScope s_is_line) .none kV_is_line dc_is_line pm_is_line an_is_line cd_is_line ct_is_line), sl_is_line⟩) (e_is_line : PySem.W.codeIn K cd_is_line "is_line" = true) (k_is_line : PySem.W.keepIn K (.ref f_is_line) = true)
    (a_check_edit : PySem.W.nsIn K mainGlobals "check_edit" = some (some (.ref f_check_edit))) (l_check_edit : K.lookup f_check_edit = some ⟨oc_check_edit, od_check_edit, .func (PySem.W.fnOf "check_edit" "check_edit" (defArgs s_check_edit) (defBody s_check_edit) (defScope s_check_edit) .none kV_check_edit dc_check_edit pm_check_edit an_check_edit cd_check_edit ct_check_edit), sl_check_edit⟩) (e_check_edit : PySem.W.codeIn K cd_check_edit "check_edit" = true) (k_check_edit : PySem.W.keepIn K (.ref f_check_edit) = true)
    (a_lines_of_both : PySem.W.nsIn K mainGlobals "lines_of_both" = some (some (.ref f_lines_of_both))) (l_lines_of_both : K.lookup f_lines_of_both = some ⟨oc_lines_of_both, od_lines_of_both, .func (PySem.W.fnOf "lines_of_both" "lines_of_both" (defArgs s_lines_of_both) (defBody s_lines_of_both) (defScope s_lines_of_both) .none kV_lines_of_both dc_lines_of_both pm_lines_of_both an_lines_of_both cd_lines_of_both ct_lines_of_both), sl_lines_of_both⟩) (e_lines_of_both : PySem.W.codeIn K cd_lines_of_both "lines_of_both" = true) (k_lines_of_both : PySem.W.keepIn K (.ref f_lines_of_both) = true)
    (a_text_of : PySem.W.nsIn K mainGlobals "text_of" = some (some (.ref f_text_of))) (l_text_of : K.lookup f_text_of = some ⟨oc_text_of, od_text_of, .func (PySem.W.fnOf "text_of" "text_of" (defArgs s_text_of) (defBody s_text_of) (defScope s_text_of) .none kV_text_of dc_text_of pm_text_of an_text_of cd_text_of ct_text_of), sl_text_of⟩) (e_text_of : PySem.W.codeIn K cd_text_of "text_of" = true) (k_text_of : PySem.W.keepIn K (.ref f_text_of) = true)
    (a_edited : PySem.W.nsIn K mainGlobals "edited" = some (some (.ref f_edited))) (l_edited : K.lookup f_edited = some ⟨oc_edited, od_edited, .func (PySem.W.fnOf "edited" "edited" (defArgs s_edited) (defBody s_edited) (defScope s_edited) .none kV_edited dc_edited pm_edited an_edited cd_edited ct_edited), sl_edited⟩) (e_edited : PySem.W.codeIn K cd_edited "edited" = true) (k_edited : PySem.W.keepIn K (.ref f_edited) = true)
    (a_back : PySem.W.nsIn K mainGlobals "back" = some (some (.ref f_back))) (l_back : K.lookup f_back = some ⟨oc_back, od_back, .func (PySem.W.fnOf "back" "back" (defArgs s_back) (defBody s_back) (defScope s_back) .none kV_back dc_back pm_back an_back cd_back ct_back), sl_back⟩) (e_back : PySem.W.codeIn K cd_back "back" = true) (k_back : PySem.W.keepIn K (.ref f_back) = true)
    (a_same_lines : PySem.W.nsIn K mainGlobals "same_lines" = some (some (.ref f_same_lines))) (l_same_lines : K.lookup f_same_lines = some ⟨oc_same_lines, od_same_lines, .func (PySem.W.fnOf "same_lines" "same_lines" (defArgs s_same_lines) (defBody s_same_lines) (defScope s_same_lines) .none kV_same_lines dc_same_lines pm_same_lines an_same_lines cd_same_lines ct_same_lines), sl_same_lines⟩) (e_same_lines : PySem.W.codeIn K cd_same_lines "same_lines" = true) (k_same_lines : PySem.W.keepIn K (.ref f_same_lines) = true)
    (a_least_of : PySem.W.nsIn K mainGlobals "least_of" = some (some (.ref f_least_of))) (l_least_of : K.lookup f_least_of = some ⟨oc_least_of, od_least_of, .func (PySem.W.fnOf "least_of" "least_of" (defArgs s_least_of) (defBody s_least_of) (defScope s_least_of) .none kV_least_of dc_least_of pm_least_of an_least_of cd_least_of ct_least_of), sl_least_of⟩) (e_least_of : PySem.W.codeIn K cd_least_of "least_of" = true) (k_least_of : PySem.W.keepIn K (.ref f_least_of) = true)
    (a_least_edit : PySem.W.nsIn K mainGlobals "least_edit" = some (some (.ref f_least_edit))) (l_least_edit : K.lookup f_least_edit = some ⟨oc_least_edit, od_least_edit, .func (PySem.W.fnOf "least_edit" "least_edit" (defArgs s_least_edit) (defBody s_least_edit) (defScope s_least_edit) .none kV_least_edit dc_least_edit pm_least_edit an_least_edit cd_least_edit ct_least_edit), sl_least_edit⟩) (e_least_edit : PySem.W.codeIn K cd_least_edit "least_edit" = true) (k_least_edit : PySem.W.keepIn K (.ref f_least_edit) = true)
    (a_j_jar : PySem.W.nsIn K mainGlobals "_law_jar" = some (some (.ref f_j_jar))) (l_j_jar : K.lookup f_j_jar = some ⟨oc_j_jar, od_j_jar, .func (PySem.W.fnOf "_law_jar" "_law_jar" (defArgs s_j_jar) (defBody s_j_jar) (defScope s_j_jar) .none kV_j_jar dc_j_jar pm_j_jar an_j_jar cd_j_jar ct_j_jar), sl_j_jar⟩) (e_j_jar : PySem.W.codeIn K cd_j_jar "_law_jar" = true) (k_j_jar : PySem.W.keepIn K (.ref f_j_jar) = true)
    (a_j_dip : PySem.W.nsIn K mainGlobals "_law_dip" = some (some (.ref f_j_dip))) (l_j_dip : K.lookup f_j_dip = some ⟨oc_j_dip, od_j_dip, .func (PySem.W.fnOf "_law_dip" "_law_dip" (defArgs s_j_dip) (defBody s_j_dip) (defScope s_j_dip) .none kV_j_dip dc_j_dip pm_j_dip an_j_dip cd_j_dip ct_j_dip), sl_j_dip⟩) (e_j_dip : PySem.W.codeIn K cd_j_dip "_law_dip" = true) (k_j_dip : PySem.W.keepIn K (.ref f_j_dip) = true)
    (a_j_one : PySem.W.nsIn K mainGlobals "_law_one" = some (some (.ref f_j_one))) (l_j_one : K.lookup f_j_one = some ⟨oc_j_one, od_j_one, .func (PySem.W.fnOf "_law_one" "_law_one" (defArgs s_j_one) (defBody s_j_one) (defScope s_j_one) .none kV_j_one dc_j_one pm_j_one an_j_one cd_j_one ct_j_one), sl_j_one⟩) (e_j_one : PySem.W.codeIn K cd_j_one "_law_one" = true) (k_j_one : PySem.W.keepIn K (.ref f_j_one) = true)
    (a_j_line : PySem.W.nsIn K mainGlobals "_law_line" = some (some (.ref f_j_line))) (l_j_line : K.lookup f_j_line = some ⟨oc_j_line, od_j_line, .func (PySem.W.fnOf "_law_line" "_law_line" (defArgs s_j_line) (defBody s_j_line) (defScope s_j_line) .none kV_j_line dc_j_line pm_j_line an_j_line cd_j_line ct_j_line), sl_j_line⟩) (e_j_line : PySem.W.codeIn K cd_j_line "_law_line" = true) (k_j_line : PySem.W.keepIn K (.ref f_j_line) = true)
    (a_j_lines : PySem.W.nsIn K mainGlobals "_law_lines" = some (some (.ref f_j_lines))) (l_j_lines : K.lookup f_j_lines = some ⟨oc_j_lines, od_j_lines, .func (PySem.W.fnOf "_law_lines" "_law_lines" (defArgs s_j_lines) (defBody s_j_lines) (defScope s_j_lines) .none kV_j_lines dc_j_lines pm_j_lines an_j_lines cd_j_lines ct_j_lines), sl_j_lines⟩) (e_j_lines : PySem.W.codeIn K cd_j_lines "_law_lines" = true) (k_j_lines : PySem.W.keepIn K (.ref f_j_lines) = true)
    (a_j_text : PySem.W.nsIn K mainGlobals "_law_text" = some (some (.ref f_j_text))) (l_j_text : K.lookup f_j_text = some ⟨oc_j_text, od_j_text, .func (PySem.W.fnOf "_law_text" "_law_text" (defArgs s_j_text) (defBody s_j_text) (defScope s_j_text) .none kV_j_text dc_j_text pm_j_text an_j_text cd_j_text ct_j_text), sl_j_text⟩) (e_j_text : PySem.W.codeIn K cd_j_text "_law_text" = true) (k_j_text : PySem.W.keepIn K (.ref f_j_text) = true)
    (a_j_edit : PySem.W.nsIn K mainGlobals "_law_edit" = some (some (.ref f_j_edit))) (l_j_edit : K.lookup f_j_edit = some ⟨oc_j_edit, od_j_edit, .func (PySem.W.fnOf "_law_edit" "_law_edit" (defArgs s_j_edit) (defBody s_j_edit) (defScope s_j_edit) .none kV_j_edit dc_j_edit pm_j_edit an_j_edit cd_j_edit ct_j_edit), sl_j_edit⟩) (e_j_edit : PySem.W.codeIn K cd_j_edit "_law_edit" = true) (k_j_edit : PySem.W.keepIn K (.ref f_j_edit) = true)
    (a_j_done : PySem.W.nsIn K mainGlobals "_law_done" = some (some (.ref f_j_done))) (l_j_done : K.lookup f_j_done = some ⟨oc_j_done, od_j_done, .func (PySem.W.fnOf "_law_done" "_law_done" (defArgs s_j_done) (defBody s_j_done) (defScope s_j_done) .none kV_j_done dc_j_done pm_j_done an_j_done cd_j_done ct_j_done), sl_j_done⟩) (e_j_done : PySem.W.codeIn K cd_j_done "_law_done" = true) (k_j_done : PySem.W.keepIn K (.ref f_j_done) = true)
    (a_j_least : PySem.W.nsIn K mainGlobals "_law_least" = some (some (.ref f_j_least))) (l_j_least : K.lookup f_j_least = some ⟨oc_j_least, od_j_least, .func (PySem.W.fnOf "_law_least" "_law_least" (defArgs s_j_least) (defBody s_j_least) (defScope s_j_least) .none kV_j_least dc_j_least pm_j_least an_j_least cd_j_least ct_j_least), sl_j_least⟩) (e_j_least : PySem.W.codeIn K cd_j_least "_law_least" = true) (k_j_least : PySem.W.keepIn K (.ref f_j_least) = true)
    (a_j_plain : PySem.W.nsIn K mainGlobals "_law_plain" = some (some (.ref f_j_plain))) (l_j_plain : K.lookup f_j_plain = some ⟨oc_j_plain, od_j_plain, .func (PySem.W.fnOf "_law_plain" "_law_plain" (defArgs s_j_plain) (defBody s_j_plain) (defScope s_j_plain) .none kV_j_plain dc_j_plain pm_j_plain an_j_plain cd_j_plain ct_j_plain), sl_j_plain⟩) (e_j_plain : PySem.W.codeIn K cd_j_plain "_law_plain" = true) (k_j_plain : PySem.W.keepIn K (.ref f_j_plain) = true)
    (a_j_right : PySem.W.nsIn K mainGlobals "_law_right" = some (some (.ref f_j_right))) (l_j_right : K.lookup f_j_right = some ⟨oc_j_right, od_j_right, .func (PySem.W.fnOf "_law_right" "_law_right" (defArgs s_j_right) (defBody s_j_right) (defScope s_j_right) .none kV_j_right dc_j_right pm_j_right an_j_right cd_j_right ct_j_right), sl_j_right⟩) (e_j_right : PySem.W.codeIn K cd_j_right "_law_right" = true) (k_j_right : PySem.W.keepIn K (.ref f_j_right) = true)
    (a_law : PySem.W.nsIn K mainGlobals "law" = some (some (.ref f_law))) (l_law : K.lookup f_law = some ⟨oc_law, od_law, .func (PySem.W.fnOf "law" "law" (defArgs s_law) (defBody s_law) (defScope s_law) .none kV_law dc_law pm_law an_law cd_law ct_law), sl_law⟩) (e_law : PySem.W.codeIn K cd_law "law" = true) (k_law : PySem.W.keepIn K (.ref f_law) = true)
    {t_LETTERS : Tok} (g_LETTERS : PySem.W.nsIn K mainGlobals "LETTERS" = some (some (.str (PySem.Str.ofString "abcdefghijklmnopqrstuvwxyzABCDEFGHIJKLMNOPQRSTUVWXYZ") t_LETTERS)))
    {t_DIGITS : Tok} (g_DIGITS : PySem.W.nsIn K mainGlobals "DIGITS" = some (some (.str (PySem.Str.ofString "0123456789") t_DIGITS)))
    {t_PUNCTUATION : Tok} (g_PUNCTUATION : PySem.W.nsIn K mainGlobals "PUNCTUATION" = some (some (.str (PySem.Str.ofString "!\"#$&'()*+,-./:;<=>?\x40[\\]^_`{|}~") t_PUNCTUATION)))
    {t_WHITE : Tok} (g_WHITE : PySem.W.nsIn K mainGlobals "WHITE" = some (some (.str (PySem.Str.ofString " \t\n") t_WHITE)))
    (n_enumerate : PySem.W.nsIn K mainGlobals "enumerate" = some none)
    (n_str : PySem.W.nsIn K mainGlobals "str" = some none)
    (n_isinstance : PySem.W.nsIn K mainGlobals "isinstance" = some none)
    (n_int : PySem.W.nsIn K mainGlobals "int" = some none)
    (n_bool : PySem.W.nsIn K mainGlobals "bool" = some none)
    (n_len : PySem.W.nsIn K mainGlobals "len" = some none)
    (n_tuple : PySem.W.nsIn K mainGlobals "tuple" = some none)
    (n_list : PySem.W.nsIn K mainGlobals "list" = some none)
    (n_all : PySem.W.nsIn K mainGlobals "all" = some none)
    (n_min : PySem.W.nsIn K mainGlobals "min" = some none)
    (n_range : PySem.W.nsIn K mainGlobals "range" = some none)
    (n_repr : PySem.W.nsIn K mainGlobals "repr" = some none) :
    ∃ fd : FuncData, (∀ (s : Shared) (v : Value), BindsTo s fd ⟨[v], []⟩ [("_law_script", v)]) ∧ ∀ base : Heap, K.In base → base.Ns mainGlobals mg → FnOk l.prog w K mg base CX0 7 fa fd ["_law_script"] (spLaw K) := by
  have e := hfa.symm.trans (PySem.W.mg_of X G a_law)
  cases e
  have T : Txt w K mg := {
    D_lines_of := def_mk X G a_lines_of l_lines_of e_lines_of k_lines_of fun _ _ _ _ _ _ us hl => match us, hl with | [_], _ => rfl,
    D_first_wrong := def_mk X G a_first_wrong l_first_wrong e_first_wrong k_first_wrong fun _ _ _ _ _ _ us hl => match us, hl with | [_], _ => rfl,
    D_check_source := def_mk X G a_check_source l_check_source e_check_source k_check_source fun _ _ _ _ _ _ us hl => match us, hl with | [_], _ => rfl,
    D_is_number := def_mk X G a_is_number l_is_number e_is_number k_is_number fun _ _ _ _ _ _ us hl => match us, hl with | [_, _], _ => rfl,
    D_is_line := def_mk X G a_is_line l_is_line e_is_line k_is_line fun _ _ _ _ _ _ us hl => match us, hl with | [_], _ => rfl,
    D_check_edit := def_mk X G a_check_edit l_check_edit e_check_edit k_check_edit fun _ _ _ _ _ _ us hl => match us, hl with | [_, _], _ => rfl,
    D_lines_of_both := def_mk X G a_lines_of_both l_lines_of_both e_lines_of_both k_lines_of_both fun _ _ _ _ _ _ us hl => match us, hl with | [_, _], _ => rfl,
    D_text_of := def_mk X G a_text_of l_text_of e_text_of k_text_of fun _ _ _ _ _ _ us hl => match us, hl with | [_], _ => rfl,
    D_edited := def_mk X G a_edited l_edited e_edited k_edited fun _ _ _ _ _ _ us hl => match us, hl with | [_, _], _ => rfl,
    D_back := def_mk X G a_back l_back e_back k_back fun _ _ _ _ _ _ us hl => match us, hl with | [_, _], _ => rfl,
    D_same_lines := def_mk X G a_same_lines l_same_lines e_same_lines k_same_lines fun _ _ _ _ _ _ us hl => match us, hl with | [_, _], _ => rfl,
    D_least_of := def_mk X G a_least_of l_least_of e_least_of k_least_of fun _ _ _ _ _ _ us hl => match us, hl with | [_, _], _ => rfl,
    D_least_edit := def_mk X G a_least_edit l_least_edit e_least_edit k_least_edit fun _ _ _ _ _ _ us hl => match us, hl with | [_, _], _ => rfl,
    D_j_jar := def_mk X G a_j_jar l_j_jar e_j_jar k_j_jar fun _ _ _ _ _ _ us hl => match us, hl with | [_], _ => rfl,
    D_j_dip := def_mk X G a_j_dip l_j_dip e_j_dip k_j_dip fun _ _ _ _ _ _ us hl => match us, hl with | [_, _], _ => rfl,
    D_j_one := def_mk X G a_j_one l_j_one e_j_one k_j_one fun _ _ _ _ _ _ us hl => match us, hl with | [_, _], _ => rfl,
    D_j_line := def_mk X G a_j_line l_j_line e_j_line k_j_line fun _ _ _ _ _ _ us hl => match us, hl with | [_], _ => rfl,
    D_j_lines := def_mk X G a_j_lines l_j_lines e_j_lines k_j_lines fun _ _ _ _ _ _ us hl => match us, hl with | [_, _], _ => rfl,
    D_j_text := def_mk X G a_j_text l_j_text e_j_text k_j_text fun _ _ _ _ _ _ us hl => match us, hl with | [_], _ => rfl,
    D_j_edit := def_mk X G a_j_edit l_j_edit e_j_edit k_j_edit fun _ _ _ _ _ _ us hl => match us, hl with | [_, _], _ => rfl,
    D_j_done := def_mk X G a_j_done l_j_done e_j_done k_j_done fun _ _ _ _ _ _ us hl => match us, hl with | [_, _], _ => rfl,
    D_j_least := def_mk X G a_j_least l_j_least e_j_least k_j_least fun _ _ _ _ _ _ us hl => match us, hl with | [_, _], _ => rfl,
    D_j_plain := def_mk X G a_j_plain l_j_plain e_j_plain k_j_plain fun _ _ _ _ _ _ us hl => match us, hl with | [_], _ => rfl,
    D_j_right := def_mk X G a_j_right l_j_right e_j_right k_j_right fun _ _ _ _ _ _ us hl => match us, hl with | [_], _ => rfl,
    D_law := def_mk X G a_law l_law e_law k_law fun _ _ _ _ _ _ us hl => match us, hl with | [_], _ => rfl,
    g_LETTERS := ⟨_, PySem.W.mg_of X G g_LETTERS⟩,
    g_DIGITS := ⟨_, PySem.W.mg_of X G g_DIGITS⟩,
    g_PUNCTUATION := ⟨_, PySem.W.mg_of X G g_PUNCTUATION⟩,
    g_WHITE := ⟨_, PySem.W.mg_of X G g_WHITE⟩,
    n_enumerate := PySem.W.mg_none_of X G n_enumerate,
    n_str := PySem.W.mg_none_of X G n_str,
    n_isinstance := PySem.W.mg_none_of X G n_isinstance,
    n_int := PySem.W.mg_none_of X G n_int,
    n_bool := PySem.W.mg_none_of X G n_bool,
    n_len := PySem.W.mg_none_of X G n_len,
    n_tuple := PySem.W.mg_none_of X G n_tuple,
    n_list := PySem.W.mg_none_of X G n_list,
    n_all := PySem.W.mg_none_of X G n_all,
    n_min := PySem.W.mg_none_of X G n_min,
    n_range := PySem.W.mg_none_of X G n_range,
    n_repr := PySem.W.mg_none_of X G n_repr }
  exact ⟨_, fun s v => .of_eq rfl, fun base _ _ => all_law T (fun_mk (st := s_law) l_law e_law k_law)⟩
theorem walk {l : PySem.W.OpenLaw} {q : Program} {loose : List Str} {XP : (Str → Option Value) → Heap → Prop} {YP : World → Heap → Prop} {d : DefRec} {K : Params → Fr} (hn : l.most = some 63) (hdf : d.params.defaults = [])
    (hY : ∀ (w : World) (h : Heap), YP w h → (K w.params).In h)
    (F : ∀ (w : World) (mg : Str → Option Value) (fa : Addr) (h : Heap), (K w.params).In h → h.Ns mainGlobals mg → mg d.name = some (.ref fa) →
      ∃ fd : FuncData, (∀ (s : Shared) (u : Value), BindsTo s fd ⟨[u], []⟩ [("_law_script", u)]) ∧ ∀ base : Heap, (K w.params).In base → base.Ns mainGlobals mg → FnOk l.prog w (K w.params) mg base CX0 7 fa fd ["_law_script"] (spLaw (K w.params))) :
    PySem.W.WalkO q loose XP YP l.row.toRowW d [] (fun f vs => PySem.call f vs) :=
  Pm.walk_ofP (k := 7) (x := "_law_script") hn hdf ⟨rfl, by decide, by decide, rfl⟩ hY F
end Pm.plainmark_k80_edits_there_and_back
open PySem PySem.W PyProof.Rows in
set_option maxRecDepth 100000 in
set_option maxHeartbeats 0 in
theorem PySem.Challenge.cw_plainmark_k80_edits_there_and_back_holds : PySem.Challenge.rw_plainmark_k80_edits_there_and_back.Holds := by
  w_on; o_law; k_head; (case hw => w_witness2)
  k_fill
  refine Pm.plainmark_k80_edits_there_and_back.walk (l := PySem.Challenge.rw_plainmark_k80_edits_there_and_back) rfl rfl (fun w h Y => PySem.W.kIn_of Y) ?F
  case F =>
    intro w mg fa h KX G hmg
    refine' Pm.plainmark_k80_edits_there_and_back.all_mk KX G hmg ?a_lines_of ?l_lines_of ?e_lines_of ?k_lines_of ?a_first_wrong ?l_first_wrong ?e_first_wrong ?k_first_wrong ?a_check_source ?l_check_source ?e_check_source ?k_check_source ?a_is_number ?l_is_number ?e_is_number ?k_is_number ?a_is_line ?l_is_line ?e_is_line ?k_is_line ?a_check_edit ?l_check_edit ?e_check_edit ?k_check_edit ?a_lines_of_both ?l_lines_of_both ?e_lines_of_both ?k_lines_of_both ?a_text_of ?l_text_of ?e_text_of ?k_text_of ?a_edited ?l_edited ?e_edited ?k_edited ?a_back ?l_back ?e_back ?k_back ?a_same_lines ?l_same_lines ?e_same_lines ?k_same_lines ?a_least_of ?l_least_of ?e_least_of ?k_least_of ?a_least_edit ?l_least_edit ?e_least_edit ?k_least_edit ?a_j_jar ?l_j_jar ?e_j_jar ?k_j_jar ?a_j_dip ?l_j_dip ?e_j_dip ?k_j_dip ?a_j_one ?l_j_one ?e_j_one ?k_j_one ?a_j_line ?l_j_line ?e_j_line ?k_j_line ?a_j_lines ?l_j_lines ?e_j_lines ?k_j_lines ?a_j_text ?l_j_text ?e_j_text ?k_j_text ?a_j_edit ?l_j_edit ?e_j_edit ?k_j_edit ?a_j_done ?l_j_done ?e_j_done ?k_j_done ?a_j_least ?l_j_least ?e_j_least ?k_j_least ?a_j_plain ?l_j_plain ?e_j_plain ?k_j_plain ?a_j_right ?l_j_right ?e_j_right ?k_j_right ?a_law ?l_law ?e_law ?k_law ?g_LETTERS ?g_DIGITS ?g_PUNCTUATION ?g_WHITE ?n_enumerate ?n_str ?n_isinstance ?n_int ?n_bool ?n_len ?n_tuple ?n_list ?n_all ?n_min ?n_range ?n_repr
    (case a_lines_of => k_is)
    (case l_lines_of => k_is)
    (case e_lines_of => k_is)
    (case k_lines_of => k_is)
    (case a_first_wrong => k_is)
    (case l_first_wrong => k_is)
    (case e_first_wrong => k_is)
    (case k_first_wrong => k_is)
    (case a_check_source => k_is)
    (case l_check_source => k_is)
    (case e_check_source => k_is)
    (case k_check_source => k_is)
    (case a_is_number => k_is)
    (case l_is_number => k_is)
    (case e_is_number => k_is)
    (case k_is_number => k_is)
    (case a_is_line => k_is)
    (case l_is_line => k_is)
    (case e_is_line => k_is)
    (case k_is_line => k_is)
    (case a_check_edit => k_is)
    (case l_check_edit => k_is)
    (case e_check_edit => k_is)
    (case k_check_edit => k_is)
    (case a_lines_of_both => k_is)
    (case l_lines_of_both => k_is)
    (case e_lines_of_both => k_is)
    (case k_lines_of_both => k_is)
    (case a_text_of => k_is)
    (case l_text_of => k_is)
    (case e_text_of => k_is)
    (case k_text_of => k_is)
    (case a_edited => k_is)
    (case l_edited => k_is)
    (case e_edited => k_is)
    (case k_edited => k_is)
    (case a_back => k_is)
    (case l_back => k_is)
    (case e_back => k_is)
    (case k_back => k_is)
    (case a_same_lines => k_is)
    (case l_same_lines => k_is)
    (case e_same_lines => k_is)
    (case k_same_lines => k_is)
    (case a_least_of => k_is)
    (case l_least_of => k_is)
    (case e_least_of => k_is)
    (case k_least_of => k_is)
    (case a_least_edit => k_is)
    (case l_least_edit => k_is)
    (case e_least_edit => k_is)
    (case k_least_edit => k_is)
    (case a_j_jar => k_is)
    (case l_j_jar => k_is)
    (case e_j_jar => k_is)
    (case k_j_jar => k_is)
    (case a_j_dip => k_is)
    (case l_j_dip => k_is)
    (case e_j_dip => k_is)
    (case k_j_dip => k_is)
    (case a_j_one => k_is)
    (case l_j_one => k_is)
    (case e_j_one => k_is)
    (case k_j_one => k_is)
    (case a_j_line => k_is)
    (case l_j_line => k_is)
    (case e_j_line => k_is)
    (case k_j_line => k_is)
    (case a_j_lines => k_is)
    (case l_j_lines => k_is)
    (case e_j_lines => k_is)
    (case k_j_lines => k_is)
    (case a_j_text => k_is)
    (case l_j_text => k_is)
    (case e_j_text => k_is)
    (case k_j_text => k_is)
    (case a_j_edit => k_is)
    (case l_j_edit => k_is)
    (case e_j_edit => k_is)
    (case k_j_edit => k_is)
    (case a_j_done => k_is)
    (case l_j_done => k_is)
    (case e_j_done => k_is)
    (case k_j_done => k_is)
    (case a_j_least => k_is)
    (case l_j_least => k_is)
    (case e_j_least => k_is)
    (case k_j_least => k_is)
    (case a_j_plain => k_is)
    (case l_j_plain => k_is)
    (case e_j_plain => k_is)
    (case k_j_plain => k_is)
    (case a_j_right => k_is)
    (case l_j_right => k_is)
    (case e_j_right => k_is)
    (case k_j_right => k_is)
    (case a_law => k_is)
    (case l_law => k_is)
    (case e_law => k_is)
    (case k_law => k_is)
    (case g_LETTERS => k_is)
    (case g_DIGITS => k_is)
    (case g_PUNCTUATION => k_is)
    (case g_WHITE => k_is)
    (case n_enumerate => k_is)
    (case n_str => k_is)
    (case n_isinstance => k_is)
    (case n_int => k_is)
    (case n_bool => k_is)
    (case n_len => k_is)
    (case n_tuple => k_is)
    (case n_list => k_is)
    (case n_all => k_is)
    (case n_min => k_is)
    (case n_range => k_is)
    (case n_repr => k_is)

