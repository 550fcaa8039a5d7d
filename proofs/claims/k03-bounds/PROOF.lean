import PyProof.Rows.All
import Wide.All
import OpenK.AllK
import Wide.FinOn
import HandS.ForMost
import HandS.FStr
import HandS.Exc
import HandS.ExcOwn
import HandS.ExcInit
import HandS.TryOnly
import HandS.WordsExc
import HandS.SetKeys
import HandS.IsInst
import HandS.Lambda
import HandS.EndTab
import KE.DataMinMax
import HandS.SortKw
import HandS.TupAny
import HandS.Wide
import HandS.Zip
import HandS.Iter
import HandS.More
import HandS.ExcField
import PyProof.StrLawsTight
import PyProof.StrLawsChain
import PyProof.StrLawsFirst
import PyProof.StrBlock2
import PyProof.Rows.StrMul
import KE.KNestM
import PySem.Challenge.RW_everbough_k03_terms_at_their_bounds
set_option Elab.async false
set_option linter.all false
set_option maxRecDepth 100000
set_option maxHeartbeats 4000000
set_option autoImplicit false
namespace L3
open PySem PySem.Spec PyProof.Rows L2

/-! ### data -/
inductive D where
  | non | bl (b : Bool) | int (i : Int) | str (x : Str) | ty (n : String) | fn (x : Str) | ref (n : Nat)
  | scr (ns : List Int)
  | tup (ds : List D) | lst (ds : List D) | dic (ks : List D) (ds : List D) | set (ks : List Str)
  | ins (C : Str) (fs : List Str) (ds : List D)
/-- the written part; where classes and defs stand; the program and the world (sets of texts lean on them) -/
structure Cn where
  P : Program
  w : World
  K : PySem.W.Frag
  ca : Str → Addr
  /-- the tables of code objects, each with the name that its objects bear -/
  T : List (Addr × Str)
def kD : Key → D
  | .inl i => .int i
  | .inr x => .str x
def DicO (o : HO) (ks : List D) (vs : List V) : Prop :=
  (∃ kvs : List (Key × V), o = .dK kvs ∧ ks = kvs.map (fun p => kD p.1) ∧ vs = kvs.map (·.2)) ∨
  (∃ kvs : List (List Key × V), o = .dT kvs ∧ ks = kvs.map (fun p => .tup (p.1.map kD)) ∧ vs = kvs.map (·.2))
def SetO (c : Cn) (a : Addr) (o : HO) (ks : List Str) : Prop := o = SetK c.P c.w a (fun k => match k with | .inl _ => false | .inr x => decide (x ∈ ks)) ks.length ∧ ks.Nodup
mutual
def Rep (c : Cn) (nu : List Addr) (F : Hp) : D → V → Prop
  | .non, v => v = .non
  | .bl b, v => v = .bl b
  | .int i, v => v = .int i
  | .str x, v => v = .str x
  | .ty n, v => v = .ty n
  | .fn x, v => v = .ref (c.ca x)
  | .ref n, v => ∃ a, nu[n]? = some a ∧ v = .ref a
  | .scr ns, v => ∃ a, v = .ref a ∧ SqL c.K F a (ns.map V.int)
  | .tup ds, v => ∃ a vs, v = .ref a ∧ SqT c.K F a vs ∧ RepL c nu F ds vs
  | .lst ds, v => ∃ a vs, v = .ref a ∧ F a = some (.lst vs) ∧ RepL c nu F ds vs
  | .dic ks ds, v => ∃ a o vs, v = .ref a ∧ F a = some o ∧ DicO o ks vs ∧ RepL c nu F ds vs
  | .set ks, v => ∃ a o, v = .ref a ∧ F a = some o ∧ SetO c a o ks
  | .ins C fs ds, v => ∃ a dx vs, v = .ref a ∧ F a = some (.ins (c.ca C) dx (fs.zip vs)) ∧ fs.length = vs.length ∧ RepL c nu F ds vs
def RepL (c : Cn) (nu : List Addr) (F : Hp) : List D → List V → Prop
  | [], vs => vs = []
  | d :: ds, vs => ∃ v r, vs = v :: r ∧ Rep c nu F d v ∧ RepL c nu F ds r
end
/-- the content of an object that may change -/
def ObjR (c : Cn) (nu : List Addr) (F : Hp) (o : HO) (a : Addr) : D → Prop
  | .lst ds => ∃ vs, o = .lst vs ∧ RepL c nu F ds vs
  | .dic ks ds => ∃ vs, DicO o ks vs ∧ RepL c nu F ds vs
  | .set ks => SetO c a o ks
  | .ins C fs ds => ∃ dx vs, o = .ins (c.ca C) dx (fs.zip vs) ∧ fs.length = vs.length ∧ RepL c nu F ds vs
  | _ => False
theorem DicO.nt {o : HO} {ks : List D} {vs : List V} (h : DicO o ks vs) : (∃ k, o = .dK k) ∨ (∃ k, o = .dT k) := by
  rcases h with ⟨k, e, _⟩ | ⟨k, e, _⟩
  · exact .inl ⟨k, e⟩
  · exact .inr ⟨k, e⟩

theorem setK_code {P : Program} {w : World} {a c : Addr} {S : Key → Bool} {n : Nat} {q : Str} : SetK P w a S n ≠ LamX.CodeO c q := fun z => by
  unfold SetK LamX.CodeO at z
  injection z with z
  have hc : c < a + c + 1 := Nat.lt_succ_of_le (Nat.le_add_left c a)
  have ha : a < a + c + 1 := Nat.lt_succ_of_le (Nat.le_add_right a c)
  have h := congrFun z ⟨Array.replicate (a + c + 1) { cls := .none, data := .fields #[.none, .str q 0] }, {}⟩
  have g : ∀ b, b < a + c + 1 → (⟨Array.replicate (a + c + 1) { cls := .none, data := .fields #[.none, .str q 0] }, {}⟩ : Heap).get? b = some { cls := .none, data := .fields #[.none, .str q 0] } := fun b hb => by
    unfold Heap.get?
    rw [show (⟨Array.replicate (a + c + 1) { cls := .none, data := .fields #[.none, .str q 0] }, {}⟩ : Heap).objs = Array.replicate (a + c + 1) { cls := .none, data := .fields #[.none, .str q 0] } from rfl, Array.getElem?_replicate, if_pos hb]
  have hr : ∃ (oc : Obj) (vs : Array Value) (t : Tok), (⟨Array.replicate (a + c + 1) { cls := .none, data := .fields #[.none, .str q 0] }, {}⟩ : Heap).get? c = some oc ∧ oc.data = .fields vs ∧ vs[1]? = some (.str q t) :=
    ⟨_, _, _, g c hc, rfl, rfl⟩
  rw [← h] at hr
  obtain ⟨o, es, ep, t, ho, hx, hd, _⟩ := hr
  rw [g a ha] at ho
  cases ho
  cases hd
/-- no table, no code object -/
def Plain (o : HO) : Prop := (∀ ps, o ≠ .tbl ps) ∧ ∀ b q, o ≠ LamX.CodeO b q
theorem plain_by {o : HO} (h1 : ∀ ps, o ≠ .tbl ps) (h2 : ∀ φ, o ≠ .ext φ) : Plain o := ⟨h1, fun b q z => h2 _ z⟩
theorem objR_kind {c : Cn} {nu : List Addr} {F : Hp} {o : HO} {a : Addr} {d : D} (h : ObjR c nu F o a d) : Plain o := by
  cases d with
  | lst ds => obtain ⟨vs, e, _⟩ := h; subst e; exact plain_by (fun _ z => nomatch z) (fun _ z => nomatch z)
  | dic ks ds =>
    obtain ⟨vs, e, _⟩ := h
    rcases e.nt with ⟨k, e⟩ | ⟨k, e⟩ <;> subst e <;> exact plain_by (fun _ z => nomatch z) (fun _ z => nomatch z)
  | set ks => obtain ⟨e, _⟩ := (show SetO c a o ks from h); subst e; exact ⟨fun _ z => (by unfold SetK at z; cases z), fun _ _ z => setK_code z⟩
  | ins C fs ds => obtain ⟨dx, vs, e, _⟩ := h; subst e; exact plain_by (fun _ z => nomatch z) (fun _ z => nomatch z)
  | _ => exact h.elim

abbrev AS := List D
/-- what is one's own: the data, and the very object -/
abbrev Ow := Addr → Option (D × HO)
/-- the tables of code objects: no part of what else is told -/
def TabW (c : Cn) (nu : List Addr) (F H : Hp) (O : Ow) : Prop := ∀ p ∈ c.T, F p.1 = none ∧ p.1 ∉ nu ∧ O p.1 = none ∧ ∃ ps : Array Value, H p.1 = some (.tbl ps) ∧ TriplesOk ps.toList ∧
  ∀ (pos : Pos) (cv : Value), codeAmong pos ps.toList = some cv → ∃ a, cv = .ref a ∧ F a = none ∧ a ∉ nu ∧ O a = none ∧ H a = some (LamX.CodeO a p.2)
theorem TabW.to {c : Cn} {nu nu' : List Addr} {F F' H H' : Hp} {O O' : Ow} (t : TabW c nu F H O) (k : ∀ a o, H a = some o → F a = none → a ∉ nu → O a = none → H' a = some o ∧ F' a = none ∧ a ∉ nu' ∧ O' a = none) : TabW c nu' F' H' O' := fun p hp => by
  obtain ⟨h1, h2, h3, ps, h4, h5, h6⟩ := t p hp
  obtain ⟨k1, k2, k3, k4⟩ := k _ _ h4 h1 h2 h3
  refine ⟨k2, k3, k4, ps, k1, h5, fun pos cv e => ?_⟩
  obtain ⟨a, e1, e2, e3, e4, e5⟩ := h6 pos cv e
  obtain ⟨j1, j2, j3, j4⟩ := k _ _ e5 e2 e3 e4
  exact ⟨a, e1, j2, j3, j4, j1⟩
theorem TabW.tabs {c : Cn} {nu : List Addr} {F H : Hp} {O : Ow} (t : TabW c nu F H O) : LamX.Tabs c.T H := fun p hp => by
  obtain ⟨_, _, _, ps, h4, h5, h6⟩ := t p hp
  refine ⟨ps, h4, h5, fun pos cv e => ?_⟩
  obtain ⟨a, e1, _, _, _, e5⟩ := h6 pos cv e
  exact ⟨a, e1, e5⟩
structure Wd (c : Cn) (nu : List Addr) (F H : Hp) (O : Ow) (S : AS) : Prop where
  sub : ∀ a o, F a = some o → H a = some o
  nd : nu.Nodup
  len : nu.length = S.length
  obj : ∀ (n : Nat) a d, nu[n]? = some a → S[n]? = some d → F a = none ∧ ∃ o, H a = some o ∧ ObjR c nu F o a d
  own : ∀ p x, O p = some x → F p = none ∧ p ∉ nu ∧ H p = some x.2 ∧ ObjR c nu F x.2 p x.1
  tab : TabW c nu F H O
  ft : ∀ a o, F a = some o → Plain o

structure Ext (nu : List Addr) (F : Hp) (O : Ow) (nu' : List Addr) (F' : Hp) (O' : Ow) : Prop where
  nu : nu <+: nu'
  F : ∀ a o, F a = some o → F' a = some o
  O : ∀ p d, O p = some d → O' p = some d
theorem Ext.refl (nu : List Addr) (F : Hp) (O : Ow) : Ext nu F O nu F O := ⟨List.prefix_rfl, fun _ _ h => h, fun _ _ h => h⟩
theorem Ext.trans {n1 n2 n3 : List Addr} {F1 F2 F3 : Hp} {O1 O2 O3 : Ow} (a : Ext n1 F1 O1 n2 F2 O2) (b : Ext n2 F2 O2 n3 F3 O3) : Ext n1 F1 O1 n3 F3 O3 :=
  ⟨a.nu.trans b.nu, fun x o h => b.F x o (a.F x o h), fun x o h => b.O x o (a.O x o h)⟩
theorem Ext.onone {n1 n2 : List Addr} {F1 F2 : Hp} {O1 O2 : Ow} (a : Ext n1 F1 O1 n2 F2 O2) {p : Addr} (h : O2 p = none) : O1 p = none := by
  cases e : O1 p with
  | none => rfl
  | some d => rw [a.O p d e] at h; cases h

theorem pre_get {α : Type} {l m : List α} (h : l <+: m) {n : Nat} {a : α} (e : l[n]? = some a) : m[n]? = some a := by
  obtain ⟨r, rfl⟩ := h
  rw [List.getElem?_append_left (List.getElem?_eq_some_iff.mp e).1]
  exact e
theorem sqT_mono {K : PySem.W.Frag} {F F' : Hp} (h : ∀ a o, F a = some o → F' a = some o) {a : Addr} {vs : List V} (s : SqT K F a vs) : SqT K F' a vs := by
  rcases s with (s | ⟨o, s⟩) | s
  · exact .inl (.inl (h _ _ s))
  · exact .inl (.inr ⟨o, h _ _ s⟩)
  · exact .inr s
theorem sqL_mono {K : PySem.W.Frag} {F F' : Hp} (h : ∀ a o, F a = some o → F' a = some o) {a : Addr} {vs : List V} (s : SqL K F a vs) : SqL K F' a vs := by
  rcases s with (s | ⟨o, s⟩) | s
  · exact .inl (.inl (h _ _ s))
  · exact .inl (.inr ⟨o, h _ _ s⟩)
  · exact .inr s
section
variable {c : Cn} {nu nu' : List Addr} {F F' : Hp}
mutual
theorem Rep.mono (hn : nu <+: nu') (hF : ∀ a o, F a = some o → F' a = some o) : ∀ (d : D) (v : V), Rep c nu F d v → Rep c nu' F' d v
  | .non, _, h => h
  | .bl _, _, h => h
  | .int _, _, h => h
  | .str _, _, h => h
  | .ty _, _, h => h
  | .fn _, _, h => h
  | .ref _, _, h => let ⟨a, e, r⟩ := h; ⟨a, pre_get hn e, r⟩
  | .scr _, _, h => let ⟨a, e, r⟩ := h; ⟨a, e, sqL_mono hF r⟩
  | .tup ds, _, h => let ⟨a, vs, e, s, r⟩ := h; ⟨a, vs, e, sqT_mono hF s, RepL.mono hn hF ds vs r⟩
  | .lst ds, _, h => let ⟨a, vs, e, s, r⟩ := h; ⟨a, vs, e, hF _ _ s, RepL.mono hn hF ds vs r⟩
  | .dic ks ds, _, h => let ⟨a, o, vs, e, s, q, r⟩ := h; ⟨a, o, vs, e, hF _ _ s, q, RepL.mono hn hF ds vs r⟩
  | .set ks, _, h => let ⟨a, o, e, s, q⟩ := h; ⟨a, o, e, hF _ _ s, q⟩
  | .ins C fs ds, _, h => let ⟨a, dx, vs, e, s, q, r⟩ := h; ⟨a, dx, vs, e, hF _ _ s, q, RepL.mono hn hF ds vs r⟩
theorem RepL.mono (hn : nu <+: nu') (hF : ∀ a o, F a = some o → F' a = some o) : ∀ (ds : List D) (vs : List V), RepL c nu F ds vs → RepL c nu' F' ds vs
  | [], _, h => h
  | d :: ds, _, h => let ⟨v, r, e, s, t⟩ := h; ⟨v, r, e, Rep.mono hn hF d v s, RepL.mono hn hF ds r t⟩
end
theorem ObjR.mono (hn : nu <+: nu') (hF : ∀ a o, F a = some o → F' a = some o) {o : HO} {a : Addr} {d : D} (h : ObjR c nu F o a d) : ObjR c nu' F' o a d := by
  cases d with
  | lst ds => obtain ⟨vs, e, r⟩ := h; exact ⟨vs, e, RepL.mono hn hF _ _ r⟩
  | dic ks ds => obtain ⟨vs, e, r⟩ := h; exact ⟨vs, e, RepL.mono hn hF _ _ r⟩
  | set ks => exact h
  | ins C fs ds => obtain ⟨dx, vs, e, q, r⟩ := h; exact ⟨dx, vs, e, q, RepL.mono hn hF _ _ r⟩
  | _ => exact h
theorem RepL.len : ∀ {ds : List D} {vs : List V}, RepL c nu F ds vs → ds.length = vs.length
  | [], _, h => by rw [show _ = [] from h]; rfl
  | d :: ds, _, h => by
    obtain ⟨v, r, rfl, _, t⟩ := h
    rw [List.length_cons, List.length_cons, RepL.len t]
theorem RepL.get : ∀ {ds : List D} {vs : List V} {i : Nat} {d : D}, RepL c nu F ds vs → ds[i]? = some d → ∃ v, vs[i]? = some v ∧ Rep c nu F d v
  | [], _, _, _, _, e => by simp at e
  | d :: ds, _, 0, _, h, e => by
    obtain ⟨v, r, rfl, s, t⟩ := h
    simp at e
    subst e
    exact ⟨v, rfl, s⟩
  | d :: ds, _, i + 1, x, h, e => by
    obtain ⟨v, r, rfl, s, t⟩ := h
    obtain ⟨u, h1, h2⟩ := RepL.get (i := i) (d := x) t (by simpa using e)
    exact ⟨u, by simpa using h1, h2⟩
theorem RepL.back : ∀ {ds : List D} {vs : List V} {i : Nat} {v : V}, RepL c nu F ds vs → vs[i]? = some v → ∃ d, ds[i]? = some d ∧ Rep c nu F d v
  | [], _, _, _, h, e => by rw [show _ = [] from h] at e; simp at e
  | d :: ds, _, 0, _, h, e => by
    obtain ⟨v, r, rfl, s, t⟩ := h
    simp at e
    subst e
    exact ⟨d, rfl, s⟩
  | d :: ds, _, i + 1, x, h, e => by
    obtain ⟨v, r, rfl, s, t⟩ := h
    obtain ⟨u, h1, h2⟩ := RepL.back (i := i) (v := x) t (by simpa using e)
    exact ⟨u, by simpa using h1, h2⟩
theorem RepL.append : ∀ {ds es : List D} {vs ws : List V}, RepL c nu F ds vs → RepL c nu F es ws → RepL c nu F (ds ++ es) (vs ++ ws)
  | [], _, _, _, h, k => by rw [show _ = [] from h]; exact k
  | d :: ds, _, _, _, h, k => by
    obtain ⟨v, r, rfl, s, t⟩ := h
    exact ⟨v, _, rfl, s, RepL.append t k⟩
theorem RepL.one {d : D} {v : V} (h : Rep c nu F d v) : RepL c nu F [d] [v] := ⟨v, [], rfl, h, rfl⟩
theorem RepL.set {d : D} {v : V} (h : Rep c nu F d v) : ∀ {ds : List D} {vs : List V} (i : Nat), RepL c nu F ds vs → RepL c nu F (ds.set i d) (vs.set i v)
  | [], _, _, k => by rw [show _ = [] from k]; rfl
  | e :: ds, _, 0, k => by
    obtain ⟨u, r, rfl, s, t⟩ := k
    exact ⟨v, r, rfl, h, t⟩
  | e :: ds, _, i + 1, k => by
    obtain ⟨u, r, rfl, s, t⟩ := k
    exact ⟨u, _, rfl, s, RepL.set h i t⟩
theorem RepL.take : ∀ {ds : List D} {vs : List V} (n : Nat), RepL c nu F ds vs → RepL c nu F (ds.take n) (vs.take n)
  | [], _, n, k => by rw [show _ = [] from k]; simp [RepL]
  | e :: ds, _, 0, k => by simp [RepL]
  | e :: ds, _, n + 1, k => by
    obtain ⟨u, r, rfl, s, t⟩ := k
    exact ⟨u, _, rfl, s, RepL.take n t⟩
theorem RepL.drop : ∀ {ds : List D} {vs : List V} (n : Nat), RepL c nu F ds vs → RepL c nu F (ds.drop n) (vs.drop n)
  | [], _, n, k => by rw [show _ = [] from k]; simp [RepL]
  | e :: ds, _, 0, k => k
  | e :: ds, _, n + 1, k => by
    obtain ⟨u, r, rfl, s, t⟩ := k
    exact RepL.drop n t
theorem RepL.ints : ∀ {ns : List Int} {vs : List V}, RepL c nu F (ns.map D.int) vs → vs = ns.map V.int
  | [], _, h => h
  | n :: ns, _, h => by
    obtain ⟨v, r, rfl, s, t⟩ := h
    rw [show v = _ from s, RepL.ints t]
    rfl
theorem RepL.ofInts : ∀ (ns : List Int), RepL c nu F (ns.map D.int) (ns.map V.int)
  | [] => rfl
  | n :: ns => ⟨_, _, rfl, rfl, RepL.ofInts ns⟩
theorem RepL.strs : ∀ {xs : List Str} {vs : List V}, RepL c nu F (xs.map D.str) vs → vs = xs.map V.str
  | [], _, h => h
  | n :: ns, _, h => by
    obtain ⟨v, r, rfl, s, t⟩ := h
    rw [show v = _ from s, RepL.strs t]
    rfl
theorem RepL.ofStrs : ∀ (ns : List Str), RepL c nu F (ns.map D.str) (ns.map V.str)
  | [] => rfl
  | n :: ns => ⟨_, _, rfl, rfl, RepL.ofStrs ns⟩
theorem RepL.bls : ∀ {xs : List Bool} {vs : List V}, RepL c nu F (xs.map D.bl) vs → vs = xs.map V.bl
  | [], _, h => h
  | n :: ns, _, h => by
    obtain ⟨v, r, rfl, s, t⟩ := h
    rw [show v = _ from s, RepL.bls t]
    rfl
end

/-! ### the world's steps -/
section
variable {c : Cn} {nu : List Addr} {F H : Hp} {O : Ow} {S : AS}
def updO (O : Ow) (p : Addr) (d : Option (D × HO)) : Ow := fun q => if q = p then d else O q
theorem updO_same {O : Ow} {p : Addr} {d : Option (D × HO)} : updO O p d p = d := if_pos rfl
theorem updO_ne {O : Ow} {p q : Addr} {d : Option (D × HO)} (h : q ≠ p) : updO O p d q = O q := if_neg h
theorem nu_get {nu : List Addr} {a : Addr} (h : a ∈ nu) : ∃ n : Nat, nu[n]? = some a := by
  obtain ⟨n, hn, e⟩ := List.getElem_of_mem h
  exact ⟨n, by rw [List.getElem?_eq_getElem hn, e]⟩
theorem Wd.fresh (W : Wd c nu F H O S) {p : Addr} (h : H p = none) : F p = none ∧ p ∉ nu ∧ O p = none := by
  refine ⟨?_, fun hm => ?_, ?_⟩
  · cases e : F p with
    | none => rfl
    | some o => rw [W.sub p o e] at h; cases h
  · obtain ⟨n, e⟩ := nu_get hm
    have hl : n < S.length := by rw [← W.len]; exact (List.getElem?_eq_some_iff.mp e).1
    obtain ⟨_, o, e2, _⟩ := W.obj n p S[n] e (List.getElem?_eq_getElem hl)
    rw [h] at e2; cases e2
  · cases e : O p with
    | none => rfl
    | some d =>
      obtain ⟨_, _, e2, _⟩ := W.own p d e
      rw [h] at e2; cases e2
/-- a new object, known for ever -/
theorem Wd.newF (W : Wd c nu F H O S) {p : Addr} (h : H p = none) (o : HO) (hp : Plain o := by exact plain_by (fun _ z => nomatch z) (fun _ z => nomatch z)) : Wd c nu (upd F p o) (upd H p o) O S ∧ Ext nu F O nu (upd F p o) O := by
  obtain ⟨h1, h2, h3⟩ := W.fresh h
  have hF : ∀ a u, F a = some u → upd F p o a = some u := fun a u e => by rw [upd_ne (ne_of_none e h1)]; exact e
  refine ⟨⟨fun a u e => ?_, W.nd, W.len, fun n a d e1 e2 => ?_, fun q d e => ?_, W.tab.to fun a u e e0 e1 e2 => ?_, fun a u e => ?_⟩, ⟨List.prefix_rfl, hF, fun _ _ e => e⟩⟩
  · by_cases ha : a = p
    · subst ha; rw [upd_same] at e ⊢; exact e
    · rw [upd_ne ha] at e ⊢; exact W.sub a u e
  · obtain ⟨f, u, e3, r⟩ := W.obj n a d e1 e2
    have ha : a ≠ p := ne_of_none e3 h
    exact ⟨by rw [upd_ne ha]; exact f, u, by rw [upd_ne ha]; exact e3, r.mono List.prefix_rfl hF⟩
  · obtain ⟨f, nn, e3, r⟩ := W.own q d e
    have ha : q ≠ p := ne_of_none e3 h
    exact ⟨by rw [upd_ne ha]; exact f, nn, by rw [upd_ne ha]; exact e3, r.mono List.prefix_rfl hF⟩
  · have ha : a ≠ p := ne_of_none e h
    exact ⟨by rw [upd_ne ha]; exact e, by rw [upd_ne ha]; exact e0, e1, e2⟩
  · by_cases ha : a = p
    · subst ha; rw [upd_same] at e; cases e; exact hp
    · rw [upd_ne ha] at e; exact W.ft a u e
/-- a new object of one's own -/
theorem Wd.newO (W : Wd c nu F H O S) {p : Addr} (h : H p = none) {o : HO} {d : D} (r : ObjR c nu F o p d) : Wd c nu F (upd H p o) (updO O p (some (d, o))) S ∧ Ext nu F O nu F (updO O p (some (d, o))) := by
  obtain ⟨h1, h2, h3⟩ := W.fresh h
  refine ⟨⟨fun a u e => ?_, W.nd, W.len, fun n a d e1 e2 => ?_, fun q d' e => ?_, W.tab.to fun a u e e0 e1 e2 => ?_, W.ft⟩, ⟨List.prefix_rfl, fun _ _ e => e, fun q d' e => ?_⟩⟩
  · rw [upd_ne (ne_of_none e h1)]; exact W.sub a u e
  · obtain ⟨f, u, e3, r⟩ := W.obj n a d e1 e2
    exact ⟨f, u, by rw [upd_ne (ne_of_none e3 h)]; exact e3, r⟩
  · by_cases ha : q = p
    · subst ha
      rw [updO_same] at e
      cases e
      exact ⟨h1, h2, upd_same, r⟩
    · rw [updO_ne ha] at e
      obtain ⟨f, nn, e3, r⟩ := W.own q d' e
      exact ⟨f, nn, by rw [upd_ne ha]; exact e3, r⟩
  · have ha : a ≠ p := ne_of_none e h
    exact ⟨by rw [upd_ne ha]; exact e, e0, e1, by rw [updO_ne ha]; exact e2⟩
  · have ha : q ≠ p := fun z => by subst z; rw [h3] at e; cases e
    rw [updO_ne ha]; exact e
/-- a new object by reference -/
theorem Wd.newR (W : Wd c nu F H O S) {p : Addr} (h : H p = none) {o : HO} {d : D} (r : ObjR c nu F o p d) : Wd c (nu ++ [p]) F (upd H p o) O (S ++ [d]) ∧ Ext nu F O (nu ++ [p]) F O := by
  obtain ⟨h1, h2, h3⟩ := W.fresh h
  have hn : nu <+: nu ++ [p] := List.prefix_append _ _
  refine ⟨⟨fun a u e => ?_, ?_, by simp [W.len], fun n a d' e1 e2 => ?_, fun q d' e => ?_, W.tab.to fun a u e e0 e1 e2 => ?_, W.ft⟩, ⟨hn, fun _ _ e => e, fun _ _ e => e⟩⟩
  · rw [upd_ne (ne_of_none e h1)]; exact W.sub a u e
  · rw [List.nodup_append]
    refine ⟨W.nd, by simp, fun a ha b hb => ?_⟩
    rw [List.mem_singleton] at hb
    subst hb
    exact fun z => h2 (z ▸ ha)
  · by_cases hl : n < nu.length
    · rw [List.getElem?_append_left hl] at e1
      rw [List.getElem?_append_left (by rw [← W.len]; exact hl)] at e2
      obtain ⟨f, u, e3, r⟩ := W.obj n a d' e1 e2
      exact ⟨f, u, by rw [upd_ne (ne_of_none e3 h)]; exact e3, r.mono hn fun _ _ e => e⟩
    · have e : n = nu.length := by
        have := (List.getElem?_eq_some_iff.mp e1).1
        rw [List.length_append, List.length_singleton] at this
        omega
      subst e
      rw [List.getElem?_append_right (Nat.le_refl _), Nat.sub_self] at e1
      rw [W.len, List.getElem?_append_right (Nat.le_refl _), Nat.sub_self] at e2
      cases e1
      cases e2
      exact ⟨h1, o, upd_same, r.mono hn fun _ _ e => e⟩
  · obtain ⟨f, nn, e3, r⟩ := W.own q d' e
    have ha := ne_of_none e3 h
    refine ⟨f, fun hm => ?_, by rw [upd_ne ha]; exact e3, r.mono hn fun _ _ e => e⟩
    rcases List.mem_append.mp hm with z | z
    · exact nn z
    · exact ha (List.mem_singleton.mp z)
  · have ha : a ≠ p := ne_of_none e h
    refine ⟨by rw [upd_ne ha]; exact e, e0, fun hm => ?_, e2⟩
    rcases List.mem_append.mp hm with z | z
    · exact e1 z
    · exact ha (List.mem_singleton.mp z)
/-- an object of one's own changes -/
theorem Wd.setO (W : Wd c nu F H O S) {p : Addr} {d : D × HO} {d' : D} (h : O p = some d) {o : HO} (r : ObjR c nu F o p d') : Wd c nu F (upd H p o) (updO O p (some (d', o))) S := by
  obtain ⟨h1, h2, h3, _⟩ := W.own p d h
  refine ⟨fun a u e => ?_, W.nd, W.len, fun n a d e1 e2 => ?_, fun q d' e => ?_, W.tab.to fun a u e e0 e1 e2 => ?_, W.ft⟩
  · rw [upd_ne (ne_of_none e h1)]; exact W.sub a u e
  · obtain ⟨f, u, e3, r⟩ := W.obj n a d e1 e2
    have ha : a ≠ p := fun z => by subst z; exact h2 (List.mem_of_getElem? e1)
    exact ⟨f, u, by rw [upd_ne ha]; exact e3, r⟩
  · by_cases ha : q = p
    · subst ha
      rw [updO_same] at e
      cases e
      exact ⟨h1, h2, upd_same, r⟩
    · rw [updO_ne ha] at e
      obtain ⟨f, nn, e3, r⟩ := W.own q d' e
      exact ⟨f, nn, by rw [upd_ne ha]; exact e3, r⟩
  · have ha : a ≠ p := fun z => by subst z; rw [h] at e2; cases e2
    exact ⟨by rw [upd_ne ha]; exact e, e0, e1, by rw [updO_ne ha]; exact e2⟩
/-- an object by reference changes -/
theorem Wd.setR (W : Wd c nu F H O S) {n : Nat} {p : Addr} {d' : D} (h : nu[n]? = some p) {o : HO} (r : ObjR c nu F o p d') : Wd c nu F (upd H p o) O (S.set n d') := by
  have hl : n < S.length := by rw [← W.len]; exact (List.getElem?_eq_some_iff.mp h).1
  obtain ⟨h1, u0, h3, _⟩ := W.obj n p S[n] h (List.getElem?_eq_getElem hl)
  refine ⟨fun a u e => ?_, W.nd, by rw [List.length_set]; exact W.len, fun m a d e1 e2 => ?_, fun q d' e => ?_, W.tab.to fun a u e e0 e1 e2 => ?_, W.ft⟩
  · rw [upd_ne (ne_of_none e h1)]; exact W.sub a u e
  · by_cases hm : m = n
    · subst hm
      rw [h] at e1
      cases e1
      rw [List.getElem?_set_self hl] at e2
      cases e2
      exact ⟨h1, o, upd_same, r⟩
    · rw [List.getElem?_set_ne (Ne.symm hm)] at e2
      obtain ⟨f, u, e3, r⟩ := W.obj m a d e1 e2
      have ha : a ≠ p := fun z => by
        subst z
        obtain ⟨l1, g1⟩ := List.getElem?_eq_some_iff.mp e1
        obtain ⟨l2, g2⟩ := List.getElem?_eq_some_iff.mp h
        exact hm ((List.getElem_inj W.nd).mp (g1.trans g2.symm))
      exact ⟨f, u, by rw [upd_ne ha]; exact e3, r⟩
  · obtain ⟨f, nn, e3, r⟩ := W.own q d' e
    have ha : q ≠ p := fun z => by subst z; exact nn (List.mem_of_getElem? h)
    exact ⟨f, nn, by rw [upd_ne ha]; exact e3, r⟩
  · have ha : a ≠ p := fun z => by subst z; exact e1 (List.mem_of_getElem? h)
    exact ⟨by rw [upd_ne ha]; exact e, e0, e1, e2⟩
/-- what is one's own is known for ever from now on -/
theorem Wd.freeze (W : Wd c nu F H O S) {p : Addr} {d : D} {u : HO} (h : O p = some (d, u)) : ∃ F', Wd c nu F' H (updO O p none) S ∧ (∀ a o, F a = some o → F' a = some o) ∧ Rep c nu F' d (.ref p) := by
  obtain ⟨h1, h2, h3, r⟩ := W.own p _ h
  dsimp only at h3 r
  have hF : ∀ a o, F a = some o → upd F p u a = some o := fun a o e => by rw [upd_ne (ne_of_none e h1)]; exact e
  have r' := r.mono (nu' := nu) List.prefix_rfl hF
  refine ⟨upd F p u, ⟨fun a o e => ?_, W.nd, W.len, fun n a d e1 e2 => ?_, fun q d' e => ?_, W.tab.to fun a o e e0 e1 e2 => ?_, fun a o e => ?_⟩, hF, ?_⟩
  · by_cases ha : a = p
    · subst ha; rw [upd_same] at e; cases e; exact h3
    · rw [upd_ne ha] at e; exact W.sub a o e
  · obtain ⟨f, o, e3, q⟩ := W.obj n a d e1 e2
    have ha : a ≠ p := fun z => by subst z; exact h2 (List.mem_of_getElem? e1)
    exact ⟨by rw [upd_ne ha]; exact f, o, e3, q.mono List.prefix_rfl hF⟩
  · by_cases ha : q = p
    · subst ha; rw [updO_same] at e; cases e
    · rw [updO_ne ha] at e
      obtain ⟨f, nn, e3, q⟩ := W.own q d' e
      exact ⟨by rw [upd_ne ha]; exact f, nn, e3, q.mono List.prefix_rfl hF⟩
  · have ha : a ≠ p := fun z => by subst z; rw [h] at e2; cases e2
    exact ⟨e, by rw [upd_ne ha]; exact e0, e1, by rw [updO_ne ha]; exact e2⟩
  · by_cases ha : a = p
    · subst ha; rw [upd_same] at e; cases e; exact objR_kind r
    · rw [upd_ne ha] at e; exact W.ft a o e
  · cases d with
    | lst ds => obtain ⟨vs, e, q⟩ := r'; subst e; exact ⟨p, vs, rfl, upd_same, q⟩
    | dic ks ds => obtain ⟨vs, e, q⟩ := r'; exact ⟨p, u, vs, rfl, upd_same, e, q⟩
    | set ks => exact ⟨p, u, rfl, upd_same, r'⟩
    | ins C fs ds => obtain ⟨dx, vs, e, z, q⟩ := r'; subst e; exact ⟨p, dx, vs, rfl, upd_same, z, q⟩
    | _ => exact r'.elim
/-- less of one's own -/
theorem Wd.less {O' : Ow} (W : Wd c nu F H O S) (h : ∀ p d, O' p = some d → O p = some d) : Wd c nu F H O' S := ⟨W.sub, W.nd, W.len, W.obj, fun p d e => W.own p d (h p d e), W.tab.to fun a o e e0 e1 e2 => ⟨e, e0, e1, (by
  cases z : O' a with
  | none => rfl
  | some d => rw [h a d z] at e2; cases e2)⟩, W.ft⟩
/-- a lambda is made: a code object, and its table written -/
theorem Wd.code {H1 : Hp} (W : Wd c nu F H O S) (e : LamX.ExtN H H1) (t : LamX.Tabs c.T H1) : Wd c nu F H1 O S := by
  have k : ∀ a o, Plain o → H a = some o → H1 a = some o := fun a o p h => e a o h p.1
  refine ⟨fun a o h => k a o (W.ft a o h) (W.sub a o h), W.nd, W.len, fun n a d h1 h2 => ?_, fun p x h => ?_, fun p hp => ?_, W.ft⟩
  · obtain ⟨f, o, h3, r⟩ := W.obj n a d h1 h2
    exact ⟨f, o, k a o (objR_kind r) h3, r⟩
  · obtain ⟨f, n, h3, r⟩ := W.own p x h
    exact ⟨f, n, k p _ (objR_kind r) h3, r⟩
  · obtain ⟨h1, h2, h3, _⟩ := W.tab p hp
    obtain ⟨ps, h4, h5, h6⟩ := t p hp
    refine ⟨h1, h2, h3, ps, h4, h5, fun pos cv he => ?_⟩
    obtain ⟨a, e1, e2⟩ := h6 pos cv he
    refine ⟨a, e1, ?_, fun hm => ?_, ?_, e2⟩
    · cases z : F a with
      | none => rfl
      | some o =>
        have := k a o (W.ft a o z) (W.sub a o z)
        rw [e2] at this
        exact ((W.ft a o z).2 _ _ (Option.some.inj this).symm).elim
    · obtain ⟨n, en⟩ := nu_get hm
      have hl : n < S.length := by rw [← W.len]; exact (List.getElem?_eq_some_iff.mp en).1
      obtain ⟨_, o, h3, r⟩ := W.obj n a S[n] en (List.getElem?_eq_getElem hl)
      have := k a o (objR_kind r) h3
      rw [e2] at this
      exact (objR_kind r).2 _ _ (Option.some.inj this).symm
    · cases z : O a with
      | none => rfl
      | some x =>
        obtain ⟨_, _, h3, r⟩ := W.own a x z
        have := k a _ (objR_kind r) h3
        rw [e2] at this
        exact ((objR_kind r).2 _ _ (Option.some.inj this).symm).elim
end
end L3

namespace L3
open PySem PySem.Spec PyProof.Rows L2

/-! ### results -/
inductive SV where | fz (d : D) | own (d : D) | bor (d : D)
def SV.d : SV → D | .fz d => d | .own d => d | .bor d => d
abbrev Rho := List (Option SV)
inductive R (α : Type) where
  | ok (a : α) (S : AS) | ex (C : Str) (fs : List Str) (vs : List D) (S : AS) | bad
def R.bind {α β : Type} (r : R α) (k : α → AS → R β) : R β := match r with
  | .ok a S => k a S | .ex C fs vs S => .ex C fs vs S | .bad => .bad
abbrev ME := Rho → AS → R SV
abbrev MT := Rho → AS → R Bool
abbrev MA := Rho → AS → R (List D)
/-- a value that is kept: what is one's own and new is let go -/
def zD (a : SV) (S : AS) : R D := match a with | .fz d => .ok d S | .own d => .ok d S | .bor _ => .bad
@[simp] theorem bind_ok {α β : Type} (a : α) (S : AS) (k : α → AS → R β) : (R.ok a S).bind k = k a S := rfl
@[simp] theorem bind_ex {α β : Type} (C : Str) (fs : List Str) (vs : List D) (S : AS) (k : α → AS → R β) : (R.ex C fs vs S : R α).bind k = .ex C fs vs S := rfl
@[simp] theorem bind_bad {α β : Type} (k : α → AS → R β) : (R.bad : R α).bind k = .bad := rfl
@[simp] theorem zD_fz (d : D) (S : AS) : zD (.fz d) S = .ok d S := rfl
@[simp] theorem zD_own (d : D) (S : AS) : zD (.own d) S = .ok d S := rfl
@[simp] theorem d_fz (d : D) : (SV.fz d).d = d := rfl
@[simp] theorem d_own (d : D) : (SV.own d).d = d := rfl
@[simp] theorem d_bor (d : D) : (SV.bor d).d = d := rfl
def guardR {α : Type} (p : Prop) [Decidable p] (r : R α) : R α := if p then r else .bad
@[simp] theorem guardR_t {α : Type} {p : Prop} [Decidable p] {r : R α} (h : p) : guardR p r = r := if_pos h

structure SlotR (c : Cn) (nu : List Addr) (F : Hp) (O Oc : Ow) (σ : L2.St) (ρ : Rho) : Prop where
  len : σ.length = ρ.length
  fz : ∀ (i : Nat) d, ρ[i]? = some (some (.fz d)) → ∃ v, σ[i]? = some (some v) ∧ Rep c nu F d v
  own : ∀ (i : Nat) d, ρ[i]? = some (some (.own d)) → ∃ p o, σ[i]? = some (some (.ref p)) ∧ O p = some (d, o) ∧ Oc p = none
  inj : ∀ (i j : Nat) d e p, ρ[i]? = some (some (.own d)) → ρ[j]? = some (some (.own e)) → σ[i]? = some (some (.ref p)) → σ[j]? = some (some (.ref p)) → i = j
  oc : ∀ p d, Oc p = some d → O p = some d
/-- a value as it is found: rel is the base of what is new -/
def VRel (c : Cn) (σ : L2.St) (ρ : Rho) (O : Ow) (nu' : List Addr) (F' : Hp) (O' : Ow) : SV → V → Prop
  | .fz d, v => Rep c nu' F' d v
  | .own d, v => ∃ p o, v = .ref p ∧ O' p = some (d, o) ∧ O p = none
  | .bor d, v => ∃ (p : Addr) (o : HO) (i : Nat), v = .ref p ∧ O' p = some (d, o) ∧ ρ[i]? = some (some (.own d)) ∧ σ[i]? = some (some (.ref p))
/-- the same, for whoever reads -/
def CRel (c : Cn) (nu : List Addr) (F : Hp) (O : Ow) : SV → V → Prop
  | .fz d, v => Rep c nu F d v
  | .own d, v => ∃ p o, v = .ref p ∧ O p = some (d, o)
  | .bor d, v => ∃ p o, v = .ref p ∧ O p = some (d, o)
abbrev RelT (α β : Type) := Ow → List Addr → Hp → Ow → α → β → Prop
def Post {α β : Type} (c : Cn) (W : WX) (σ : L2.St) (Rel : RelT α β) (nu : List Addr) (F : Hp) (O : Ow) (Q : β → Hp → Prop) : R α → Prop
  | .ok a S' => ∀ nu' F' H' O' b, Ext nu F O nu' F' O' → Wd c nu' F' H' O' S' → Rel O nu' F' O' a b → Q b H'
  | .ex C fs vs S' => ∀ nu' F' H' O' dx ws, Ext nu F O nu' F' O' → Wd c nu' F' H' O' S' → F' dx = some (.xd (fs.zip ws)) → fs.length = ws.length → RepL c nu' F' vs ws → W (.ref (c.ca C)) (some dx) σ H'
  | .bad => False
def RelM {α β : Type} (Rel : RelT α β) : Prop := ∀ (O O1 : Ow) nu F O' a b, (∀ p d, O p = some d → O1 p = some d) → Rel O1 nu F O' a b → Rel O nu F O' a b
section
variable {c : Cn} {W : WX} {σ : L2.St} {ρ : Rho} {nu nu1 : List Addr} {F F1 H : Hp} {O O1 Oc : Ow} {S : AS}
theorem SlotR.mono (s : SlotR c nu F O Oc σ ρ) (e : Ext nu F O nu1 F1 O1) : SlotR c nu1 F1 O1 Oc σ ρ :=
  ⟨s.len, fun i d h => let ⟨v, h1, h2⟩ := s.fz i d h; ⟨v, h1, Rep.mono e.nu e.F _ _ h2⟩, fun i d h => let ⟨p, o, h1, h2, h3⟩ := s.own i d h; ⟨p, o, h1, e.O _ _ h2, h3⟩, s.inj, fun p d h => e.O _ _ (s.oc p d h)⟩
theorem VRel.mono {nu0 : List Addr} {O0 : Ow} {a : SV} {v : V} (e : Ext nu F O nu1 F1 O1) (h : VRel c σ ρ O0 nu F O a v) : VRel c σ ρ O0 nu1 F1 O1 a v := by
  cases a with
  | fz d => exact Rep.mono e.nu e.F _ _ h
  | own d => obtain ⟨p, o, h1, h2, h3⟩ := h; exact ⟨p, o, h1, e.O _ _ h2, h3⟩
  | bor d => obtain ⟨p, o, i, h1, h2, h3⟩ := h; exact ⟨p, o, i, h1, e.O _ _ h2, h3⟩
theorem VRel.toC {O0 : Ow} {a : SV} {v : V} (h : VRel c σ ρ O0 nu F O a v) : CRel c nu F O a v := by
  cases a with
  | fz d => exact h
  | own d => obtain ⟨p, o, h1, h2, h3⟩ := h; exact ⟨p, o, h1, h2⟩
  | bor d => obtain ⟨p, o, i, h1, h2, h3⟩ := h; exact ⟨p, o, h1, h2⟩
theorem CRel.mono {a : SV} {v : V} (e : Ext nu F O nu1 F1 O1) (h : CRel c nu F O a v) : CRel c nu1 F1 O1 a v := by
  cases a with
  | fz d => exact Rep.mono e.nu e.F _ _ h
  | own d => obtain ⟨p, o, h1, h2⟩ := h; exact ⟨p, o, h1, e.O _ _ h2⟩
  | bor d => obtain ⟨p, o, h1, h2⟩ := h; exact ⟨p, o, h1, e.O _ _ h2⟩
theorem vrelM : RelM (VRel c σ ρ) := fun O O1 nu F O' a b hO h => by
  cases a with
  | fz d => exact h
  | own d =>
    obtain ⟨p, o, h1, h2, h3⟩ := h
    refine ⟨p, o, h1, h2, ?_⟩
    cases e : O p with
    | none => rfl
    | some d => rw [hO p d e] at h3; cases h3
  | bor d => exact h
/-- from a later base -/
theorem Post.base {α β : Type} {Rel : RelT α β} (hR : RelM Rel) {Q : β → Hp → Prop} {r : R α} (e : Ext nu F O nu1 F1 O1) (h : Post c W σ Rel nu F O Q r) : Post c W σ Rel nu1 F1 O1 Q r := by
  cases r with
  | ok a S' => exact fun nu' F' H' O' b e1 w r1 => h nu' F' H' O' b (e.trans e1) w (hR _ _ _ _ _ _ _ e.O r1)
  | ex C fs vs S' => exact fun nu' F' H' O' dx ws e1 w r1 r2 r3 => h nu' F' H' O' dx ws (e.trans e1) w r1 r2 r3
  | bad => exact h
/-- one part behind another -/
theorem Post.bind {α β γ δ : Type} {Rel : RelT α β} {Rel2 : RelT γ δ} (hR : RelM Rel2) {Q : δ → Hp → Prop} {T : β → Hp → Prop} {r : R α} {k : α → AS → R γ} (h : Post c W σ Rel2 nu F O Q (r.bind k))
    (hk : ∀ a S1 nu1 F1 H1 O1 x, Ext nu F O nu1 F1 O1 → Wd c nu1 F1 H1 O1 S1 → Rel O nu1 F1 O1 a x → Post c W σ Rel2 nu1 F1 O1 Q (k a S1) → T x H1) : Post c W σ Rel nu F O T r := by
  cases r with
  | ok a S' => exact fun nu' F' H' O' b e1 w r1 => hk a S' nu' F' H' O' b e1 w r1 (Post.base hR e1 h)
  | ex C fs vs S' => exact h
  | bad => exact h
theorem Post.bind0 {α β γ δ : Type} {Rel : RelT α β} {Rel2 : RelT γ δ} {Q : δ → Hp → Prop} {T : β → Hp → Prop} {r : R α} {k : α → AS → R γ} (h : Post c W σ Rel2 nu F O Q (r.bind k))
    (hk : ∀ a S1 nu1 F1 H1 O1 x, Ext nu F O nu1 F1 O1 → Wd c nu1 F1 H1 O1 S1 → Rel O nu1 F1 O1 a x → Post c W σ Rel2 nu F O Q (k a S1) → T x H1) : Post c W σ Rel nu F O T r := by
  cases r with
  | ok a S' => exact fun nu' F' H' O' b e1 w r1 => hk a S' nu' F' H' O' b e1 w r1 h
  | ex C fs vs S' => exact h
  | bad => exact h
end
/-! ### what a reading does -/
def SimE (c : Cn) (W : WX) (te : TE) (m : ME) : Prop := ∀ nu F H O Oc S σ ρ Q, Wd c nu F H O S → SlotR c nu F O Oc σ ρ → Post c W σ (VRel c σ ρ) nu F O Q (m ρ S) → te σ H Q
def bRel : RelT Bool Bool := fun _ _ _ _ a b => a = b
def SimT (c : Cn) (W : WX) (tt : TT) (m : MT) : Prop := ∀ nu F H O Oc S σ ρ Q, Wd c nu F H O S → SlotR c nu F O Oc σ ρ → Post c W σ bRel nu F O Q (m ρ S) → tt σ H Q
def lRel (c : Cn) : RelT (List D) (List V) := fun _ nu F _ a b => RepL c nu F a b
def SimA (c : Cn) (W : WX) (ta : TA) (m : MA) : Prop := ∀ nu F H O Oc S σ ρ Q, Wd c nu F H O S → SlotR c nu F O Oc σ ρ → Post c W σ (lRel c) nu F O Q (m ρ S) → ta σ H Q
theorem bRelM : RelM bRel := fun _ _ _ _ _ _ _ _ h => h
theorem lRelM {c : Cn} : RelM (lRel c) := fun _ _ _ _ _ _ _ _ h => h
section
variable {c : Cn} {W : WX} {ta tb tx : TE} {ma mb mx : ME} {tt tu : TT} {mt mu : MT}
/-! names, constants -/
def eVar (i : Nat) : ME := fun ρ S => match ρ[i]? with
  | some (some (.fz d)) => .ok (.fz d) S
  | some (some (.own d)) => .ok (.bor d) S
  | _ => .bad
theorem sim_var (i : Nat) : SimE c W (tVar i) (eVar i) := fun nu F H O Oc S σ ρ Q w s h => by
  unfold eVar at h
  split at h
  · rename_i d e
    obtain ⟨v, h1, h2⟩ := s.fz i d e
    exact ⟨v, h1, h nu F H O v (Ext.refl ..) w h2⟩
  · rename_i d e
    obtain ⟨p, o, h1, h2, h3⟩ := s.own i d e
    exact ⟨.ref p, h1, h nu F H O (.ref p) (Ext.refl ..) w ⟨p, o, i, rfl, h2, e, h1⟩⟩
  · exact h.elim
def eC (d : D) : ME := fun _ S => .ok (.fz d) S
/-- a constant, a global -/
theorem sim_c {v : V} {d : D} (r : ∀ nu F, Rep c nu F d v) : SimE c W (tC v) (eC d) := fun nu F H O Oc S σ ρ Q w s h => h nu F H O v (Ext.refl ..) w (r nu F)
theorem sim_int {i : Int} : SimE c W (tC (.int i)) (eC (.int i)) := sim_c fun _ _ => rfl
theorem sim_str {x : Str} : SimE c W (tC (.str x)) (eC (.str x)) := sim_c fun _ _ => rfl
theorem sim_bl {x : Bool} : SimE c W (tC (.bl x)) (eC (.bl x)) := sim_c fun _ _ => rfl
theorem sim_non : SimE c W (tC .non) (eC .non) := sim_c fun _ _ => rfl
theorem sim_ty {n : String} : SimE c W (tC (.ty n)) (eC (.ty n)) := sim_c fun _ _ => rfl
theorem sim_fn {x : Str} : SimE c W (tC (.ref (c.ca x))) (eC (.fn x)) := sim_c fun _ _ => rfl

/-! an operation on values -/
abbrev MO := D → D → AS → R SV
abbrev MO1 := D → AS → R SV
def R2S (c : Cn) (W : WX) (r : R2) (g : MO) : Prop := ∀ nu F H O S σ ρ Q a b x y, Wd c nu F H O S → CRel c nu F O a x → CRel c nu F O b y → Post c W σ (VRel c σ ρ) nu F O Q (g a.d b.d S) → r x y H Q
def R1S (c : Cn) (W : WX) (r : V → Hp → VK → Prop) (g : MO1) : Prop := ∀ nu F H O S σ ρ Q a x, Wd c nu F H O S → CRel c nu F O a x → Post c W σ (VRel c σ ρ) nu F O Q (g a.d S) → r x H Q
def eOp (g : MO) (ma mb : ME) : ME := fun ρ S => (ma ρ S).bind fun a S1 => (mb ρ S1).bind fun b S2 => g a.d b.d S2
def eUn (g : MO1) (ma : ME) : ME := fun ρ S => (ma ρ S).bind fun a S1 => g a.d S1
theorem sim_op {r : R2} {g : MO} (hr : R2S c W r g) (ha : SimE c W ta ma) (hb : SimE c W tb mb) : SimE c W (tOp r ta tb) (eOp g ma mb) := fun nu F H O Oc S σ ρ Q w s h =>
  ha nu F H O Oc S σ ρ _ w s (Post.bind vrelM h fun a S1 nu1 F1 H1 O1 x e1 w1 v1 h1 =>
    hb nu1 F1 H1 O1 Oc S1 σ ρ _ w1 (s.mono e1) (Post.bind vrelM h1 fun b S2 nu2 F2 H2 O2 y e2 w2 v2 h2 =>
      hr nu2 F2 H2 O2 S2 σ ρ Q a b x y w2 (v1.toC.mono e2) v2.toC h2))
theorem sim_un {r : V → Hp → VK → Prop} {g : MO1} (hr : R1S c W r g) (ha : SimE c W ta ma) : SimE c W (tUn r ta) (eUn g ma) := fun nu F H O Oc S σ ρ Q w s h =>
  ha nu F H O Oc S σ ρ _ w s (Post.bind vrelM h fun a S1 nu1 F1 H1 O1 x e1 w1 v1 h1 => hr nu1 F1 H1 O1 S1 σ ρ Q a x w1 v1.toC h1)
/-! reading what stands there -/
section
variable {nu : List Addr} {F H : Hp} {O : Ow} {S : AS} {a : SV} {x : V}
theorem CRel.int (w : Wd c nu F H O S) (h : CRel c nu F O a x) {i : Int} (e : a.d = .int i) : x = .int i := by
  cases a with
  | fz d => cases e; exact h
  | own d => cases e; obtain ⟨p, o, _, q⟩ := h; obtain ⟨_, _, _, r⟩ := w.own p _ q; exact r.elim
  | bor d => cases e; obtain ⟨p, o, _, q⟩ := h; obtain ⟨_, _, _, r⟩ := w.own p _ q; exact r.elim
theorem CRel.str (w : Wd c nu F H O S) (h : CRel c nu F O a x) {i : Str} (e : a.d = .str i) : x = .str i := by
  cases a with
  | fz d => cases e; exact h
  | own d => cases e; obtain ⟨p, o, _, q⟩ := h; obtain ⟨_, _, _, r⟩ := w.own p _ q; exact r.elim
  | bor d => cases e; obtain ⟨p, o, _, q⟩ := h; obtain ⟨_, _, _, r⟩ := w.own p _ q; exact r.elim
theorem CRel.bl (w : Wd c nu F H O S) (h : CRel c nu F O a x) {i : Bool} (e : a.d = .bl i) : x = .bl i := by
  cases a with
  | fz d => cases e; exact h
  | own d => cases e; obtain ⟨p, o, _, q⟩ := h; obtain ⟨_, _, _, r⟩ := w.own p _ q; exact r.elim
  | bor d => cases e; obtain ⟨p, o, _, q⟩ := h; obtain ⟨_, _, _, r⟩ := w.own p _ q; exact r.elim
theorem CRel.ty (w : Wd c nu F H O S) (h : CRel c nu F O a x) {i : String} (e : a.d = .ty i) : x = .ty i := by
  cases a with
  | fz d => cases e; exact h
  | own d => cases e; obtain ⟨p, o, _, q⟩ := h; obtain ⟨_, _, _, r⟩ := w.own p _ q; exact r.elim
  | bor d => cases e; obtain ⟨p, o, _, q⟩ := h; obtain ⟨_, _, _, r⟩ := w.own p _ q; exact r.elim
theorem CRel.tup (w : Wd c nu F H O S) (h : CRel c nu F O a x) {ds : List D} (e : a.d = .tup ds) : ∃ p vs, x = .ref p ∧ SqT c.K H p vs ∧ RepL c nu F ds vs := by
  cases a with
  | fz d => cases e; obtain ⟨p, vs, h1, h2, h3⟩ := h; exact ⟨p, vs, h1, sqT_mono w.sub h2, h3⟩
  | own d => cases e; obtain ⟨p, o, _, q⟩ := h; obtain ⟨_, _, _, r⟩ := w.own p _ q; exact r.elim
  | bor d => cases e; obtain ⟨p, o, _, q⟩ := h; obtain ⟨_, _, _, r⟩ := w.own p _ q; exact r.elim
theorem CRel.scr (w : Wd c nu F H O S) (h : CRel c nu F O a x) {ns : List Int} (e : a.d = .scr ns) : ∃ p, x = .ref p ∧ SqL c.K H p (ns.map V.int) := by
  cases a with
  | fz d => cases e; obtain ⟨p, h1, h2⟩ := h; exact ⟨p, h1, sqL_mono w.sub h2⟩
  | own d => cases e; obtain ⟨p, o, _, q⟩ := h; obtain ⟨_, _, _, r⟩ := w.own p _ q; exact r.elim
  | bor d => cases e; obtain ⟨p, o, _, q⟩ := h; obtain ⟨_, _, _, r⟩ := w.own p _ q; exact r.elim
theorem CRel.lst (w : Wd c nu F H O S) (h : CRel c nu F O a x) {ds : List D} (e : a.d = .lst ds) : ∃ p vs, x = .ref p ∧ H p = some (.lst vs) ∧ RepL c nu F ds vs := by
  cases a with
  | fz d => cases e; obtain ⟨p, vs, h1, h2, h3⟩ := h; exact ⟨p, vs, h1, w.sub _ _ h2, h3⟩
  | own d => cases e; obtain ⟨p, o, h1, q⟩ := h; obtain ⟨_, _, h2, vs, r1, r2⟩ := w.own p _ q; dsimp only at r1 h2; subst r1; exact ⟨p, vs, h1, h2, r2⟩
  | bor d => cases e; obtain ⟨p, o, h1, q⟩ := h; obtain ⟨_, _, h2, vs, r1, r2⟩ := w.own p _ q; dsimp only at r1 h2; subst r1; exact ⟨p, vs, h1, h2, r2⟩
theorem CRel.dic (w : Wd c nu F H O S) (h : CRel c nu F O a x) {ks ds : List D} (e : a.d = .dic ks ds) : ∃ p o vs, x = .ref p ∧ H p = some o ∧ DicO o ks vs ∧ RepL c nu F ds vs := by
  cases a with
  | fz d => cases e; obtain ⟨p, o, vs, h1, h2, h3, h4⟩ := h; exact ⟨p, o, vs, h1, w.sub _ _ h2, h3, h4⟩
  | own d => cases e; obtain ⟨p, o, h1, q⟩ := h; obtain ⟨_, _, h2, vs, r1, r2⟩ := w.own p _ q; exact ⟨p, o, vs, h1, h2, r1, r2⟩
  | bor d => cases e; obtain ⟨p, o, h1, q⟩ := h; obtain ⟨_, _, h2, vs, r1, r2⟩ := w.own p _ q; exact ⟨p, o, vs, h1, h2, r1, r2⟩
theorem CRel.ref (w : Wd c nu F H O S) (h : CRel c nu F O a x) {n : Nat} (e : a.d = .ref n) : ∃ p, x = .ref p ∧ nu[n]? = some p := by
  cases a with
  | fz d => cases e; obtain ⟨p, h1, h2⟩ := h; exact ⟨p, h2, h1⟩
  | own d => cases e; obtain ⟨p, o, _, q⟩ := h; obtain ⟨_, _, _, r⟩ := w.own p _ q; exact r.elim
  | bor d => cases e; obtain ⟨p, o, _, q⟩ := h; obtain ⟨_, _, _, r⟩ := w.own p _ q; exact r.elim
theorem Wd.at (w : Wd c nu F H O S) {n : Nat} {p : Addr} (h : nu[n]? = some p) {d : D} (e : S[n]? = some d) : ∃ o, H p = some o ∧ ObjR c nu F o p d := (w.obj n p d h e).2
/-- an answer that is a plain value -/
theorem Post.fz {σ : L2.St} {ρ : Rho} {Q : VK} {d : D} {v : V} (w : Wd c nu F H O S) (h : Post c W σ (VRel c σ ρ) nu F O Q (.ok (.fz d) S)) (r : Rep c nu F d v) : Q v H := h nu F H O v (Ext.refl ..) w r
theorem Post.own {σ : L2.St} {ρ : Rho} {Q : VK} {d : D} (w : Wd c nu F H O S) (h : Post c W σ (VRel c σ ρ) nu F O Q (.ok (.own d) S)) {p : Addr} (hp : H p = none) {o : HO} (r : ObjR c nu F o p d) : Q (.ref p) (upd H p o) := by
  obtain ⟨w1, e1⟩ := w.newO hp r
  exact h nu F _ _ (.ref p) e1 w1 ⟨p, o, rfl, updO_same, (w.fresh hp).2.2⟩
theorem Post.tup {σ : L2.St} {ρ : Rho} {Q : VK} {ds : List D} {vs : List V} (w : Wd c nu F H O S) (h : Post c W σ (VRel c σ ρ) nu F O Q (.ok (.fz (.tup ds)) S)) {p : Addr} (hp : H p = none) (r : RepL c nu F ds vs) : Q (.ref p) (upd H p (.tup vs)) := by
  obtain ⟨w1, e1⟩ := w.newF hp (.tup vs)
  exact h nu _ _ O (.ref p) e1 w1 ⟨p, vs, rfl, .inl (.inl upd_same), RepL.mono e1.nu e1.F _ _ r⟩
end
end
end L3

namespace L3
open PySem PySem.Spec PyProof.Rows L2

section
variable {c : Cn} {W : WX} {ta tb tx : TE} {ma mb mx : ME} {tt tu : TT} {mt mu : MT}
/-! ### tests -/
def mTest (m : ME) : MT := fun ρ S => (m ρ S).bind fun a S1 => match a.d with | .bl b => .ok b S1 | _ => .bad
theorem sim_test (h : SimE c W ta ma) : SimT c W (tTest ta) (mTest ma) := fun nu F H O Oc S σ ρ Q w s hp =>
  h nu F H O Oc S σ ρ _ w s (Post.bind bRelM hp fun a S1 nu1 F1 H1 O1 x e1 w1 v1 h1 => by
    split at h1
    · rename_i b e
      exact ⟨b, v1.toC.bl w1 e, h1 nu1 F1 H1 O1 b (Ext.refl ..) w1 rfl⟩
    · exact h1.elim)
theorem sim_tB (h : SimE c W ta ma) : SimT c W (tB ta) (mTest ma) := fun nu F H O Oc S σ ρ Q w s hp =>
  h nu F H O Oc S σ ρ _ w s (Post.bind bRelM hp fun a S1 nu1 F1 H1 O1 x e1 w1 v1 h1 => by
    split at h1
    · rename_i b e
      exact ⟨b, v1.toC.bl w1 e, h1 nu1 F1 H1 O1 b (Ext.refl ..) w1 rfl⟩
    · exact h1.elim)
def mAnd (m n : MT) : MT := fun ρ S => (m ρ S).bind fun a S1 => if a = true then n ρ S1 else .ok false S1
def mOr (m n : MT) : MT := fun ρ S => (m ρ S).bind fun a S1 => if a = true then .ok true S1 else n ρ S1
def mNot (m : MT) : MT := fun ρ S => (m ρ S).bind fun a S1 => .ok (!a) S1
theorem sim_and (h : SimT c W tt mt) (k : SimT c W tu mu) : SimT c W (tAnd tt tu) (mAnd mt mu) := fun nu F H O Oc S σ ρ Q w s hp =>
  h nu F H O Oc S σ ρ _ w s (Post.bind bRelM hp fun a S1 nu1 F1 H1 O1 x e1 w1 v1 h1 => by
    cases (show a = x from v1)
    cases a with
    | true => exact k nu1 F1 H1 O1 Oc S1 σ ρ Q w1 (s.mono e1) h1
    | false => exact h1 nu1 F1 H1 O1 _ (Ext.refl ..) w1 rfl)
theorem sim_or (h : SimT c W tt mt) (k : SimT c W tu mu) : SimT c W (tOr tt tu) (mOr mt mu) := fun nu F H O Oc S σ ρ Q w s hp =>
  h nu F H O Oc S σ ρ _ w s (Post.bind bRelM hp fun a S1 nu1 F1 H1 O1 x e1 w1 v1 h1 => by
    cases (show a = x from v1)
    cases a with
    | false => exact k nu1 F1 H1 O1 Oc S1 σ ρ Q w1 (s.mono e1) h1
    | true => exact h1 nu1 F1 H1 O1 _ (Ext.refl ..) w1 rfl)
theorem sim_not (h : SimT c W tt mt) : SimT c W (tNot tt) (mNot mt) := fun nu F H O Oc S σ ρ Q w s hp =>
  h nu F H O Oc S σ ρ _ w s (Post.bind bRelM hp fun a S1 nu1 F1 H1 O1 x e1 w1 v1 h1 => by
    cases (show a = x from v1)
    exact h1 nu1 F1 H1 O1 _ (Ext.refl ..) w1 rfl)
def eAndV (m n : ME) : ME := fun ρ S => (m ρ S).bind fun a S1 => match a.d with | .bl true => n ρ S1 | .bl false => .ok (.fz (.bl false)) S1 | _ => .bad
def eOrV (m n : ME) : ME := fun ρ S => (m ρ S).bind fun a S1 => match a.d with | .bl false => n ρ S1 | .bl true => .ok (.fz (.bl true)) S1 | _ => .bad
def eNotV (m : ME) : ME := fun ρ S => (m ρ S).bind fun a S1 => match a.d with | .bl b => .ok (.fz (.bl (!b))) S1 | _ => .bad
theorem sim_andV (h : SimE c W ta ma) (k : SimE c W tb mb) : SimE c W (tAndV ta tb) (eAndV ma mb) := fun nu F H O Oc S σ ρ Q w s hp =>
  h nu F H O Oc S σ ρ _ w s (Post.bind vrelM hp fun a S1 nu1 F1 H1 O1 x e1 w1 v1 h1 => by
    split at h1
    · rename_i e
      refine ⟨true, v1.toC.bl w1 e, ?_⟩
      rw [if_pos rfl]
      exact k nu1 F1 H1 O1 Oc S1 σ ρ Q w1 (s.mono e1) h1
    · rename_i e
      refine ⟨false, v1.toC.bl w1 e, ?_⟩
      rw [if_neg (by decide)]
      exact h1.fz w1 rfl
    · exact h1.elim)
theorem sim_orV (h : SimE c W ta ma) (k : SimE c W tb mb) : SimE c W (tOrV ta tb) (eOrV ma mb) := fun nu F H O Oc S σ ρ Q w s hp =>
  h nu F H O Oc S σ ρ _ w s (Post.bind vrelM hp fun a S1 nu1 F1 H1 O1 x e1 w1 v1 h1 => by
    split at h1
    · rename_i e
      refine ⟨false, v1.toC.bl w1 e, ?_⟩
      rw [if_neg (by decide)]
      exact k nu1 F1 H1 O1 Oc S1 σ ρ Q w1 (s.mono e1) h1
    · rename_i e
      refine ⟨true, v1.toC.bl w1 e, ?_⟩
      rw [if_pos rfl]
      exact h1.fz w1 rfl
    · exact h1.elim)
theorem sim_notV (h : SimE c W ta ma) : SimE c W (tNotV ta) (eNotV ma) := fun nu F H O Oc S σ ρ Q w s hp =>
  h nu F H O Oc S σ ρ _ w s (Post.bind vrelM hp fun a S1 nu1 F1 H1 O1 x e1 w1 v1 h1 => by
    split at h1
    · rename_i b e
      exact ⟨b, v1.toC.bl w1 e, h1.fz w1 rfl⟩
    · exact h1.elim)
def eIf (t : MT) (m n : ME) : ME := fun ρ S => (t ρ S).bind fun a S1 => if a = true then m ρ S1 else n ρ S1
theorem sim_ifE (h : SimT c W tt mt) (k : SimE c W ta ma) (l : SimE c W tb mb) : SimE c W (tIf tt ta tb) (eIf mt ma mb) := fun nu F H O Oc S σ ρ Q w s hp =>
  h nu F H O Oc S σ ρ _ w s (Post.bind vrelM hp fun a S1 nu1 F1 H1 O1 x e1 w1 v1 h1 => by
    cases (show a = x from v1)
    cases a with
    | true => exact k nu1 F1 H1 O1 Oc S1 σ ρ Q w1 (s.mono e1) h1
    | false => exact l nu1 F1 H1 O1 Oc S1 σ ρ Q w1 (s.mono e1) h1)
/-! a chain of two comparisons -/
def eChain (g g' : MO) (ma mb mc : ME) : ME := fun ρ S => (ma ρ S).bind fun a S1 => (mb ρ S1).bind fun b S2 => (g a.d b.d S2).bind fun z S3 => match z.d with
  | .bl true => (mc ρ S3).bind fun x S4 => g' b.d x.d S4
  | .bl false => .ok (.fz (.bl false)) S3
  | _ => .bad
theorem sim_chain {r r' : R2} {g g' : MO} {tc : TE} {mc : ME} (hr : R2S c W r g) (hr' : R2S c W r' g') (ha : SimE c W ta ma) (hb : SimE c W tb mb) (hc : SimE c W tc mc) : SimE c W (tChain r r' ta tb tc) (eChain g g' ma mb mc) := fun nu F H O Oc S σ ρ Q w s h =>
  ha nu F H O Oc S σ ρ _ w s (Post.bind vrelM h fun a S1 nu1 F1 H1 O1 x e1 w1 v1 h1 =>
    hb nu1 F1 H1 O1 Oc S1 σ ρ _ w1 (s.mono e1) (Post.bind vrelM h1 fun b S2 nu2 F2 H2 O2 y e2 w2 v2 h2 =>
      hr nu2 F2 H2 O2 S2 σ ρ _ a b x y w2 (v1.toC.mono e2) v2.toC (Post.bind vrelM h2 fun z S3 nu3 F3 H3 O3 u e3 w3 v3 h3 => by
        split at h3
        · rename_i e
          refine ⟨true, v3.toC.bl w3 e, ?_⟩
          rw [if_pos rfl]
          exact hc nu3 F3 H3 O3 Oc S3 σ ρ _ w3 (((s.mono e1).mono e2).mono e3) (Post.bind vrelM h3 fun x' S4 nu4 F4 H4 O4 y' e4 w4 v4 h4 =>
            hr' nu4 F4 H4 O4 S4 σ ρ Q b x' y y' w4 ((v2.toC.mono e3).mono e4) v4.toC h4)
        · rename_i e
          refine ⟨false, v3.toC.bl w3 e, ?_⟩
          rw [if_neg (by decide)]
          exact h3.fz w3 rfl
        · exact h3.elim)))

/-! ### arguments, displays -/
def aNil : MA := fun _ S => .ok [] S
def aCons (m : ME) (n : MA) : MA := fun ρ S => (m ρ S).bind fun a S1 => (zD a S1).bind fun d S2 => (n ρ S2).bind fun ds S3 => .ok (d :: ds) S3
/-- a value is let go where it is one's own -/
theorem zD_run {α β : Type} {σ : L2.St} {ρ : Rho} {Rel : RelT α β} {nu nu1 : List Addr} {F F1 H1 : Hp} {O O1 : Ow} {S1 : AS} {Q : β → Hp → Prop} {a : SV} {x : V} {k : D → AS → R α} (hR : RelM Rel) (e1 : Ext nu F O nu1 F1 O1) (w1 : Wd c nu1 F1 H1 O1 S1)
    (v1 : VRel c σ ρ O nu1 F1 O1 a x) (h : Post c W σ Rel nu F O Q ((zD a S1).bind k)) :
    ∃ F2 O2 d, Ext nu F O nu1 F2 O2 ∧ Wd c nu1 F2 H1 O2 S1 ∧ Rep c nu1 F2 d x ∧ Post c W σ Rel nu1 F2 O2 Q (k d S1) := by
  cases a with
  | fz d => exact ⟨F1, O1, d, e1, w1, v1, Post.base hR e1 h⟩
  | own d =>
    obtain ⟨p, o, rfl, hp, h0⟩ := v1
    obtain ⟨F2, w2, hF, r⟩ := w1.freeze hp
    have e2 : Ext nu F O nu1 F2 (updO O1 p none) := ⟨e1.nu, fun a o q => hF _ _ (e1.F a o q), fun q d' z => by
      rw [updO_ne (fun y => by rw [y, h0] at z; cases z)]
      exact e1.O _ _ z⟩
    exact ⟨F2, _, d, e2, w2, r, Post.base hR e2 h⟩
  | bor d => exact h.elim
theorem sim_nil : SimA c W tNil aNil := fun nu F H O Oc S σ ρ Q w s h => h nu F H O [] (Ext.refl ..) w rfl
theorem sim_cons {tr : TA} {mr : MA} (h : SimE c W ta ma) (k : SimA c W tr mr) : SimA c W (tCons ta tr) (aCons ma mr) := fun nu F H O Oc S σ ρ Q w s hp =>
  h nu F H O Oc S σ ρ _ w s (Post.bind0 hp fun a S1 nu1 F1 H1 O1 x e1 w1 v1 h1 => by
    obtain ⟨F2, O2, d, e2, w2, r2, h2⟩ := zD_run lRelM e1 w1 v1 h1
    exact k nu1 F2 H1 O2 Oc S1 σ ρ _ w2 (s.mono e2) (Post.bind lRelM h2 fun ds S3 nu3 F3 H3 O3 vs e3 w3 v3 h3 =>
      h3 nu3 F3 H3 O3 (x :: vs) (Ext.refl ..) w3 ⟨x, vs, rfl, Rep.mono e3.nu e3.F _ _ r2, v3⟩))
def eTup (m : MA) : ME := fun ρ S => (m ρ S).bind fun ds S1 => guardR (ds.length ≤ sizeLine) (.ok (.fz (.tup ds)) S1)
def eLst (m : MA) : ME := fun ρ S => (m ρ S).bind fun ds S1 => guardR (ds.length ≤ sizeLine) (.ok (.own (.lst ds)) S1)
/-- a list by reference -/
def eLstR (m : MA) : ME := fun ρ S => (m ρ S).bind fun ds S1 => guardR (ds.length ≤ sizeLine) (.ok (.fz (.ref S1.length)) (S1 ++ [.lst ds]))
theorem Post.guard {α β : Type} {σ : L2.St} {Rel : RelT α β} {nu : List Addr} {F : Hp} {O : Ow} {Q : β → Hp → Prop} {p : Prop} [Decidable p] {r : R α} (h : Post c W σ Rel nu F O Q (guardR p r)) : p ∧ Post c W σ Rel nu F O Q r := by
  unfold guardR at h
  split at h
  · exact ⟨by assumption, h⟩
  · exact h.elim
theorem sim_tup {t : TA} {m : MA} (h : SimA c W t m) : SimE c W (tTup t) (eTup m) := fun nu F H O Oc S σ ρ Q w s hp =>
  h nu F H O Oc S σ ρ _ w s (Post.bind vrelM hp fun ds S1 nu1 F1 H1 O1 vs e1 w1 v1 h1 => by
    obtain ⟨hl, h1⟩ := h1.guard
    have v2 : RepL c nu1 F1 ds vs := v1
    exact ⟨by rw [← v2.len]; exact hl, fun p hp => h1.tup w1 hp v2⟩)
theorem sim_lst {t : TA} {m : MA} (h : SimA c W t m) : SimE c W (tLst t) (eLst m) := fun nu F H O Oc S σ ρ Q w s hp =>
  h nu F H O Oc S σ ρ _ w s (Post.bind vrelM hp fun ds S1 nu1 F1 H1 O1 vs e1 w1 v1 h1 => by
    obtain ⟨hl, h1⟩ := h1.guard
    have v2 : RepL c nu1 F1 ds vs := v1
    exact ⟨by rw [← v2.len]; exact hl, fun p hp => h1.own w1 hp ⟨vs, rfl, v2⟩⟩)
theorem sim_lstR {t : TA} {m : MA} (h : SimA c W t m) : SimE c W (tLst t) (eLstR m) := fun nu F H O Oc S σ ρ Q w s hp =>
  h nu F H O Oc S σ ρ _ w s (Post.bind vrelM hp fun ds S1 nu1 F1 H1 O1 vs e1 w1 v1 h1 => by
    obtain ⟨hl, h1⟩ := h1.guard
    have v2 : RepL c nu1 F1 ds vs := v1
    refine ⟨by rw [← v2.len]; exact hl, fun p hp => ?_⟩
    obtain ⟨w2, e2⟩ := w1.newR hp (o := .lst vs) (d := .lst ds) ⟨vs, rfl, v2⟩
    exact h1 _ _ _ _ (.ref p) e2 w2 ⟨p, by rw [← w1.len, List.getElem?_append_right (Nat.le_refl _), Nat.sub_self]; rfl, rfl⟩)

/-! ### calls of built-in things, of methods of built-in types -/
abbrev ML := List D → AS → R SV
def RLS (c : Cn) (W : WX) (r : List V → Hp → VK → Prop) (g : ML) : Prop := ∀ nu F H O S σ ρ Q ds vs, Wd c nu F H O S → RepL c nu F ds vs → Post c W σ (VRel c σ ρ) nu F O Q (g ds S) → r vs H Q
def RC1 (c : Cn) (W : WX) (r : List V → Hp → VK → Prop) (g : MO1) : Prop := ∀ nu F H O S σ ρ Q a x, Wd c nu F H O S → CRel c nu F O a x → Post c W σ (VRel c σ ρ) nu F O Q (g a.d S) → r [x] H Q
def eCB (g : ML) (m : MA) : ME := fun ρ S => (m ρ S).bind fun ds S1 => g ds S1
theorem sim_cb {r : List V → Hp → VK → Prop} {g : ML} {t : TA} {m : MA} (hr : RLS c W r g) (h : SimA c W t m) : SimE c W (tCB r t) (eCB g m) := fun nu F H O Oc S σ ρ Q w s hp =>
  h nu F H O Oc S σ ρ _ w s (Post.bind vrelM hp fun ds S1 nu1 F1 H1 O1 vs e1 w1 v1 h1 => hr nu1 F1 H1 O1 S1 σ ρ Q ds vs w1 v1 h1)
/-- of one thing, read -/
theorem sim_cb1 {r : List V → Hp → VK → Prop} {g : MO1} (hr : RC1 c W r g) (h : SimE c W ta ma) : SimE c W (tCB r (tCons ta tNil)) (eUn g ma) := fun nu F H O Oc S σ ρ Q w s hp =>
  h nu F H O Oc S σ ρ _ w s (Post.bind vrelM hp fun a S1 nu1 F1 H1 O1 x e1 w1 v1 h1 => hr nu1 F1 H1 O1 S1 σ ρ Q a x w1 v1.toC h1)
/-- a method of texts, of one thing read -/
def RM1 (c : Cn) (W : WX) (T : String) (r : V → List V → Hp → VK → Prop) (g : MO) : Prop := ∀ nu F H O S σ ρ Q a b x y, Wd c nu F H O S → CRel c nu F O a x → CRel c nu F O b y → Post c W σ (VRel c σ ρ) nu F O Q (g a.d b.d S) → tyV c.K T x H ∧ r x [y] H Q
end
end L3

namespace L3
open PySem PySem.Spec PyProof.Rows L2

/-! ### statements -/
inductive SR where
  | nx (ρ : Rho) (S : AS) | rt (a : SV) (S : AS) | bk (ρ : Rho) (S : AS) | ct (ρ : Rho) (S : AS)
  | ex (C : Str) (fs : List Str) (vs : List D) (ρ : Rho) (S : AS) | bad
abbrev MS := Rho → AS → SR
def PostS (c : Cn) (W : WX) (nu : List Addr) (F : Hp) (Oc : Ow) (Dn : Ends) : SR → Prop
  | .nx ρ' S' => ∀ nu' F' H' O' σ', Ext nu F Oc nu' F' O' → Wd c nu' F' H' O' S' → SlotR c nu' F' O' Oc σ' ρ' → Dn.nx σ' H'
  | .bk ρ' S' => ∀ nu' F' H' O' σ', Ext nu F Oc nu' F' O' → Wd c nu' F' H' O' S' → SlotR c nu' F' O' Oc σ' ρ' → Dn.bk σ' H'
  | .ct ρ' S' => ∀ nu' F' H' O' σ', Ext nu F Oc nu' F' O' → Wd c nu' F' H' O' S' → SlotR c nu' F' O' Oc σ' ρ' → Dn.ct σ' H'
  | .rt a S' => ∀ nu' F' H' O' v, Ext nu F Oc nu' F' O' → Wd c nu' F' H' O' S' → VRel c [] [] Oc nu' F' O' a v → Dn.rt v H'
  | .ex C fs vs ρ' S' => ∀ nu' F' H' O' σ' dx ws, Ext nu F Oc nu' F' O' → Wd c nu' F' H' O' S' → SlotR c nu' F' O' Oc σ' ρ' → F' dx = some (.xd (fs.zip ws)) → fs.length = ws.length → RepL c nu' F' vs ws → W (.ref (c.ca C)) (some dx) σ' H'
  | .bad => False
def SimS (c : Cn) (W : WX) (t : TS) (m : MS) : Prop := ∀ nu F H O Oc S σ ρ Dn, Wd c nu F H O S → SlotR c nu F O Oc σ ρ → PostS c W nu F Oc Dn (m ρ S) → t Dn σ H
theorem PostS.base {c : Cn} {W : WX} {nu nu1 : List Addr} {F F1 : Hp} {Oc O1 : Ow} {Dn : Ends} {r : SR} (e : Ext nu F Oc nu1 F1 O1) (h : PostS c W nu F Oc Dn r) : PostS c W nu1 F1 Oc Dn r := by
  have up : ∀ {nu' : List Addr} {F' : Hp} {O' : Ow}, Ext nu1 F1 Oc nu' F' O' → Ext nu F Oc nu' F' O' := fun x => ⟨e.nu.trans x.nu, fun a o q => x.F _ _ (e.F _ _ q), x.O⟩
  cases r with
  | nx ρ' S' => exact fun nu' F' H' O' σ' x w s => h _ _ _ _ _ (up x) w s
  | bk ρ' S' => exact fun nu' F' H' O' σ' x w s => h _ _ _ _ _ (up x) w s
  | ct ρ' S' => exact fun nu' F' H' O' σ' x w s => h _ _ _ _ _ (up x) w s
  | rt a S' => exact fun nu' F' H' O' v x w s => h _ _ _ _ _ (up x) w s
  | ex C fs vs ρ' S' => exact fun nu' F' H' O' σ' dx ws x w s => h _ _ _ _ _ _ _ (up x) w s
  | bad => exact h
def R.toS {α : Type} (r : R α) (ρ : Rho) (k : α → AS → SR) : SR := match r with
  | .ok a S => k a S | .ex C fs vs S => .ex C fs vs ρ S | .bad => .bad
@[simp] theorem toS_ok {α : Type} (a : α) (S : AS) (ρ : Rho) (k : α → AS → SR) : (R.ok a S).toS ρ k = k a S := rfl
@[simp] theorem toS_ex {α : Type} (C : Str) (fs : List Str) (vs : List D) (S : AS) (ρ : Rho) (k : α → AS → SR) : (R.ex C fs vs S : R α).toS ρ k = .ex C fs vs ρ S := rfl
@[simp] theorem toS_bad {α : Type} (ρ : Rho) (k : α → AS → SR) : (R.bad : R α).toS ρ k = .bad := rfl
section
variable {c : Cn} {W : WX} {σ : L2.St} {ρ : Rho} {nu nu1 : List Addr} {F F1 H : Hp} {O O1 Oc : Ow} {S : AS} {ta tb : TE} {ma mb : ME} {tt : TT} {mt : MT} {t u : TS} {m n : MS}
theorem SlotR.ext0 (s : SlotR c nu F O Oc σ ρ) (e : Ext nu F O nu1 F1 O1) : Ext nu F Oc nu1 F1 O1 := ⟨e.nu, e.F, fun p d h => e.O _ _ (s.oc _ _ h)⟩
/-- an expression ahead of the rest -/
theorem PostS.bind {α β : Type} {Rel : RelT α β} {Dn : Ends} {T : β → Hp → Prop} {r : R α} {k : α → AS → SR} (s : SlotR c nu F O Oc σ ρ) (h : PostS c W nu F Oc Dn (r.toS ρ k))
    (hk : ∀ a S1 nu1 F1 H1 O1 x, Ext nu F O nu1 F1 O1 → Wd c nu1 F1 H1 O1 S1 → Rel O nu1 F1 O1 a x → PostS c W nu1 F1 Oc Dn (k a S1) → T x H1) : Post c W σ Rel nu F O T r := by
  cases r with
  | ok a S' => exact fun nu' F' H' O' b e1 w r1 => hk a S' nu' F' H' O' b e1 w r1 (PostS.base (s.ext0 e1) h)
  | ex C fs vs S' => exact fun nu' F' H' O' dx ws e1 w r1 r2 r3 => h nu' F' H' O' σ dx ws (s.ext0 e1) w (s.mono e1) r1 r2 r3
  | bad => exact h
theorem PostS.bindB {α β : Type} {Rel : RelT α β} {Dn : Ends} {T : β → Hp → Prop} {r : R α} {k : α → AS → SR} {nu0 : List Addr} {F0 : Hp} (e0 : Ext nu0 F0 Oc nu F O) (s : SlotR c nu F O Oc σ ρ) (h : PostS c W nu0 F0 Oc Dn (r.toS ρ k))
    (hk : ∀ a S1 nu1 F1 H1 O1 x, Ext nu F O nu1 F1 O1 → Wd c nu1 F1 H1 O1 S1 → Rel O nu1 F1 O1 a x → PostS c W nu0 F0 Oc Dn (k a S1) → T x H1) : Post c W σ Rel nu F O T r := by
  cases r with
  | ok a S' => exact fun nu' F' H' O' b e1 w r1 => hk a S' nu' F' H' O' b e1 w r1 h
  | ex C fs vs S' => exact fun nu' F' H' O' dx ws e1 w r1 r2 r3 => h nu' F' H' O' σ dx ws (e0.trans e1) w (s.mono e1) r1 r2 r3
  | bad => exact h
def sNext : MS := fun ρ S => .nx ρ S
def sSeq (m n : MS) : MS := fun ρ S => match m ρ S with
  | .nx ρ' S' => n ρ' S'
  | o => o
theorem sim_next : SimS c W tNext sNext := fun nu F H O Oc S σ ρ Dn w s h => h nu F H O σ ⟨List.prefix_rfl, fun _ _ q => q, s.oc⟩ w s
theorem sim_seq (h : SimS c W t m) (k : SimS c W u n) : SimS c W (tSeq t u) (sSeq m n) := fun nu F H O Oc S σ ρ Dn w s hp => by
  refine h nu F H O Oc S σ ρ _ w s ?_
  unfold sSeq at hp
  cases e : m ρ S with
  | nx ρ' S' =>
    rw [e] at hp
    exact fun nu' F' H' O' σ' e1 w1 s1 => k nu' F' H' O' Oc S' σ' ρ' Dn w1 s1 (PostS.base e1 hp)
  | bk ρ' S' => rw [e] at hp; exact hp
  | ct ρ' S' => rw [e] at hp; exact hp
  | rt a S' => rw [e] at hp; exact hp
  | ex C fs vs ρ' S' => rw [e] at hp; exact hp
  | bad => rw [e] at hp; exact hp
/-- the slot of a value -/
def putS (i : Nat) (a : SV) (ρ : Rho) (S : AS) : SR := match a with
  | .fz d => .nx (ρ.set i (some (.fz d))) S
  | .own d => .nx (ρ.set i (some (.own d))) S
  | .bor _ => .bad
@[simp] theorem putS_fz (i : Nat) (d : D) (ρ : Rho) (S : AS) : putS i (.fz d) ρ S = .nx (ρ.set i (some (.fz d))) S := rfl
@[simp] theorem putS_own (i : Nat) (d : D) (ρ : Rho) (S : AS) : putS i (.own d) ρ S = .nx (ρ.set i (some (.own d))) S := rfl
theorem get_set {α : Type} {l : List α} {i j : Nat} {a x : α} (h : (l.set i a)[j]? = some x) : (j = i ∧ x = a ∧ i < l.length) ∨ (j ≠ i ∧ l[j]? = some x) := by
  by_cases e : i = j
  · subst e
    by_cases hl : i < l.length
    · rw [List.getElem?_set_self hl] at h
      cases h
      exact .inl ⟨rfl, rfl, hl⟩
    · rw [List.getElem?_eq_none (by simpa using hl)] at h; cases h
  · rw [List.getElem?_set_ne e] at h
    exact .inr ⟨Ne.symm e, h⟩
theorem SlotR.setFz (s : SlotR c nu F O Oc σ ρ) {i : Nat} {d : D} {v : V} (r : Rep c nu F d v) : SlotR c nu F O Oc (σ.set i (some v)) (ρ.set i (some (.fz d))) := by
  refine ⟨by simp [s.len], fun j d' h => ?_, fun j d' h => ?_, fun j k d1 d2 p h1 h2 h3 h4 => ?_, s.oc⟩
  · rcases get_set h with ⟨e1, e2, hl⟩ | ⟨e1, e2⟩
    · cases e2; subst e1
      exact ⟨v, List.getElem?_set_self (by rw [s.len]; exact hl), r⟩
    · obtain ⟨v', q1, q2⟩ := s.fz j d' e2
      exact ⟨v', by rw [List.getElem?_set_ne (Ne.symm e1)]; exact q1, q2⟩
  · rcases get_set h with ⟨e1, e2, hl⟩ | ⟨e1, e2⟩
    · cases e2
    · obtain ⟨p, o, q1, q2⟩ := s.own j d' e2
      exact ⟨p, o, by rw [List.getElem?_set_ne (Ne.symm e1)]; exact q1, q2⟩
  · rcases get_set h1 with ⟨e1, e2, hl⟩ | ⟨e1, e2⟩
    · cases e2
    · rcases get_set h2 with ⟨e3, e4, hl⟩ | ⟨e3, e4⟩
      · cases e4
      · rw [List.getElem?_set_ne (Ne.symm e1)] at h3
        rw [List.getElem?_set_ne (Ne.symm e3)] at h4
        exact s.inj j k d1 d2 p e2 e4 h3 h4
theorem SlotR.setOwn (s : SlotR c nu F O Oc σ ρ) {O' : Ow} (hO : ∀ q d, O q = some d → O' q = some d) {i : Nat} {d : D} {p : Addr} {o : HO} (hp : O' p = some (d, o)) (h0 : O p = none) : SlotR c nu F O' Oc (σ.set i (some (.ref p))) (ρ.set i (some (.own d))) := by
  have nslot : ∀ (j : Nat) d', ρ[j]? = some (some (.own d')) → σ[j]? ≠ some (some (.ref p)) := fun j d' h z => by
    obtain ⟨q, o', q1, q2, _⟩ := s.own j d' h
    rw [q1] at z
    cases z
    rw [h0] at q2; cases q2
  refine ⟨by simp [s.len], fun j d' h => ?_, fun j d' h => ?_, fun j k d1 d2 p' h1 h2 h3 h4 => ?_, fun q d' z => hO _ _ (s.oc q d' z)⟩
  · rcases get_set h with ⟨e1, e2, hl⟩ | ⟨e1, e2⟩
    · cases e2
    · obtain ⟨v', q1, q2⟩ := s.fz j d' e2
      exact ⟨v', by rw [List.getElem?_set_ne (Ne.symm e1)]; exact q1, q2⟩
  · rcases get_set h with ⟨e1, e2, hl⟩ | ⟨e1, e2⟩
    · cases e2; subst e1
      refine ⟨p, o, List.getElem?_set_self (by rw [s.len]; exact hl), hp, ?_⟩
      cases z : Oc p with
      | none => rfl
      | some d' => rw [s.oc p d' z] at h0; cases h0
    · obtain ⟨p', o', q1, q2, q3⟩ := s.own j d' e2
      exact ⟨p', o', by rw [List.getElem?_set_ne (Ne.symm e1)]; exact q1, hO _ _ q2, q3⟩
  · rcases get_set h1 with ⟨e1, e2, hl⟩ | ⟨e1, e2⟩
    · rcases get_set h2 with ⟨e3, e4, hl⟩ | ⟨e3, e4⟩
      · rw [e1, e3]
      · rw [e1, List.getElem?_set_self (by rw [s.len]; exact hl)] at h3
        cases h3
        rw [List.getElem?_set_ne (Ne.symm e3)] at h4
        exact (nslot k d2 e4 h4).elim
    · rcases get_set h2 with ⟨e3, e4, hl⟩ | ⟨e3, e4⟩
      · rw [e3, List.getElem?_set_self (by rw [s.len]; exact hl)] at h4
        cases h4
        rw [List.getElem?_set_ne (Ne.symm e1)] at h3
        exact (nslot j d1 e2 h3).elim
      · rw [List.getElem?_set_ne (Ne.symm e1)] at h3
        rw [List.getElem?_set_ne (Ne.symm e3)] at h4
        exact s.inj j k d1 d2 p' e2 e4 h3 h4
/-- a value of one's own at a slot changes -/
theorem SlotR.chOwn (s : SlotR c nu F O Oc σ ρ) {i : Nat} {d d' : D} {p : Addr} {o : HO} (h : ρ[i]? = some (some (.own d))) (hσ : σ[i]? = some (some (.ref p))) : SlotR c nu F (updO O p (some (d', o))) Oc σ (ρ.set i (some (.own d'))) := by
  have hl : i < ρ.length := (List.getElem?_eq_some_iff.mp h).1
  have hOc : Oc p = none := by
    obtain ⟨q, _, q1, _, q3⟩ := s.own i d h
    rw [hσ] at q1; cases q1; exact q3
  refine ⟨by simp [s.len], fun j e z => ?_, fun j e z => ?_, fun j k d1 d2 p' h1 h2 h3 h4 => ?_, fun q e z => ?_⟩
  · rcases get_set z with ⟨e1, e2, _⟩ | ⟨e1, e2⟩
    · cases e2
    · exact s.fz j e e2
  · rcases get_set z with ⟨e1, e2, _⟩ | ⟨e1, e2⟩
    · cases e2; subst e1
      exact ⟨p, o, hσ, updO_same, hOc⟩
    · obtain ⟨q, o', q1, q2, q3⟩ := s.own j e e2
      refine ⟨q, o', q1, ?_, q3⟩
      rw [updO_ne (fun y => e1 (s.inj j i e d p e2 h (by rw [← y]; exact q1) hσ))]
      exact q2
  · have back : ∀ (j : Nat) d1, (ρ.set i (some (.own d')))[j]? = some (some (.own d1)) → ∃ d0, ρ[j]? = some (some (.own d0)) := fun j d1 z => by
      rcases get_set z with ⟨e1, e2, _⟩ | ⟨e1, e2⟩
      · subst e1; exact ⟨d, h⟩
      · exact ⟨d1, e2⟩
    obtain ⟨a, ha⟩ := back j d1 h1
    obtain ⟨b, hb⟩ := back k d2 h2
    exact s.inj j k a b p' ha hb h3 h4
  · rw [updO_ne (fun y => by rw [y, hOc] at z; cases z)]
    exact s.oc _ _ z
theorem Ext.set {p : Addr} {d : Option (D × HO)} (e : Ext nu F Oc nu1 F1 O1) (h : Oc p = none) : Ext nu F Oc nu1 F1 (updO O1 p d) := ⟨e.nu, e.F, fun q d' z => by
  rw [updO_ne (fun y => by rw [y, h] at z; cases z)]
  exact e.O _ _ z⟩
/-- a slot's own thing is known for ever from now on (nothing happens) -/
def frzS (i : Nat) (ρ : Rho) : Rho := match ρ[i]? with | some (some (.own d)) => ρ.set i (some (.fz d)) | _ => ρ
def sFreeze (i : Nat) (m : MS) : MS := fun ρ S => m (frzS i ρ) S
theorem sim_freeze (i : Nat) (h : SimS c W t m) : SimS c W t (sFreeze i m) := fun nu F H O Oc S σ ρ Dn w s hp => by
  unfold sFreeze frzS at hp
  split at hp
  · rename_i d e
    obtain ⟨p, o, q1, q2, q3⟩ := s.own i d e
    obtain ⟨F', w', hF, r⟩ := w.freeze q2
    have x : Ext nu F Oc nu F' (updO O p none) := Ext.set ⟨List.prefix_rfl, hF, s.oc⟩ q3
    have hl : i < ρ.length := (List.getElem?_eq_some_iff.mp e).1
    refine h nu F' H _ Oc S σ _ Dn w' ⟨by simp [s.len], fun j d' z => ?_, fun j d' z => ?_, fun j k d1 d2 p' h1 h2 h3 h4 => ?_, x.O⟩ (PostS.base x hp)
    · rcases get_set z with ⟨e1, e2, _⟩ | ⟨e1, e2⟩
      · cases e2; subst e1
        exact ⟨_, q1, r⟩
      · obtain ⟨v, z1, z2⟩ := s.fz j d' e2
        exact ⟨v, z1, Rep.mono List.prefix_rfl hF _ _ z2⟩
    · rcases get_set z with ⟨e1, e2, _⟩ | ⟨e1, e2⟩
      · cases e2
      · obtain ⟨q, o', z1, z2, z3⟩ := s.own j d' e2
        refine ⟨q, o', z1, ?_, z3⟩
        rw [updO_ne (fun y => e1 (s.inj j i d' d p e2 e (by rw [← y]; exact z1) q1))]
        exact z2
    · rcases get_set h1 with ⟨e1, e2, _⟩ | ⟨e1, e2⟩
      · cases e2
      · rcases get_set h2 with ⟨e3, e4, _⟩ | ⟨e3, e4⟩
        · cases e4
        · exact s.inj j k d1 d2 p' e2 e4 h3 h4
  · exact h nu F H O Oc S σ ρ Dn w s hp
def sSet (i : Nat) (m : ME) : MS := fun ρ S => (m ρ S).toS ρ fun a S1 => putS i a ρ S1
theorem sim_set {i : Nat} (h : SimE c W ta ma) : SimS c W (tAsg ta (gName i)) (sSet i ma) := fun nu F H O Oc S σ ρ Dn w s hp =>
  h nu F H O Oc S σ ρ _ w s (PostS.bind s hp fun a S1 nu1 F1 H1 O1 x e1 w1 v1 h1 => by
    have s1 := s.mono e1
    cases a with
    | fz d => exact h1 nu1 F1 H1 O1 _ ⟨List.prefix_rfl, fun _ _ q => q, s1.oc⟩ w1 (s1.setFz v1)
    | own d =>
      obtain ⟨p, o, rfl, hp, h0⟩ := v1
      have s2 : SlotR c nu1 F1 O Oc σ ρ := ⟨s1.len, s1.fz, fun j d' z => s.own j d' z, s.inj, s.oc⟩
      exact h1 nu1 F1 H1 O1 _ ⟨List.prefix_rfl, fun _ _ q => q, s1.oc⟩ w1 (s2.setOwn e1.O hp h0)
    | bor d => exact h1.elim)
def sDrop (m : ME) : MS := fun ρ S => (m ρ S).toS ρ fun _ S1 => .nx ρ S1
theorem sim_drop (h : SimE c W ta ma) : SimS c W (tDrop ta) (sDrop ma) := fun nu F H O Oc S σ ρ Dn w s hp =>
  h nu F H O Oc S σ ρ _ w s (PostS.bind s hp fun a S1 nu1 F1 H1 O1 x e1 w1 v1 h1 => h1 nu1 F1 H1 O1 σ ⟨List.prefix_rfl, fun _ _ q => q, (s.mono e1).oc⟩ w1 (s.mono e1))
def retS (a : SV) (S : AS) : SR := match a with
  | .fz d => .rt (.fz d) S | .own d => .rt (.own d) S | .bor d => .rt (.own d) S
@[simp] theorem retS_fz (d : D) (S : AS) : retS (.fz d) S = .rt (.fz d) S := rfl
@[simp] theorem retS_own (d : D) (S : AS) : retS (.own d) S = .rt (.own d) S := rfl
@[simp] theorem retS_bor (d : D) (S : AS) : retS (.bor d) S = .rt (.own d) S := rfl
def sRet (m : ME) : MS := fun ρ S => (m ρ S).toS ρ fun a S1 => retS a S1
theorem sim_ret (h : SimE c W ta ma) : SimS c W (tRet ta) (sRet ma) := fun nu F H O Oc S σ ρ Dn w s hp =>
  h nu F H O Oc S σ ρ _ w s (PostS.bind s hp fun a S1 nu1 F1 H1 O1 x e1 w1 v1 h1 => by
    have s1 := s.mono e1
    have x1 : Ext nu1 F1 Oc nu1 F1 O1 := ⟨List.prefix_rfl, fun _ _ q => q, s1.oc⟩
    cases a with
    | fz d => exact h1 nu1 F1 H1 O1 _ x1 w1 v1
    | own d =>
      obtain ⟨p, o, rfl, hp, h0⟩ := v1
      refine h1 nu1 F1 H1 O1 _ x1 w1 ⟨p, o, rfl, hp, ?_⟩
      cases z : Oc p with
      | none => rfl
      | some d' => rw [s.oc p d' z] at h0; cases h0
    | bor d =>
      obtain ⟨p, o, i, rfl, hp, q1, q2⟩ := v1
      obtain ⟨p', o', z1, z2, z3⟩ := s.own i d q1
      rw [q2] at z1
      cases z1
      exact h1 nu1 F1 H1 O1 _ x1 w1 ⟨p, o, rfl, hp, z3⟩)
def sRetN : MS := fun _ S => .rt (.fz .non) S
theorem sim_retN : SimS c W tRetN sRetN := fun nu F H O Oc S σ ρ Dn w s hp => hp nu F H O .non ⟨List.prefix_rfl, fun _ _ q => q, s.oc⟩ w rfl
def sIf (t : MT) (m n : MS) : MS := fun ρ S => (t ρ S).toS ρ fun b S1 => if b = true then m ρ S1 else n ρ S1
theorem sim_if (h : SimT c W tt mt) (k : SimS c W t m) (l : SimS c W u n) : SimS c W (tIfS tt t u) (sIf mt m n) := fun nu F H O Oc S σ ρ Dn w s hp =>
  h nu F H O Oc S σ ρ _ w s (PostS.bind s hp fun a S1 nu1 F1 H1 O1 x e1 w1 v1 h1 => by
    cases (show a = x from v1)
    cases a with
    | true => exact k nu1 F1 H1 O1 Oc S1 σ ρ Dn w1 (s.mono e1) h1
    | false => exact l nu1 F1 H1 O1 Oc S1 σ ρ Dn w1 (s.mono e1) h1)
def sBreak : MS := fun ρ S => .bk ρ S
def sCont : MS := fun ρ S => .ct ρ S
theorem sim_break : SimS c W tBreak sBreak := fun nu F H O Oc S σ ρ Dn w s h => h nu F H O σ ⟨List.prefix_rfl, fun _ _ q => q, s.oc⟩ w s
theorem sim_cont : SimS c W tCont sCont := fun nu F H O Oc S σ ρ Dn w s h => h nu F H O σ ⟨List.prefix_rfl, fun _ _ q => q, s.oc⟩ w s
/-- x op= e, a plain value comes -/
def sAug (g : MO) (i : Nat) (m : ME) : MS := fun ρ S => (eVar i ρ S).toS ρ fun x S0 => (m ρ S0).toS ρ fun y S1 => (g x.d y.d S1).toS ρ fun z S2 => putS i z ρ S2
theorem sim_aug {g : MO} {i : Nat} {ti : TIp} (hr : R2S c W ti g) (h : SimE c W ta ma) : SimS c W (tAug i ta ti) (sAug g i ma) := fun nu F H O Oc S σ ρ Dn w s hp => by
  unfold sAug eVar at hp
  have core : ∀ (a : SV) (v : V), σ[i]? = some (some v) → CRel c nu F O a v → PostS c W nu F Oc Dn ((ma ρ S).toS ρ fun y S1 => (g a.d y.d S1).toS ρ fun z S2 => putS i z ρ S2) → tAug i ta ti Dn σ H := fun a v h1 h2 h3 => by
    refine ⟨v, h1, h nu F H O Oc S σ ρ _ w s (PostS.bind s h3 fun y S1 nu1 F1 H1 O1 x e1 w1 v1 h4 => ?_)⟩
    have s1 := s.mono e1
    refine hr nu1 F1 H1 O1 S1 σ ρ _ a y v x w1 (h2.mono e1) v1.toC (PostS.bind (O := O1) s1 h4 fun z S2 nu2 F2 H2 O2 u e2 w2 v2 h5 => ?_)
    have s2 := s1.mono e2
    cases z with
    | fz d => exact h5 nu2 F2 H2 O2 _ ⟨List.prefix_rfl, fun _ _ q => q, s2.oc⟩ w2 (s2.setFz v2)
    | own d =>
      obtain ⟨p, o, rfl, hp, h0⟩ := v2
      have s3 : SlotR c nu2 F2 O1 Oc σ ρ := ⟨s2.len, s2.fz, fun j d' z => s1.own j d' z, s1.inj, s1.oc⟩
      exact h5 nu2 F2 H2 O2 _ ⟨List.prefix_rfl, fun _ _ q => q, s2.oc⟩ w2 (s3.setOwn e2.O hp h0)
    | bor d => exact h5.elim
  split at hp
  · rename_i d e
    obtain ⟨v, h1, h2⟩ := s.fz i d e
    exact core (.fz d) v h1 h2 hp
  · rename_i d e
    obtain ⟨p, o, h1, h2, h3⟩ := s.own i d e
    exact core (.bor d) (.ref p) h1 ⟨p, o, rfl, h2⟩ hp
  · exact hp.elim
end
end L3

namespace L3
open PySem PySem.Spec PyProof.Rows L2

/-! ### targets -/
abbrev MG := D → Rho → Option Rho
/-- only the slots in ps change -/
def Off (ps : List Nat) (σ σ' : L2.St) : Prop := σ'.length = σ.length ∧ ∀ i : Nat, i ∉ ps → σ'[i]? = σ[i]?
theorem Off.refl (ps : List Nat) (σ : L2.St) : Off ps σ σ := ⟨rfl, fun _ _ => rfl⟩
theorem Off.trans {ps : List Nat} {a b d : L2.St} (x : Off ps a b) (y : Off ps b d) : Off ps a d := ⟨y.1.trans x.1, fun i h => (y.2 i h).trans (x.2 i h)⟩
def SimG (c : Cn) (ps : List Nat) (g : TG) (mg : MG) : Prop := ∀ nu F H O Oc S σ ρ d v ρ' Q, Wd c nu F H O S → SlotR c nu F O Oc σ ρ → Rep c nu F d v → mg d ρ = some ρ' → (∀ σ', SlotR c nu F O Oc σ' ρ' → Off ps σ σ' → Q σ' H) → g v σ H Q
def SimGs (c : Cn) (ps : List Nat) (g : TGs) (mg : List D → Rho → Option Rho) : Prop := ∀ nu F H O Oc S σ ρ ds vs ρ' Q, Wd c nu F H O S → SlotR c nu F O Oc σ ρ → RepL c nu F ds vs → mg ds ρ = some ρ' → (∀ σ', SlotR c nu F O Oc σ' ρ' → Off ps σ σ' → Q σ' H) → g vs σ H Q
def gN (i : Nat) : MG := fun d ρ => some (ρ.set i (some (.fz d)))
def gT (n : Nat) (mg : List D → Rho → Option Rho) : MG := fun d ρ => match d with | .tup ds => if ds.length = n then mg ds ρ else none | _ => none
def gsNil : List D → Rho → Option Rho := fun ds ρ => match ds with | [] => some ρ | _ => none
def gsCons (m : MG) (n : List D → Rho → Option Rho) : List D → Rho → Option Rho := fun ds ρ => match ds with | d :: r => (m d ρ).bind (n r) | [] => none
theorem sim_gN {c : Cn} {ps : List Nat} {i : Nat} (hi : i ∈ ps) : SimG c ps (gName i) (gN i) := fun nu F H O Oc S σ ρ d v ρ' Q w s r e k => by
  cases e
  refine k _ (s.setFz r) ⟨by simp, fun j hj => ?_⟩
  exact List.getElem?_set_ne (fun (z : i = j) => hj (by rw [← z]; exact hi))
theorem sim_gT {c : Cn} {ps : List Nat} {n : Nat} {g : TGs} {mg : List D → Rho → Option Rho} (h : SimGs c ps g mg) : SimG c ps (gTup c.K n g) (gT n mg) := fun nu F H O Oc S σ ρ d v ρ' Q w s r e k => by
  unfold gT at e
  split at e
  · rename_i ds
    split at e
    · rename_i hl
      obtain ⟨a, vs, rfl, h1, h2⟩ := r
      exact ⟨a, vs, rfl, sqT_mono w.sub h1, h2.len.symm.trans hl, h nu F H O Oc S σ ρ ds vs ρ' Q w s h2 e k⟩
    · cases e
  · cases e
theorem sim_gsNil {c : Cn} {ps : List Nat} : SimGs c ps gNil gsNil := fun nu F H O Oc S σ ρ ds vs ρ' Q w s r e k => by
  cases ds with
  | nil => cases e; exact ⟨r, k σ s (Off.refl _ _)⟩
  | cons d r => cases e
theorem sim_gsCons {c : Cn} {ps : List Nat} {g : TG} {gs : TGs} {m : MG} {n : List D → Rho → Option Rho} (h : SimG c ps g m) (k : SimGs c ps gs n) : SimGs c ps (gCons g gs) (gsCons m n) := fun nu F H O Oc S σ ρ ds vs ρ' Q w s r e q => by
  cases ds with
  | nil => cases e
  | cons d ds =>
    obtain ⟨v, vs', rfl, r1, r2⟩ := r
    unfold gsCons at e
    dsimp only at e
    cases e1 : m d ρ with
    | none => rw [e1] at e; cases e
    | some ρ1 =>
      rw [e1] at e
      exact ⟨v, vs', rfl, h nu F H O Oc S σ ρ d v ρ1 _ w s r1 e1 fun σ1 s1 o1 => k nu F H O Oc S σ1 ρ1 ds vs' ρ' Q w s1 r2 e fun σ2 s2 o2 => q σ2 s2 (o1.trans o2)⟩
theorem wipe_get {σ : L2.St} {i : Nat} : ∀ {vs : List Nat}, (wipe σ vs)[i]? = if i ∈ vs ∧ i < σ.length then some none else σ[i]?
  | [] => by simp [wipe]
  | v :: vs => by
    unfold wipe
    by_cases e : v = i
    · subst e
      by_cases hl : v < σ.length
      · rw [List.getElem?_set_self (by rw [wipe_length]; exact hl), if_pos ⟨List.mem_cons_self, hl⟩]
      · rw [List.getElem?_eq_none (by rw [List.length_set, wipe_length]; omega), if_neg (fun z => hl z.2), List.getElem?_eq_none (by omega)]
    · rw [List.getElem?_set_ne e, wipe_get (vs := vs)]
      have q : (i ∈ v :: vs) ↔ i ∈ vs := by
        rw [List.mem_cons]
        exact ⟨fun z => z.elim (fun y => absurd y.symm e) id, .inr⟩
      simp only [q]
theorem wipe_off {σ σ' : L2.St} {vs : List Nat} (h : Off vs (wipe σ vs) σ') : wipe σ' vs = wipe σ vs := by
  have hl : σ'.length = σ.length := h.1.trans (wipe_length _ _)
  refine List.ext_getElem? fun i => ?_
  rw [wipe_get, wipe_get]
  by_cases hi : i ∈ vs
  · by_cases hz : i < σ.length
    · rw [if_pos ⟨hi, by omega⟩, if_pos ⟨hi, hz⟩]
    · rw [if_neg (fun z => hz (by have := z.2; omega)), if_neg (fun z => hz z.2), List.getElem?_eq_none (by omega), List.getElem?_eq_none (by omega)]
  · rw [if_neg (fun z => hi z.1), if_neg (fun z => hi z.1), h.2 i hi, wipe_get, if_neg (fun z => hi z.1)]
def wipeR (ρ : Rho) : List Nat → Rho
  | [] => ρ
  | v :: vs => (wipeR ρ vs).set v none
theorem SlotR.setNone {c : Cn} {nu : List Addr} {F : Hp} {O Oc : Ow} {σ : L2.St} {ρ : Rho} (s : SlotR c nu F O Oc σ ρ) (i : Nat) : SlotR c nu F O Oc (σ.set i none) (ρ.set i none) := by
  refine ⟨by simp [s.len], fun j d' h => ?_, fun j d' h => ?_, fun j k d1 d2 p h1 h2 h3 h4 => ?_, s.oc⟩
  · rcases get_set h with ⟨e1, e2, hl⟩ | ⟨e1, e2⟩
    · cases e2
    · obtain ⟨v', q1, q2⟩ := s.fz j d' e2
      exact ⟨v', by rw [List.getElem?_set_ne (Ne.symm e1)]; exact q1, q2⟩
  · rcases get_set h with ⟨e1, e2, hl⟩ | ⟨e1, e2⟩
    · cases e2
    · obtain ⟨p, o, q1, q2⟩ := s.own j d' e2
      exact ⟨p, o, by rw [List.getElem?_set_ne (Ne.symm e1)]; exact q1, q2⟩
  · rcases get_set h1 with ⟨e1, e2, hl⟩ | ⟨e1, e2⟩
    · cases e2
    · rcases get_set h2 with ⟨e3, e4, hl⟩ | ⟨e3, e4⟩
      · cases e4
      · rw [List.getElem?_set_ne (Ne.symm e1)] at h3
        rw [List.getElem?_set_ne (Ne.symm e3)] at h4
        exact s.inj j k d1 d2 p e2 e4 h3 h4
theorem SlotR.wipe {c : Cn} {nu : List Addr} {F : Hp} {O Oc : Ow} {σ : L2.St} {ρ : Rho} (s : SlotR c nu F O Oc σ ρ) : ∀ vs : List Nat, SlotR c nu F O Oc (L2.wipe σ vs) (wipeR ρ vs)
  | [] => s
  | v :: vs => (SlotR.wipe s vs).setNone v

/-! ### what is walked -/
abbrev MI := Rho → AS → R (List D)
def ItR (c : Cn) (nu : List Addr) (F : Hp) (J : It) (ds : List D) : Prop := ∀ nu' F' H' O' S', nu <+: nu' → (∀ a o, F a = some o → F' a = some o) → Wd c nu' F' H' O' S' →
  (∀ (i : Nat) d, ds[i]? = some d → J.go i H' ∧ ∀ x H'', J.yld i H' x H'' → ∃ F'', (∀ a o, F' a = some o → F'' a = some o) ∧ Wd c nu' F'' H'' O' S' ∧ Rep c nu' F'' d x) ∧ J.stop ds.length H'
def iRel (c : Cn) : RelT (List D) It := fun _ nu F _ ds J => ItR c nu F J ds
def SimI (c : Cn) (W : WX) (wi : TI) (m : MI) : Prop := ∀ nu F H O Oc S σ ρ Q, Wd c nu F H O S → SlotR c nu F O Oc σ ρ → Post c W σ (iRel c) nu F O Q (m ρ S) → wi σ H Q
theorem iRelM {c : Cn} : RelM (iRel c) := fun _ _ _ _ _ _ _ _ h => h
section
variable {c : Cn} {W : WX} {ta tb : TE} {ma mb : ME}
def lstD (d : D) (S : AS) : R (List D) := match d with | .lst ds => .ok ds S | _ => .bad
def tupD (d : D) (S : AS) : R (List D) := match d with | .tup ds => .ok ds S | _ => .bad
@[simp] theorem lstD_lst (ds : List D) (S : AS) : lstD (.lst ds) S = .ok ds S := rfl
@[simp] theorem tupD_tup (ds : List D) (S : AS) : tupD (.tup ds) S = .ok ds S := rfl
def iL (m : ME) : MI := fun ρ S => (m ρ S).bind fun a S1 => (zD a S1).bind lstD
def iT (m : ME) : MI := fun ρ S => (m ρ S).bind fun a S1 => (zD a S1).bind tupD
theorem itL {nu : List Addr} {F : Hp} {a : Addr} {vs : List V} {ds : List D} (h : F a = some (.lst vs)) (r : RepL c nu F ds vs) : ItR c nu F (Itl c.K a) ds := fun nu' F' H' O' S' hn hF w => by
  have hq : SqL c.K H' a vs := .inl (.inl (w.sub _ _ (hF _ _ h)))
  have r' := RepL.mono hn hF _ _ r
  refine ⟨fun i d e => ?_, ⟨vs, hq, by rw [r.len]; exact Nat.le_refl _⟩⟩
  obtain ⟨v, e1, e2⟩ := r'.get e
  refine ⟨⟨vs, v, hq, e1⟩, fun x H'' y => ?_⟩
  obtain ⟨rfl, y⟩ := y
  have := y vs hq
  rw [e1] at this
  cases this
  exact ⟨F', fun _ _ q => q, w, e2⟩
theorem itT {nu : List Addr} {F : Hp} {a : Addr} {vs : List V} {ds : List D} (h : SqT c.K F a vs) (r : RepL c nu F ds vs) : ItR c nu F (Itt c.K a) ds := fun nu' F' H' O' S' hn hF w => by
  have hq : SqT c.K H' a vs := sqT_mono (fun a o q => w.sub _ _ (hF a o q)) h
  have r' := RepL.mono hn hF _ _ r
  refine ⟨fun i d e => ?_, ⟨vs, hq, by rw [r.len]; exact Nat.le_refl _⟩⟩
  obtain ⟨v, e1, e2⟩ := r'.get e
  refine ⟨⟨vs, v, hq, e1⟩, fun x H'' y => ?_⟩
  obtain ⟨rfl, y⟩ := y
  have := y vs hq
  rw [e1] at this
  cases this
  exact ⟨F', fun _ _ q => q, w, e2⟩
theorem sim_iL (h : SimE c W ta ma) : SimI c W (iList c.K ta) (iL ma) := fun nu F H O Oc S σ ρ Q w s hp =>
  h nu F H O Oc S σ ρ _ w s (Post.bind0 hp fun a S1 nu1 F1 H1 O1 x e1 w1 v1 h1 => by
    obtain ⟨F2, O2, d, e2, w2, r2, h2⟩ := zD_run iRelM e1 w1 v1 h1
    cases d with
    | lst ds =>
      obtain ⟨p, vs, rfl, q1, q2⟩ := r2
      exact ⟨p, rfl, ⟨vs, .inl (.inl (w2.sub _ _ q1))⟩, h2 nu1 F2 H1 O2 _ (Ext.refl ..) w2 (itL q1 q2)⟩
    | _ => exact h2.elim)
theorem sim_iT (h : SimE c W ta ma) : SimI c W (iTup c.K ta) (iT ma) := fun nu F H O Oc S σ ρ Q w s hp =>
  h nu F H O Oc S σ ρ _ w s (Post.bind0 hp fun a S1 nu1 F1 H1 O1 x e1 w1 v1 h1 => by
    obtain ⟨F2, O2, d, e2, w2, r2, h2⟩ := zD_run iRelM e1 w1 v1 h1
    cases d with
    | tup ds =>
      obtain ⟨p, vs, rfl, q1, q2⟩ := r2
      exact ⟨p, rfl, ⟨vs, sqT_mono w2.sub q1⟩, h2 nu1 F2 H1 O2 _ (Ext.refl ..) w2 (itT q1 q2)⟩
    | _ => exact h2.elim)
def rngD (lo : Int) (n : Nat) : List D := (List.range n).map fun k => .int (lo + (k : Nat))
theorem rngD_get {lo : Int} {n i : Nat} {d : D} (h : (rngD lo n)[i]? = some d) : i < n ∧ d = .int (lo + (i : Nat)) := by
  unfold rngD at h
  rw [List.getElem?_map] at h
  by_cases hi : i < n
  · rw [List.getElem?_range hi] at h
    exact ⟨hi, (Option.some.inj h).symm⟩
  · rw [List.getElem?_eq_none (by simpa using hi)] at h; cases h
theorem itR {nu : List Addr} {F : Hp} {lo : Int} {n : Nat} : ItR c nu F (Itr lo n) (rngD lo n) := fun nu' F' H' O' S' hn hF w => by
  refine ⟨fun i d e => ?_, by show n ≤ (rngD lo n).length; simp [rngD]⟩
  obtain ⟨hi, rfl⟩ := rngD_get e
  refine ⟨hi, fun x H'' y => ?_⟩
  obtain ⟨rfl, rfl⟩ := y
  exact ⟨F', fun _ _ q => q, w, rfl⟩
def iR1 (m : MA) : MI := fun ρ S => (m ρ S).bind fun ds S1 => match ds with | [.int j] => guardR (-(2 ^ 62) ≤ j ∧ j < 2 ^ 62) (.ok (rngD 0 j.toNat) S1) | _ => .bad
def iR2 (m : MA) : MI := fun ρ S => (m ρ S).bind fun ds S1 => match ds with | [.int i, .int j] => guardR (-(2 ^ 62) ≤ i ∧ i < 2 ^ 62 ∧ -(2 ^ 62) ≤ j ∧ j < 2 ^ 62) (.ok (rngD i (j - i).toNat) S1) | _ => .bad
theorem sim_iR1 {t : TA} {m : MA} (h : SimA c W t m) : SimI c W (iRng1 t) (iR1 m) := fun nu F H O Oc S σ ρ Q w s hp =>
  h nu F H O Oc S σ ρ _ w s (Post.bind iRelM hp fun ds S1 nu1 F1 H1 O1 vs e1 w1 v1 h1 => by
    split at h1
    · rename_i j
      obtain ⟨hg, h1⟩ := h1.guard
      obtain ⟨v, r, rfl, r1, r2⟩ := v1
      cases (show v = V.int j from r1)
      cases (show r = [] from r2)
      exact ⟨j, rfl, hg.1, hg.2, h1 nu1 F1 H1 O1 _ (Ext.refl ..) w1 itR⟩
    · exact h1.elim)
theorem sim_iR2 {t : TA} {m : MA} (h : SimA c W t m) : SimI c W (iRng2 t) (iR2 m) := fun nu F H O Oc S σ ρ Q w s hp =>
  h nu F H O Oc S σ ρ _ w s (Post.bind iRelM hp fun ds S1 nu1 F1 H1 O1 vs e1 w1 v1 h1 => by
    split at h1
    · rename_i i j
      obtain ⟨hg, h1⟩ := h1.guard
      obtain ⟨v, r, rfl, r1, v', r', rfl, r2, r3⟩ := v1
      cases (show v = V.int i from r1)
      cases (show v' = V.int j from r2)
      cases (show r' = [] from r3)
      exact ⟨i, j, rfl, hg, h1 nu1 F1 H1 O1 _ (Ext.refl ..) w1 itR⟩
    · exact h1.elim)

/-! ### for -/
variable {wi : TI} {mi : MI} {g : TG} {mg : MG} {t u : TS} {m n : MS} {tt : TT} {mt : MT}
def loopL (mg : MG) (mb : MS) : List D → Rho → AS → SR
  | [], ρ, S => .nx ρ S
  | d :: r, ρ, S => match mg d ρ with
    | none => .bad
    | some ρ1 => match mb ρ1 S with
      | .nx ρ2 S2 => loopL mg mb r ρ2 S2
      | .ct ρ2 S2 => loopL mg mb r ρ2 S2
      | .bk ρ2 S2 => .nx ρ2 S2
      | o => o
def sFor (mi : MI) (mg : MG) (mb : MS) : MS := fun ρ S => (mi ρ S).toS ρ fun ds S1 => loopL mg mb ds ρ S1
theorem sim_for {ps : List Nat} (hi : SimI c W wi mi) (hg : SimG c ps g mg) (hb : SimS c W t m) : SimS c W (tFor wi g t) (sFor mi mg m) := fun nu F H O Oc S σ ρ Dn w s hp =>
  hi nu F H O Oc S σ ρ _ w s (PostS.bind s hp fun ds S1 nu1 F1 H1 O1 J e1 w1 v1 h1 => by
    have v2 : ItR c nu1 F1 J ds := v1
    have Xb : Ext nu1 F1 Oc nu1 F1 O1 := ⟨List.prefix_rfl, fun _ _ q => q, (s.mono e1).oc⟩
    refine ⟨fun i k σ' H' => k = ds.length - i ∧ i ≤ ds.length ∧ ∃ nu2 F2 O2 S2 ρ2, Ext nu1 F1 Oc nu2 F2 O2 ∧ Wd c nu2 F2 H' O2 S2 ∧ SlotR c nu2 F2 O2 Oc σ' ρ2 ∧ PostS c W nu1 F1 Oc Dn (loopL mg m (ds.drop i) ρ2 S2),
      ⟨ds.length, rfl, Nat.zero_le _, nu1, F1, O1, S1, ρ, Xb, w1, s.mono e1, h1⟩, ?_⟩
    rintro i k σ' H' ⟨rfl, hi, nu2, F2, O2, S2, ρ2, e2, w2, s2, h2⟩
    obtain ⟨g1, g2⟩ := v2 nu2 F2 H' O2 S2 e2.nu e2.F w2
    by_cases hl : i < ds.length
    · obtain ⟨q1, q2⟩ := g1 i ds[i] (List.getElem?_eq_getElem hl)
      refine .inr ⟨q1, fun σ3 H3 => ∃ nu3 F3 O3 S3 ρ3, Ext nu1 F1 Oc nu3 F3 O3 ∧ Wd c nu3 F3 H3 O3 S3 ∧ SlotR c nu3 F3 O3 Oc σ3 ρ3 ∧ PostS c W nu1 F1 Oc Dn (loopL mg m (ds.drop (i + 1)) ρ3 S3),
        fun σ3 H3 z => ⟨ds.length - (i + 1), by omega, rfl, hl, z⟩, fun x H3 y => ?_⟩
      obtain ⟨F3, hF, w3, r3⟩ := q2 x H3 y
      have e3 : Ext nu2 F2 O2 nu2 F3 O2 := ⟨List.prefix_rfl, hF, fun _ _ q => q⟩
      have s3 := s2.mono e3
      rw [List.drop_eq_getElem_cons hl] at h2
      unfold loopL at h2
      cases em : mg ds[i] ρ2 with
      | none => rw [em] at h2; exact h2.elim
      | some ρ3 =>
        rw [em] at h2
        dsimp only at h2
        refine hg nu2 F3 H3 O2 Oc S2 σ' ρ2 ds[i] x ρ3 _ w3 s3 r3 em fun σ4 s4 _ => ?_
        have e4 : Ext nu1 F1 Oc nu2 F3 O2 := ⟨e2.nu, fun a o q => hF _ _ (e2.F a o q), s4.oc⟩
        refine hb nu2 F3 H3 O2 Oc S2 σ4 ρ3 _ w3 s4 ?_
        have up : ∀ {nu' : List Addr} {F' : Hp} {O' : Ow}, Ext nu2 F3 Oc nu' F' O' → Ext nu1 F1 Oc nu' F' O' := fun x => ⟨e4.nu.trans x.nu, fun a o q => x.F _ _ (e4.F _ _ q), x.O⟩
        cases eb : m ρ3 S2 with
        | nx ρ5 S5 => rw [eb] at h2; exact fun nu' F' H' O' σ' x' w' s' => ⟨nu', F', O', S5, ρ5, up x', w', s', h2⟩
        | ct ρ5 S5 => rw [eb] at h2; exact fun nu' F' H' O' σ' x' w' s' => ⟨nu', F', O', S5, ρ5, up x', w', s', h2⟩
        | bk ρ5 S5 => rw [eb] at h2; exact fun nu' F' H' O' σ' x' w' s' => h2 nu' F' H' O' σ' (up x') w' s'
        | rt a S5 => rw [eb] at h2; exact fun nu' F' H' O' v x' w' s' => h2 nu' F' H' O' v (up x') w' s'
        | ex C fs vs ρ5 S5 => rw [eb] at h2; exact fun nu' F' H' O' σ' dx ws x' w' s' => h2 nu' F' H' O' σ' dx ws (up x') w' s'
        | bad => rw [eb] at h2; exact h2.elim
    · have e : i = ds.length := by omega
      subst e
      rw [List.drop_length] at h2
      exact .inl ⟨g2, h2 nu2 F2 H' O2 σ' e2 w2 s2⟩)

/-! ### while -/
def whileN (mt : MT) (mb : MS) : Nat → Rho → AS → SR
  | 0, _, _ => .bad
  | k + 1, ρ, S => (mt ρ S).toS ρ fun b S1 => if b = true then (match mb ρ S1 with
      | .nx ρ2 S2 => whileN mt mb k ρ2 S2
      | .ct ρ2 S2 => whileN mt mb k ρ2 S2
      | .bk ρ2 S2 => .nx ρ2 S2
      | o => o) else .nx ρ S1
theorem whileN_succ {mt : MT} {mb : MS} : ∀ {k : Nat} {ρ : Rho} {S : AS}, whileN mt mb k ρ S ≠ .bad → whileN mt mb (k + 1) ρ S = whileN mt mb k ρ S
  | 0, _, _, h => (h rfl).elim
  | k + 1, ρ, S, h => by
    unfold whileN at h ⊢
    cases e : mt ρ S with
    | ok b S1 =>
      rw [e] at h
      cases b with
      | false => rfl
      | true =>
        simp only [toS_ok, if_true] at h ⊢
        cases e2 : mb ρ S1 with
        | nx ρ2 S2 => rw [e2] at h; exact whileN_succ h
        | ct ρ2 S2 => rw [e2] at h; exact whileN_succ h
        | bk ρ2 S2 => rfl
        | rt a S2 => rfl
        | ex C fs vs ρ2 S2 => rfl
        | bad => rfl
    | ex C fs vs S1 => rfl
    | bad => rfl
theorem whileN_add {mt : MT} {mb : MS} {k : Nat} {ρ : Rho} {S : AS} (h : whileN mt mb k ρ S ≠ .bad) : ∀ j : Nat, whileN mt mb (k + j) ρ S = whileN mt mb k ρ S
  | 0 => rfl
  | j + 1 => by
    have ih := whileN_add h j
    rw [show k + (j + 1) = (k + j) + 1 by omega, whileN_succ (by rw [ih]; exact h), ih]
open Classical in
noncomputable def sWhile (mt : MT) (mb : MS) : MS := fun ρ S => if h : ∃ k, whileN mt mb k ρ S ≠ .bad then whileN mt mb h.choose ρ S else .bad
theorem sWhile_of {mt : MT} {mb : MS} {k : Nat} {ρ : Rho} {S : AS} (h : whileN mt mb k ρ S ≠ .bad) : sWhile mt mb ρ S = whileN mt mb k ρ S := by
  have hx : ∃ k, whileN mt mb k ρ S ≠ .bad := ⟨k, h⟩
  unfold sWhile
  rw [dif_pos hx]
  have h2 := hx.choose_spec
  rw [← whileN_add h hx.choose, ← whileN_add h2 k, Nat.add_comm]
theorem sWhile_bad {mt : MT} {mb : MS} {ρ : Rho} {S : AS} (h : ∀ k, whileN mt mb k ρ S = .bad) : sWhile mt mb ρ S = .bad := by
  unfold sWhile
  rw [dif_neg (fun ⟨k, hk⟩ => hk (h k))]
/-- one turn -/
theorem sWhile_eq (mt : MT) (mb : MS) (ρ : Rho) (S : AS) : sWhile mt mb ρ S = (mt ρ S).toS ρ fun b S1 => if b = true then (match mb ρ S1 with
      | .nx ρ2 S2 => sWhile mt mb ρ2 S2
      | .ct ρ2 S2 => sWhile mt mb ρ2 S2
      | .bk ρ2 S2 => .nx ρ2 S2
      | o => o) else .nx ρ S1 := by
  by_cases hx : ∃ k, whileN mt mb k ρ S ≠ .bad
  · obtain ⟨k, hk⟩ := hx
    cases k with
    | zero => exact (hk rfl).elim
    | succ k =>
      rw [sWhile_of hk]
      unfold whileN at hk ⊢
      cases e : mt ρ S with
      | ok b S1 =>
        rw [e] at hk
        cases b with
        | false => rfl
        | true =>
          simp only [toS_ok, if_true] at hk ⊢
          cases e2 : mb ρ S1 with
          | nx ρ2 S2 => rw [e2] at hk; exact (sWhile_of hk).symm
          | ct ρ2 S2 => rw [e2] at hk; exact (sWhile_of hk).symm
          | bk ρ2 S2 => rfl
          | rt a S2 => rfl
          | ex C fs vs ρ2 S2 => rfl
          | bad => rfl
      | ex C fs vs S1 => rfl
      | bad => rfl
  · have hb : ∀ k, whileN mt mb k ρ S = .bad := fun k => Classical.byContradiction fun z => hx ⟨k, z⟩
    rw [sWhile_bad hb]
    have h1 : ∀ k, _ := fun k => hb (k + 1)
    unfold whileN at h1
    cases e : mt ρ S with
    | ok b S1 =>
      rw [e] at h1
      cases b with
      | false => exact absurd (h1 0) (fun z => nomatch z)
      | true =>
        simp only [toS_ok, if_true] at h1 ⊢
        cases e2 : mb ρ S1 with
        | nx ρ2 S2 => rw [e2] at h1; exact (sWhile_bad h1).symm
        | ct ρ2 S2 => rw [e2] at h1; exact (sWhile_bad h1).symm
        | bk ρ2 S2 => rw [e2] at h1; exact absurd (h1 0) (fun z => nomatch z)
        | rt a S2 => rw [e2] at h1; exact absurd (h1 0) (fun z => nomatch z)
        | ex C fs vs ρ2 S2 => rw [e2] at h1; exact absurd (h1 0) (fun z => nomatch z)
        | bad => rfl
    | ex C fs vs S1 => rw [e] at h1; exact absurd (h1 0) (fun z => nomatch z)
    | bad => rfl
theorem sim_while (ht : SimT c W tt mt) (hb : SimS c W t m) : SimS c W (tWhile tt t) (sWhile mt m) := fun nu F H O Oc S σ ρ Dn w s hp => by
  by_cases hx : ∃ k, whileN mt m k ρ S ≠ .bad
  · obtain ⟨k, hk⟩ := hx
    rw [sWhile_of hk] at hp
    refine ⟨fun k σ' H' => ∃ nu2 F2 O2 S2 ρ2, Ext nu F Oc nu2 F2 O2 ∧ Wd c nu2 F2 H' O2 S2 ∧ SlotR c nu2 F2 O2 Oc σ' ρ2 ∧ PostS c W nu F Oc Dn (whileN mt m k ρ2 S2),
      ⟨k, nu, F, O, S, ρ, ⟨List.prefix_rfl, fun _ _ q => q, s.oc⟩, w, s, hp⟩, ?_⟩
    rintro k σ' H' ⟨nu2, F2, O2, S2, ρ2, e2, w2, s2, h2⟩
    cases k with
    | zero => exact h2.elim
    | succ k =>
      unfold whileN at h2
      have up0 : ∀ {nu' : List Addr} {F' : Hp} {O' : Ow}, Ext nu2 F2 Oc nu' F' O' → Ext nu F Oc nu' F' O' := fun x => ⟨e2.nu.trans x.nu, fun a o q => x.F _ _ (e2.F _ _ q), x.O⟩
      refine ht nu2 F2 H' O2 Oc S2 σ' ρ2 _ w2 s2 (PostS.bindB e2 s2 h2 fun b S3 nu3 F3 H3 O3 b' e3 w3 v3 h3 => ?_)
      cases (show b = b' from v3)
      have s3 := s2.mono e3
      have e4 : Ext nu F Oc nu3 F3 O3 := e2.trans e3
      have up : ∀ {nu' : List Addr} {F' : Hp} {O' : Ow}, Ext nu3 F3 Oc nu' F' O' → Ext nu F Oc nu' F' O' := fun x => ⟨e4.nu.trans x.nu, fun a o q => x.F _ _ (e4.F _ _ q), x.O⟩
      cases b with
      | false => exact h3 nu3 F3 H3 O3 σ' e4 w3 s3
      | true =>
        simp only [if_true] at h3 ⊢
        refine ⟨fun σ5 H5 => ∃ nu5 F5 O5 S5 ρ5, Ext nu F Oc nu5 F5 O5 ∧ Wd c nu5 F5 H5 O5 S5 ∧ SlotR c nu5 F5 O5 Oc σ5 ρ5 ∧ PostS c W nu F Oc Dn (whileN mt m k ρ5 S5), fun σ5 H5 z => ⟨k, Nat.lt_succ_self _, z⟩, ?_⟩
        refine hb nu3 F3 H3 O3 Oc S3 σ' ρ2 _ w3 s3 ?_
        cases eb : m ρ2 S3 with
        | nx ρ5 S5 => rw [eb] at h3; exact fun nu' F' H' O' σ' x' w' s' => ⟨nu', F', O', S5, ρ5, up x', w', s', h3⟩
        | ct ρ5 S5 => rw [eb] at h3; exact fun nu' F' H' O' σ' x' w' s' => ⟨nu', F', O', S5, ρ5, up x', w', s', h3⟩
        | bk ρ5 S5 => rw [eb] at h3; exact fun nu' F' H' O' σ' x' w' s' => h3 nu' F' H' O' σ' (up x') w' s'
        | rt a S5 => rw [eb] at h3; exact fun nu' F' H' O' v x' w' s' => h3 nu' F' H' O' v (up x') w' s'
        | ex C fs vs ρ5 S5 => rw [eb] at h3; exact fun nu' F' H' O' σ' dx ws x' w' s' => h3 nu' F' H' O' σ' dx ws (up x') w' s'
        | bad => rw [eb] at h3; exact h3.elim
  · unfold sWhile at hp
    rw [dif_neg hx] at hp
    exact hp.elim
end
end L3

namespace L3
open PySem PySem.Spec PyProof.Rows L2

def WT : WX := fun _ _ _ _ => True
section
variable {c : Cn} {W : WX} {σ : L2.St} {ρ : Rho} {nu nu1 : List Addr} {F F1 H : Hp} {O O1 Oc : Ow} {S : AS} {ta tb te : TE} {ma mb me : ME} {tt : TT} {mt : MT} {t u : TS} {m n : MS} {wi wi1 : TI} {mi mi1 : MI} {g g1 : TG} {mg mg1 : MG} {tt1 : TT} {mt1 : MT}
/-- a part within a block, from which nothing is raised -/
theorem Post.bindT {α β γ δ : Type} {σ' : L2.St} {Rel : RelT α β} {Rel2 : RelT γ δ} {nu0 : List Addr} {F0 : Hp} {O0 : Ow} {Q : δ → Hp → Prop} {T : β → Hp → Prop} {r : R α} {k : α → AS → R γ} (h : Post c W σ Rel2 nu0 F0 O0 Q (r.bind k))
    (hk : ∀ a S1 nu1 F1 H1 O1 x, Ext nu F O nu1 F1 O1 → Wd c nu1 F1 H1 O1 S1 → Rel O nu1 F1 O1 a x → Post c W σ Rel2 nu0 F0 O0 Q (k a S1) → T x H1) : Post c WT σ' Rel nu F O T r := by
  cases r with
  | ok a S' => exact fun nu' F' H' O' b e1 w r1 => hk a S' nu' F' H' O' b e1 w r1 h
  | ex C fs vs S' => exact fun _ _ _ _ _ _ _ _ _ _ _ => trivial
  | bad => exact h.elim
/-- letting go, within a block -/
theorem zD_runT {α β : Type} {σ' : L2.St} {ρ' : Rho} {Rel : RelT α β} {nu0 : List Addr} {F0 : Hp} {O0 : Ow} {H1 : Hp} {S1 : AS} {Q : β → Hp → Prop} {a : SV} {x : V} {k : D → AS → R α} (e1 : Ext nu F O nu1 F1 O1) (w1 : Wd c nu1 F1 H1 O1 S1)
    (v1 : VRel c σ' ρ' O nu1 F1 O1 a x) (h : Post c W σ Rel nu0 F0 O0 Q ((zD a S1).bind k)) :
    ∃ F2 O2 d, Ext nu F O nu1 F2 O2 ∧ Wd c nu1 F2 H1 O2 S1 ∧ Rep c nu1 F2 d x ∧ Post c W σ Rel nu0 F0 O0 Q (k d S1) := by
  cases a with
  | fz d => exact ⟨F1, O1, d, e1, w1, v1, h⟩
  | own d =>
    obtain ⟨p, o, rfl, hp, h0⟩ := v1
    obtain ⟨F2, w2, hF, r⟩ := w1.freeze hp
    exact ⟨F2, _, d, ⟨e1.nu, fun a o q => hF _ _ (e1.F a o q), fun q d' z => by
      rw [updO_ne (fun y => by rw [y, h0] at z; cases z)]
      exact e1.O _ _ z⟩, w2, r, h⟩
  | bor d => exact h.elim
theorem Ext.set' {p : Addr} {d : Option (D × HO)} (e : Ext nu F O nu1 F1 O1) (h : O p = none) : Ext nu F O nu1 F1 (updO O1 p d) := ⟨e.nu, e.F, fun q d' z => by
  rw [updO_ne (fun y => by rw [y, h] at z; cases z)]
  exact e.O _ _ z⟩
def compL (mg : MG) (mt : MT) (me : ME) (ρ : Rho) : List D → AS → List D → R (List D)
  | [], S, acc => .ok acc S
  | d :: r, S, acc => match mg d ρ with
    | none => .bad
    | some ρ2 => (mt ρ2 S).bind fun b S1 => if b = true then (me ρ2 S1).bind fun a S2 => (zD a S2).bind fun e S3 => guardR (acc.length < sizeLine) (compL mg mt me ρ r S3 (acc ++ [e])) else compL mg mt me ρ r S1 acc
def eLc (mi : MI) (mg : MG) (mt : MT) (me : ME) (vs : List Nat) : ME := fun ρ S => (mi ρ S).bind fun ds S1 => (compL mg mt me (wipeR ρ vs) ds S1 []).bind fun out S2 => .ok (.own (.lst out)) S2
def mYes : MT := fun _ S => .ok true S
theorem sim_yes : SimT c W tYes mYes := fun nu F H O Oc S σ ρ Q w s h => h nu F H O true (Ext.refl ..) w rfl
theorem compL_nil (mg : MG) (mt : MT) (me : ME) (ρ : Rho) (S : AS) (acc : List D) : compL mg mt me ρ [] S acc = .ok acc S := rfl
theorem compL_cons (mg : MG) (mt : MT) (me : ME) (ρ : Rho) (S : AS) (acc : List D) (d : D) (r : List D) : compL mg mt me ρ (d :: r) S acc = (match mg d ρ with
    | none => .bad
    | some ρ2 => (mt ρ2 S).bind fun b S1 => if b = true then (me ρ2 S1).bind fun a S2 => (zD a S2).bind fun e S3 => guardR (acc.length < sizeLine) (compL mg mt me ρ r S3 (acc ++ [e])) else compL mg mt me ρ r S1 acc) := rfl
theorem bind_assoc {α β γ : Type} (r : R α) (k : α → AS → R β) (l : β → AS → R γ) : (r.bind k).bind l = r.bind fun a S => (k a S).bind l := by cases r <;> rfl
theorem bind_ite {α β : Type} {p : Prop} [Decidable p] (a b : R α) (l : α → AS → R β) : (if p then a else b).bind l = if p then a.bind l else b.bind l := by split <;> rfl
theorem bind_guard {α β : Type} {p : Prop} [Decidable p] (a : R α) (l : α → AS → R β) : (guardR p a).bind l = guardR p (a.bind l) := by unfold guardR; split <;> rfl
theorem sim_lc {vs : List Nat} (hi : SimI c W wi mi) (hg : SimG c vs g mg) (ht : SimT c WT tt mt) (he : SimE c WT te me) : SimE c W (tLc wi g tt te vs) (eLc mi mg mt me vs) := fun nu F H O Oc S σ ρ Q w s hp =>
  hi nu F H O Oc S σ ρ _ w s (Post.bind vrelM hp fun ds S1 nu1 F1 H1 O1 J e1 w1 v1 h1 => by
    have v2 : ItR c nu1 F1 J ds := v1
    intro D hD
    obtain ⟨w2, e2⟩ := w1.newO hD (o := .lst []) (d := .lst []) ⟨[], rfl, rfl⟩
    have hD0 := (w1.fresh hD).2.2
    refine ⟨fun i k H' => k = ds.length - i ∧ i ≤ ds.length ∧ ∃ nu2 F2 O2 S2 acc o2, Ext nu1 F1 O1 nu2 F2 O2 ∧ Wd c nu2 F2 H' O2 S2 ∧ O2 D = some (.lst acc, o2) ∧ Post c W σ (VRel c σ ρ) nu1 F1 O1 Q ((compL mg mt me (wipeR ρ vs) (ds.drop i) S2 acc).bind fun out S2 => .ok (.own (.lst out)) S2),
      ⟨ds.length, rfl, Nat.zero_le _, nu1, F1, _, S1, [], _, e2, w2, updO_same, h1⟩, ?_⟩
    rintro i k H' ⟨rfl, hl, nu2, F2, O2, S2, acc, o2, e3, w3, hDo, h3⟩
    obtain ⟨g1, g2⟩ := v2 nu2 F2 H' O2 S2 e3.nu e3.F w3
    by_cases hlt : i < ds.length
    · obtain ⟨q1, q2⟩ := g1 i ds[i] (List.getElem?_eq_getElem hlt)
      refine .inr ⟨q1, fun H4 => ∃ nu4 F4 O4 S4 acc4 o4, Ext nu1 F1 O1 nu4 F4 O4 ∧ Wd c nu4 F4 H4 O4 S4 ∧ O4 D = some (.lst acc4, o4) ∧ Post c W σ (VRel c σ ρ) nu1 F1 O1 Q ((compL mg mt me (wipeR ρ vs) (ds.drop (i + 1)) S4 acc4).bind fun out S2 => .ok (.own (.lst out)) S2),
        fun H4 z => ⟨ds.length - (i + 1), by omega, rfl, hlt, z⟩, fun x H4 y => ?_⟩
      obtain ⟨F4, hF, w4, r4⟩ := q2 x H4 y
      have e4 : Ext nu1 F1 O1 nu2 F4 O2 := ⟨e3.nu, fun a o q => hF _ _ (e3.F a o q), e3.O⟩
      have s4 := ((s.mono e1).mono e4).wipe vs
      rw [List.drop_eq_getElem_cons hlt, compL_cons] at h3
      cases em : mg ds[i] (wipeR ρ vs) with
      | none => rw [em] at h3; exact h3.elim
      | some ρ5 =>
        rw [em] at h3
        dsimp only at h3
        rw [bind_assoc] at h3
        refine hg nu2 F4 H4 O2 Oc S2 _ _ ds[i] x ρ5 _ w4 s4 r4 em fun σ5 s5 o5 => ⟨wipe_off o5, ?_⟩
        refine ht nu2 F4 H4 O2 Oc S2 σ5 ρ5 _ w4 s5 (Post.bindT h3 fun b S6 nu6 F6 H6 O6 b' e6 w6 v6 h6 => ?_)
        cases (show b = b' from v6)
        cases b with
        | false =>
          simp only [Bool.false_eq_true, if_false] at h6 ⊢
          exact ⟨nu6, F6, O6, S6, acc, _, e4.trans e6, w6, e6.O _ _ hDo, h6⟩
        | true =>
          simp only [if_true] at h6 ⊢
          rw [bind_assoc] at h6
          refine he nu6 F6 H6 O6 Oc S6 σ5 ρ5 _ w6 (s5.mono e6) (Post.bindT h6 fun a S7 nu7 F7 H7 O7 v e7 w7 v7 h7 => ?_)
          rw [bind_assoc] at h7
          obtain ⟨F8, O8, d8, e8, w8, r8, h8⟩ := zD_runT e7 w7 v7 h7
          rw [bind_guard] at h8
          obtain ⟨hg8, h8⟩ := h8.guard
          have hD8 := e8.O _ _ (e6.O _ _ hDo)
          obtain ⟨_, _, hH, vs8, eo, r9⟩ := w8.own D _ hD8
          dsimp only at eo hH
          subst eo
          have hln := r9.len
          refine ⟨vs8, hH, by rw [← hln]; exact hg8, nu7, F8, _, S7, acc ++ [d8], _, ((e4.trans e6).trans e8).set' hD0, w8.setO (d' := .lst (acc ++ [d8])) hD8 ⟨_, rfl, r9.append (RepL.one r8)⟩, updO_same, h8⟩
    · have e : i = ds.length := by omega
      subst e
      rw [List.drop_length, compL_nil] at h3
      exact .inl ⟨g2, h3 nu2 F2 H' O2 (.ref D) e3 w3 ⟨D, _, rfl, hDo, hD0⟩⟩)
end
end L3

namespace L3
open PySem PySem.Spec PyProof.Rows L2

/-! ### defs -/
abbrev MF := List D → AS → R SV
def rho0 (n : Nat) (ds : List D) : Rho := ds.map (fun d => some (.fz d)) ++ List.replicate (n - ds.length) none
def runF (n : Nat) (ms : MS) : MF := fun ds S => match ms (rho0 n ds) S with
  | .nx _ S' => .ok (.fz .non) S'
  | .rt a S' => .ok a S'
  | .ex C fs vs _ S' => .ex C fs vs S'
  | _ => .bad
def WE1 (E : XK) : WX := fun cls d _ H => E cls d H
def ET : XK := fun _ _ _ => True
def spM (c : Cn) (n : Nat) (m : MF) : Sp := fun vs H Q E => vs.length = n ∧ ∃ nu F O S ds, Wd c nu F H O S ∧ RepL c nu F ds vs ∧ Post c (WE1 E) [] (VRel c [] []) nu F O Q (m ds S)
section
variable {c : Cn} {W : WX} {σ : L2.St} {ρ : Rho} {nu nu1 : List Addr} {F F1 H : Hp} {O O1 Oc : Ow} {S : AS} {ta tb te : TE} {ma mb me : ME} {t : TA} {m : MA}
theorem start_slots {n : Nat} {ds : List D} {vs : List V} (N : List Str) (r : RepL c nu F ds vs) : SlotR c nu F O O (L2.start N vs) (rho0 N.length ds) := by
  have hl := r.len
  unfold L2.start rho0
  refine ⟨by simp [hl], fun i d h => ?_, fun i d h => ?_, fun i j d e p h => ?_, fun _ _ z => z⟩
  · by_cases hi : i < ds.length
    · rw [List.getElem?_append_left (by simpa using hi), List.getElem?_map] at h
      rw [List.getElem?_eq_getElem hi] at h
      have e : ds[i] = d := by simpa using h
      obtain ⟨v, e1, e2⟩ := r.get (List.getElem?_eq_getElem hi)
      rw [e] at e2
      refine ⟨v, ?_, e2⟩
      rw [List.getElem?_append_left (by simp; omega), List.getElem?_map, e1]
      rfl
    · rw [List.getElem?_append_right (by simp; omega), List.getElem?_replicate] at h
      split at h
      · cases h
      · cases h
  · by_cases hi : i < ds.length
    · rw [List.getElem?_append_left (by simpa using hi), List.getElem?_map, List.getElem?_eq_getElem hi] at h
      simp at h
    · rw [List.getElem?_append_right (by simp; omega), List.getElem?_replicate] at h
      split at h
      · cases h
      · cases h
  · by_cases hi : i < ds.length
    · rw [List.getElem?_append_left (by simpa using hi), List.getElem?_map, List.getElem?_eq_getElem hi] at h
      simp at h
    · rw [List.getElem?_append_right (by simp; omega), List.getElem?_replicate] at h
      split at h
      · cases h
      · cases h
theorem post_run {ms : MS} {N : List Str} {Q : VK} {ds : List D} {vs : List V} {ts : TS} (w : Wd c nu F H O S) (r : RepL c nu F ds vs) (hs : SimS c W ts ms) {E : XK} (hE : ∀ cls d σ H, E cls d H → W cls d σ H)
    (h : Post c (WE1 E) [] (VRel c [] []) nu F O Q (runF N.length ms ds S)) : ts { nx := fun _ H' => Q .non H', rt := Q } (L2.start N vs) H := by
  refine hs nu F H O O S _ (rho0 N.length ds) _ w (start_slots (n := 0) N r) ?_
  unfold runF at h
  cases e : ms (rho0 N.length ds) S with
  | nx ρ' S' => rw [e] at h; exact fun nu' F' H' O' σ' x w' _ => h nu' F' H' O' .non x w' rfl
  | rt a S' => rw [e] at h; exact fun nu' F' H' O' v x w' r' => h nu' F' H' O' v x w' r'
  | ex C fs vs ρ' S' => rw [e] at h; exact fun nu' F' H' O' σ' dx ws x w' _ r1 r2 r3 => hE _ _ _ _ (h nu' F' H' O' dx ws x w' r1 r2 r3)
  | bk ρ' S' => rw [e] at h; exact h.elim
  | ct ρ' S' => rw [e] at h; exact h.elim
  | bad => rw [e] at h; exact h.elim
/-- a def that lets no exception out -/
theorem fn0 {mg : Str → Option Value} {base : Heap} {x qual : Str} {st : Stmt} {f : Addr} {fd : FuncData} {N ps : List Str} {k : Nat} {ms : MS} (F : Fun c.K x qual st f fd) (S : FnScope N ps (defScope st))
    (hb : ∀ (cdv : Value) (A : Around) (outer : List Env) (s : Shared) (H : Hp) (E : XK), Room k (A.deeper (envOfC qual (defScope st) s.heap.objs.size f cdv)) →
      ∃ t, PSs (cxOf CX0 c.P c.w c.K mg base N qual (defScope st) f cdv A outer s H E).nox (defBody st) t ∧ SimS c WT t ms) : FnOk c.P c.w c.K mg base CX0 (k + 1) f fd ps (spM c ps.length (runF N.length ms)) := by
  refine F.ok S (fun vs H Q E h => h.1) fun cdv A outer s H vs Q E hr h => ?_
  obtain ⟨t, h1, h2⟩ := hb cdv A outer s H E hr
  obtain ⟨_, nu, F, O, S, ds, w, r, hp⟩ := h
  exact ⟨t, h1, post_run w r h2 (fun _ _ _ _ _ => trivial) hp⟩
/-- a def that may raise -/
theorem fnX {mg : Str → Option Value} {base : Heap} {x qual : Str} {st : Stmt} {f : Addr} {fd : FuncData} {N ps : List Str} {k : Nat} {ms : MS} (F : Fun c.K x qual st f fd) (S : FnScope N ps (defScope st))
    (hb : ∀ (cdv : Value) (A : Around) (outer : List Env) (s : Shared) (H : Hp) (E : XK), Room k (A.deeper (envOfC qual (defScope st) s.heap.objs.size f cdv)) →
      ∃ t, PSs (cxOf (L2.CX c.P c.w) c.P c.w c.K mg base N qual (defScope st) f cdv A outer s H E) (defBody st) t ∧ SimS c (WE1 E) t ms) : FnOk c.P c.w c.K mg base (L2.CX c.P c.w) (k + 1) f fd ps (spM c ps.length (runF N.length ms)) := by
  refine F.okX S (fun vs H Q E h => h.1) fun cdv A outer s H vs Q E hr h => ?_
  obtain ⟨t, h1, h2⟩ := hb cdv A outer s H E hr
  obtain ⟨_, nu, F, O, S, ds, w, r, hp⟩ := h
  exact ⟨t, h1, post_run w r h2 (fun _ _ _ _ z => z) hp⟩
theorem passT {X : Cx} : Passes CX0 X ET := fun _ _ _ _ _ _ _ h => h.elim
/-! ### calls -/
def eCall (n : Nat) (m : MF) (ma : MA) : ME := fun ρ S => (ma ρ S).bind fun ds S1 => guardR (ds.length = n) (m ds S1)
theorem Post.call {nu0 : List Addr} {F0 : Hp} {O0 : Ow} {Q : VK} {E : XK} {r : R SV} (hE : ∀ cls d H, W cls d σ H → E cls d H) (h : Post c W σ (VRel c σ ρ) nu F O Q r) : Post c (WE1 E) [] (VRel c [] []) nu F O Q r := by
  cases r with
  | ok a S' =>
    intro nu' F' H' O' v e w r
    cases a with
    | fz d => exact h nu' F' H' O' v e w r
    | own d => exact h nu' F' H' O' v e w r
    | bor d => obtain ⟨p, _, i, _, _, z, _⟩ := r; simp at z
  | ex C fs vs S' => exact fun nu' F' H' O' dx ws e w r1 r2 r3 => hE _ _ _ (h nu' F' H' O' dx ws e w r1 r2 r3)
  | bad => exact h
theorem sim_call {n : Nat} {f : MF} {E : XK} (hE : ∀ cls d σ H, W cls d σ H → E cls d H) (h : SimA c W t m) : SimE c W (tCall (spM c n f) [] E t) (eCall n f m) := fun nu F H O Oc S σ ρ Q w s hp =>
  h nu F H O Oc S σ ρ _ w s (Post.bind vrelM hp fun ds S1 nu1 F1 H1 O1 vs e1 w1 v1 h1 => by
    obtain ⟨hg, h1⟩ := h1.guard
    have v2 : RepL c nu1 F1 ds vs := v1
    rw [List.append_nil]
    exact ⟨by rw [← v2.len]; exact hg, nu1, F1, O1, S1, ds, w1, v2, h1.call (nu0 := []) (F0 := F) (O0 := O) (fun cls d H => hE cls d σ H)⟩)
theorem sim_callT {n : Nat} {f : MF} (h : SimA c W t m) : SimE c W (tCall (spM c n f) [] ET t) (eCall n f m) := sim_call (fun _ _ _ _ _ => trivial) h
theorem sim_callE {n : Nat} {f : MF} {E : XK} (h : SimA c (WE1 E) t m) : SimE c (WE1 E) (tCall (spM c n f) [] E t) (eCall n f m) := sim_call (fun _ _ _ _ z => z) h
theorem sim_callS {n : Nat} {f : MF} (h : SimA c W t m) : SimE c W (tCallS (spM c n f) (WE W) t) (eCall n f m) := fun nu F H O Oc S σ ρ Q w s hp =>
  h nu F H O Oc S σ ρ _ w s (Post.bind vrelM hp fun ds S1 nu1 F1 H1 O1 vs e1 w1 v1 h1 => by
    obtain ⟨hg, h1⟩ := h1.guard
    have v2 : RepL c nu1 F1 ds vs := v1
    exact ⟨by rw [← v2.len]; exact hg, nu1, F1, O1, S1, ds, w1, v2, h1.call (nu0 := []) (F0 := F) (O0 := O) (E := WE W σ) (fun cls d H z => z)⟩)
/-! ### an exception is made and raised -/
theorem Wd.addF {H' : Hp} (w : Wd c nu F H O S) {p : Addr} (h : H p = none) {o : HO} (hp : H' p = some o) (hpl : Plain o) (k : ∀ a u, H a = some u → H' a = some u) : Wd c nu (upd F p o) H' O S ∧ Ext nu F O nu (upd F p o) O := by
  obtain ⟨w1, e1⟩ := w.newF h o hpl
  refine ⟨⟨fun a u e => ?_, w1.nd, w1.len, fun n a d e1 e2 => ?_, fun q d e => ?_, w.tab.to fun a u e e0 e1 e2 => ⟨k _ _ e, by rw [upd_ne (ne_of_none e h)]; exact e0, e1, e2⟩, w1.ft⟩, e1⟩
  · by_cases ha : a = p
    · subst ha; rw [upd_same] at e; cases e; exact hp
    · rw [upd_ne ha] at e; exact k _ _ (w.sub _ _ e)
  · obtain ⟨f, u, e3, r⟩ := w1.obj n a d e1 e2
    refine ⟨f, u, ?_, r⟩
    by_cases ha : a = p
    · subst ha; rw [upd_same] at e3; cases e3; exact hp
    · rw [upd_ne ha] at e3; exact k _ _ e3
  · obtain ⟨f, nn, e3, r⟩ := w1.own q d e
    refine ⟨f, nn, ?_, r⟩
    by_cases ha : q = p
    · subst ha; rw [upd_same] at e3; cases e3; exact hp
    · rw [upd_ne ha] at e3; exact k _ _ e3
/-- what an exception's __init__ promises: the fields fs, of the arguments -/
def spI (C : Addr) (n : Nat) (fs : List V → List (Str × V)) : Sp := fun vs H Q E => ∃ a ws, vs = .ref a :: ws ∧ ws.length = n ∧ H a = some (exo a C none) ∧
  ∀ d H', d ≠ a → H d = none → H' a = some (exo a C (some d)) → H' d = some (exd d (fs ws)) → (∀ b o, b ≠ a → H b = some o → H' b = some o) → Q .non H'
def sRaise (C : Str) (n : Nat) (fs : List Str) (g : List D → List D) (m : MA) : MS := fun ρ S => (m ρ S).toS ρ fun ds S1 => if ds.length = n then .ex C fs (g ds) ρ S1 else .bad
/-- raise C(e, ..): fs the fields' names (the last stored first) -/
theorem sim_raise {C : Str} {n : Nat} {fs : List Str} {g : List D → List D} {gV : List V → List V} (hn : ∀ ds : List D, ds.length = n → (g ds).length = fs.length) (hg : ∀ nu F ds vs, RepL c nu F ds vs → ds.length = n → RepL c nu F (g ds) (gV vs)) (hm : n ≤ 1000) (h : SimA c W t m) :
    SimS c W (fun _ σ H => tMkO (c.ca C) (spI (c.ca C) n fun ws => fs.zip (gV ws)) [] t σ H fun cls d H' => W cls d σ H') (sRaise C n fs g m) := fun nu F H O Oc S σ ρ Dn w s hp =>
  h nu F H O Oc S σ ρ _ w s (PostS.bind s hp fun ds S1 nu1 F1 H1 O1 vs e1 w1 v1 h1 => by
    have v2 : RepL c nu1 F1 ds vs := v1
    split at h1
    · rename_i hl
      have hl2 : vs.length = n := v2.len.symm.trans hl
      refine ⟨by omega, fun a ha => ?_⟩
      rw [List.append_nil]
      refine ⟨a, vs, rfl, hl2, upd_same, fun d H' hda hd h2 h3 hk => ⟨rfl, d, _, h2, h3, ?_, ?_⟩⟩
      · rw [upd_ne hda] at hd; exact hd
      · rw [upd_ne hda] at hd
        have hk2 : ∀ b o, H1 b = some o → (upd (del H' a) d (.xd (fs.zip (gV vs)))) b = some o := fun b o z => by
          rw [upd_ne (ne_of_none z hd), del_ne (ne_of_none z ha)]
          refine hk b o (ne_of_none z ha) ?_
          rw [upd_ne (ne_of_none z ha)]
          exact z
        obtain ⟨w3, e3⟩ := w1.addF (o := .xd (fs.zip (gV vs))) hd upd_same (plain_by (fun _ z => nomatch z) (fun _ z => nomatch z)) hk2
        have r2 := hg nu1 F1 ds vs v2 hl
        have s3 := (s.mono e1).mono e3
        exact h1 nu1 _ _ O1 σ d _ ⟨List.prefix_rfl, e3.F, s3.oc⟩ w3 s3 upd_same ((hn ds hl).symm.trans r2.len) (RepL.mono e3.nu e3.F _ _ r2)
    · exact h1.elim)
end
/-! ### making an own exception with no argument -/
section
variable {X : Cx} {ta : TA} {p pos : Pos}
theorem pmk_oex0 {CX : CXT} {x : Str} {C fI : Addr} {k : Nat} {fd : FuncData} {ps : List Str} {sp : Sp} {ds : List Value} {dvs : List V} (T : OexC X.K C) (iC : PySem.W.findIn X.K (.ref C) "__init__" = some (some (.ref fI))) (tI : PySem.W.typeIn X.K (.ref fI) = some (.type "function"))
    (F1 : FnOk X.prog X.w X.K X.mg X.base CX k fI fd ps sp) (hr : Room (k + 1) X.A) (hb : Binds X.K fd ps ds) (hd : Vals dvs ds) (hx : Passes CX X (fun _ _ _ => False)) (hg : Gl X x) (hm : X.mg x = some (.ref C))
    (hdb : (x == ("__debug__" : Str)) = false := by decide) :
    PMk X (.Call (.Name x p) [] [] pos) (tMkO C sp dvs tNil) := by
  intro pins s σ H Q I h
  obtain ⟨nm, q, N, bs, bm, sn, sub, ab, col, dd, k0, k1, k2, k3, k5, hC, hbm⟩ := T.cls
  refine wpAny_Call_Name_kw (ld_glob I hg hm ?_ hdb)
  refine PySem.W.callWith_K0 I.kIn T.kC ?_
  show wpAny _ _ (call (.ref C) []) _ _ _
  obtain ⟨hz, q1⟩ := h
  obtain ⟨hp, g, dr, tk, os⟩ := s
  have I1 := I
  have hsz : hp.objs.size ≤ hp.objs.size + 1 := Nat.le_succ _
  have hn : H (hp.objs.size + 1) = none := I1.hok.fresh hsz
  have hq := q1 (hp.objs.size + 1) hn
  have kk : ∀ b o, hp.get? b = some o → ((hp.push (PySem.W.kdv_tup [])).push (PySem.HandSPX.excO C hp.objs.size)).get? b = some o := fun b o e => Heap.get?_push_of_some _ (Heap.get?_push_of_some _ e)
  have hget : ((hp.push (PySem.W.kdv_tup [])).push (PySem.HandSPX.excO C hp.objs.size)).get? (hp.objs.size + 1) = some (PySem.HandSPX.excO C hp.objs.size) := by heap_get
  have I2 : Inv X pins σ (upd H (hp.objs.size + 1) (exo (hp.objs.size + 1) C none)) ⟨(hp.push (PySem.W.kdv_tup [])).push (PySem.HandSPX.excO C hp.objs.size), g, dr, tk, os⟩ :=
    I1.laid (t' := tk) (a := hp.objs.size + 1) (o := exo (hp.objs.size + 1) C none) (h' := (hp.push (PySem.W.kdv_tup [])).push (PySem.HandSPX.excO C hp.objs.size)) kk hsz (exo_ok hget)
  rw [List.nil_append] at hq
  have r2 : Vals (V.ref (hp.objs.size + 1) :: dvs) (Value.ref (hp.objs.size + 1) :: ds) := .cons rfl hd
  have hl : ([Value.ref (hp.objs.size + 1)] ++ ds).length = ps.length := by
    have e := r2.length
    rw [F1.len _ _ _ _ hq] at e
    rw [List.cons_append, List.nil_append]
    exact e.symm
  have hb2 := hb ⟨(hp.push (PySem.W.kdv_tup [])).push (PySem.HandSPX.excO C hp.objs.size), g, dr, tk, os⟩ [Value.ref (hp.objs.size + 1)] I2.kIn hl
  rw [List.cons_append, List.nil_append] at hb2
  refine wpAny_call (PySem.HandSPX.call_own F.excBase_ValueError (fun Y => PySem.HandSPX.refsVE_contains Y bm hbm) (I1.kIn _ _ hC) (PySem.W.looks_findIn I1.kIn iC) (fun self => PySem.W.bind_fn I1.kIn self tI) (Nat.zero_le _)
    (codeAny_mono (F1.run _ X.stack _ _ ⟨Value.ref (hp.objs.size + 1) :: [], []⟩ (Value.ref (hp.objs.size + 1) :: ds) _ _ (fun _ _ _ => False) (hr.make C [] []) (I2.env0.make C [] []) hb2 r2 hq) fun r s' hq' => ?_))
  cases r with
  | error er => exact hx pins σ _ _ er s' I2 hq'
  | ok fl =>
    cases fl with
    | ret u =>
      obtain ⟨v, H2, os2, bare2, un2, hok2, rv, ev, d, fs, ea, ed, hd1, q2⟩ := hq'
      subst ev
      obtain ⟨h2, g2, d2, t2, os'⟩ := s'
      exact ⟨rv, mk_end (raises_own T.exC T.tyC) I1 hsz kk un2 hok2 os2 bare2 ea ed hd1 q2⟩
    | next => exact False.elim hq'
    | brk => exact False.elim hq'
    | cont => exact False.elim hq'
end
/-! ### the __init__ of an own exception -/
section
variable {P : Program} {w : World} {K : PySem.W.Frag} {mg : Str → Option Value} {base : Heap}
/-- self.word = '..' -/
theorem init1 {qual : Str} {st : Stmt} {f C : Addr} {fd : FuncData} {g x : Str} {p1 p2 p3 p4 : Pos} {k : Nat} (F : Fun K "__init__" qual st f fd) (S : FnScope ["self"] ["self"] (defScope st)) (hl : (defScope st).names.lookup ("self" : Str) = some .local)
    (hb : defBody st = [.Assign [.Attribute (.Name "self" p1) g p2] (.Constant (.str x) k p3) p4]) (T : OexC K C) (hg : PySem.W.findIn K (.ref C) g = some none)
    (hs : ∀ cdv A, swapsWith (.Constant (.str x) k p3) (some (.Attribute (.Name "self" p1) g p2)) p4.line (envOfC qual (defScope st) A f cdv) = pure false) : FnOk P w K mg base CX0 1 f fd ["self"] (spI C 0 fun _ => [g].zip [V.str x]) := by
  refine F.ok S (fun vs H Q E h => ?_) (fun cdv A outer s H vs Q E hr h => ?_)
  · obtain ⟨a, ws, rfl, hl, _⟩ := h
    have : ws = [] := List.length_eq_zero_iff.mp hl
    subst this
    rfl
  · obtain ⟨a, ws, rfl, hlw, ha, hk⟩ := h
    have : ws = [] := List.length_eq_zero_iff.mp hlw
    subst this
    rw [hb]
    refine ⟨_, pss_one (ps_ost (pe_var (i := 0) rfl (.inl hl)) pe_str (hs _ _)), ?_⟩
    refine ⟨.ref a, rfl, a, C, rfl, T, hg, .inl ⟨ha, fun dx hd hne => ?_⟩⟩
    refine hk dx _ hne hd upd_same ?_ fun b o hb ho => ?_
    · rw [upd_ne hne, upd_same]; rfl
    · rw [upd_ne hb, upd_ne (ne_of_none ho hd)]; exact ho
/-- self.word = '..'; self.row = row -/
theorem init2 {qual : Str} {st : Stmt} {f C : Addr} {fd : FuncData} {g x g2 y : Str} {p1 p2 p3 p4 q1 q2 q3 q4 : Pos} {k : Nat} (F : Fun K "__init__" qual st f fd) (S : FnScope ["self", y] ["self", y] (defScope st)) (hl : (defScope st).names.lookup ("self" : Str) = some .local) (hl2 : (defScope st).names.lookup y = some .local)
    (hb : defBody st = [.Assign [.Attribute (.Name "self" p1) g p2] (.Constant (.str x) k p3) p4, .Assign [.Attribute (.Name "self" q1) g2 q2] (.Name y q3) q4]) (T : OexC K C) (hg : PySem.W.findIn K (.ref C) g = some none) (hg2 : PySem.W.findIn K (.ref C) g2 = some none)
    (hs : ∀ cdv A, swapsWith (.Constant (.str x) k p3) (some (.Attribute (.Name "self" p1) g p2)) p4.line (envOfC qual (defScope st) A f cdv) = pure false)
    (hs2 : ∀ cdv A, swapsWith (.Name y q3) (some (.Attribute (.Name "self" q1) g2 q2)) q4.line (envOfC qual (defScope st) A f cdv) = pure false) (hd : (y == ("__debug__" : Str)) = false := by decide) (hcd : (y == ("__classdict__" : Str)) = false := by decide) :
    FnOk P w K mg base CX0 1 f fd ["self", y] (spI C 1 fun ws => [g2, g].zip (ws ++ [V.str x])) := by
  refine F.ok S (fun vs H Q E h => ?_) (fun cdv A outer s H vs Q E hr h => ?_)
  · obtain ⟨a, ws, rfl, hl, _⟩ := h
    simp [hl]
  · obtain ⟨a, ws, rfl, hlw, ha, hk⟩ := h
    obtain ⟨u, rfl⟩ : ∃ u, ws = [u] := List.length_eq_one_iff.mp hlw
    rw [hb]
    refine ⟨_, pss_cons (ps_ost (pe_var (i := 0) rfl (.inl hl)) pe_str (hs _ _)) (pss_one (ps_ost (pe_var (i := 0) rfl (.inl hl)) (pe_var (i := 1) rfl (.inl hl2) hd hcd) (hs2 _ _))), ?_⟩
    refine ⟨.ref a, rfl, a, C, rfl, T, hg, .inl ⟨ha, fun dx hdx hne => ?_⟩⟩
    refine ⟨u, rfl, .ref a, rfl, a, C, rfl, T, hg2, .inr ⟨dx, _, upd_same, by rw [upd_ne hne, upd_same], by show (1 : Nat) ≤ 900; decide, ?_⟩⟩
    refine hk dx _ hne hdx ?_ ?_ fun b o hb ho => ?_
    · rw [upd_ne (Ne.symm hne), upd_same]
    · rw [upd_same]; rfl
    · rw [upd_ne (ne_of_none ho hdx), upd_ne hb, upd_ne (ne_of_none ho hdx)]; exact ho
end
end L3

namespace L3
open PySem PySem.Spec PyProof.Rows L2

section
variable {c : Cn} {W : WX} {X : Cx}
/-! ### + - * // % -/
def rAddU (K : PySem.W.Frag) : R2 := fun x y H Q => (((rI0 fun i j => .int (i + j)) x y H Q ∨ (∃ i j, x = .str i ∧ y = .str j ∧ i.length + j.length ≤ sizeLine ∧ Q (.str (i ++ j)) H)) ∨ rCat x y H Q) ∨ rCatA K x y H Q
theorem op_addU : OpR X (binaryOp .Add) (rAddU X.K) := ((op_add.or op_add_str).or op_cat).or op_catA
def gAdd : MO := fun a b S => match a, b with
  | .int i, .int j => .ok (.fz (.int (i + j))) S
  | .str x, .str y => guardR (x.length + y.length ≤ sizeLine) (.ok (.fz (.str (x ++ y))) S)
  | .lst xs, .lst ys => guardR (xs.length + ys.length ≤ sizeLine) (.ok (.own (.lst (xs ++ ys))) S)
  | .tup xs, .tup ys => guardR (xs.length + ys.length ≤ sizeLine) (.ok (.fz (.tup (xs ++ ys))) S)
  | _, _ => .bad
theorem s_add : R2S c W (rAddU c.K) gAdd := fun nu F H O S σ ρ Q a b x y w ra rb h => by
  unfold gAdd at h
  split at h
  · rename_i i j e1 e2
    exact .inl (.inl (.inl ⟨i, j, ra.int w e1, rb.int w e2, h.fz w rfl⟩))
  · rename_i i j e1 e2
    obtain ⟨g, h⟩ := h.guard
    exact .inl (.inl (.inr ⟨i, j, ra.str w e1, rb.str w e2, g, h.fz w rfl⟩))
  · rename_i xs ys e1 e2
    obtain ⟨g, h⟩ := h.guard
    obtain ⟨p, vs, rfl, h1, r1⟩ := ra.lst w e1
    obtain ⟨q, us, rfl, h2, r2⟩ := rb.lst w e2
    exact .inl (.inr ⟨p, q, vs, us, rfl, rfl, h1, h2, by rw [← r1.len, ← r2.len]; exact g, fun l hl => h.own w hl ⟨_, rfl, r1.append r2⟩⟩)
  · rename_i xs ys e1 e2
    obtain ⟨g, h⟩ := h.guard
    obtain ⟨p, vs, rfl, h1, r1⟩ := ra.tup w e1
    obtain ⟨q, us, rfl, h2, r2⟩ := rb.tup w e2
    have l1 := r1.len
    have l2 := r2.len
    refine .inr ⟨p, q, vs, us, rfl, rfl, h1, h2, by omega, fun ez => ?_, fun _ ez => ?_, fun _ _ l hl => h.tup w hl (r1.append r2)⟩
    · subst ez
      have ex : xs = [] := List.length_eq_zero_iff.mp l1
      subst ex
      rw [List.nil_append] at h
      refine h nu F H O (.ref q) (Ext.refl ..) w ?_
      have : Rep c nu F (.tup ys) (.ref q) := by
        cases b with
        | fz d => cases e2; exact rb
        | own d => cases e2; obtain ⟨p', o, _, z⟩ := rb; obtain ⟨_, _, _, r⟩ := w.own p' _ z; exact r.elim
        | bor d => cases e2; obtain ⟨p', o, _, z⟩ := rb; obtain ⟨_, _, _, r⟩ := w.own p' _ z; exact r.elim
      exact this
    · subst ez
      have ey : ys = [] := List.length_eq_zero_iff.mp l2
      subst ey
      rw [List.append_nil] at h
      refine h nu F H O (.ref p) (Ext.refl ..) w ?_
      have : Rep c nu F (.tup xs) (.ref p) := by
        cases a with
        | fz d => cases e1; exact ra
        | own d => cases e1; obtain ⟨p', o, _, z⟩ := ra; obtain ⟨_, _, _, r⟩ := w.own p' _ z; exact r.elim
        | bor d => cases e1; obtain ⟨p', o, _, z⟩ := ra; obtain ⟨_, _, _, r⟩ := w.own p' _ z; exact r.elim
      exact this
  · exact h.elim
/-- list + list, kept by reference -/
def gAddR : MO := fun a b S => match a, b with
  | .lst xs, .lst ys => guardR (xs.length + ys.length ≤ sizeLine) (.ok (.fz (.ref S.length)) (S ++ [.lst (xs ++ ys)]))
  | _, _ => .bad
theorem s_addR : R2S c W (rAddU c.K) gAddR := fun nu F H O S σ ρ Q a b x y w ra rb h => by
  unfold gAddR at h
  split at h
  · rename_i xs ys e1 e2
    obtain ⟨g, h⟩ := h.guard
    obtain ⟨p, vs, rfl, h1, r1⟩ := ra.lst w e1
    obtain ⟨q, us, rfl, h2, r2⟩ := rb.lst w e2
    refine .inl (.inr ⟨p, q, vs, us, rfl, rfl, h1, h2, by rw [← r1.len, ← r2.len]; exact g, fun l hl => ?_⟩)
    obtain ⟨w2, e2⟩ := w.newR hl (o := .lst (vs ++ us)) (d := .lst (xs ++ ys)) ⟨_, rfl, r1.append r2⟩
    exact h _ _ _ _ (.ref l) e2 w2 ⟨l, by rw [← w.len, List.getElem?_append_right (Nat.le_refl _), Nat.sub_self]; rfl, rfl⟩
  · exact h.elim
def gI (g : Int → Int → D) : MO := fun a b S => match a, b with
  | .int i, .int j => .ok (.fz (g i j)) S
  | _, _ => .bad
theorem s_I0 {g : Int → Int → V} {gd : Int → Int → D} (hg : ∀ i j nu F, Rep c nu F (gd i j) (g i j)) : R2S c W (rI0 g) (gI gd) := fun nu F H O S σ ρ Q a b x y w ra rb h => by
  unfold gI at h
  split at h
  · rename_i i j e1 e2
    exact ⟨i, j, ra.int w e1, rb.int w e2, h.fz w (hg i j nu F)⟩
  · exact h.elim
def gIC (C : Int → Int → Prop) [∀ i j, Decidable (C i j)] (g : Int → Int → D) : MO := fun a b S => match a, b with
  | .int i, .int j => guardR (C i j) (.ok (.fz (g i j)) S)
  | _, _ => .bad
theorem s_I {C : Int → Int → Prop} [∀ i j, Decidable (C i j)] {g : Int → Int → V} {gd : Int → Int → D} (hg : ∀ i j nu F, Rep c nu F (gd i j) (g i j)) : R2S c W (rI C g) (gIC C gd) := fun nu F H O S σ ρ Q a b x y w ra rb h => by
  unfold gIC at h
  split at h
  · rename_i i j e1 e2
    obtain ⟨gd, h⟩ := h.guard
    exact ⟨i, j, ra.int w e1, rb.int w e2, gd, h.fz w (hg i j nu F)⟩
  · exact h.elim
abbrev gSub : MO := gI fun i j => .int (i - j)
abbrev gLt : MO := gI fun i j => .bl (decide (i < j))
abbrev gLe : MO := gI fun i j => .bl (decide (i ≤ j))
abbrev gGt : MO := gI fun i j => .bl (decide (j < i))
abbrev gGe : MO := gI fun i j => .bl (decide (j ≤ i))
theorem s_sub : R2S c W (rI0 fun i j => .int (i - j)) gSub := s_I0 fun _ _ _ _ => rfl
theorem s_lt : R2S c W (rI0 fun i j => .bl (decide (i < j))) gLt := s_I0 fun _ _ _ _ => rfl
theorem s_le : R2S c W (rI0 fun i j => .bl (decide (i ≤ j))) gLe := s_I0 fun _ _ _ _ => rfl
theorem s_gt : R2S c W (rI0 fun i j => .bl (decide (j < i))) gGt := s_I0 fun _ _ _ _ => rfl
theorem s_ge : R2S c W (rI0 fun i j => .bl (decide (j ≤ i))) gGe := s_I0 fun _ _ _ _ => rfl
instance : ∀ i j, Decidable (CDiv i j) := fun i j => by unfold CDiv; infer_instance
instance : ∀ i j, Decidable (CPow i j) := fun i j => by unfold CPow; infer_instance
instance : ∀ i j, Decidable (CMul i j) := fun i j => by unfold CMul; infer_instance
abbrev gFdiv : MO := gIC CDiv fun i j => .int (i / j)
abbrev gMod : MO := gIC (fun _ j => 0 < j) fun i j => .int (i % j)
abbrev gPow : MO := gIC CPow fun i j => .int (i ^ j.toNat)
theorem s_fdiv : R2S c W (rI CDiv fun i j => .int (i / j)) gFdiv := s_I fun _ _ _ _ => rfl
theorem s_mod : R2S c W (rI (fun _ j => 0 < j) fun i j => .int (i % j)) gMod := s_I fun _ _ _ _ => rfl
theorem s_pow : R2S c W (rI CPow fun i j => .int (i ^ j.toNat)) gPow := s_I fun _ _ _ _ => rfl
/-- int * int, list * int -/
def rMulU : R2 := fun x y H Q => rI CMul (fun i j => .int (i * j)) x y H Q ∨ rRep x y H Q
theorem op_mulU : OpR X (binaryOp .Mult) rMulU := op_mul.or op_rep
def gMul : MO := fun a b S => match a, b with
  | .int i, .int j => guardR (CMul i j) (.ok (.fz (.int (i * j))) S)
  | .lst xs, .int k => guardR (-(2 ^ 63) ≤ k ∧ k < 2 ^ 63 ∧ xs.length * k.toNat ≤ sizeLine) (.ok (.own (.lst (List.replicate k.toNat xs).flatten)) S)
  | _, _ => .bad
theorem RepL.rep {nu : List Addr} {F : Hp} {ds : List D} {vs : List V} (r : RepL c nu F ds vs) : ∀ k : Nat, RepL c nu F (List.replicate k ds).flatten (List.replicate k vs).flatten
  | 0 => rfl
  | k + 1 => by rw [List.replicate_succ, List.replicate_succ, List.flatten_cons, List.flatten_cons]; exact r.append (RepL.rep r k)
theorem s_mul : R2S c W rMulU gMul := fun nu F H O S σ ρ Q a b x y w ra rb h => by
  unfold gMul at h
  split at h
  · rename_i i j e1 e2
    obtain ⟨g, h⟩ := h.guard
    exact .inl ⟨i, j, ra.int w e1, rb.int w e2, g, h.fz w rfl⟩
  · rename_i xs k e1 e2
    obtain ⟨g, h⟩ := h.guard
    obtain ⟨p, vs, rfl, h1, r1⟩ := ra.lst w e1
    exact .inr ⟨p, k, vs, rfl, rb.int w e2, h1, g.1, g.2.1, by rw [← r1.len]; exact g.2.2, fun l hl => h.own w hl ⟨_, rfl, r1.rep _⟩⟩
  · exact h.elim

/-! ### == -/
mutual
def toPy : D → Option PyData
  | .non => some .none | .bl b => some (.bool b) | .int i => some (.int i) | .str x => some (.str x)
  | .lst ds => (toPyL ds).map .list
  | .tup ds => (toPyL ds).map .tuple
  | _ => none
def toPyL : List D → Option (List PyData)
  | [] => some []
  | d :: ds => match toPy d, toPyL ds with | some x, some xs => some (x :: xs) | _, _ => none
end
mutual
theorem Dp.of {nu : List Addr} {F H : Hp} (hs : ∀ a o, F a = some o → H a = some o) : ∀ (d : D) (v : V) (x : PyData), Rep c nu F d v → toPy d = some x → Dp c.K H v x
  | .non, _, _, r, e => by cases e; cases (show _ = V.non from r); exact .non
  | .bl b, _, _, r, e => by cases e; cases (show _ = V.bl b from r); exact .bl b
  | .int i, _, _, r, e => by cases e; cases (show _ = V.int i from r); exact .int i
  | .str s, _, _, r, e => by cases e; cases (show _ = V.str s from r); exact .str s
  | .lst ds, _, x, r, e => by
    unfold toPy at e
    obtain ⟨xs, e1, rfl⟩ := Option.map_eq_some_iff.mp e
    obtain ⟨a, vs, rfl, h1, h2⟩ := r
    exact .lst (.inl (.inl (hs _ _ h1))) (DpAll.of hs ds vs xs h2 e1)
  | .tup ds, _, x, r, e => by
    unfold toPy at e
    obtain ⟨xs, e1, rfl⟩ := Option.map_eq_some_iff.mp e
    obtain ⟨a, vs, rfl, h1, h2⟩ := r
    exact .tup (sqT_mono hs h1) (DpAll.of hs ds vs xs h2 e1)
  | .ty _, _, _, _, e => by simp [toPy] at e
  | .fn _, _, _, _, e => by simp [toPy] at e
  | .ref _, _, _, _, e => by simp [toPy] at e
  | .scr _, _, _, _, e => by simp [toPy] at e
  | .dic _ _, _, _, _, e => by simp [toPy] at e
  | .set _, _, _, _, e => by simp [toPy] at e
  | .ins _ _ _, _, _, _, e => by simp [toPy] at e
theorem DpAll.of {nu : List Addr} {F H : Hp} (hs : ∀ a o, F a = some o → H a = some o) : ∀ (ds : List D) (vs : List V) (xs : List PyData), RepL c nu F ds vs → toPyL ds = some xs → DpAll c.K H vs xs
  | [], _, _, r, e => by cases (show _ = [] from r); simp [toPyL] at e; subst e; exact .nil
  | d :: ds, _, xs, r, e => by
    obtain ⟨v, vs, rfl, r1, r2⟩ := r
    unfold toPyL at e
    split at e
    · rename_i x xs' e1 e2
      cases e
      exact .cons (Dp.of hs d v x r1 e1) (DpAll.of hs ds vs xs' r2 e2)
    · cases e
end
def pyEq (a b : D) : Option Bool := match toPy a, toPy b with
  | some x, some y => if SeqAt.shaped x = true ∧ SeqAt.shaped y = true then some (PyData.eqv x y) else none
  | _, _ => none
def gEq : MO := fun a b S => match pyEq a b with | some r => .ok (.fz (.bl r)) S | none => .bad
def gNe : MO := fun a b S => match pyEq a b with | some r => .ok (.fz (.bl (!r))) S | none => .bad
theorem CRel.dp {nu : List Addr} {F H : Hp} {O : Ow} {S : AS} {a : SV} {x : V} (w : Wd c nu F H O S) (r : CRel c nu F O a x) {p : PyData} (e : toPy a.d = some p) : Dp c.K H x p := by
  cases a with
  | fz d => exact Dp.of w.sub d x p r e
  | own d =>
    obtain ⟨q, o, rfl, hq⟩ := r
    obtain ⟨_, _, h1, h2⟩ := w.own q _ hq
    dsimp only at h1 h2
    cases d with
    | lst ds =>
      obtain ⟨vs, rfl, h3⟩ := h2
      have e' : (toPyL ds).map PyData.list = some p := by rw [← e]; unfold SV.d toPy; rfl
      obtain ⟨xs, e1, rfl⟩ := Option.map_eq_some_iff.mp e'
      exact .lst (.inl (.inl h1)) (DpAll.of w.sub ds vs xs h3 e1)
    | dic _ _ => simp [SV.d, toPy] at e
    | set _ => simp [SV.d, toPy] at e
    | ins _ _ _ => simp [SV.d, toPy] at e
    | _ => exact h2.elim
  | bor d =>
    obtain ⟨q, o, rfl, hq⟩ := r
    obtain ⟨_, _, h1, h2⟩ := w.own q _ hq
    dsimp only at h1 h2
    cases d with
    | lst ds =>
      obtain ⟨vs, rfl, h3⟩ := h2
      have e' : (toPyL ds).map PyData.list = some p := by rw [← e]; unfold SV.d toPy; rfl
      obtain ⟨xs, e1, rfl⟩ := Option.map_eq_some_iff.mp e'
      exact .lst (.inl (.inl h1)) (DpAll.of w.sub ds vs xs h3 e1)
    | dic _ _ => simp [SV.d, toPy] at e
    | set _ => simp [SV.d, toPy] at e
    | ins _ _ _ => simp [SV.d, toPy] at e
    | _ => exact h2.elim
theorem pyEq_some {a b : D} {r : Bool} (h : pyEq a b = some r) : ∃ x y, toPy a = some x ∧ toPy b = some y ∧ SeqAt.shaped x = true ∧ SeqAt.shaped y = true ∧ r = PyData.eqv x y := by
  unfold pyEq at h
  split at h
  · rename_i x y e1 e2
    split at h
    · rename_i g
      cases h
      exact ⟨x, y, e1, e2, g.1, g.2, rfl⟩
    · cases h
  · cases h
theorem s_eq : R2S c W (rEqD c.K) gEq := fun nu F H O S σ ρ Q a b x y w ra rb h => by
  unfold gEq at h
  split at h
  · rename_i r e
    obtain ⟨p, q, e1, e2, s1, s2, rfl⟩ := pyEq_some e
    exact ⟨p, q, ra.dp w e1, rb.dp w e2, s1, s2, h.fz w rfl⟩
  · exact h.elim
theorem s_ne : R2S c W (rNeD c.K) gNe := fun nu F H O S σ ρ Q a b x y w ra rb h => by
  unfold gNe at h
  split at h
  · rename_i r e
    obtain ⟨p, q, e1, e2, s1, s2, rfl⟩ := pyEq_some e
    exact ⟨p, q, ra.dp w e1, rb.dp w e2, s1, s2, h.fz w rfl⟩
  · exact h.elim
/-! ### is None, in -/
def isNon : D → Bool | .non => true | _ => false
abbrev rIsN : R2 := fun x y H Q => y = .non ∧ Q (.bl (decide (x = .non))) H
abbrev rNotN : R2 := fun x y H Q => y = .non ∧ Q (.bl (!decide (x = .non))) H
def gIsN : MO := fun a b S => match b with | .non => .ok (.fz (.bl (isNon a))) S | _ => .bad
def gNotN : MO := fun a b S => match b with | .non => .ok (.fz (.bl (!isNon a))) S | _ => .bad
theorem CRel.non {nu : List Addr} {F H : Hp} {O : Ow} {S : AS} {a : SV} {x : V} (w : Wd c nu F H O S) (r : CRel c nu F O a x) : decide (x = .non) = isNon a.d := by
  cases a with
  | fz d =>
    cases d with
    | non => cases (show x = V.non from r); rfl
    | bl b => cases (show x = V.bl b from r); rfl
    | int b => cases (show x = V.int b from r); rfl
    | str b => cases (show x = V.str b from r); rfl
    | ty b => cases (show x = V.ty b from r); rfl
    | fn b => cases (show x = V.ref _ from r); rfl
    | ref n => obtain ⟨_, _, rfl⟩ := r; rfl
    | scr n => obtain ⟨_, rfl, _⟩ := r; rfl
    | tup n => obtain ⟨_, _, rfl, _⟩ := r; rfl
    | lst n => obtain ⟨_, _, rfl, _⟩ := r; rfl
    | dic n m => obtain ⟨_, _, _, rfl, _⟩ := r; rfl
    | set n => obtain ⟨_, _, rfl, _⟩ := r; rfl
    | ins n m k => obtain ⟨_, _, _, rfl, _⟩ := r; rfl
  | own d =>
    obtain ⟨p, o, rfl, q⟩ := r
    obtain ⟨_, _, _, z⟩ := w.own p _ q
    cases d <;> first | rfl | exact z.elim
  | bor d =>
    obtain ⟨p, o, rfl, q⟩ := r
    obtain ⟨_, _, _, z⟩ := w.own p _ q
    cases d <;> first | rfl | exact z.elim
theorem CRel.isnon {nu : List Addr} {F H : Hp} {O : Ow} {S : AS} {a : SV} {x : V} (w : Wd c nu F H O S) (r : CRel c nu F O a x) (e : a.d = .non) : x = .non := by
  have := r.non w
  rw [e] at this
  exact of_decide_eq_true this
theorem s_isN : R2S c W rIsN gIsN := fun nu F H O S σ ρ Q a b x y w ra rb h => by
  unfold gIsN at h
  split at h
  · rename_i e
    refine ⟨rb.isnon w e, ?_⟩
    rw [ra.non w]
    exact h.fz w rfl
  · exact h.elim
theorem s_notN : R2S c W rNotN gNotN := fun nu F H O S σ ρ Q a b x y w ra rb h => by
  unfold gNotN at h
  split at h
  · rename_i e
    refine ⟨rb.isnon w e, ?_⟩
    rw [ra.non w]
    exact h.fz w rfl
  · exact h.elim
abbrev rInSg : R2 := fun x y H Q => ∃ (cc : Nat) (z : Str), x = .str ⟨#[cc]⟩ ∧ y = .str z ∧ Q (.bl (decide (cc ∈ z.cps.toList))) H
/-- one sign in a text -/
def gInSg : MO := fun a b S => match a, b with
  | .str x, .str z => match x.cps.toList with | [k] => .ok (.fz (.bl (decide (k ∈ z.cps.toList)))) S | _ => .bad
  | _, _ => .bad
theorem str_one {x : Str} {k : Nat} (h : x.cps.toList = [k]) : x = ⟨#[k]⟩ := Str.ext' (Array.toList_inj.mp h)
theorem s_inSg : R2S c W rInSg gInSg := fun nu F H O S σ ρ Q a b x y w ra rb h => by
  unfold gInSg at h
  split at h
  · rename_i u z e1 e2
    split at h
    · rename_i k e3
      exact ⟨k, z, by rw [ra.str w e1, str_one e3], rb.str w e2, h.fz w rfl⟩
    · exact h.elim
  · exact h.elim
/-- flat things in a list or a tuple -/
def flatD : D → Option V | .non => some .non | .bl b => some (.bl b) | .int i => some (.int i) | .str x => some (.str x) | _ => none
def flatL : List D → Option (List V) | [] => some [] | d :: r => match flatD d, flatL r with | some v, some vs => some (v :: vs) | _, _ => none
theorem flat_rep {nu : List Addr} {F : Hp} {d : D} {v x : V} (r : Rep c nu F d x) (e : flatD d = some v) : x = v ∧ flatV v = true := by
  cases d with
  | non => cases e; exact ⟨r, rfl⟩
  | bl b => cases e; exact ⟨r, rfl⟩
  | int b => cases e; exact ⟨r, rfl⟩
  | str b => cases e; exact ⟨r, rfl⟩
  | _ => cases e
theorem flatL_rep {nu : List Addr} {F : Hp} : ∀ {ds : List D} {vs xs : List V}, RepL c nu F ds xs → flatL ds = some vs → xs = vs ∧ vs.all flatV = true
  | [], _, _, r, e => by cases e; exact ⟨r, rfl⟩
  | d :: ds, _, _, r, e => by
    obtain ⟨v, vs, rfl, r1, r2⟩ := r
    unfold flatL at e
    split at e
    · rename_i u us e1 e2
      cases e
      obtain ⟨rfl, f1⟩ := flat_rep r1 e1
      obtain ⟨rfl, f2⟩ := flatL_rep r2 e2
      exact ⟨rfl, by rw [List.all_cons, f1, f2]; rfl⟩
    · cases e
def inFlat (a b : D) : Option Bool := match flatD a, (match b with | .lst ds => flatL ds | .tup ds => flatL ds | _ => none) with
  | some v, some vs => some (inV v vs)
  | _, _ => none
def gIn : MO := fun a b S => match inFlat a b with | some r => .ok (.fz (.bl r)) S | none => .bad
def gNotIn : MO := fun a b S => match inFlat a b with | some r => .ok (.fz (.bl (!r))) S | none => .bad
theorem inFlat_run {nu : List Addr} {F H : Hp} {O : Ow} {S : AS} {a b : SV} {x y : V} (w : Wd c nu F H O S) (ra : CRel c nu F O a x) (rb : CRel c nu F O b y) {r : Bool} (h : inFlat a.d b.d = some r) :
    ∃ p xs, y = .ref p ∧ (SqL c.K H p xs ∨ SqT c.K H p xs) ∧ flatV x = true ∧ xs.all flatV = true ∧ r = inV x xs := by
  unfold inFlat at h
  split at h
  · rename_i v vs e1 e2
    cases h
    have fx : x = v ∧ flatV v = true := by
      cases a with
      | fz d => exact flat_rep ra e1
      | own d => obtain ⟨p, o, rfl, q⟩ := ra; obtain ⟨_, _, _, z⟩ := w.own p _ q; cases d <;> first | exact z.elim | cases e1
      | bor d => obtain ⟨p, o, rfl, q⟩ := ra; obtain ⟨_, _, _, z⟩ := w.own p _ q; cases d <;> first | exact z.elim | cases e1
    obtain ⟨rfl, fx⟩ := fx
    split at e2
    · rename_i ds e3
      obtain ⟨p, us, rfl, h1, r1⟩ := rb.lst w e3
      obtain ⟨rfl, f2⟩ := flatL_rep r1 e2
      exact ⟨p, us, rfl, .inl (.inl (.inl h1)), fx, f2, rfl⟩
    · rename_i ds e3
      obtain ⟨p, us, rfl, h1, r1⟩ := rb.tup w e3
      obtain ⟨rfl, f2⟩ := flatL_rep r1 e2
      exact ⟨p, us, rfl, .inr h1, fx, f2, rfl⟩
    · cases e2
  · cases h
theorem s_in : R2S c W (rIn c.K false) gIn := fun nu F H O S σ ρ Q a b x y w ra rb h => by
  unfold gIn at h
  split at h
  · rename_i r e
    obtain ⟨p, xs, rfl, h1, h2, h3, rfl⟩ := inFlat_run w ra rb e
    exact ⟨p, xs, rfl, h1, h2, h3, h.fz w rfl⟩
  · exact h.elim
theorem s_notIn : R2S c W (rIn c.K true) gNotIn := fun nu F H O S σ ρ Q a b x y w ra rb h => by
  unfold gNotIn at h
  split at h
  · rename_i r e
    obtain ⟨p, xs, rfl, h1, h2, h3, rfl⟩ := inFlat_run w ra rb e
    exact ⟨p, xs, rfl, h1, h2, h3, h.fz w rfl⟩
  · exact h.elim
end
end L3

namespace L3
open PySem PySem.Spec PyProof.Rows L2

section
variable {c : Cn} {W : WX} {X : Cx} {ta tb te : TE} {ma mb me : ME} {t : TA} {m : MA}
/-! ### x[i] -/
theorem RepL.atI {nu : List Addr} {F : Hp} {ds : List D} {vs : List V} (r : RepL c nu F ds vs) {i : Int} {d : D} (e : L2.atI ds i = some d) : ∃ v, L2.atI vs i = some v ∧ Rep c nu F d v := by
  unfold L2.atI at e ⊢
  rw [← r.len]
  cases h : ixN ds.length i with
  | none => rw [h] at e; cases e
  | some j =>
    rw [h] at e
    exact r.get e
def gIx : MO := fun a b S => match a, b with
  | .lst ds, .int i => match L2.atI ds i with | some d => .ok (.fz d) S | none => .bad
  | .tup ds, .int i => match L2.atI ds i with | some d => .ok (.fz d) S | none => .bad
  | .str z, .int i => guardR (z.length ≤ sizeLine) (match L2.atI z.cps.toList i with | some k => .ok (.fz (.str ⟨#[k]⟩)) S | none => .bad)
  | .ref n, .int i => match S[n]? with
    | some (.lst ds) => match L2.atI ds i with | some d => .ok (.fz d) S | none => .bad
    | _ => .bad
  | _, _ => .bad
theorem s_ix : R2S c W (rIx c.K) gIx := fun nu F H O S σ ρ Q a b x y w ra rb h => by
  unfold gIx at h
  split at h
  · rename_i ds i e1 e2
    split at h
    · rename_i d e3
      obtain ⟨p, vs, rfl, h1, r1⟩ := ra.lst w e1
      obtain ⟨v, e4, r2⟩ := r1.atI e3
      exact .inl ⟨p, vs, i, v, rfl, rb.int w e2, .inl (.inl h1), e4, h.fz w r2⟩
    · exact h.elim
  · rename_i ds i e1 e2
    split at h
    · rename_i d e3
      obtain ⟨p, vs, rfl, h1, r1⟩ := ra.tup w e1
      obtain ⟨v, e4, r2⟩ := r1.atI e3
      exact .inr (.inl ⟨p, vs, i, v, rfl, rb.int w e2, h1, e4, h.fz w r2⟩)
    · exact h.elim
  · rename_i z i e1 e2
    obtain ⟨g, h⟩ := h.guard
    split at h
    · rename_i k e3
      exact .inr (.inr ⟨z, i, k, ra.str w e1, rb.int w e2, g, e3, h.fz w rfl⟩)
    · exact h.elim
  · rename_i n i e1 e2
    split at h
    · rename_i ds e5
      split at h
      · rename_i d e3
        obtain ⟨p, rfl, hp⟩ := ra.ref w e1
        obtain ⟨o, h1, vs, rfl, r1⟩ := w.at hp e5
        obtain ⟨v, e4, r2⟩ := r1.atI e3
        exact .inl ⟨p, vs, i, v, rfl, rb.int w e2, .inl (.inl h1), e4, h.fz w r2⟩
      · exact h.elim
    · exact h.elim
  · exact h.elim
/-! ### x[i:j] -/
abbrev MOp := Rho → AS → R (Option Int)
def oRel : RelT (Option Int) (Option Int) := fun _ _ _ _ a b => a = b
def SimO (c : Cn) (W : WX) (to : TO) (m : MOp) : Prop := ∀ nu F H O Oc S σ ρ Q, Wd c nu F H O S → SlotR c nu F O Oc σ ρ → Post c W σ oRel nu F O Q (m ρ S) → to σ H Q
theorem oRelM : RelM oRel := fun _ _ _ _ _ _ _ _ h => h
def oNo : MOp := fun _ S => .ok none S
def oSm (m : ME) : MOp := fun ρ S => (m ρ S).bind fun a S1 => match a.d with | .int i => .ok (some i) S1 | _ => .bad
theorem sim_oNo : SimO c W tNoPart oNo := fun nu F H O Oc S σ ρ Q w s h => h nu F H O none (Ext.refl ..) w rfl
theorem sim_oSm (h : SimE c W ta ma) : SimO c W (tPart ta) (oSm ma) := fun nu F H O Oc S σ ρ Q w s hp =>
  h nu F H O Oc S σ ρ _ w s (Post.bind oRelM hp fun a S1 nu1 F1 H1 O1 x e1 w1 v1 h1 => by
    split at h1
    · rename_i i e
      exact ⟨i, v1.toC.int w1 e, h1 nu1 F1 H1 O1 _ (Ext.refl ..) w1 rfl⟩
    · exact h1.elim)
def cutD (xs : List D) (lo hi : Option Int) : List D := (xs.drop (HT.sIx xs.length 0 lo)).take (HT.sIx xs.length xs.length hi - HT.sIx xs.length 0 lo)
def cutI (xs : List Int) (lo hi : Option Int) : List Int := (xs.drop (HT.sIx xs.length 0 lo)).take (HT.sIx xs.length xs.length hi - HT.sIx xs.length 0 lo)
theorem RepL.cut {nu : List Addr} {F : Hp} {ds : List D} {vs : List V} (r : RepL c nu F ds vs) (lo hi : Option Int) : RepL c nu F (cutD ds lo hi) (cutV vs lo hi) := by
  unfold cutD cutV
  rw [← r.len]
  exact (r.drop _).take _
def rSlU (K : PySem.W.Frag) : V → Option Int → Option Int → Hp → VK → Prop := fun x lo hi H Q => (rSlS x lo hi H Q ∨ rSlL K x lo hi H Q) ∨ rSlA K x lo hi H Q
theorem sl_U : SlR X (rSlU X.K) := (sl_str.or sl_list).or sl_tupA
def gSl (a : D) (lo hi : Option Int) (S : AS) : R SV := match a with
  | .str z => guardR (z.length ≤ sizeLine) (.ok (.fz (.str (cutS z lo hi))) S)
  | .lst ds => .ok (.own (.lst (cutD ds lo hi))) S
  | .scr ns => .ok (.own (.lst ((cutI ns lo hi).map D.int))) S
  | .tup ds => .ok (.fz (.tup (cutD ds lo hi))) S
  | _ => .bad
def eSl (m : ME) (l h : MOp) : ME := fun ρ S => (m ρ S).bind fun a S1 => (l ρ S1).bind fun lo S2 => (h ρ S2).bind fun hi S3 => gSl a.d lo hi S3
theorem s_sl {nu : List Addr} {F H : Hp} {O : Ow} {S : AS} {σ : L2.St} {ρ : Rho} {Q : VK} {a : SV} {x : V} {lo hi : Option Int} (w : Wd c nu F H O S) (ra : CRel c nu F O a x) (h : Post c W σ (VRel c σ ρ) nu F O Q (gSl a.d lo hi S)) : rSlU c.K x lo hi H Q := by
  unfold gSl at h
  split at h
  · rename_i z e
    obtain ⟨g, h⟩ := h.guard
    exact .inl (.inl ⟨z, ra.str w e, g, h.fz w rfl⟩)
  · rename_i ds e
    obtain ⟨p, vs, rfl, h1, r1⟩ := ra.lst w e
    exact .inl (.inr ⟨p, vs, rfl, .inl (.inl h1), fun l hl => h.own w hl ⟨_, rfl, r1.cut lo hi⟩⟩)
  · rename_i ns e
    obtain ⟨p, rfl, h1⟩ := ra.scr w e
    refine .inl (.inr ⟨p, _, rfl, h1, fun l hl => h.own w hl ⟨_, rfl, ?_⟩⟩)
    have e : cutV (ns.map V.int) lo hi = (cutI ns lo hi).map V.int := by unfold cutV cutI; rw [List.length_map, List.map_take, List.map_drop]
    rw [e]
    exact RepL.ofInts _
  · rename_i ds e
    obtain ⟨p, vs, rfl, h1, r1⟩ := ra.tup w e
    refine .inr ⟨p, vs, rfl, h1, fun hz => ?_, fun _ l hl => h.tup w hl (r1.cut lo hi)⟩
    have : cutD ds lo hi = ds := by
      unfold cutD
      rw [← r1.len] at hz
      rw [hz.1, hz.2, List.drop_zero, Nat.sub_zero, List.take_length]
    rw [this] at h
    refine h nu F H O (.ref p) (Ext.refl ..) w ?_
    cases a with
    | fz d => cases e; exact ra
    | own d => cases e; obtain ⟨p', o, _, z⟩ := ra; obtain ⟨_, _, _, r⟩ := w.own p' _ z; exact r.elim
    | bor d => cases e; obtain ⟨p', o, _, z⟩ := ra; obtain ⟨_, _, _, r⟩ := w.own p' _ z; exact r.elim
  · exact h.elim
theorem sim_sl {tl th : TO} {ml mh : MOp} (ha : SimE c W ta ma) (hl : SimO c W tl ml) (hh : SimO c W th mh) : SimE c W (tSl (rSlU c.K) ta tl th) (eSl ma ml mh) := fun nu F H O Oc S σ ρ Q w s hp =>
  ha nu F H O Oc S σ ρ _ w s (Post.bind vrelM hp fun a S1 nu1 F1 H1 O1 x e1 w1 v1 h1 =>
    hl nu1 F1 H1 O1 Oc S1 σ ρ _ w1 (s.mono e1) (Post.bind vrelM h1 fun lo S2 nu2 F2 H2 O2 lo' e2 w2 v2 h2 =>
      hh nu2 F2 H2 O2 Oc S2 σ ρ _ w2 ((s.mono e1).mono e2) (Post.bind vrelM h2 fun hi S3 nu3 F3 H3 O3 hi' e3 w3 v3 h3 => by
        cases (show lo = lo' from v2)
        cases (show hi = hi' from v3)
        exact s_sl w3 ((v1.toC.mono e2).mono e3) h3)))
/-! ### built-in functions -/
abbrev rLen (K : PySem.W.Frag) : List V → Hp → VK → Prop := fun xs H Q => ∃ x n, xs = [x] ∧ LenV K x H n ∧ Q (.int n) H
def gLen : MO1 := fun a S => match a with
  | .lst ds => .ok (.fz (.int ds.length)) S
  | .tup ds => .ok (.fz (.int ds.length)) S
  | .scr ns => .ok (.fz (.int ns.length)) S
  | .str z => guardR (z.length ≤ sizeLine) (.ok (.fz (.int z.length)) S)
  | .ref n => match S[n]? with | some (.lst ds) => .ok (.fz (.int ds.length)) S | _ => .bad
  | _ => .bad
theorem s_len : RC1 c W (rLen c.K) gLen := fun nu F H O S σ ρ Q a x w ra h => by
  unfold gLen at h
  split at h
  · rename_i ds e
    obtain ⟨p, vs, rfl, h1, r1⟩ := ra.lst w e
    exact ⟨_, ds.length, rfl, .inl ⟨vs, .inl (.inl h1), r1.len⟩, h.fz w rfl⟩
  · rename_i ds e
    obtain ⟨p, vs, rfl, h1, r1⟩ := ra.tup w e
    exact ⟨_, ds.length, rfl, .inr ⟨vs, h1, r1.len⟩, h.fz w rfl⟩
  · rename_i ns e
    obtain ⟨p, rfl, h1⟩ := ra.scr w e
    exact ⟨_, ns.length, rfl, .inl ⟨_, h1, by rw [List.length_map]⟩, h.fz w rfl⟩
  · rename_i z e
    obtain ⟨g, h⟩ := h.guard
    cases ra.str w e
    exact ⟨_, z.length, rfl, ⟨g, rfl⟩, h.fz w rfl⟩
  · rename_i n e
    split at h
    · rename_i ds e5
      obtain ⟨p, rfl, hp⟩ := ra.ref w e
      obtain ⟨o, h1, vs, rfl, r1⟩ := w.at hp e5
      exact ⟨_, ds.length, rfl, .inl ⟨vs, .inl (.inl h1), r1.len⟩, h.fz w rfl⟩
    · exact h.elim
  · exact h.elim
abbrev rAbs : List V → Hp → VK → Prop := fun xs H Q => ∃ i, xs = [.int i] ∧ Q (.int (if i < 0 then -i else i)) H
def gAbs : MO1 := fun a S => match a with | .int i => .ok (.fz (.int (if i < 0 then -i else i))) S | _ => .bad
theorem s_abs : RC1 c W rAbs gAbs := fun nu F H O S σ ρ Q a x w ra h => by
  unfold gAbs at h
  split at h
  · rename_i i e
    exact ⟨i, by rw [ra.int w e], h.fz w rfl⟩
  · exact h.elim
abbrev rInt1 : List V → Hp → VK → Prop := fun xs H Q => (∃ i, xs = [.int i] ∧ Q (.int i) H) ∨ ∃ k, xs = [.bl k] ∧ Q (.int (if k then 1 else 0)) H
def gInt1 : MO1 := fun a S => match a with | .int i => .ok (.fz (.int i)) S | .bl b => .ok (.fz (.int (if b then 1 else 0))) S | _ => .bad
theorem s_int1 : RC1 c W rInt1 gInt1 := fun nu F H O S σ ρ Q a x w ra h => by
  unfold gInt1 at h
  split at h
  · rename_i i e
    exact .inl ⟨i, by rw [ra.int w e], h.fz w rfl⟩
  · rename_i i e
    exact .inr ⟨i, by rw [ra.bl w e], h.fz w rfl⟩
  · exact h.elim
def blsD : List D → Option (List Bool) | [] => some [] | .bl b :: r => (blsD r).map (b :: ·) | _ :: _ => none
def intsD : List D → Option (List Int) | [] => some [] | .int b :: r => (intsD r).map (b :: ·) | _ :: _ => none
def strsD : List D → Option (List Str) | [] => some [] | .str b :: r => (strsD r).map (b :: ·) | _ :: _ => none
theorem blsD_some : ∀ {ds : List D} {bs : List Bool}, blsD ds = some bs → ds = bs.map D.bl
  | [], _, e => by cases e; rfl
  | d :: ds, bs, e => by
    cases d <;> first | (simp [blsD] at e; done) | skip
    rename_i b
    unfold blsD at e
    obtain ⟨r, e1, rfl⟩ := Option.map_eq_some_iff.mp e
    rw [blsD_some e1]; rfl
theorem intsD_some : ∀ {ds : List D} {bs : List Int}, intsD ds = some bs → ds = bs.map D.int
  | [], _, e => by cases e; rfl
  | d :: ds, bs, e => by
    cases d <;> first | (simp [intsD] at e; done) | skip
    rename_i b
    unfold intsD at e
    obtain ⟨r, e1, rfl⟩ := Option.map_eq_some_iff.mp e
    rw [intsD_some e1]; rfl
theorem strsD_some : ∀ {ds : List D} {bs : List Str}, strsD ds = some bs → ds = bs.map D.str
  | [], _, e => by cases e; rfl
  | d :: ds, bs, e => by
    cases d <;> first | (simp [strsD] at e; done) | skip
    rename_i b
    unfold strsD at e
    obtain ⟨r, e1, rfl⟩ := Option.map_eq_some_iff.mp e
    rw [strsD_some e1]; rfl
theorem blsD_map (bs : List Bool) : blsD (bs.map D.bl) = some bs := by induction bs with | nil => rfl | cons b r ih => rw [List.map_cons]; unfold blsD; rw [ih]; rfl
theorem intsD_map (bs : List Int) : intsD (bs.map D.int) = some bs := by induction bs with | nil => rfl | cons b r ih => rw [List.map_cons]; unfold intsD; rw [ih]; rfl
theorem strsD_map (bs : List Str) : strsD (bs.map D.str) = some bs := by induction bs with | nil => rfl | cons b r ih => rw [List.map_cons]; unfold strsD; rw [ih]; rfl
def gAll : MO1 := fun a S => match a with | .lst ds => (match blsD ds with | some bs => .ok (.fz (.bl (bs.all id))) S | none => .bad) | _ => .bad
def gAny : MO1 := fun a S => match a with | .lst ds => (match blsD ds with | some bs => .ok (.fz (.bl (bs.any id))) S | none => .bad) | _ => .bad
theorem s_all : RC1 c W (rAll c.K) gAll := fun nu F H O S σ ρ Q a x w ra h => by
  unfold gAll at h
  split at h
  · rename_i ds e
    split at h
    · rename_i bs e2
      obtain ⟨p, vs, rfl, h1, r1⟩ := ra.lst w e
      rw [blsD_some e2] at r1
      exact ⟨p, bs, rfl, .inl (.inl (by rw [← r1.bls]; exact h1)), h.fz w rfl⟩
    · exact h.elim
  · exact h.elim
theorem s_any : RC1 c W (rAny c.K) gAny := fun nu F H O S σ ρ Q a x w ra h => by
  unfold gAny at h
  split at h
  · rename_i ds e
    split at h
    · rename_i bs e2
      obtain ⟨p, vs, rfl, h1, r1⟩ := ra.lst w e
      rw [blsD_some e2] at r1
      exact ⟨p, bs, rfl, .inl (.inl (by rw [← r1.bls]; exact h1)), h.fz w rfl⟩
    · exact h.elim
  · exact h.elim
def gSum : MO1 := fun a S => match a with | .lst ds => (match intsD ds with | some bs => .ok (.fz (.int bs.sum)) S | none => .bad) | _ => .bad
theorem s_sum : RC1 c W (rSum c.K) gSum := fun nu F H O S σ ρ Q a x w ra h => by
  unfold gSum at h
  split at h
  · rename_i ds e
    split at h
    · rename_i bs e2
      obtain ⟨p, vs, rfl, h1, r1⟩ := ra.lst w e
      rw [intsD_some e2] at r1
      exact ⟨p, bs, rfl, .inl (.inl (by rw [← r1.ints]; exact h1)), h.fz w rfl⟩
    · exact h.elim
  · exact h.elim
/-- max of a list of ints that is not empty -/
def maxI : List Int → Option Int | [] => none | n :: ns => some (ns.foldl max n)
theorem foldl_max (ns : List Int) : ∀ n : Int, n ≤ ns.foldl max n ∧ (∀ y ∈ ns, y ≤ ns.foldl max n) ∧ (ns.foldl max n = n ∨ ns.foldl max n ∈ ns) := by
  induction ns with
  | nil => intro n; exact ⟨Int.le_refl _, fun _ h => absurd h (by simp), .inl rfl⟩
  | cons a r ih =>
    intro n
    rw [List.foldl_cons]
    obtain ⟨h1, h2, h3⟩ := ih (max n a)
    refine ⟨by omega, fun y hy => ?_, ?_⟩
    · rcases List.mem_cons.mp hy with rfl | hy
      · omega
      · exact h2 y hy
    · rcases h3 with h3 | h3
      · by_cases e : n ≤ a
        · rw [show max n a = a by omega] at h3 ⊢; exact .inr (by rw [h3]; exact List.mem_cons_self)
        · rw [show max n a = n by omega] at h3 ⊢; exact .inl h3
      · exact .inr (List.mem_cons_of_mem _ h3)
def gMax : MO1 := fun a S => match a with | .lst ds => (match intsD ds with | some bs => (match maxI bs with | some m => .ok (.fz (.int m)) S | none => .bad) | none => .bad) | _ => .bad
theorem s_max : RC1 c W (rMax c.K) gMax := fun nu F H O S σ ρ Q a x w ra h => by
  unfold gMax at h
  split at h
  · rename_i ds e
    split at h
    · rename_i bs e2
      split at h
      · rename_i m e3
        obtain ⟨p, vs, rfl, h1, r1⟩ := ra.lst w e
        rw [intsD_some e2] at r1
        cases bs with
        | nil => cases e3
        | cons n ns =>
          cases e3
          refine ⟨p, n :: ns, rfl, .inl (.inl (by rw [← r1.ints]; exact h1)), Nat.zero_lt_succ _, fun m hm hle => ?_⟩
          obtain ⟨q1, q2, q3⟩ := foldl_max ns n
          have hin : ns.foldl max n ∈ n :: ns := by
            rcases q3 with q3 | q3
            · rw [q3]; exact List.mem_cons_self
            · exact List.mem_cons_of_mem _ q3
          have h5 := hle _ hin
          have h6 : m ≤ ns.foldl max n := by
            rcases List.mem_cons.mp hm with rfl | hm
            · exact q1
            · exact q2 m hm
          rw [show m = ns.foldl max n by omega]
          exact h.fz w rfl
      · exact h.elim
    · exact h.elim
  · exact h.elim
/-- max(ints, default=d) -/
def rMaxDf (K : PySem.W.Frag) : List V → List V → Hp → VK → Prop := fun xs zs H Q => ∃ (a : Addr) (ns : List Int) (d : V), xs = [.ref a] ∧ zs = [d] ∧ SqL K H a (ns.map V.int) ∧ (ns = [] → Q d H) ∧ (∀ n r, ns = n :: r → Q (.int (r.foldl max n)) H)
theorem reads_ints {h : Heap} : ∀ {its : List Value} {ns : List Int}, IntsAre its ns → ∃ as, ReadsAll h its (ns.map PyData.int) as
  | _, _, .nil => ⟨_, .nil⟩
  | _, _, .cons n t r => by
    obtain ⟨as, q⟩ := reads_ints (h := h) r
    exact ⟨_, .cons (Reads.int n t) q⟩
theorem depth_ints : ∀ ns : List Int, PyData.depthAll (ns.map PyData.int) ≤ 1
  | [] => by simp [PyData.depthAll]
  | n :: ns => by
    have := depth_ints ns
    simp only [List.map_cons, PyData.depthAll, PyData.depth]
    omega
theorem cr_maxDf (hu : X.A.units + 64 < cLine) (hc : X.calm = true) : CallRK X (.builtin "max") ["default"] (rMaxDf X.K) := by
  intro pins s σ H xs zs us ws Q I r1 r2 h
  obtain ⟨a, ns, d, rfl, rfl, hs, q0, q1⟩ := h
  obtain ⟨its, rv, hl, _⟩ := I.list hs
  rw [Vals.ref1 r1]
  obtain ⟨u, rfl, ru⟩ := vals1 r2
  have hi : IntsAre its ns := rv.ints
  obtain ⟨as, hr⟩ := reads_ints (h := s.heap) hi
  refine PySem.W.max_list_default (d := u) (xs := ns.map PyData.int) (vs := its.toArray) (I.ok.hd hc) hl.isList (by rw [List.toList_toArray]; exact hr) ⟨fun x hx y hy => ?_, fun x hx z => ?_⟩ ?_ (fun e h' tk hk => ?_) (fun y ys i v h' tk bs e hv hrd hk => ?_)
  · obtain ⟨i, _, rfl⟩ := List.mem_map.mp hx
    obtain ⟨j, _, rfl⟩ := List.mem_map.mp hy
    rfl
  · obtain ⟨i, _, rfl⟩ := List.mem_map.mp hx
    cases z
  · have := depth_ints ns
    omega
  · exact ⟨d, H, I.kept (t' := tk) hk, ru, q0 (List.map_eq_nil_iff.mp e)⟩
  · cases ns with
    | nil => cases e
    | cons n r =>
      rw [List.map_cons] at e
      cases e
      rw [PySem.W.maxD_ints] at hrd
      cases hrd with
      | int i t => exact ⟨.int _, H, I.kept (t' := tk) hk, ⟨t, rfl⟩, q1 n r rfl⟩
def gMaxDf (a b : D) (S : AS) : R SV := match a with | .lst ds => (match intsD ds with | some bs => (match maxI bs with | some m => .ok (.fz (.int m)) S | none => .ok (.fz b) S) | none => .bad) | _ => .bad
def eMaxDf (m : ME) (n : MA) : ME := fun ρ S => (m ρ S).bind fun a S1 => (n ρ S1).bind fun ds S2 => match ds with | [d] => gMaxDf a.d d S2 | _ => .bad
theorem sim_maxDf {tk : TA} {mk : MA} (h : SimE c W ta ma) (k : SimA c W tk mk) : SimE c W (tCKw (rMaxDf c.K) (tCons ta tNil) tk) (eMaxDf ma mk) := fun nu F H O Oc S σ ρ Q w s hp =>
  h nu F H O Oc S σ ρ _ w s (Post.bind vrelM hp fun a S1 nu1 F1 H1 O1 x e1 w1 v1 h1 =>
    k nu1 F1 H1 O1 Oc S1 σ ρ _ w1 (s.mono e1) (Post.bind vrelM h1 fun ds S2 nu2 F2 H2 O2 zs e2 w2 v2 h2 => by
      split at h2
      · rename_i d
        obtain ⟨z, r, rfl, rz, rr⟩ := v2
        cases (show r = [] from rr)
        unfold gMaxDf at h2
        split at h2
        · rename_i xs e
          split at h2
          · rename_i bs e3
            obtain ⟨p, vs, rfl, hp, r1⟩ := (v1.toC.mono e2).lst w2 e
            rw [intsD_some e3] at r1
            refine ⟨p, bs, z, rfl, rfl, .inl (.inl (by rw [← r1.ints]; exact hp)), fun e4 => ?_, fun n r e4 => ?_⟩
            · subst e4
              exact h2.fz w2 rz
            · subst e4
              exact h2.fz w2 rfl
          · exact h2.elim
        · exact h2.elim
      · exact h2.elim))
/-- tuple(list) -/
abbrev rTupOf (K : PySem.W.Frag) : List V → Hp → VK → Prop := fun xs H Q => ∃ p ys, xs = [.ref p] ∧ ((SqL K H p ys ∧ ∀ l, H l = none → Q (.ref l) (upd H l (.tup ys))) ∨ (SqT K H p ys ∧ Q (.ref p) H))
def gTupOf : MO1 := fun a S => match a with | .lst ds => .ok (.fz (.tup ds)) S | _ => .bad
theorem s_tupOf : RC1 c W (rTupOf c.K) gTupOf := fun nu F H O S σ ρ Q a x w ra h => by
  unfold gTupOf at h
  split at h
  · rename_i ds e
    obtain ⟨p, vs, rfl, h1, r1⟩ := ra.lst w e
    exact ⟨p, vs, rfl, .inl ⟨.inl (.inl h1), fun l hl => h.tup w hl r1⟩⟩
  · exact h.elim
/-- list(list), list(tuple) -/
abbrev rLstOf (K : PySem.W.Frag) : List V → Hp → VK → Prop := fun xs H Q => ∃ p ys, xs = [.ref p] ∧ (SqL K H p ys ∨ SqT K H p ys) ∧ ∀ l, H l = none → Q (.ref l) (upd H l (.lst ys))
def gLstOf : MO1 := fun a S => match a with | .lst ds => .ok (.own (.lst ds)) S | .tup ds => .ok (.own (.lst ds)) S | _ => .bad
theorem s_lstOf : RC1 c W (rLstOf c.K) gLstOf := fun nu F H O S σ ρ Q a x w ra h => by
  unfold gLstOf at h
  split at h
  · rename_i ds e
    obtain ⟨p, vs, rfl, h1, r1⟩ := ra.lst w e
    exact ⟨p, vs, rfl, .inl (.inl (.inl h1)), fun l hl => h.own w hl ⟨_, rfl, r1⟩⟩
  · rename_i ds e
    obtain ⟨p, vs, rfl, h1, r1⟩ := ra.tup w e
    exact ⟨p, vs, rfl, .inr h1, fun l hl => h.own w hl ⟨_, rfl, r1⟩⟩
  · exact h.elim
/-! ### isinstance -/
def tyD (S : AS) : D → Option String
  | .non => some "NoneType" | .bl _ => some "bool" | .int _ => some "int" | .str _ => some "str"
  | .lst _ => some "list" | .tup _ => some "tuple" | .dic _ _ => some "dict" | .scr _ => some "list"
  | .ref n => match S[n]? with | some (.lst _) => some "list" | some (.dic _ _) => some "dict" | _ => none
  | _ => none
theorem CRel.tyx {nu : List Addr} {F H : Hp} {O : Ow} {S : AS} {a : SV} {x : V} (w : Wd c nu F H O S) (r : CRel c nu F O a x) {n : String} (e : tyD S a.d = some n) : TyX c.K H x (.type n) := by
  cases ea : a.d with
  | non => rw [ea] at e; cases e; rw [r.isnon w ea]; exact .base .non
  | bl b => rw [ea] at e; cases e; rw [r.bl w ea]; exact .base (.bl _)
  | int b => rw [ea] at e; cases e; rw [r.int w ea]; exact .base (.int _)
  | str b => rw [ea] at e; cases e; rw [r.str w ea]; exact .base (.str _)
  | lst ds => rw [ea] at e; cases e; obtain ⟨p, vs, rfl, h1, _⟩ := r.lst w ea; exact .base (.lst h1)
  | tup ds =>
    rw [ea] at e; cases e
    obtain ⟨p, vs, rfl, h1, _⟩ := r.tup w ea
    rcases h1 with (h1 | ⟨o, h1⟩) | ⟨o, its, k, h1, h2, _⟩
    · exact .base (.tup h1)
    · exact .fTuple h1
    · exact .kTuple h1 h2
  | scr ns =>
    rw [ea] at e; cases e
    obtain ⟨p, rfl, h1⟩ := r.scr w ea
    rcases h1 with (h1 | ⟨o, h1⟩) | ⟨o, its, k, h1, h2, _⟩
    · exact .base (.lst h1)
    · exact .base (.frz h1)
    · exact .kList h1 h2
  | dic ks ds =>
    rw [ea] at e; cases e
    obtain ⟨p, o, vs, rfl, h1, h2, _⟩ := r.dic w ea
    rcases h2.nt with ⟨k, rfl⟩ | ⟨k, rfl⟩
    · exact .base (.dK h1)
    · exact .base (.dT h1)
  | ref m =>
    rw [ea] at e
    unfold tyD at e
    dsimp only at e
    split at e
    · rename_i ds e5
      cases e
      obtain ⟨p, rfl, hp⟩ := r.ref w ea
      obtain ⟨o, h1, vs, rfl, _⟩ := w.at hp e5
      exact .base (.lst h1)
    · rename_i ks ds e5
      cases e
      obtain ⟨p, rfl, hp⟩ := r.ref w ea
      obtain ⟨o, h1, vs, h2, _⟩ := w.at hp e5
      rcases h2.nt with ⟨k, rfl⟩ | ⟨k, rfl⟩
      · exact .base (.dK h1)
      · exact .base (.dT h1)
    · cases e
  | ty _ => rw [ea] at e; cases e
  | fn _ => rw [ea] at e; cases e
  | set _ => rw [ea] at e; cases e
  | ins _ _ _ => rw [ea] at e; cases e
/-- isinstance(e, T), T a built-in type -/
def isB (a b : String) : Option Bool := kitB a b
def gIsi (b : String) : MO1 := fun a S => match tyD S a with | some n => (match kitB n b with | some r => .ok (.fz (.bl r)) S | none => .bad) | none => .bad
def eIsi (b : String) (m : ME) : ME := fun ρ S => (m ρ S).bind fun a S1 => gIsi b a.d S1
theorem sim_isi {b : String} (h : SimE c W ta ma) : SimE c W (tCB (rIsi c.K) (tCons ta (tCons (tC (.ty b)) tNil))) (eIsi b ma) := fun nu F H O Oc S σ ρ Q w s hp =>
  h nu F H O Oc S σ ρ _ w s (Post.bind vrelM hp fun a S1 nu1 F1 H1 O1 x e1 w1 v1 h1 => by
    unfold gIsi at h1
    split at h1
    · rename_i n e
      split at h1
      · rename_i r e2
        exact ⟨x, .ty b, .type n, .type b, r, rfl, .ty b, v1.toC.tyx w1 e, kit_ty e2, h1.fz w1 rfl⟩
      · exact h1.elim
    · exact h1.elim)
def kitB2 (n a b : String) : Option Bool := match kitB n a with | some true => some true | some false => kitB n b | none => none
def gIsi2 (b d : String) : MO1 := fun a S => match tyD S a with | some n => (match kitB2 n b d with | some r => .ok (.fz (.bl r)) S | none => .bad) | none => .bad
def eIsi2 (b d : String) (m : ME) : ME := fun ρ S => (m ρ S).bind fun a S1 => gIsi2 b d a.d S1
theorem kitB2_any {K : PySem.W.Frag} {n a b : String} {r : Bool} (h : kitB2 n a b = some r) : PySem.W.kitAny K (.type n) [.type a, .type b] = some r := by
  unfold kitB2 at h
  split at h
  · rename_i e
    cases h
    exact kitAny_cons (kit_ty e) (fun z => nomatch z) (fun _ => rfl)
  · rename_i e
    refine kitAny_cons (kit_ty e) (fun _ => ?_) (fun z => nomatch z)
    cases r with
    | true => exact kitAny_cons (kit_ty h) (fun z => nomatch z) (fun _ => rfl)
    | false => exact kitAny_cons (kit_ty h) (fun _ => kitAny_nil) (fun z => nomatch z)
  · cases h
theorem sim_isi2 {b d : String} (h : SimE c W ta ma) : SimE c W (tCB (rIsiT c.K) (tCons ta (tCons (tTup (tCons (tC (.ty b)) (tCons (tC (.ty d)) tNil))) tNil))) (eIsi2 b d ma) := fun nu F H O Oc S σ ρ Q w s hp =>
  h nu F H O Oc S σ ρ _ w s (Post.bind vrelM hp fun a S1 nu1 F1 H1 O1 x e1 w1 v1 h1 => by
    unfold gIsi2 at h1
    split at h1
    · rename_i n e
      split at h1
      · rename_i r e2
        refine ⟨by show (2 : Nat) ≤ sizeLine; decide, fun p hp => ?_⟩
        obtain ⟨w2, e3⟩ := w1.newF hp (.tup [.ty b, .ty d])
        have h2 := Post.base vrelM e3 h1
        exact ⟨x, p, _, .type n, [.type b, .type d], r, rfl, upd_same, .cons (.ty b) (.cons (.ty d) .nil), (v1.toC.mono e3).tyx w2 e, kitB2_any e2, h2.fz w2 rfl⟩
      · exact h1.elim
    · exact h1.elim)
/-! ### f-strings, join -/
def eFmt (m : ME) : ME := fun ρ S => (m ρ S).bind fun a S1 => match a.d with
  | .str y => guardR (y.length ≤ sizeLine) (.ok (.fz (.str y)) S1)
  | .int i => guardR (i.natAbs.log2 < 1920) (.ok (.fz (.str (toString i))) S1)
  | _ => .bad
theorem sim_fmt (h : SimE c W ta ma) : SimE c W (tFmt ta) (eFmt ma) := fun nu F H O Oc S σ ρ Q w s hp =>
  h nu F H O Oc S σ ρ _ w s (Post.bind vrelM hp fun a S1 nu1 F1 H1 O1 x e1 w1 v1 h1 => by
    split at h1
    · rename_i y e
      obtain ⟨g, h1⟩ := h1.guard
      exact .inl ⟨y, v1.toC.str w1 e, g, h1.fz w1 rfl⟩
    · rename_i i e
      obtain ⟨g, h1⟩ := h1.guard
      exact .inr ⟨i, v1.toC.int w1 e, g, h1.fz w1 rfl⟩
    · exact h1.elim)
inductive SimJ (c : Cn) (W : WX) : List TE → List ME → Prop where
  | nil : SimJ c W [] []
  | cons {t : TE} {m : ME} {ts : List TE} {ms : List ME} (h : SimE c W t m) (r : SimJ c W ts ms) : SimJ c W (t :: ts) (m :: ms)
def jL : List ME → Str → Rho → AS → R SV
  | [], acc, _, S => .ok (.fz (.str acc)) S
  | m :: ms, acc, ρ, S => (m ρ S).bind fun a S1 => match a.d with
    | .str y => guardR ((acc ++ y).length ≤ sizeLine) (jL ms (acc ++ y) ρ S1)
    | _ => .bad
def eJ (ms : List ME) : ME := fun ρ S => jL ms Str.empty ρ S
theorem simJ_run {ts : List TE} {ms : List ME} (h : SimJ c W ts ms) : ∀ (acc : Str) nu F H O Oc S σ ρ Q, Wd c nu F H O S → SlotR c nu F O Oc σ ρ → Post c W σ (VRel c σ ρ) nu F O Q (jL ms acc ρ S) → tJs ts acc σ H fun out H1 => Q (.str out) H1 := by
  induction h with
  | nil => exact fun acc nu F H O Oc S σ ρ Q w s hp => hp.fz w rfl
  | cons h r ih =>
    exact fun acc nu F H O Oc S σ ρ Q w s hp => h nu F H O Oc S σ ρ _ w s (Post.bind vrelM hp fun a S1 nu1 F1 H1 O1 x e1 w1 v1 h1 => by
      split at h1
      · rename_i y e
        obtain ⟨g, h1⟩ := h1.guard
        exact ⟨y, v1.toC.str w1 e, g, ih _ nu1 F1 H1 O1 Oc S1 σ ρ Q w1 (s.mono e1) h1⟩
      · exact h1.elim)
theorem sim_joined {ts : List TE} {ms : List ME} (h : SimJ c W ts ms) : SimE c W (fun σ H Q => tJs ts Str.empty σ H fun out H1 => Q (.str out) H1) (eJ ms) := fun nu F H O Oc S σ ρ Q w s hp => simJ_run h Str.empty nu F H O Oc S σ ρ Q w s hp
/-- sep.join(list) -/
abbrev rJoin (K : PySem.W.Frag) : V → List V → Hp → VK → Prop := fun x xs H Q => ∃ a p, ∃ ys : List Str, x = .str a ∧ xs = [.ref p] ∧ (SqL K H p (ys.map V.str) ∨ SqT K H p (ys.map V.str)) ∧
      (ys.map (·.length)).sum + ys.length * a.length ≤ 16777216 ∧ Q (.str (Txt.join a ys)) H
def gJoin : MO := fun a b S => match a, b with
  | .str x, .lst ds => (match strsD ds with | some ys => guardR ((ys.map (·.length)).sum + ys.length * x.length ≤ 16777216) (.ok (.fz (.str (Txt.join x ys))) S) | none => .bad)
  | _, _ => .bad
/-- a method of a text, of one thing -/
theorem sim_m1 {r : V → List V → Hp → VK → Prop} {g : MO} (hg : ∀ a b S, (∀ x, a ≠ .str x) → g a b S = .bad) (hr : R2S c W (fun x y H Q => r x [y] H Q) g) (ha : SimE c W ta ma) (hb : SimE c W tb mb) : SimE c W (tM1 r ta tb) (fun ρ S => (ma ρ S).bind fun a S1 => match a.d with | .str _ => (mb ρ S1).bind fun b S2 => g a.d b.d S2 | _ => .bad) := fun nu F H O Oc S σ ρ Q w s h =>
  ha nu F H O Oc S σ ρ _ w s (Post.bind vrelM h fun a S1 nu1 F1 H1 O1 x e1 w1 v1 h1 => by
    split at h1
    · rename_i z e
      exact ⟨⟨z, v1.toC.str w1 e⟩, hb nu1 F1 H1 O1 Oc S1 σ ρ _ w1 (s.mono e1) (Post.bind vrelM h1 fun b S2 nu2 F2 H2 O2 y e2 w2 v2 h2 => hr nu2 F2 H2 O2 S2 σ ρ Q a b x y w2 (v1.toC.mono e2) v2.toC h2)⟩
    · exact h1.elim)
def eM1 (g : MO) (ma mb : ME) : ME := fun ρ S => (ma ρ S).bind fun a S1 => match a.d with | .str _ => (mb ρ S1).bind fun b S2 => g a.d b.d S2 | _ => .bad
theorem s_join : R2S c W (fun x y H Q => rJoin c.K x [y] H Q) gJoin := fun nu F H O S σ ρ Q a b x y w ra rb h => by
  unfold gJoin at h
  split at h
  · rename_i z ds e1 e2
    split at h
    · rename_i ys e3
      obtain ⟨g, h⟩ := h.guard
      obtain ⟨p, vs, rfl, h1, r1⟩ := rb.lst w e2
      rw [strsD_some e3] at r1
      exact ⟨z, p, ys, ra.str w e1, rfl, .inl (.inl (.inl (by rw [← r1.strs]; exact h1))), g, h.fz w rfl⟩
    · exact h.elim
  · exact h.elim
theorem sim_join (ha : SimE c W ta ma) (hb : SimE c W tb mb) : SimE c W (tM1 (rJoin c.K) ta tb) (eM1 gJoin ma mb) := sim_m1 (g := gJoin) (fun a b S h => by unfold gJoin; split <;> first | exact (h _ rfl).elim | rfl) s_join ha hb
end
end L3

namespace L3
open PySem PySem.Spec PyProof.Rows L2

section
variable {c : Cn} {W : WX} {X : Cx} {ta tb te to ti : TE} {ma mb me mo mi : ME} {t : TA} {m : MA}
/-- a value that is kept, in a statement -/
theorem PostS.keep {nu0 nu1 : List Addr} {F0 F1 H1 : Hp} {O0 O1 Oc : Ow} {S1 : AS} {σ : L2.St} {ρ : Rho} {Dn : Ends} {a : SV} {x : V} {k : D → AS → SR} (e1 : Ext nu0 F0 O0 nu1 F1 O1) (s : SlotR c nu0 F0 O0 Oc σ ρ) (w1 : Wd c nu1 F1 H1 O1 S1)
    (v1 : VRel c σ ρ O0 nu1 F1 O1 a x) (h : PostS c W nu1 F1 Oc Dn ((zD a S1).toS ρ k)) :
    ∃ F2 O2 d, Ext nu0 F0 O0 nu1 F2 O2 ∧ Wd c nu1 F2 H1 O2 S1 ∧ Rep c nu1 F2 d x ∧ a.d = d ∧ PostS c W nu1 F2 Oc Dn (k d S1) := by
  cases a with
  | fz d => exact ⟨F1, O1, d, e1, w1, v1, rfl, h⟩
  | own d =>
    obtain ⟨p, o, rfl, hp, h0⟩ := v1
    obtain ⟨F2, w2, hF, r⟩ := w1.freeze hp
    have e2 : Ext nu0 F0 O0 nu1 F2 (updO O1 p none) := ⟨e1.nu, fun a o q => hF _ _ (e1.F a o q), fun q d' z => by
      rw [updO_ne (fun y => by rw [y, h0] at z; cases z)]
      exact e1.O _ _ z⟩
    exact ⟨F2, _, d, e2, w2, r, rfl, PostS.base ⟨List.prefix_rfl, hF, fun p d z => e2.O _ _ (s.oc _ _ z)⟩ h⟩
  | bor d => exact h.elim
/-! ### append -/
/-- x.append(e), x one's own -/
def sAppV (i : Nat) (m : ME) : MS := fun ρ S => match ρ[i]? with
  | some (some (.own (.lst ds))) => (m ρ S).toS ρ fun a S1 => (zD a S1).toS ρ fun d S2 => if ds.length < sizeLine then .nx (ρ.set i (some (.own (.lst (ds ++ [d]))))) S2 else .bad
  | _ => .bad
theorem sim_appV {i : Nat} (h : SimE c W te me) : SimS c W (tDrop (tBM c.K "list" rAppend (tVar i) (tCons te tNil))) (sAppV i me) := fun nu F H O Oc S σ ρ Dn w s hp => by
  unfold sAppV at hp
  split at hp
  · rename_i ds e
    obtain ⟨p, o, q1, q2, q3⟩ := s.own i _ e
    obtain ⟨_, _, h1, vs, eo, r1⟩ := w.own p _ q2
    dsimp only at h1 eo
    subst eo
    refine ⟨.ref p, q1, .inl ⟨rfl, vs, .inl (.inl h1)⟩, h nu F H O Oc S σ ρ _ w s (PostS.bind s hp fun a S1 nu1 F1 H1 O1 x e1 w1 v1 h2 => ?_)⟩
    obtain ⟨F2, O2, d, e2, w2, r2, _, h3⟩ := PostS.keep e1 s w1 v1 h2
    split at h3
    · rename_i hl
      have hO := e2.O _ _ q2
      obtain ⟨_, _, h4, us, eo, r4⟩ := w2.own p _ hO
      dsimp only at h4 eo
      cases eo
      have ln := r4.len
      refine ⟨p, vs, x, rfl, rfl, h4, by rw [← ln]; exact hl, ?_⟩
      have w3 := w2.setO (d' := .lst (ds ++ [d])) hO (o := .lst (vs ++ [x])) ⟨_, rfl, r4.append (RepL.one r2)⟩
      have s2 := s.mono e2
      exact h3 nu1 F2 _ _ σ ⟨List.prefix_rfl, fun _ _ q => q, (s2.chOwn e q1 (d' := .lst (ds ++ [d]))).oc⟩ w3 (s2.chOwn e q1)
    · exact h3.elim
  · exact hp.elim
/-- o.append(e), o an object by reference -/
def sAppR (mo m : ME) : MS := fun ρ S => (mo ρ S).toS ρ fun b S0 => match b.d with
  | .ref n => match S0[n]? with
    | some (.lst _) => (m ρ S0).toS ρ fun a S1 => (zD a S1).toS ρ fun d S2 => match S2[n]? with
      | some (.lst ds) => if ds.length < sizeLine then .nx ρ (S2.set n (.lst (ds ++ [d]))) else .bad
      | _ => .bad
    | _ => .bad
  | _ => .bad
theorem sim_appR (ho : SimE c W to mo) (h : SimE c W te me) : SimS c W (tDrop (tBM c.K "list" rAppend to (tCons te tNil))) (sAppR mo me) := fun nu F H O Oc S σ ρ Dn w s hp =>
  ho nu F H O Oc S σ ρ _ w s (PostS.bind s hp fun b S0 nu0 F0 H0 O0 y e0 w0 v0 h0 => by
    split at h0
    · rename_i n e
      split at h0
      · rename_i ds0 e5
        obtain ⟨p, rfl, hp⟩ := v0.toC.ref w0 e
        obtain ⟨o, h1, vs, rfl, r1⟩ := w0.at hp e5
        have s0 := s.mono e0
        refine ⟨.inl ⟨rfl, vs, .inl (.inl h1)⟩, h nu0 F0 H0 O0 Oc S0 σ ρ _ w0 s0 (PostS.bind s0 h0 fun a S1 nu1 F1 H1 O1 x e1 w1 v1 h2 => ?_)⟩
        obtain ⟨F2, O2, d, e2, w2, r2, _, h3⟩ := PostS.keep e1 s0 w1 v1 h2
        split at h3
        · rename_i ds e6
          split at h3
          · rename_i hl
            have hp2 := pre_get e2.nu hp
            obtain ⟨o, h4, us, rfl, r4⟩ := w2.at hp2 e6
            have ln := r4.len
            refine ⟨p, us, x, rfl, rfl, h4, by rw [← ln]; exact hl, ?_⟩
            have w3 := w2.setR (d' := .lst (ds ++ [d])) hp2 (o := .lst (us ++ [x])) ⟨_, rfl, r4.append (RepL.one r2)⟩
            have s2 := s0.mono e2
            exact h3 nu1 F2 _ O2 σ ⟨List.prefix_rfl, fun _ _ q => q, s2.oc⟩ w3 s2
          · exact h3.elim
        · exact h3.elim
      · exact h0.elim
    · exact h0.elim)
/-! ### x[i] = e -/
def sPutV (i : Nat) (mi m : ME) : MS := fun ρ S => (m ρ S).toS ρ fun a S1 => (zD a S1).toS ρ fun d S2 => match ρ[i]? with
  | some (some (.own (.lst ds))) => (mi ρ S2).toS ρ fun b S3 => match b.d with
    | .int k => match ixN ds.length k with
      | some j => .nx (ρ.set i (some (.own (.lst (ds.set j d))))) S3
      | none => .bad
    | _ => .bad
  | _ => .bad
theorem sim_putV {i : Nat} (hi : SimE c W ti mi) (h : SimE c W te me) : SimS c W (tAsg te (L2.gSub (tVar i) ti rSetL)) (sPutV i mi me) := fun nu F H O Oc S σ ρ Dn w s hp =>
  h nu F H O Oc S σ ρ _ w s (PostS.bind s hp fun a S1 nu1 F1 H1 O1 x e1 w1 v1 h2 => by
    obtain ⟨F2, O2, d, e2, w2, r2, _, h3⟩ := PostS.keep e1 s w1 v1 h2
    split at h3
    · rename_i ds e
      obtain ⟨p, o, q1, q2, q3⟩ := s.own i _ e
      have s2 := s.mono e2
      refine ⟨.ref p, q1, hi nu1 F2 H1 O2 Oc S1 σ ρ _ w2 s2 (PostS.bind s2 h3 fun b S3 nu3 F3 H3 O3 y e3 w3 v3 h4 => ?_)⟩
      split at h4
      · rename_i k e4
        split at h4
        · rename_i j e5
          have hO := e3.O _ _ (e2.O _ _ q2)
          obtain ⟨_, _, h6, us, eo, r6⟩ := w3.own p _ hO
          dsimp only at h6 eo
          subst eo
          refine ⟨p, us, k, j, rfl, v3.toC.int w3 e4, h6, by rw [← r6.len]; exact e5, ?_⟩
          have w4 := w3.setO (d' := .lst (ds.set j d)) hO (o := .lst (us.set j x)) ⟨_, rfl, RepL.set (Rep.mono e3.nu e3.F _ _ r2) j r6⟩
          have s3 := s2.mono e3
          exact h4 nu3 F3 _ _ σ ⟨List.prefix_rfl, fun _ _ q => q, (s3.chOwn e q1 (d' := .lst (ds.set j d))).oc⟩ w4 (s3.chOwn e q1)
        · exact h4.elim
      · exact h4.elim
    · exact h3.elim)
def sPutR (mo mi m : ME) : MS := fun ρ S => (m ρ S).toS ρ fun a S1 => (zD a S1).toS ρ fun d S2 => (mo ρ S2).toS ρ fun b S3 => match b.d with
  | .ref n => (mi ρ S3).toS ρ fun q S4 => match q.d, S4[n]? with
    | .int k, some (.lst ds) => match ixN ds.length k with
      | some j => .nx ρ (S4.set n (.lst (ds.set j d)))
      | none => .bad
    | _, _ => .bad
  | _ => .bad
theorem sim_putR (ho : SimE c W to mo) (hi : SimE c W ti mi) (h : SimE c W te me) : SimS c W (tAsg te (L2.gSub to ti rSetL)) (sPutR mo mi me) := fun nu F H O Oc S σ ρ Dn w s hp =>
  h nu F H O Oc S σ ρ _ w s (PostS.bind s hp fun a S1 nu1 F1 H1 O1 x e1 w1 v1 h2 => by
    obtain ⟨F2, O2, d, e2, w2, r2, _, h3⟩ := PostS.keep e1 s w1 v1 h2
    have s2 := s.mono e2
    refine ho nu1 F2 H1 O2 Oc S1 σ ρ _ w2 s2 (PostS.bind s2 h3 fun b S3 nu3 F3 H3 O3 y e3 w3 v3 h4 => ?_)
    split at h4
    · rename_i n e4
      have s3 := s2.mono e3
      refine hi nu3 F3 H3 O3 Oc S3 σ ρ _ w3 s3 (PostS.bind s3 h4 fun q S4 nu4 F4 H4 O4 z e5 w4 v4 h5 => ?_)
      split at h5
      · rename_i k ds e6 e7
        split at h5
        · rename_i j e8
          obtain ⟨p, rfl, hp⟩ := v3.toC.ref w3 e4
          have hp4 := pre_get e5.nu hp
          obtain ⟨o, h6, us, rfl, r6⟩ := w4.at hp4 e7
          refine ⟨p, us, k, j, rfl, v4.toC.int w4 e6, h6, by rw [← r6.len]; exact e8, ?_⟩
          have w5 := w4.setR (d' := .lst (ds.set j d)) hp4 (o := .lst (us.set j x)) ⟨_, rfl, RepL.set (Rep.mono e5.nu e5.F _ _ (Rep.mono e3.nu e3.F _ _ r2)) j r6⟩
          have s4 := s3.mono e5
          exact h5 nu4 F4 _ O4 σ ⟨List.prefix_rfl, fun _ _ q => q, s4.oc⟩ w5 s4
        · exact h5.elim
      · exact h5.elim
    · exact h4.elim)
/-! ### walking texts, zip, enumerate -/
def sgnD (x : Str) : List D := x.cps.toList.map fun k => .str ⟨#[k]⟩
def iS (m : ME) : MI := fun ρ S => (m ρ S).bind fun a S1 => match a.d with | .str x => .ok (sgnD x) S1 | _ => .bad
theorem itS {nu : List Addr} {F : Hp} {x : Str} : ItR c nu F (Its x) (sgnD x) := fun nu' F' H' O' S' hn hF w => by
  refine ⟨fun i d e => ?_, by show x.cps.size ≤ (sgnD x).length; simp [sgnD]⟩
  unfold sgnD at e
  rw [List.getElem?_map] at e
  obtain ⟨k, e1, rfl⟩ := Option.map_eq_some_iff.mp e
  rw [Array.getElem?_toList] at e1
  refine ⟨(Array.getElem?_eq_some_iff.mp e1).1, fun y H'' h => ?_⟩
  obtain ⟨rfl, k', e2, rfl⟩ := h
  rw [e1] at e2
  cases e2
  exact ⟨F', fun _ _ q => q, w, rfl⟩
theorem sim_iS (h : SimE c W ta ma) : SimI c W (iStr ta) (iS ma) := fun nu F H O Oc S σ ρ Q w s hp =>
  h nu F H O Oc S σ ρ _ w s (Post.bind iRelM hp fun a S1 nu1 F1 H1 O1 x e1 w1 v1 h1 => by
    split at h1
    · rename_i z e
      exact ⟨z, v1.toC.str w1 e, h1 nu1 F1 H1 O1 _ (Ext.refl ..) w1 itS⟩
    · exact h1.elim)
def zipD (xs ys : List D) : List D := (xs.zip ys).map fun p => .tup [p.1, p.2]
theorem zipD_get {xs ys : List D} {i : Nat} {d : D} (h : (zipD xs ys)[i]? = some d) : ∃ x y, xs[i]? = some x ∧ ys[i]? = some y ∧ d = .tup [x, y] := by
  unfold zipD at h
  rw [List.getElem?_map] at h
  obtain ⟨p, e, rfl⟩ := Option.map_eq_some_iff.mp h
  obtain ⟨h1, h2⟩ := List.getElem?_zip_eq_some.mp e
  exact ⟨p.1, p.2, h1, h2, rfl⟩
theorem zipD_len (xs ys : List D) : (zipD xs ys).length = min xs.length ys.length := by simp [zipD]
theorem tup2 {nu : List Addr} {F H : Hp} {O : Ow} {S : AS} {T : Addr} {x y : V} {d e : D} (w : Wd c nu F H O S) (hT : H T = none) (r1 : Rep c nu F d x) (r2 : Rep c nu F e y) :
    ∃ F'', (∀ a o, F a = some o → F'' a = some o) ∧ Wd c nu F'' (upd H T (.tup [x, y])) O S ∧ Rep c nu F'' (.tup [d, e]) (.ref T) := by
  obtain ⟨w2, e2⟩ := w.newF hT (.tup [x, y])
  exact ⟨_, e2.F, w2, T, [x, y], rfl, .inl (.inl upd_same), _, _, rfl, Rep.mono e2.nu e2.F _ _ r1, _, _, rfl, Rep.mono e2.nu e2.F _ _ r2, rfl⟩
theorem itZ {nu : List Addr} {F : Hp} {a b : Addr} {vs us : List V} {xs ys : List D} (h : F a = some (.lst vs)) (h' : F b = some (.lst us)) (r : RepL c nu F xs vs) (r' : RepL c nu F ys us) : ItR c nu F (Itz c.K a b) (zipD xs ys) := fun nu' F' H' O' S' hn hF w => by
  have q1 : SqL c.K H' a vs := .inl (.inl (w.sub _ _ (hF _ _ h)))
  have q2 : SqL c.K H' b us := .inl (.inl (w.sub _ _ (hF _ _ h')))
  have r1 := RepL.mono hn hF _ _ r
  have r2 := RepL.mono hn hF _ _ r'
  refine ⟨fun i d e => ?_, ⟨vs, us, q1, q2, ?_⟩⟩
  · obtain ⟨x, y, e1, e2, rfl⟩ := zipD_get e
    obtain ⟨v, e3, s1⟩ := r1.get e1
    obtain ⟨u, e4, s2⟩ := r2.get e2
    refine ⟨⟨vs, us, v, u, q1, q2, e3, e4⟩, fun z H'' k => ?_⟩
    obtain ⟨T, v', u', rfl, hT, rfl, f1, f2⟩ := k
    have z1 := f1 vs q1
    have z2 := f2 us q2
    rw [e3] at z1; cases z1
    rw [e4] at z2; cases z2
    exact tup2 w hT s1 s2
  · rw [zipD_len, r.len, r'.len]
    omega
theorem itZT {nu : List Addr} {F : Hp} {a b : Addr} {vs us : List V} {xs ys : List D} (h : SqT c.K F a vs) (h' : SqT c.K F b us) (r : RepL c nu F xs vs) (r' : RepL c nu F ys us) : ItR c nu F (RZ.ItzT c.K a b) (zipD xs ys) := fun nu' F' H' O' S' hn hF w => by
  have q1 : SqT c.K H' a vs := sqT_mono (fun a o q => w.sub _ _ (hF a o q)) h
  have q2 : SqT c.K H' b us := sqT_mono (fun a o q => w.sub _ _ (hF a o q)) h'
  have r1 := RepL.mono hn hF _ _ r
  have r2 := RepL.mono hn hF _ _ r'
  refine ⟨fun i d e => ?_, ⟨vs, us, q1, q2, ?_⟩⟩
  · obtain ⟨x, y, e1, e2, rfl⟩ := zipD_get e
    obtain ⟨v, e3, s1⟩ := r1.get e1
    obtain ⟨u, e4, s2⟩ := r2.get e2
    refine ⟨⟨vs, us, v, u, q1, q2, e3, e4⟩, fun z H'' k => ?_⟩
    obtain ⟨T, v', u', rfl, hT, rfl, f1, f2⟩ := k
    have z1 := f1 vs q1
    have z2 := f2 us q2
    rw [e3] at z1; cases z1
    rw [e4] at z2; cases z2
    exact tup2 w hT s1 s2
  · rw [zipD_len, r.len, r'.len]
    omega
def zipG (ds : List D) (S : AS) : R (List D) := match ds with
  | [.lst xs, .lst ys] => .ok (zipD xs ys) S
  | [.tup xs, .tup ys] => .ok (zipD xs ys) S
  | _ => .bad
def iZ (m : MA) : MI := fun ρ S => (m ρ S).bind zipG
theorem sim_iZ (h : SimA c W t m) : SimI c W (RZ.iZipA c.K t) (iZ m) := fun nu F H O Oc S σ ρ Q w s hp =>
  h nu F H O Oc S σ ρ _ w s (Post.bind iRelM hp fun ds S1 nu1 F1 H1 O1 vs e1 w1 v1 h1 => by
    unfold zipG at h1
    split at h1
    · rename_i xs ys
      obtain ⟨_, _, rfl, ⟨a, us, rfl, q1, r1⟩, _, _, rfl, ⟨b, ws, rfl, q2, r2⟩, r3⟩ := v1
      cases (show _ = [] from r3)
      exact ⟨a, b, us, ws, rfl, .inl ⟨.inl (.inl (w1.sub _ _ q1)), .inl (.inl (w1.sub _ _ q2)), h1 nu1 F1 H1 O1 _ (Ext.refl ..) w1 (itZ q1 q2 r1 r2)⟩⟩
    · rename_i xs ys
      obtain ⟨_, _, rfl, ⟨a, us, rfl, q1, r1⟩, _, _, rfl, ⟨b, ws, rfl, q2, r2⟩, r3⟩ := v1
      cases (show _ = [] from r3)
      exact ⟨a, b, us, ws, rfl, .inr ⟨sqT_mono w1.sub q1, sqT_mono w1.sub q2, h1 nu1 F1 H1 O1 _ (Ext.refl ..) w1 (itZT q1 q2 r1 r2)⟩⟩
    · exact h1.elim)
def enuD (xs : List D) : List D := zipD (rngD 0 xs.length) xs
theorem itE {nu : List Addr} {F : Hp} {a : Addr} {vs : List V} {xs : List D} (h : F a = some (.lst vs)) (r : RepL c nu F xs vs) : ItR c nu F (Ite c.K a) (enuD xs) := fun nu' F' H' O' S' hn hF w => by
  have q1 : SqL c.K H' a vs := .inl (.inl (w.sub _ _ (hF _ _ h)))
  have r1 := RepL.mono hn hF _ _ r
  refine ⟨fun i d e => ?_, ⟨vs, q1, ?_⟩⟩
  · obtain ⟨x, y, e1, e2, rfl⟩ := zipD_get e
    obtain ⟨hi, rfl⟩ := rngD_get e1
    obtain ⟨v, e3, s1⟩ := r1.get e2
    refine ⟨⟨vs, v, q1, e3⟩, fun z H'' k => ?_⟩
    obtain ⟨T, v', rfl, hT, rfl, f1⟩ := k
    have z1 := f1 vs q1
    rw [e3] at z1; cases z1
    exact tup2 w hT (by show V.int _ = V.int _; rw [Int.zero_add]) s1
  · unfold enuD
    rw [zipD_len, r.len]
    simp [rngD]
def iE (m : MA) : MI := fun ρ S => (m ρ S).bind fun ds S1 => match ds with | [.lst xs] => .ok (enuD xs) S1 | _ => .bad
theorem sim_iE (h : SimA c W t m) : SimI c W (iEnum c.K t) (iE m) := fun nu F H O Oc S σ ρ Q w s hp =>
  h nu F H O Oc S σ ρ _ w s (Post.bind iRelM hp fun ds S1 nu1 F1 H1 O1 vs e1 w1 v1 h1 => by
    split at h1
    · rename_i xs
      obtain ⟨_, _, rfl, ⟨a, us, rfl, q1, r1⟩, r3⟩ := v1
      cases (show _ = [] from r3)
      exact ⟨a, us, rfl, .inl (.inl (w1.sub _ _ q1)), h1 nu1 F1 H1 O1 _ (Ext.refl ..) w1 (itE q1 r1)⟩
    · exact h1.elim)
/-! ### a comprehension of two fors -/
variable {wi wi1 : TI} {mw mw1 : MI} {g g1 : TG} {mg mg1 : MG} {tt tt1 : TT} {mt mt1 : MT}
def compL2 (mg : MG) (mt : MT) (mw1 : MI) (mg1 : MG) (mt1 : MT) (me : ME) (vs1 : List Nat) (ρ : Rho) : List D → AS → List D → R (List D)
  | [], S, acc => .ok acc S
  | d :: r, S, acc => match mg d ρ with
    | none => .bad
    | some ρ2 => (mt ρ2 S).bind fun b S1 => if b = true then (mw1 ρ2 S1).bind fun ds S2 => (compL mg1 mt1 me (wipeR ρ2 vs1) ds S2 acc).bind fun acc2 S3 => compL2 mg mt mw1 mg1 mt1 me vs1 ρ r S3 acc2 else compL2 mg mt mw1 mg1 mt1 me vs1 ρ r S1 acc
def eLc2 (mw : MI) (mg : MG) (mt : MT) (mw1 : MI) (mg1 : MG) (mt1 : MT) (me : ME) (vs vs1 : List Nat) : ME := fun ρ S => (mw ρ S).bind fun ds S1 => (compL2 mg mt mw1 mg1 mt1 me vs1 (wipeR ρ vs) ds S1 []).bind fun out S2 => .ok (.own (.lst out)) S2
theorem compL2_nil (mg : MG) (mt : MT) (mw1 : MI) (mg1 : MG) (mt1 : MT) (me : ME) (vs1 : List Nat) (ρ : Rho) (S : AS) (acc : List D) : compL2 mg mt mw1 mg1 mt1 me vs1 ρ [] S acc = .ok acc S := rfl
theorem compL2_cons (mg : MG) (mt : MT) (mw1 : MI) (mg1 : MG) (mt1 : MT) (me : ME) (vs1 : List Nat) (ρ : Rho) (S : AS) (acc : List D) (d : D) (r : List D) : compL2 mg mt mw1 mg1 mt1 me vs1 ρ (d :: r) S acc = (match mg d ρ with
    | none => .bad
    | some ρ2 => (mt ρ2 S).bind fun b S1 => if b = true then (mw1 ρ2 S1).bind fun ds S2 => (compL mg1 mt1 me (wipeR ρ2 vs1) ds S2 acc).bind fun acc2 S3 => compL2 mg mt mw1 mg1 mt1 me vs1 ρ r S3 acc2 else compL2 mg mt mw1 mg1 mt1 me vs1 ρ r S1 acc) := rfl
/-- the turns of an inner for -/
theorem lc_inner {vs : List Nat} {nu1 : List Addr} {F1 : Hp} {O1 Oc : Ow} {σ : L2.St} {ρ : Rho} {Q : VK} {D0 : Addr} {k : List D → AS → R SV} {J : It} {ds : List D} (hg : SimG c vs g mg) (ht : SimT c WT tt mt) (he : SimE c WT te me) {nu2 : List Addr} {F2 H2 : Hp} {O2 Ob : Ow} {S2 : AS} {acc : List D} {oD : HO} {σ2 : L2.St} {ρ2 : Rho} {Nx : Hp → Prop}
    (w2 : Wd c nu2 F2 H2 O2 S2) (hb : ∀ p d, Ob p = some d → O2 p = some d) (hD0 : Ob D0 = none) (hD : O2 D0 = some (.lst acc, oD)) (s2 : SlotR c nu2 F2 Ob Oc σ2 ρ2) (v : ItR c nu2 F2 J ds)
    (h : Post c W σ (VRel c σ ρ) nu1 F1 O1 Q ((compL mg mt me (wipeR ρ2 vs) ds S2 acc).bind k))
    (hk : ∀ nu4 F4 H4 O4 S4 acc4 o4, Ext nu2 F2 Ob nu4 F4 O4 → Wd c nu4 F4 H4 O4 S4 → O4 D0 = some (.lst acc4, o4) → Post c W σ (VRel c σ ρ) nu1 F1 O1 Q (k acc4 S4) → Nx H4) :
    ∃ W1 : Nat → Nat → Hp → Prop, (∃ m, W1 0 m H2) ∧ ∀ j k H, W1 j k H →
      (J.stop j H ∧ Nx H) ∨ (J.go j H ∧ ∃ Nx1 : Hp → Prop, (∀ H', Nx1 H' → ∃ k', k' < k ∧ W1 (j + 1) k' H') ∧ ∀ x H', J.yld j H x H' → g x (wipe σ2 vs) H' fun σ3 H5 => wipe σ3 vs = wipe σ2 vs ∧ tt σ3 H5 fun b H6 =>
        if b = true then te σ3 H6 fun y H7 => ∃ acc, H7 D0 = some (.lst acc) ∧ acc.length < sizeLine ∧ Nx1 (upd H7 D0 (.lst (acc ++ [y]))) else Nx1 H6) := by
  refine ⟨fun i n H' => n = ds.length - i ∧ i ≤ ds.length ∧ ∃ nu3 F3 O3 S3 acc3 o3, Ext nu2 F2 Ob nu3 F3 O3 ∧ Wd c nu3 F3 H' O3 S3 ∧ O3 D0 = some (.lst acc3, o3) ∧ Post c W σ (VRel c σ ρ) nu1 F1 O1 Q ((compL mg mt me (wipeR ρ2 vs) (ds.drop i) S3 acc3).bind k),
    ⟨ds.length, rfl, Nat.zero_le _, nu2, F2, O2, S2, acc, _, ⟨List.prefix_rfl, fun _ _ z => z, hb⟩, w2, hD, h⟩, ?_⟩
  rintro i n H' ⟨rfl, hl, nu3, F3, O3, S3, acc3, o3, e3, w3, hDo, h3⟩
  obtain ⟨g1, g2⟩ := v nu3 F3 H' O3 S3 e3.nu e3.F w3
  by_cases hlt : i < ds.length
  · obtain ⟨q1, q2⟩ := g1 i ds[i] (List.getElem?_eq_getElem hlt)
    refine .inr ⟨q1, fun H4 => ∃ nu4 F4 O4 S4 acc4 o4, Ext nu2 F2 Ob nu4 F4 O4 ∧ Wd c nu4 F4 H4 O4 S4 ∧ O4 D0 = some (.lst acc4, o4) ∧ Post c W σ (VRel c σ ρ) nu1 F1 O1 Q ((compL mg mt me (wipeR ρ2 vs) (ds.drop (i + 1)) S4 acc4).bind k),
      fun H4 z => ⟨ds.length - (i + 1), by omega, rfl, hlt, z⟩, fun x H4 y => ?_⟩
    obtain ⟨F4, hF, w4, r4⟩ := q2 x H4 y
    have e4 : Ext nu2 F2 Ob nu3 F4 O3 := ⟨e3.nu, fun a o q => hF _ _ (e3.F a o q), e3.O⟩
    have s4 := (s2.mono e4).wipe vs
    rw [List.drop_eq_getElem_cons hlt, compL_cons] at h3
    cases em : mg ds[i] (wipeR ρ2 vs) with
    | none => rw [em] at h3; exact h3.elim
    | some ρ5 =>
      rw [em] at h3
      dsimp only at h3
      rw [bind_assoc] at h3
      refine hg nu3 F4 H4 O3 Oc S3 _ _ ds[i] x ρ5 _ w4 s4 r4 em fun σ5 s5 o5 => ⟨wipe_off o5, ?_⟩
      refine ht nu3 F4 H4 O3 Oc S3 σ5 ρ5 _ w4 s5 (Post.bindT h3 fun b S6 nu6 F6 H6 O6 b' e6 w6 v6 h6 => ?_)
      cases (show b = b' from v6)
      cases b with
      | false =>
        simp only [Bool.false_eq_true, if_false] at h6 ⊢
        exact ⟨nu6, F6, O6, S6, acc3, _, e4.trans e6, w6, e6.O _ _ hDo, h6⟩
      | true =>
        simp only [if_true] at h6 ⊢
        rw [bind_assoc] at h6
        refine he nu6 F6 H6 O6 Oc S6 σ5 ρ5 _ w6 (s5.mono e6) (Post.bindT h6 fun a S7 nu7 F7 H7 O7 v e7 w7 v7 h7 => ?_)
        rw [bind_assoc] at h7
        obtain ⟨F8, O8, d8, e8, w8, r8, h8⟩ := zD_runT e7 w7 v7 h7
        rw [bind_guard] at h8
        obtain ⟨hg8, h8⟩ := h8.guard
        have hD8 := e8.O _ _ (e6.O _ _ hDo)
        obtain ⟨_, _, hH, vs8, eo, r9⟩ := w8.own D0 _ hD8
        dsimp only at hH eo
        subst eo
        have hln := r9.len
        exact ⟨vs8, hH, by rw [← hln]; exact hg8, nu7, F8, _, S7, acc3 ++ [d8], _, ((e4.trans e6).trans e8).set' hD0, w8.setO (d' := .lst (acc3 ++ [d8])) hD8 ⟨_, rfl, r9.append (RepL.one r8)⟩, updO_same, h8⟩
  · have e : i = ds.length := by omega
    subst e
    rw [List.drop_length, compL_nil] at h3
    exact .inl ⟨g2, hk nu3 F3 H' O3 S3 acc3 _ e3 w3 hDo h3⟩
theorem sim_lc2 {vs vs1 : List Nat} (hi : SimI c W wi mw) (hg : SimG c vs g mg) (ht : SimT c WT tt mt) (hi1 : SimI c WT wi1 mw1) (hg1 : SimG c vs1 g1 mg1) (ht1 : SimT c WT tt1 mt1) (he : SimE c WT te me) : SimE c W (tLc2 wi g tt wi1 g1 tt1 te vs vs1) (eLc2 mw mg mt mw1 mg1 mt1 me vs vs1) := fun nu F H O Oc S σ ρ Q w s hp =>
  hi nu F H O Oc S σ ρ _ w s (Post.bind vrelM hp fun ds S1 nu1 F1 H1 O1 J e1 w1 v1 h1 => by
    have v2 : ItR c nu1 F1 J ds := v1
    intro D hD
    obtain ⟨w2, e2⟩ := w1.newO hD (o := .lst []) (d := .lst []) ⟨[], rfl, rfl⟩
    have hD0 := (w1.fresh hD).2.2
    refine ⟨fun i k H' => k = ds.length - i ∧ i ≤ ds.length ∧ ∃ nu2 F2 O2 S2 acc o2, Ext nu1 F1 O1 nu2 F2 O2 ∧ Wd c nu2 F2 H' O2 S2 ∧ O2 D = some (.lst acc, o2) ∧ Post c W σ (VRel c σ ρ) nu1 F1 O1 Q ((compL2 mg mt mw1 mg1 mt1 me vs1 (wipeR ρ vs) (ds.drop i) S2 acc).bind fun out S2 => .ok (.own (.lst out)) S2),
      ⟨ds.length, rfl, Nat.zero_le _, nu1, F1, _, S1, [], _, e2, w2, updO_same, h1⟩, ?_⟩
    rintro i k H' ⟨rfl, hl, nu2, F2, O2, S2, acc, o2, e3, w3, hDo, h3⟩
    obtain ⟨g1', g2'⟩ := v2 nu2 F2 H' O2 S2 e3.nu e3.F w3
    by_cases hlt : i < ds.length
    · obtain ⟨q1, q2⟩ := g1' i ds[i] (List.getElem?_eq_getElem hlt)
      refine .inr ⟨q1, fun H4 => ∃ nu4 F4 O4 S4 acc4 o4, Ext nu1 F1 O1 nu4 F4 O4 ∧ Wd c nu4 F4 H4 O4 S4 ∧ O4 D = some (.lst acc4, o4) ∧ Post c W σ (VRel c σ ρ) nu1 F1 O1 Q ((compL2 mg mt mw1 mg1 mt1 me vs1 (wipeR ρ vs) (ds.drop (i + 1)) S4 acc4).bind fun out S2 => .ok (.own (.lst out)) S2),
        fun H4 z => ⟨ds.length - (i + 1), by omega, rfl, hlt, z⟩, fun x H4 y => ?_⟩
      obtain ⟨F4, hF, w4, r4⟩ := q2 x H4 y
      have e4 : Ext nu1 F1 O1 nu2 F4 O2 := ⟨e3.nu, fun a o q => hF _ _ (e3.F a o q), e3.O⟩
      have eb : Ext nu1 F1 O1 nu2 F4 (updO O2 D none) := e4.set' hD0
      have less : ∀ p d, updO O2 D none p = some d → O2 p = some d := fun p d z => by
        by_cases hp : p = D
        · subst hp; rw [updO_same] at z; cases z
        · rw [updO_ne hp] at z; exact z
      have s4 := ((s.mono e1).mono eb).wipe vs
      rw [List.drop_eq_getElem_cons hlt, compL2_cons] at h3
      cases em : mg ds[i] (wipeR ρ vs) with
      | none => rw [em] at h3; exact h3.elim
      | some ρ5 =>
        rw [em] at h3
        dsimp only at h3
        rw [bind_assoc] at h3
        refine hg nu2 F4 H4 _ Oc S2 _ _ ds[i] x ρ5 _ (w4.less less) s4 r4 em fun σ5 s5 o5 => ⟨wipe_off o5, ?_⟩
        have xb : Ext nu2 F4 (updO O2 D none) nu2 F4 O2 := ⟨List.prefix_rfl, fun _ _ z => z, less⟩
        refine ht nu2 F4 H4 O2 Oc S2 σ5 ρ5 _ w4 (s5.mono xb) (Post.bindT h3 fun b S6 nu6 F6 H6 O6 b' e6 w6 v6 h6 => ?_)
        cases (show b = b' from v6)
        cases b with
        | false =>
          simp only [Bool.false_eq_true, if_false] at h6 ⊢
          exact ⟨nu6, F6, O6, S6, acc, _, e4.trans e6, w6, e6.O _ _ hDo, h6⟩
        | true =>
          simp only [if_true] at h6 ⊢
          rw [bind_assoc] at h6
          refine hi1 nu6 F6 H6 O6 Oc S6 σ5 ρ5 _ w6 ((s5.mono xb).mono e6) (Post.bindT h6 fun ds1 S7 nu7 F7 H7 O7 J1 e7 w7 v7 h7 => ?_)
          rw [bind_assoc] at h7
          have e67 : Ext nu2 F4 O2 nu7 F7 O7 := e6.trans e7
          have xo : Ext nu2 F4 (updO O2 D none) nu7 F7 (updO O7 D none) := (xb.trans e67).set' updO_same
          refine lc_inner (Ob := updO O7 D none) (Oc := Oc) (acc := acc) (k := fun acc2 S3 => (compL2 mg mt mw1 mg1 mt1 me vs1 (wipeR ρ vs) (ds.drop (i + 1)) S3 acc2).bind fun out S2 => .ok (.own (.lst out)) S2) hg1 ht1 he w7 (fun p d z => ?_) updO_same (e67.O _ _ hDo) (s5.mono xo) v7 h7 fun nu8 F8 H8 O8 S8 acc8 o8 e8 w8 hD8 h8 => ⟨nu8, F8, O8, S8, acc8, o8, ?_, w8, hD8, h8⟩
          · by_cases hp : p = D
            · subst hp; rw [updO_same] at z; cases z
            · rw [updO_ne hp] at z; exact z
          · exact ((e4.trans e67).set' hD0).trans e8
    · have e : i = ds.length := by omega
      subst e
      rw [List.drop_length, compL2_nil] at h3
      exact .inl ⟨g2', h3 nu2 F2 H' O2 (.ref D) e3 w3 ⟨D, _, rfl, hDo, hD0⟩⟩)
end
end L3

namespace L3
open PySem PySem.Spec PyProof.Rows L2

section
variable {c : Cn} {W : WX} {X : Cx} {ta tb te to ti : TE} {ma mb me mo mi : ME} {t : TA} {m : MA}
/-- target = e, e kept -/
def sAsg (mg : MG) (m : ME) : MS := fun ρ S => (m ρ S).toS ρ fun a S1 => (zD a S1).toS ρ fun d S2 => match mg d ρ with | some ρ' => .nx ρ' S2 | none => .bad
theorem sim_asg {ps : List Nat} {g : TG} {mg : MG} (hg : SimG c ps g mg) (h : SimE c W te me) : SimS c W (tAsg te g) (sAsg mg me) := fun nu F H O Oc S σ ρ Dn w s hp =>
  h nu F H O Oc S σ ρ _ w s (PostS.bind s hp fun a S1 nu1 F1 H1 O1 x e1 w1 v1 h2 => by
    obtain ⟨F2, O2, d, e2, w2, r2, _, h3⟩ := PostS.keep e1 s w1 v1 h2
    split at h3
    · rename_i ρ' e
      have s2 := s.mono e2
      exact hg nu1 F2 H1 O2 Oc S1 σ ρ d x ρ' _ w2 s2 r2 e fun σ' s' _ => h3 nu1 F2 H1 O2 σ' ⟨List.prefix_rfl, fun _ _ q => q, s'.oc⟩ w2 s'
    · exact h3.elim)
/-! ### a thing of one's own is lent: an expression that reads it alone -/
def indF : D → Bool | .non => true | .bl _ => true | .int _ => true | .str _ => true | .ty _ => true | .fn _ => true | .ref _ => true | _ => false
def indO : D → Bool | .lst ds => ds.all indF | .dic _ ds => ds.all indF | .set _ => true | .ins _ _ ds => ds.all indF | _ => false
theorem Rep.ind {nu : List Addr} {F F' : Hp} {d : D} {v : V} (h : indF d = true) (r : Rep c nu F d v) : Rep c nu F' d v := by cases d <;> first | exact r | cases h
theorem RepL.ind {nu : List Addr} {F F' : Hp} : ∀ {ds : List D} {vs : List V}, ds.all indF = true → RepL c nu F ds vs → RepL c nu F' ds vs
  | [], _, _, r => r
  | d :: ds, _, h, r => by
    obtain ⟨v, vs, rfl, r1, r2⟩ := r
    rw [List.all_cons, Bool.and_eq_true] at h
    exact ⟨v, vs, rfl, Rep.ind h.1 r1, RepL.ind h.2 r2⟩
theorem ObjR.ind {nu : List Addr} {F F' : Hp} {o : HO} {a : Addr} {d : D} (h : indO d = true) (r : ObjR c nu F o a d) : ObjR c nu F' o a d := by
  cases d with
  | lst ds => obtain ⟨vs, e, q⟩ := r; exact ⟨vs, e, RepL.ind h q⟩
  | dic ks ds => obtain ⟨vs, e, q⟩ := r; exact ⟨vs, e, RepL.ind h q⟩
  | set ks => exact r
  | ins C fs ds => obtain ⟨dx, vs, e, z, q⟩ := r; exact ⟨dx, vs, e, z, RepL.ind h q⟩
  | _ => exact r
def eLend (i : Nat) (m : ME) : ME := fun ρ S => match ρ[i]? with
  | some (some (.own d)) => match m (ρ.set i (some (.fz d))) S with
    | .ok a S1 => guardR (indF a.d = true ∧ S1.length = S.length ∧ S1.all indO = true) (.ok (.fz a.d) S1)
    | _ => .bad
  | _ => .bad
theorem sim_lend {i : Nat} (h : SimE c W te me) : SimE c W te (eLend i me) := fun nu F H O Oc S σ ρ Q w s hp => by
  unfold eLend at hp
  split at hp
  · rename_i d e
    obtain ⟨p, o, q1, q2, q3⟩ := s.own i d e
    obtain ⟨hF0, hnu, hH, hob⟩ := w.own p _ q2
    obtain ⟨F', w', hF, r⟩ := w.freeze q2
    have hFp : F' p = some o := by
      obtain ⟨_, _, z⟩ := (show True ∧ True ∧ True from ⟨trivial, trivial, trivial⟩)
      cases hd : d with
      | lst ds => rw [hd] at r hob; obtain ⟨a, vs, ea, h1, _⟩ := r; cases ea; have := w'.sub _ _ h1; rw [hH] at this; rw [h1, this]
      | dic ks ds => rw [hd] at r; obtain ⟨a, o', vs, ea, h1, _⟩ := r; cases ea; have := w'.sub _ _ h1; rw [hH] at this; rw [h1, this]
      | set ks => rw [hd] at r; obtain ⟨a, o', ea, h1, _⟩ := r; cases ea; have := w'.sub _ _ h1; rw [hH] at this; rw [h1, this]
      | ins C fs ds => rw [hd] at r; obtain ⟨a, dx, vs, ea, h1, _⟩ := r; cases ea; have := w'.sub _ _ h1; rw [hH] at this; rw [h1, this]
      | _ => rw [hd] at hob; exact hob.elim
    have hl : i < ρ.length := (List.getElem?_eq_some_iff.mp e).1
    have s' : SlotR c nu F' (updO O p none) Oc σ (ρ.set i (some (.fz d))) := by
      refine ⟨by simp [s.len], fun j d' z => ?_, fun j d' z => ?_, fun j k d1 d2 p' h1 h2 h3 h4 => ?_, fun q x z => ?_⟩
      · rcases get_set z with ⟨e1, e2, _⟩ | ⟨e1, e2⟩
        · cases e2; subst e1
          exact ⟨_, q1, r⟩
        · obtain ⟨v, z1, z2⟩ := s.fz j d' e2
          exact ⟨v, z1, Rep.mono List.prefix_rfl hF _ _ z2⟩
      · rcases get_set z with ⟨e1, e2, _⟩ | ⟨e1, e2⟩
        · cases e2
        · obtain ⟨q, o', z1, z2, z3⟩ := s.own j d' e2
          refine ⟨q, o', z1, ?_, z3⟩
          rw [updO_ne (fun y => e1 (s.inj j i d' d p e2 e (by rw [← y]; exact z1) q1))]
          exact z2
      · rcases get_set h1 with ⟨e1, e2, _⟩ | ⟨e1, e2⟩
        · cases e2
        · rcases get_set h2 with ⟨e3, e4, _⟩ | ⟨e3, e4⟩
          · cases e4
          · exact s.inj j k d1 d2 p' e2 e4 h3 h4
      · rw [updO_ne (fun y => by rw [y, q3] at z; cases z)]
        exact s.oc q x z
    refine h nu F' H _ Oc S σ _ Q w' s' ?_
    cases em : me (ρ.set i (some (.fz d))) S with
    | ok a S1 =>
      rw [em] at hp
      dsimp only at hp
      obtain ⟨⟨hi, hz, ha⟩, hp⟩ := hp.guard
      intro nu2 F2 H2 O2 b e2 w2 v2
      have hnu2 : nu2 = nu := by
        obtain ⟨t, et⟩ := e2.nu
        have l1 := w2.len
        have l2 := w.len
        rw [← et, List.length_append] at l1
        have : t.length = 0 := by omega
        rw [← et, List.length_eq_zero_iff.mp this, List.append_nil]
      subst hnu2
      have rb : Rep c nu2 F a.d b := by
        cases a with
        | fz d' => exact Rep.ind hi v2
        | own d' => obtain ⟨p', o', _, z, _⟩ := v2; obtain ⟨_, _, _, y⟩ := w2.own p' _ z; cases d' <;> first | exact y.elim | cases hi
        | bor d' => obtain ⟨p', o', i', _, z, _⟩ := v2; obtain ⟨_, _, _, y⟩ := w2.own p' _ z; cases d' <;> first | exact y.elim | cases hi
      refine hp nu2 F H2 O b (Ext.refl ..) ⟨fun a' o' z => w2.sub _ _ (e2.F _ _ (hF _ _ z)), w.nd, w2.len, fun n a' d' z1 z2 => ?_, fun q x z => ?_, w2.tab.to fun a u y0 y1 y2 y3 => ⟨y0, ?_, y2, ?_⟩, w.ft⟩ rb
      · obtain ⟨f, o', y1, y2⟩ := w2.obj n a' d' z1 z2
        refine ⟨?_, o', y1, ObjR.ind (List.all_eq_true.mp ha d' (List.mem_of_getElem? z2)) y2⟩
        cases q : F a' with
        | none => rfl
        | some u => rw [e2.F _ _ (hF _ _ q)] at f; cases f
      · obtain ⟨y1, y2, y3, y4⟩ := w.own q x z
        refine ⟨y1, y2, ?_, y4⟩
        by_cases hq : q = p
        · subst hq
          rw [q2] at z
          cases z
          exact w2.sub _ _ (e2.F _ _ hFp)
        · have := e2.O q x (by rw [updO_ne hq]; exact z)
          exact (w2.own q x this).2.2.1
      · cases q : F a with
        | none => rfl
        | some u => rw [e2.F _ _ (hF _ _ q)] at y1; cases y1
      · cases q : O a with
        | none => rfl
        | some x =>
          by_cases hq : a = p
          · subst hq
            rw [e2.F _ _ hFp] at y1
            cases y1
          · have := e2.O a x (by rw [updO_ne hq]; exact q)
            rw [this] at y3
            cases y3
    | ex C fs vs S1 => rw [em] at hp; exact hp.elim
    | bad => rw [em] at hp; exact hp.elim
  · exact hp.elim
/-! ### names of the top -/
theorem pe_globS {x : Str} {y : Str} {pos : Pos} (hg : Gl X x) (hm : ∃ t, X.mg x = some (.str y t)) (hd : (x == ("__debug__" : Str)) = false := by decide) : PE X (.Name x pos) (tC (.str y)) := by
  obtain ⟨t, hm⟩ := hm
  exact pe_glob hg hm ⟨t, rfl⟩ hd
theorem pe_globI {x : Str} {y : Int} {pos : Pos} (hg : Gl X x) (hm : ∃ t, X.mg x = some (.int y t)) (hd : (x == ("__debug__" : Str)) = false := by decide) : PE X (.Name x pos) (tC (.int y)) := by
  obtain ⟨t, hm⟩ := hm
  exact pe_glob hg hm ⟨t, rfl⟩ hd
def gNeg : MO1 := fun a S => match a with | .int i => .ok (.fz (.int (-i))) S | _ => .bad
theorem s_neg : R1S c W (rU fun i => .int (-i)) gNeg := fun nu F H O S σ ρ Q a x w ra h => by
  unfold gNeg at h
  split at h
  · rename_i i e
    exact ⟨i, ra.int w e, h.fz w rfl⟩
  · exact h.elim
/-- a constant of the top, by its value -/
theorem sim_glob {x : V} {d : D} (r : ∀ nu F, Rep c nu F d x) : SimE c W (tC x) (eC d) := sim_c r
end
/-! ### defs of the text, by their names -/
structure Df (c : Cn) (mg : Str → Option Value) (x qual : Str) (st : Stmt) (ps : List Str) (fd : FuncData) : Prop where
  F : Fun c.K x qual st (c.ca x) fd
  g : mg x = some (.ref (c.ca x))
  b : Binds c.K fd ps []
/-- a def does what m says -/
structure Ok (c : Cn) (mg : Str → Option Value) (base : Heap) (CX : CXT) (k : Nat) (x : Str) (ps : List Str) (m : MF) (fd : FuncData) : Prop where
  F : FnOk c.P c.w c.K mg base CX k (c.ca x) fd ps (spM c ps.length m)
  g : mg x = some (.ref (c.ca x))
  kp : PySem.W.keepIn c.K (.ref (c.ca x)) = true
  b : Binds c.K fd ps []
section
variable {c : Cn} {mg : Str → Option Value} {base : Heap} {CX : CXT} {k : Nat} {x qual : Str} {st : Stmt} {ps N : List Str} {m : MF} {fd : FuncData} {ms : MS}
theorem Ok.of (D : Df c mg x qual st ps fd) (F : FnOk c.P c.w c.K mg base CX k (c.ca x) fd ps (spM c ps.length m)) : Ok c mg base CX k x ps m fd := ⟨F, D.g, D.F.kp, D.b⟩
theorem Ok.mono {j : Nat} (o : Ok c mg base CX j x ps m fd) (h : j ≤ k) : Ok c mg base CX k x ps m fd := ⟨o.F.mono h, o.g, o.kp, o.b⟩
theorem Ok.bad (D : Df c mg x qual st ps fd) : Ok c mg base CX k x ps (fun _ _ => .bad) fd :=
  .of D ⟨fun vs H Q E h => h.1, fun A outer s H args us vs Q E _ _ _ _ h => let ⟨_, _, _, _, _, _, _, _, z⟩ := h; (show False from z).elim⟩
/-- the rule for a def that lets nothing out -/
theorem ok0 (D : Df c mg x qual st ps fd) (S : FnScope N ps (defScope st))
    (hb : ∀ (cdv : Value) (A : Around) (outer : List Env) (s : Shared) (H : Hp) (E : XK), Room k (A.deeper (envOfC qual (defScope st) s.heap.objs.size (c.ca x) cdv)) →
      ∃ t, PSs (cxOf CX0 c.P c.w c.K mg base N qual (defScope st) (c.ca x) cdv A outer s H E).nox (defBody st) t ∧ SimS c WT t ms) : Ok c mg base CX0 (k + 1) x ps (runF N.length ms) fd := .of D (fn0 D.F S hb)
theorem okX (D : Df c mg x qual st ps fd) (S : FnScope N ps (defScope st))
    (hb : ∀ (cdv : Value) (A : Around) (outer : List Env) (s : Shared) (H : Hp) (E : XK), Room k (A.deeper (envOfC qual (defScope st) s.heap.objs.size (c.ca x) cdv)) →
      ∃ t, PSs (cxOf (L2.CX c.P c.w) c.P c.w c.K mg base N qual (defScope st) (c.ca x) cdv A outer s H E) (defBody st) t ∧ SimS c (WE1 E) t ms) : Ok c mg base (L2.CX c.P c.w) (k + 1) x ps (runF N.length ms) fd := .of D (fnX D.F S hb)
end
/-- an exception class of the text with its __init__ -/
structure Xc (c : Cn) (mg : Str → Option Value) (base : Heap) (x : Str) (ps : List Str) (n : Nat) (fs : List V → List (Str × V)) (fI : Addr) (fd : FuncData) : Prop where
  T : OexC c.K (c.ca x)
  g : mg x = some (.ref (c.ca x))
  iC : PySem.W.findIn c.K (.ref (c.ca x)) "__init__" = some (some (.ref fI))
  tI : PySem.W.typeIn c.K (.ref fI) = some (.type "function")
  F : FnOk c.P c.w c.K mg base CX0 1 fI fd ps (spI (c.ca x) n fs)
  b : Binds c.K fd ps []
theorem passF {X : Cx} : Passes CX0 X (fun _ _ _ => False) := fun _ _ _ _ _ _ _ h => h.elim
end L3

namespace L3
open PySem PySem.Spec PyProof.Rows L2
/-! ### texts by their signs -/
def T (l : List Nat) : Str := ⟨l.toArray⟩
theorem T_cps (l : List Nat) : (T l).cps.toList = l := by simp [T]
theorem T_mem {k : Nat} {l : List Nat} : k ∈ (T l).cps ↔ k ∈ l := by simp [T]
theorem T_len (l : List Nat) : (T l).length = l.length := by simp [T, Str.length]
theorem T_app (a b : List Nat) : T a ++ T b = T (a ++ b) := by
  show (⟨(T a).cps ++ (T b).cps⟩ : Str) = _
  simp [T]
theorem T_inj {a b : List Nat} : T a = T b ↔ a = b := ⟨fun h => by rw [← T_cps a, h, T_cps], fun h => by rw [h]⟩
theorem T_of (x : Str) : x = T x.cps.toList := by simp [T]
theorem T_one (k : Nat) : (⟨#[k]⟩ : Str) = T [k] := rfl
theorem T_cut (n k : Nat) (l : List Nat) : cutS (T l) (some (n : Int)) (some (k : Int)) = T ((l.drop n).take (k - n)) := by
  have e : (T l).length = l.length := T_len l
  unfold cutS
  rw [HT.sIx_nat, HT.sIx_nat, T_cps, e]
  show T _ = T _
  by_cases h : n ≤ l.length
  · rw [Nat.min_eq_left h]
    by_cases h2 : k ≤ l.length
    · rw [Nat.min_eq_left h2]
    · rw [Nat.min_eq_right (by omega : l.length ≤ k), List.take_of_length_le (by simp), List.take_of_length_le (by simp; omega)]
  · rw [Nat.min_eq_right (by omega : l.length ≤ n), List.drop_of_length_le (Nat.le_refl _), List.drop_of_length_le (by omega)]
    simp
theorem glued_aux (s : List Nat) : ∀ (ls : List (List Nat)) (a : List Nat), (ls.map T).foldl (fun acc p => acc ++ (T s).cps ++ p.cps) a.toArray = (a ++ (ls.map fun l => s ++ l).flatten).toArray
  | [], a => by simp
  | l :: r, a => by
    rw [List.map_cons, List.foldl_cons]
    have e : a.toArray ++ (T s).cps ++ (T l).cps = (a ++ s ++ l).toArray := by simp [T]
    rw [e, glued_aux s r]
    simp
theorem inter_cons (s l : List Nat) (r : List (List Nat)) : List.intercalate s (l :: r) = l ++ (r.map fun x => s ++ x).flatten := by
  induction r generalizing l with
  | nil => simp [List.intercalate]
  | cons x r ih =>
    have h : List.intercalate s (l :: x :: r) = l ++ (s ++ List.intercalate s (x :: r)) := by simp [List.intercalate, List.intersperse]
    rw [h, ih x, List.map_cons, List.flatten_cons, List.append_assoc]
theorem T_join (s : List Nat) (ls : List (List Nat)) : Txt.join (T s) (ls.map T) = T (List.intercalate s ls) := by
  cases ls with
  | nil => rfl
  | cons l r =>
    show (⟨((l :: r).map T).drop 1 |>.foldl (fun acc p => acc ++ (T s).cps ++ p.cps) (((l :: r).map T).headD Str.empty).cps⟩ : Str) = _
    show (⟨(r.map T).foldl (fun acc p => acc ++ (T s).cps ++ p.cps) l.toArray⟩ : Str) = _
    rw [glued_aux, inter_cons]
    rfl
theorem strsD_of {α : Type} (f : α → Str) (l : List α) : strsD (l.map fun a => D.str (f a)) = some (l.map f) := by
  rw [← strsD_map (l.map f), List.map_map]; rfl
theorem intsD_of {α : Type} (f : α → Int) (l : List α) : intsD (l.map fun a => D.int (f a)) = some (l.map f) := by
  rw [← intsD_map (l.map f), List.map_map]; rfl
theorem blsD_of {α : Type} (f : α → Bool) (l : List α) : blsD (l.map fun a => D.bl (f a)) = some (l.map f) := by
  rw [← blsD_map (l.map f), List.map_map]; rfl
theorem q_str {x y : Str} (hx : PyData.strOk x = true) (hy : PyData.strOk y = true) : pyEq (.str x) (.str y) = some (x == y) := by
  have e : ∀ z, PyData.strOk z = true → SeqAt.shaped (.str z) = true := fun z hz => by
    unfold SeqAt.shaped
    rw [Bool.and_eq_true_iff]
    exact ⟨by rw [PyData.canLay0]; exact hz, by rw [PyData.depth]; rfl⟩
  show (if SeqAt.shaped (.str x) = true ∧ SeqAt.shaped (.str y) = true then some (PyData.eqv (.str x) (.str y)) else none) = _
  rw [if_pos ⟨e x hx, e y hy⟩]
  unfold PyData.eqv
  rfl
theorem q_int (x y : Int) : pyEq (.int x) (.int y) = some (x == y) := rfl
theorem q_bl (x y : Bool) : pyEq (.bl x) (.bl y) = some (x == y) := by cases x <;> cases y <;> rfl
theorem T_beq (a b : List Nat) : (T a == T b) = decide (a = b) := by
  by_cases h : a = b
  · subst h; simp
  · have : T a ≠ T b := fun z => h (T_inj.mp z)
    simp [h, this]
/-! ### places -/
theorem ixN_in {n : Nat} {i : Int} (h0 : 0 ≤ i) (h1 : i < n) : L2.ixN n i = some i.toNat := by
  unfold L2.ixN
  rw [if_pos h0, if_pos h1]
theorem atI_in {α : Type} {xs : List α} {i : Int} (h0 : 0 ≤ i) (h1 : i < xs.length) : ∃ x, L2.atI xs i = some x ∧ x ∈ xs ∧ xs[i.toNat]? = some x := by
  have e : i.toNat < xs.length := by omega
  refine ⟨xs[i.toNat], ?_, List.getElem_mem e, List.getElem?_eq_getElem e⟩
  unfold L2.atI
  rw [ixN_in h0 h1]
  exact List.getElem?_eq_getElem e
theorem atI_at {α : Type} {xs : List α} {n : Nat} {x : α} (h : xs[n]? = some x) : L2.atI xs (n : Int) = some x := by
  have hl := (List.getElem?_eq_some_iff.mp h).1
  unfold L2.atI
  rw [ixN_in (by omega) (by omega)]
  simpa using h
theorem atI_map {α β : Type} (f : α → β) (xs : List α) (i : Int) : L2.atI (xs.map f) i = (L2.atI xs i).map f := by
  unfold L2.atI
  rw [List.length_map]
  cases L2.ixN xs.length i <;> simp
theorem ixN0 (n : Nat) : L2.ixN (n + 1) 0 = some 0 := ixN_in (by omega) (by omega)
theorem ixN1 (n : Nat) : L2.ixN (n + 1 + 1) 1 = some 1 := ixN_in (by omega) (by omega)
theorem ixN2 (n : Nat) : L2.ixN (n + 1 + 1 + 1) 2 = some 2 := ixN_in (by omega) (by omega)
theorem atI0 {α : Type} (a : α) (l : List α) : L2.atI (a :: l) 0 = some a := by unfold L2.atI; rw [List.length_cons, ixN0]; rfl
theorem atI1 {α : Type} (a b : α) (l : List α) : L2.atI (a :: b :: l) 1 = some b := by unfold L2.atI; rw [List.length_cons, List.length_cons, ixN1]; rfl
theorem atI2 {α : Type} (a b c : α) (l : List α) : L2.atI (a :: b :: c :: l) 2 = some c := by unfold L2.atI; rw [List.length_cons, List.length_cons, List.length_cons, ixN2]; rfl
/-! ### turns -/
theorem loopL_inv {mg : MG} {mb : MS} (I : Rho → AS → Prop) : ∀ (ds : List D) (ρ : Rho) (S : AS), (∀ d ∈ ds, ∀ ρ S, I ρ S → ∃ ρ1 ρ2 S2, mg d ρ = some ρ1 ∧ mb ρ1 S = .nx ρ2 S2 ∧ I ρ2 S2) → I ρ S → ∃ ρ2 S2, loopL mg mb ds ρ S = .nx ρ2 S2 ∧ I ρ2 S2
  | [], ρ, S, _, h => ⟨ρ, S, rfl, h⟩
  | d :: r, ρ, S, hs, h => by
    obtain ⟨ρ1, ρ2, S2, e1, e2, h2⟩ := hs d (List.mem_cons_self ..) ρ S h
    obtain ⟨ρ3, S3, e3, h3⟩ := loopL_inv I r ρ2 S2 (fun d hd => hs d (List.mem_cons_of_mem _ hd)) h2
    refine ⟨ρ3, S3, ?_, h3⟩
    unfold loopL
    rw [e1]
    dsimp only
    rw [e2]
    exact e3
theorem loopL_fold {β : Type} {mg : MG} {mb : MS} (I : β → Rho → AS → Prop) (f : β → D → β) : ∀ (ds : List D) (b : β) (ρ : Rho) (S : AS), (∀ d ∈ ds, ∀ b ρ S, I b ρ S → ∃ ρ1 ρ2 S2, mg d ρ = some ρ1 ∧ mb ρ1 S = .nx ρ2 S2 ∧ I (f b d) ρ2 S2) → I b ρ S → ∃ ρ2 S2, loopL mg mb ds ρ S = .nx ρ2 S2 ∧ I (ds.foldl f b) ρ2 S2
  | [], b, ρ, S, _, h => ⟨ρ, S, rfl, h⟩
  | d :: r, b, ρ, S, hs, h => by
    obtain ⟨ρ1, ρ2, S2, e1, e2, h2⟩ := hs d (List.mem_cons_self ..) b ρ S h
    obtain ⟨ρ3, S3, e3, h3⟩ := loopL_fold I f r _ ρ2 S2 (fun d hd => hs d (List.mem_cons_of_mem _ hd)) h2
    refine ⟨ρ3, S3, ?_, h3⟩
    unfold loopL
    rw [e1]
    dsimp only
    rw [e2]
    exact e3
theorem compL_map {α : Type} {mg : MG} {me : ME} (e g : α → D) (ρ : Rho) (S : AS) : ∀ (ts : List α) (acc : List D), (∀ t ∈ ts, ∃ ρ2 a, mg (e t) ρ = some ρ2 ∧ me ρ2 S = .ok a S ∧ zD a S = .ok (g t) S) → acc.length + ts.length ≤ sizeLine → compL mg mYes me ρ (ts.map e) S acc = .ok (acc ++ ts.map g) S
  | [], acc, _, _ => by simp [compL_nil]
  | t :: r, acc, hs, hl => by
    obtain ⟨ρ2, a, e1, e2, e3⟩ := hs t (List.mem_cons_self ..)
    rw [List.length_cons] at hl
    rw [List.map_cons, compL_cons, e1]
    dsimp only
    unfold mYes
    rw [bind_ok, if_pos rfl, e2, bind_ok, e3, bind_ok, guardR_t (by omega)]
    have ih := compL_map e g ρ S r (acc ++ [g t]) (fun t ht => hs t (List.mem_cons_of_mem _ ht)) (by simp; omega)
    unfold mYes at ih
    rw [ih]
    simp
/-- a comprehension's filter too -/
theorem compL_filter {α : Type} {mg : MG} {mt : MT} {me : ME} (e g : α → D) (p : α → Bool) (ρ : Rho) (S : AS) : ∀ (ts : List α) (acc : List D), (∀ t ∈ ts, ∃ ρ2, mg (e t) ρ = some ρ2 ∧ mt ρ2 S = .ok (p t) S ∧ (p t = true → ∃ a, me ρ2 S = .ok a S ∧ zD a S = .ok (g t) S)) → acc.length + ts.length ≤ sizeLine → compL mg mt me ρ (ts.map e) S acc = .ok (acc ++ (ts.filter p).map g) S
  | [], acc, _, _ => by simp [compL_nil]
  | t :: r, acc, hs, hl => by
    obtain ⟨ρ2, e1, e2, e3⟩ := hs t (List.mem_cons_self ..)
    rw [List.length_cons] at hl
    rw [List.map_cons, compL_cons, e1]
    dsimp only
    rw [e2, bind_ok]
    by_cases hp : p t = true
    · obtain ⟨a, e4, e5⟩ := e3 hp
      rw [if_pos hp, e4, bind_ok, e5, bind_ok, guardR_t (by omega), compL_filter e g p ρ S r (acc ++ [g t]) (fun t ht => hs t (List.mem_cons_of_mem _ ht)) (by simp; omega), List.filter_cons_of_pos hp]
      simp
    · rw [if_neg hp, compL_filter e g p ρ S r acc (fun t ht => hs t (List.mem_cons_of_mem _ ht)) (by omega), List.filter_cons_of_neg hp]
theorem compL_inv {mg : MG} {me : ME} (I : AS → Prop) (P : D → Prop) (ρ : Rho) : ∀ (ds : List D) (S : AS) (acc : List D), (∀ d ∈ ds, ∀ S, I S → ∃ ρ2 a S2 x, mg d ρ = some ρ2 ∧ me ρ2 S = .ok a S2 ∧ zD a S2 = .ok x S2 ∧ P x ∧ I S2) → acc.length + ds.length ≤ sizeLine → I S → ∃ out S2, compL mg mYes me ρ ds S acc = .ok (acc ++ out) S2 ∧ out.length = ds.length ∧ (∀ x ∈ out, P x) ∧ I S2
  | [], S, acc, _, _, h => ⟨[], S, by simp [compL_nil], rfl, fun _ z => (nomatch z), h⟩
  | d :: r, S, acc, hs, hl, h => by
    obtain ⟨ρ2, a, S2, x, e1, e2, e3, hx, h2⟩ := hs d (List.mem_cons_self ..) S h
    rw [List.length_cons] at hl
    obtain ⟨out, S3, e4, e5, h3, h4⟩ := compL_inv I P ρ r S2 (acc ++ [x]) (fun d hd => hs d (List.mem_cons_of_mem _ hd)) (by simp; omega) h2
    refine ⟨x :: out, S3, ?_, by simp [e5], fun y hy => ?_, h4⟩
    · rw [compL_cons, e1]
      dsimp only
      unfold mYes at e4 ⊢
      rw [bind_ok, if_pos rfl, e2, bind_ok, e3, bind_ok, guardR_t (by omega), e4]
      simp
    · rcases List.mem_cons.mp hy with z | z
      · rw [z]; exact hx
      · exact h3 y z
theorem rngD_len (lo : Int) (n : Nat) : (rngD lo n).length = n := by simp [rngD]
theorem rngD_mem {lo : Int} {n : Nat} {d : D} (h : d ∈ rngD lo n) : ∃ k : Nat, k < n ∧ d = .int (lo + k) := by
  unfold rngD at h
  obtain ⟨k, h1, h2⟩ := List.mem_map.mp h
  exact ⟨k, List.mem_range.mp h1, h2.symm⟩
theorem go {m n : MS} {ρ ρ' : Rho} {S S' : AS} {out : SR} (h : m ρ S = .nx ρ' S') (k : n ρ' S' = out) : sSeq m n ρ S = out := by unfold sSeq; rw [h]; exact k
theorem run_rt {n : Nat} {ms : MS} {ds : List D} {S S' : AS} {a : SV} (h : ms (rho0 n ds) S = .rt a S') : runF n ms ds S = .ok a S' := by unfold runF; rw [h]
theorem iR1_nat {m : MA} {ρ : Rho} {S S1 : AS} {n : Nat} (h : m ρ S = .ok [.int n] S1) (hn : n ≤ 1000000000) : iR1 m ρ S = .ok (rngD 0 n) S1 := by
  unfold iR1
  rw [h, bind_ok]
  dsimp only
  rw [guardR_t ⟨by omega, by omega⟩, Int.toNat_natCast]
theorem iR1_int {m : MA} {ρ : Rho} {S S1 : AS} {k : Int} (h : m ρ S = .ok [.int k] S1) (h0 : -1000000000 ≤ k) (hn : k ≤ 1000000000) : iR1 m ρ S = .ok (rngD 0 k.toNat) S1 := by
  unfold iR1
  rw [h, bind_ok]
  dsimp only
  rw [guardR_t ⟨by omega, by omega⟩]
theorem iR2_int {m : MA} {ρ : Rho} {S S1 : AS} {j k : Int} (h : m ρ S = .ok [.int j, .int k] S1) (h0 : -1000000000 ≤ j) (hn : j ≤ 1000000000) (h1 : -1000000000 ≤ k) (h2 : k ≤ 1000000000) : iR2 m ρ S = .ok (rngD j (k - j).toNat) S1 := by
  unfold iR2
  rw [h, bind_ok]
  dsimp only
  rw [guardR_t ⟨by omega, by omega, by omega, by omega⟩]
theorem gMul_rep {ds : List D} {n : Nat} {S : AS} (h : n ≤ 1000000) (h2 : ds.length * n ≤ sizeLine) : gMul (.lst ds) (.int n) S = .ok (.own (.lst (List.replicate n ds).flatten)) S := by
  unfold gMul
  dsimp only
  rw [guardR_t ⟨by omega, by omega, by rw [Int.toNat_natCast]; exact h2⟩, Int.toNat_natCast]
theorem eOp_ok {g : MO} {ma mb : ME} {ρ : Rho} {S S1 S2 : AS} {a b : SV} {r : R SV} (h1 : ma ρ S = .ok a S1) (h2 : mb ρ S1 = .ok b S2) (h3 : g a.d b.d S2 = r) : eOp g ma mb ρ S = r := by unfold eOp; rw [h1, bind_ok, h2, bind_ok, h3]
theorem eUn_ok {g : MO1} {ma : ME} {ρ : Rho} {S S1 : AS} {a : SV} {r : R SV} (h1 : ma ρ S = .ok a S1) (h3 : g a.d S1 = r) : eUn g ma ρ S = r := by unfold eUn; rw [h1, bind_ok, h3]
theorem sSet_own {i : Nat} {m : ME} {ρ : Rho} {S S1 : AS} {d : D} (h : m ρ S = .ok (.own d) S1) : sSet i m ρ S = .nx (ρ.set i (some (.own d))) S1 := by unfold sSet; rw [h]; rfl
theorem sAsg_ok {i : Nat} {m : ME} {ρ : Rho} {S S1 : AS} {a : SV} {d : D} (h : m ρ S = .ok a S1) (h2 : zD a S1 = .ok d S1) : sAsg (gN i) m ρ S = .nx (ρ.set i (some (.fz d))) S1 := by unfold sAsg; rw [h, toS_ok, h2]; rfl
theorem sIf_t {t : MT} {m n : MS} {ρ : Rho} {S S1 : AS} {out : SR} (h : t ρ S = .ok true S1) (k : m ρ S1 = out) : sIf t m n ρ S = out := by unfold sIf; rw [h]; exact k
theorem sIf_f {t : MT} {m n : MS} {ρ : Rho} {S S1 : AS} {out : SR} (h : t ρ S = .ok false S1) (k : n ρ S1 = out) : sIf t m n ρ S = out := by unfold sIf; rw [h]; exact k
theorem sRet_fz {m : ME} {ρ : Rho} {S S1 : AS} {d : D} (h : m ρ S = .ok (.fz d) S1) : sRet m ρ S = .rt (.fz d) S1 := by unfold sRet; rw [h]; rfl
theorem sRet_own {m : ME} {ρ : Rho} {S S1 : AS} {d : D} (h : m ρ S = .ok (.own d) S1) : sRet m ρ S = .rt (.own d) S1 := by unfold sRet; rw [h]; rfl
theorem call_ok {n : Nat} {f : MF} {ma : MA} {ρ : Rho} {S S1 : AS} {ds : List D} {r : R SV} (h1 : ma ρ S = .ok ds S1) (hn : ds.length = n) (h2 : f ds S1 = r) : eCall n f ma ρ S = r := by unfold eCall; rw [h1, bind_ok, guardR_t hn, h2]
theorem eLc_ok {mi : MI} {mg : MG} {mt : MT} {me : ME} {vs : List Nat} {ρ : Rho} {S S1 S2 : AS} {ds out : List D} (h1 : mi ρ S = .ok ds S1) (h2 : compL mg mt me (wipeR ρ vs) ds S1 [] = .ok out S2) : eLc mi mg mt me vs ρ S = .ok (.own (.lst out)) S2 := by unfold eLc; rw [h1, bind_ok, h2]; rfl
theorem sFor_ok {mi : MI} {mg : MG} {mb : MS} {ρ : Rho} {S S1 : AS} {ds : List D} {out : SR} (h1 : mi ρ S = .ok ds S1) (h2 : loopL mg mb ds ρ S1 = out) : sFor mi mg mb ρ S = out := by unfold sFor; rw [h1]; exact h2
theorem szl (n : Nat) (h : n ≤ 16777216) : n ≤ sizeLine := by unfold sizeLine; omega
end L3

namespace L3
open PySem PySem.Spec PyProof.Rows L2
/-! ### the end -/
def spLaw (K : PySem.W.Frag) (T : List (Addr × Str)) : Sp := fun vs H Q _ => ∃ (a : Addr) (ns : List Int), vs = [.ref a] ∧ SqL K H a (ns.map V.int) ∧ ns.length ≤ 63 ∧ (∀ p ∈ T, H p.1 = some (.tbl #[])) ∧ ∀ H', Q (.bl true) H'
/-- all but the tables -/
def noT (H : Hp) : Hp := fun a => match H a with | some (.tbl _) => none | some (.ext _) => none | o => o
theorem noT_sub {H : Hp} {a : Addr} {o : HO} (h : noT H a = some o) : H a = some o := by
  unfold noT at h
  split at h
  · cases h
  · cases h
  · exact h
theorem noT_plain {H : Hp} {a : Addr} {o : HO} (h : noT H a = some o) : Plain o := by
  unfold noT at h
  split at h
  · cases h
  · cases h
  · rename_i n1 n2
    exact plain_by (fun ps z => n1 ps (by rw [h, z])) (fun φ z => n2 φ (by rw [h, z]))
theorem noT_of {H : Hp} {a : Addr} {o : HO} (h : H a = some o) (hn : ∀ ps, o ≠ .tbl ps) (hn2 : ∀ φ, o ≠ .ext φ) : noT H a = some o := by
  unfold noT
  split
  · rename_i ps e; rw [h] at e; exact (hn ps (Option.some.inj e)).elim
  · rename_i φ e; rw [h] at e; exact (hn2 φ (Option.some.inj e)).elim
  · exact h
theorem noT_lst {K : PySem.W.Frag} {H : Hp} {a : Addr} {vs : List V} (h : SqL K H a vs) : SqL K (noT H) a vs := by
  rcases h with (h | ⟨o, h⟩) | h
  · exact .inl (.inl (noT_of h (fun _ z => nomatch z) fun _ z => nomatch z))
  · exact .inl (.inr ⟨o, noT_of h (fun _ z => nomatch z) fun _ z => nomatch z⟩)
  · exact .inr h
theorem law_imp {c : Cn} {m : MF} (h : ∀ ns : List Int, ns.length ≤ 63 → ∃ S', m [.scr ns] [] = .ok (.fz (.bl true)) S') : ∀ vs H Q E, spLaw c.K c.T vs H Q E → spM c 1 m vs H Q E := by
  rintro vs H Q E ⟨a, ns, rfl, hS, hl, hT, hq⟩
  obtain ⟨S', e⟩ := h ns hl
  refine ⟨rfl, [], noT H, fun _ => none, [], [.scr ns], ⟨fun _ _ z => noT_sub z, List.nodup_nil, rfl, fun n a d h1 => ?_, fun p x h1 => ?_, fun p hp => ?_, fun _ _ z => noT_plain z⟩, ⟨_, [], rfl, ⟨a, rfl, noT_lst hS⟩, rfl⟩, ?_⟩
  · simp at h1
  · cases h1
  · have hp2 := hT p hp
    refine ⟨?_, by simp, rfl, #[], hp2, True.intro, fun pos cv e => ?_⟩
    · unfold noT; rw [hp2]
    · have z : codeAmong pos [] = some cv := e
      simp [codeAmong] at z
  · rw [e]
    intro nu' F' H' O' b _ _ r
    rw [show b = .bl true from r]
    exact hq _
theorem ca_ex : ∀ (ns : List Str) (as : List Addr), ns.Nodup → ns.length = as.length → ∃ ca : Str → Addr, ns.map ca = as
  | [], [], _, _ => ⟨fun _ => 0, rfl⟩
  | [], _ :: _, _, h => by simp at h
  | _ :: _, [], _, h => by simp at h
  | n :: ns, a :: as, hd, hl => by
    obtain ⟨h1, h2⟩ := List.nodup_cons.mp hd
    obtain ⟨ca, e⟩ := ca_ex ns as h2 (by simpa using hl)
    refine ⟨fun x => if x = n then a else ca x, ?_⟩
    rw [List.map_cons, if_pos rfl, ← e]
    congr 1
    refine List.map_congr_left fun x hx => ?_
    have hne : x ≠ n := fun z => h1 (by rw [← z]; exact hx)
    exact if_neg hne
theorem cx_no {P : Program} {w : World} {H : Hp} {s : Shared} {e : Value} {s' : Shared} (h : L2.CX P w [] H s (fun _ _ _ => False) e s') : False := by
  obtain ⟨_, _, _, _, _, _, _, _, _, _, _, _, z⟩ := h
  exact z
end L3

namespace L3
open PySem PySem.Spec PyProof.Rows L2
section
variable {c : Cn} {W : WX} {X : Cx} {ta tb te to ti : TE} {ma mb me mo mi : ME} {t : TA} {m : MA}
/-! ### partition, split -/
abbrev rPart : V → List V → Hp → VK → Prop := fun x xs H Q => ∃ a b, x = .str a ∧ xs = [.str b] ∧ (b.length == 0) = false ∧ a.length ≤ sizeLine ∧ ∀ p, H p = none → Q (.ref p) (upd H p (.tup [.str (Txt.partition a b).1, .str (Txt.partition a b).2.1, .str (Txt.partition a b).2.2]))
def gPart : MO := fun a b S => match a, b with
  | .str x, .str y => guardR ((y.length == 0) = false ∧ x.length ≤ sizeLine) (.ok (.fz (.tup [.str (Txt.partition x y).1, .str (Txt.partition x y).2.1, .str (Txt.partition x y).2.2])) S)
  | _, _ => .bad
theorem s_part : R2S c W (fun x y H Q => rPart x [y] H Q) gPart := fun nu F H O S σ ρ Q a b x y w ra rb h => by
  unfold gPart at h
  split at h
  · rename_i u v e1 e2
    obtain ⟨⟨g1, g2⟩, h⟩ := h.guard
    exact ⟨u, v, ra.str w e1, by rw [rb.str w e2], g1, g2, fun p hp => h.tup w hp ⟨_, _, rfl, rfl, _, _, rfl, rfl, _, _, rfl, rfl, rfl⟩⟩
  · exact h.elim
theorem sim_part (ha : SimE c W ta ma) (hb : SimE c W tb mb) : SimE c W (tM1 rPart ta tb) (eM1 gPart ma mb) := sim_m1 (g := gPart) (fun a b S h => by unfold gPart; split <;> first | exact (h _ rfl).elim | rfl) s_part ha hb
abbrev rSplit : V → List V → Hp → VK → Prop := fun x xs H Q => ∃ a b, x = .str a ∧ xs = [.str b] ∧ (b.length == 0) = false ∧ a.length + 2 ≤ sizeLine ∧ rNewStrs (Txt.split a b) H Q
def gSplit : MO := fun a b S => match a, b with
  | .str x, .str y => guardR ((y.length == 0) = false ∧ x.length + 2 ≤ sizeLine) (.ok (.own (.lst ((Txt.split x y).map D.str))) S)
  | _, _ => .bad
theorem s_split : R2S c W (fun x y H Q => rSplit x [y] H Q) gSplit := fun nu F H O S σ ρ Q a b x y w ra rb h => by
  unfold gSplit at h
  split at h
  · rename_i u v e1 e2
    obtain ⟨⟨g1, g2⟩, h⟩ := h.guard
    exact ⟨u, v, ra.str w e1, by rw [rb.str w e2], g1, g2, fun p hp => h.own w hp ⟨_, rfl, RepL.ofStrs _⟩⟩
  · exact h.elim
theorem sim_split (ha : SimE c W ta ma) (hb : SimE c W tb mb) : SimE c W (tM1 rSplit ta tb) (eM1 gSplit ma mb) := sim_m1 (g := gSplit) (fun a b S h => by unfold gSplit; split <;> first | exact (h _ rfl).elim | rfl) s_split ha hb
/-! ### sets of texts -/
def gSet0 : ML := fun ds S => match ds with | [] => .ok (.own (.set [])) S | _ => .bad
theorem s_set0 : RLS c W (rSet0K c.P c.w) gSet0 := fun nu F H O S σ ρ Q ds vs w r h => by
  unfold gSet0 at h
  split at h
  · refine ⟨r, fun p hp => h.own w hp ⟨?_, List.nodup_nil⟩⟩
    congr 1
    funext k
    cases k <;> rfl
  · exact h.elim
theorem setO_key {a : Addr} {o : HO} {ks : List Str} (h : SetO c a o ks) (x : Str) : ∃ S n, o = SetK c.P c.w a S n ∧ S (.inr x) = decide (x ∈ ks) := ⟨_, _, h.1, rfl⟩
theorem CRel.set {nu : List Addr} {F H : Hp} {O : Ow} {S : AS} {a : SV} {x : V} (w : Wd c nu F H O S) (h : CRel c nu F O a x) {ks : List Str} (e : a.d = .set ks) : ∃ p o, x = .ref p ∧ H p = some o ∧ SetO c p o ks := by
  cases a with
  | fz d => cases e; obtain ⟨p, o, h1, h2, h3⟩ := h; exact ⟨p, o, h1, w.sub _ _ h2, h3⟩
  | own d => cases e; obtain ⟨p, o, h1, q⟩ := h; obtain ⟨_, _, h2, r1⟩ := w.own p _ q; exact ⟨p, o, h1, h2, r1⟩
  | bor d => cases e; obtain ⟨p, o, h1, q⟩ := h; obtain ⟨_, _, h2, r1⟩ := w.own p _ q; exact ⟨p, o, h1, h2, r1⟩
def gInSet : MO := fun a b S => match a, b with | .str x, .set ks => .ok (.fz (.bl (decide (x ∈ ks)))) S | _, _ => .bad
def gNotInSet : MO := fun a b S => match a, b with | .str x, .set ks => .ok (.fz (.bl (!decide (x ∈ ks)))) S | _, _ => .bad
theorem s_inSet : R2S c W (rSInK c.P c.w false) gInSet := fun nu F H O S σ ρ Q a b x y w ra rb h => by
  unfold gInSet at h
  split at h
  · rename_i u ks e1 e2
    obtain ⟨p, o, rfl, hp, hs⟩ := rb.set w e2
    obtain ⟨S0, n, rfl, e3⟩ := setO_key hs u
    refine ⟨.inr u, p, S0, n, ra.str w e1, rfl, hp, ?_⟩
    rw [if_neg (by decide), e3]
    exact h.fz w rfl
  · exact h.elim
theorem s_notInSet : R2S c W (rSInK c.P c.w true) gNotInSet := fun nu F H O S σ ρ Q a b x y w ra rb h => by
  unfold gNotInSet at h
  split at h
  · rename_i u ks e1 e2
    obtain ⟨p, o, rfl, hp, hs⟩ := rb.set w e2
    obtain ⟨S0, n, rfl, e3⟩ := setO_key hs u
    refine ⟨.inr u, p, S0, n, ra.str w e1, rfl, hp, ?_⟩
    rw [if_pos rfl, e3]
    exact h.fz w rfl
  · exact h.elim
theorem setO_add {p : Addr} {ks : List Str} {x : Str} : SetO c p (SetK c.P c.w p (fun j => (match j with | .inl _ => false | .inr y => decide (y ∈ ks)) || decide (j = .inr x)) (if decide (x ∈ ks) = true then ks.length else ks.length + 1)) (if x ∈ ks then ks else ks ++ [x]) ↔ ks.Nodup := by
  have e : (fun j : Key => (match j with | .inl _ => false | .inr y => decide (y ∈ ks)) || decide (j = .inr x)) = (fun k => match k with | .inl _ => false | .inr y => decide (y ∈ (if x ∈ ks then ks else ks ++ [x]))) := by
    funext j
    cases j with
    | inl i => simp
    | inr y =>
      by_cases hx : x ∈ ks
      · by_cases hy : y = x
        · subst hy; simp [hx]
        · simp [hx, hy]
      · simp [hx]
  constructor
  · intro h
    have := h.2
    by_cases hx : x ∈ ks
    · rwa [if_pos hx] at this
    · rw [if_neg hx] at this; exact (List.nodup_append.mp this).1
  · intro hn
    refine ⟨?_, ?_⟩
    · rw [e]
      congr 1
      by_cases hx : x ∈ ks <;> simp [hx]
    · by_cases hx : x ∈ ks
      · rw [if_pos hx]; exact hn
      · rw [if_neg hx, List.nodup_append]
        exact ⟨hn, by simp, fun a ha b hb => by rw [List.mem_singleton.mp hb]; exact fun z => hx (z ▸ ha)⟩
/-- x.add(e), x one's own -/
def sAddV (i : Nat) (m : ME) : MS := fun ρ S => match ρ[i]? with
  | some (some (.own (.set _))) => (m ρ S).toS ρ fun a S1 => match a.d, ρ[i]? with
    | .str x, some (some (.own (.set ks))) => if ks.length + 1 < scanBound then .nx (ρ.set i (some (.own (.set (if x ∈ ks then ks else ks ++ [x]))))) S1 else .bad
    | _, _ => .bad
  | _ => .bad
theorem sim_addV {i : Nat} (h : SimE c W te me) : SimS c W (tDrop (tSAddK c.P c.w (tVar i) (tCons te tNil))) (sAddV i me) := fun nu F H O Oc S σ ρ Dn w s hp => by
  unfold sAddV at hp
  split at hp
  · rename_i ks0 e
    obtain ⟨p, o, q1, q2, q3⟩ := s.own i _ e
    obtain ⟨_, _, h1, hs⟩ := w.own p _ q2
    dsimp only at h1 hs
    refine ⟨.ref p, q1, ⟨p, _, _, rfl, by rw [h1, hs.1]⟩, h nu F H O Oc S σ ρ _ w s (PostS.bind s hp fun a S1 nu1 F1 H1 O1 x e1 w1 v1 h2 => ?_)⟩
    split at h2
    · rename_i u ks e3 e4
      rw [e] at e4
      cases e4
      split at h2
      · rename_i hl
        have hO := e1.O _ _ q2
        obtain ⟨_, _, h4, r4⟩ := w1.own p _ hO
        dsimp only at h4 r4
        have hs4 : SetO c p o ks0 := r4
        refine ⟨p, .inr u, _, _, rfl, by rw [v1.toC.str w1 e3]; rfl, by rw [h4, hs4.1], hl, ?_⟩
        have w3 := w1.setO (d' := .set (if u ∈ ks0 then ks0 else ks0 ++ [u])) hO (setO_add (c := c) (p := p) (ks := ks0) (x := u) |>.mpr hs4.2)
        have s2 := s.mono e1
        exact h2 nu1 F1 _ _ σ ⟨List.prefix_rfl, fun _ _ q => q, (s2.chOwn e q1 (d' := .set (if u ∈ ks0 then ks0 else ks0 ++ [u]))).oc⟩ w3 (s2.chOwn e q1)
      · exact h2.elim
    · exact h2.elim
  · exact hp.elim
/-! ### insert -/
abbrev rIns : V → List V → Hp → VK → Prop := fun x vs H Q => ∃ (l : Addr) (xs : List V) (i : Int) (y : V), x = .ref l ∧ vs = [.int i, y] ∧ H l = some (.lst xs) ∧ xs.length < sizeLine ∧ 0 ≤ i ∧ i < 2 ^ 63 ∧ Q .non (upd H l (.lst (xs.take i.toNat ++ [y] ++ xs.drop i.toNat)))
def sInsV (i : Nat) (mi m : ME) : MS := fun ρ S => match ρ[i]? with
  | some (some (.own (.lst ds))) => (mi ρ S).toS ρ fun k S0 => (m ρ S0).toS ρ fun a S1 => (zD a S1).toS ρ fun d S2 => match k.d with
    | .int j => if ds.length < sizeLine ∧ 0 ≤ j ∧ j < 2 ^ 63 then .nx (ρ.set i (some (.own (.lst (ds.take j.toNat ++ [d] ++ ds.drop j.toNat))))) S2 else .bad
    | _ => .bad
  | _ => .bad
theorem sim_insV {i : Nat} (hi : SimE c W ti mi) (h : SimE c W te me) : SimS c W (tDrop (tBM c.K "list" rIns (tVar i) (tCons ti (tCons te tNil)))) (sInsV i mi me) := fun nu F H O Oc S σ ρ Dn w s hp => by
  unfold sInsV at hp
  split at hp
  · rename_i ds e
    obtain ⟨p, o, q1, q2, q3⟩ := s.own i _ e
    obtain ⟨_, _, h1, vs, eo, r1⟩ := w.own p _ q2
    dsimp only at h1 eo
    subst eo
    refine ⟨.ref p, q1, .inl ⟨rfl, vs, .inl (.inl h1)⟩, hi nu F H O Oc S σ ρ _ w s (PostS.bind s hp fun k S0 nu0 F0 H0 O0 y e0 w0 v0 h0 => ?_)⟩
    have s0 := s.mono e0
    refine h nu0 F0 H0 O0 Oc S0 σ ρ _ w0 s0 (PostS.bind s0 h0 fun a S1 nu1 F1 H1 O1 x e1 w1 v1 h2 => ?_)
    obtain ⟨F2, O2, d, e2, w2, r2, _, h3⟩ := PostS.keep e1 s0 w1 v1 h2
    split at h3
    · rename_i j ek
      split at h3
      · rename_i hl
        have hO := (e0.trans e2).O _ _ q2
        obtain ⟨_, _, h4, us, eo, r4⟩ := w2.own p _ hO
        dsimp only at h4 eo
        cases eo
        have ln := r4.len
        have hy : y = .int j := by
          have := (v0.toC.mono e2).int w2 ek
          exact this
        refine ⟨p, vs, j, x, rfl, by rw [hy], h4, by rw [← ln]; exact hl.1, hl.2.1, hl.2.2, ?_⟩
        have w3 := w2.setO (d' := .lst (ds.take j.toNat ++ [d] ++ ds.drop j.toNat)) hO (o := .lst (vs.take j.toNat ++ [x] ++ vs.drop j.toNat)) ⟨_, rfl, ((r4.take _).append (RepL.one r2)).append (r4.drop _)⟩
        have s2 := (s.mono e0).mono e2
        exact h3 nu1 F2 _ _ σ ⟨List.prefix_rfl, fun _ _ q => q, (s2.chOwn e q1 (d' := .lst (ds.take j.toNat ++ [d] ++ ds.drop j.toNat))).oc⟩ w3 (s2.chOwn e q1)
      · exact h3.elim
    · exact h3.elim
  · exact hp.elim
/-! ### range down -/
def rngC (lo st : Int) (n : Nat) : List D := (List.range n).map fun k => .int (lo + (k : Nat) * st)
theorem itC {nu : List Addr} {F : Hp} {lo st : Int} {n : Nat} : ItR c nu F (Itc lo st n) (rngC lo st n) := fun nu' F' H' O' S' hn hF w => by
  refine ⟨fun i d e => ?_, by show n ≤ (rngC lo st n).length; simp [rngC]⟩
  unfold rngC at e
  rw [List.getElem?_map] at e
  cases e2 : (List.range n)[i]? with
  | none => rw [e2] at e; cases e
  | some k =>
    rw [e2] at e
    cases e
    obtain ⟨hi, hk⟩ := List.getElem?_eq_some_iff.mp e2
    rw [List.getElem_range] at hk
    subst hk
    refine ⟨by rw [List.length_range] at hi; exact hi, fun x H'' y => ?_⟩
    obtain ⟨rfl, rfl⟩ := y
    exact ⟨F', fun _ _ q => q, w, rfl⟩
/-- range(i, j, -1) -/
def iRd (m : MA) : MI := fun ρ S => (m ρ S).bind fun ds S1 => match ds with | [.int i, .int j, .int (-1)] => guardR (-(2 ^ 62) ≤ i ∧ i < 2 ^ 62 ∧ -(2 ^ 62) ≤ j ∧ j < 2 ^ 62) (.ok (rngC i (-1) (i - j).toNat) S1) | _ => .bad
theorem sim_iRd (h : SimA c W t m) : SimI c W (iRng3 t) (iRd m) := fun nu F H O Oc S σ ρ Q w s hp =>
  h nu F H O Oc S σ ρ _ w s (Post.bind iRelM hp fun ds S1 nu1 F1 H1 O1 vs e1 w1 v1 h1 => by
    split at h1
    · rename_i i j
      obtain ⟨⟨g1, g2, g3, g4⟩, h1⟩ := h1.guard
      obtain ⟨_, _, rfl, r1, _, _, rfl, r2, _, _, rfl, r3, r4⟩ := (show RepL c nu1 F1 _ _ from v1)
      rw [show _ = _ from r1, show _ = _ from r2, show _ = _ from r3, show _ = _ from r4]
      exact ⟨i, j, -1, _, rfl, RgC.neg g1 g2 g3 g4, h1 nu1 F1 H1 O1 _ (Ext.refl ..) w1 itC⟩
    · exact h1.elim)
end
end L3

namespace L3
open PySem PySem.Spec PyProof.Rows L2
section
variable {c : Cn} {W : WX}
/-! ### try .. except, all that is raised is caught -/
abbrev W0 : WX := fun _ _ _ _ => False
def sTry0 (cs : List Str) (mb ms : MS) : MS := fun ρ S => match mb ρ S with
  | .ex C _ _ ρ' S' => if C ∈ cs then ms ρ' S' else .bad
  | o => o
theorem sim_try0 {cs : List Str} {tb : WX → TS} {mb ms : MS} {cv : Value} {ts : Addr → Value → Option Addr → TS} (hb : ∀ W, SimS c W (tb W) mb) (hs : ∀ a cls d, SimS c W (ts a cls d) ms) (hc : ∀ C ∈ cs, PySem.W.exmOne c.K (.ref (c.ca C)) cv = some true) :
    SimS c W (fun D σ H => tb (wOnly c.K cv ts W0 D) D σ H) (sTry0 cs mb ms) := fun nu F H O Oc S σ ρ Dn w s hp => by
  refine hb _ nu F H O Oc S σ ρ Dn w s ?_
  unfold sTry0 at hp
  cases e : mb ρ S with
  | nx ρ' S' => rw [e] at hp; exact hp
  | rt a S' => rw [e] at hp; exact hp
  | bk ρ' S' => rw [e] at hp; exact hp
  | ct ρ' S' => rw [e] at hp; exact hp
  | bad => rw [e] at hp; exact hp
  | ex C fs vs ρ' S' =>
    rw [e] at hp
    dsimp only at hp
    split at hp
    · rename_i hC
      exact fun nu' F' H' O' σ' dx ws e1 w1 s1 _ _ _ => ⟨true, hc C hC, fun _ a _ => hs a _ _ nu' F' H' O' Oc S' σ' ρ' Dn w1 s1 (PostS.base e1 hp), fun z => nomatch z⟩
    · exact hp.elim
/-! ### .. except X as e: y = e.f -/
def tXv (a : Addr) (cls : Value) (d : Option Addr) (Cs : List Addr) (f : Str) (i : Nat) : TE := fun σ H Q => ∃ C ∈ Cs, tXf a cls d C f (tVar i) σ H Q
theorem pe_xv {X : Cx} {a : Addr} {oe : Obj} {cls : Value} {d : Option Addr} {pn : List (Addr × Obj)} {e : Expr} {f : Str} {i : Nat} {Cs : List Addr} (h : ∀ C ∈ Cs, PE (X.suite a ((a, oe) :: pn)) e (tXf a cls d C f (tVar i))) : PE (X.suite a ((a, oe) :: pn)) e (tXv a cls d Cs f i) :=
  ⟨fun pins s σ H Q I q => by obtain ⟨C, hC, q⟩ := q; exact (h C hC).run pins s σ H Q I q⟩
def sTryF (i j : Nat) (f : Str) (cs : List Str) (mb : MS) : MS := fun ρ S => match mb ρ S with
  | .ex C fs vs ρ' S' => if C ∈ cs ∧ i ≠ j ∧ i < ρ'.length then (match (fs.zip vs).lookup f with
    | some d => .nx (((ρ'.set i none).set j (some (.fz d))).set i none) S'
    | none => .bad) else .bad
  | o => o
theorem SlotR.setAny {nu : List Addr} {F : Hp} {O Oc : Ow} {σ : L2.St} {ρ : Rho} (s : SlotR c nu F O Oc σ ρ) (i : Nat) (v : Option V) : SlotR c nu F O Oc (σ.set i v) (ρ.set i none) := by
  refine ⟨by simp [s.len], fun j d' h => ?_, fun j d' h => ?_, fun j k d1 d2 p h1 h2 h3 h4 => ?_, s.oc⟩
  · rcases get_set h with ⟨e1, e2, hl⟩ | ⟨e1, e2⟩
    · cases e2
    · obtain ⟨v', q1, q2⟩ := s.fz j d' e2
      exact ⟨v', by rw [List.getElem?_set_ne (Ne.symm e1)]; exact q1, q2⟩
  · rcases get_set h with ⟨e1, e2, hl⟩ | ⟨e1, e2⟩
    · cases e2
    · obtain ⟨p, o, q1, q2⟩ := s.own j d' e2
      exact ⟨p, o, by rw [List.getElem?_set_ne (Ne.symm e1)]; exact q1, q2⟩
  · rcases get_set h1 with ⟨e1, e2, hl⟩ | ⟨e1, e2⟩
    · cases e2
    · rcases get_set h2 with ⟨e3, e4, hl⟩ | ⟨e3, e4⟩
      · cases e4
      · rw [List.getElem?_set_ne (Ne.symm e1)] at h3
        rw [List.getElem?_set_ne (Ne.symm e3)] at h4
        exact s.inj j k d1 d2 p e2 e4 h3 h4
theorem look_rep {nu : List Addr} {F : Hp} {f : Str} {d : D} : ∀ {fs : List Str} {vs : List D} {ws : List V}, RepL c nu F vs ws → (fs.zip vs).lookup f = some d → ∃ v, (fs.zip ws).lookup f = some v ∧ Rep c nu F d v
  | [], _, _, _, e => by simp at e
  | g :: fs, [], _, _, e => by simp at e
  | g :: fs, d0 :: vs, _, h, e => by
    obtain ⟨v, r, rfl, h1, h2⟩ := h
    rw [List.zip_cons_cons, List.lookup_cons] at e ⊢
    split at e
    · cases e
      exact ⟨v, rfl, h1⟩
    · exact look_rep h2 e
theorem sim_tryF {i j : Nat} {f : Str} {cs : List Str} {tb : WX → TS} {mb : MS} {cv : Value} (hb : ∀ W, SimS c W (tb W) mb) (hc : ∀ C ∈ cs, PySem.W.exmOne c.K (.ref (c.ca C)) cv = some true) :
    SimS c W (fun D σ H => tb (wAs c.K cv i (fun a cls d => tAsg (tXv a cls d (cs.map c.ca) f i) (gName j)) W0 D) D σ H) (sTryF i j f cs mb) := fun nu F H O Oc S σ ρ Dn w s hp => by
  refine hb _ nu F H O Oc S σ ρ Dn w s ?_
  unfold sTryF at hp
  cases e : mb ρ S with
  | nx ρ' S' => rw [e] at hp; exact hp
  | rt a S' => rw [e] at hp; exact hp
  | bk ρ' S' => rw [e] at hp; exact hp
  | ct ρ' S' => rw [e] at hp; exact hp
  | bad => rw [e] at hp; exact hp
  | ex C fs vs ρ' S' =>
    rw [e] at hp
    dsimp only at hp
    split at hp
    · rename_i hC
      obtain ⟨hC, hij, hil⟩ := hC
      split at hp
      · rename_i d ed
        intro nu' F' H' O' σ' dx ws e1 w1 s1 hx hl r
        obtain ⟨v, ev, rv⟩ := look_rep r ed
        refine ⟨true, hc C hC, fun _ a _ => ?_, fun z => nomatch z⟩
        have hi : (σ'.set i (some (V.ref a)))[i]? = some (some (.ref a)) := List.getElem?_set_self (by rw [s1.len]; exact hil)
        exact ⟨c.ca C, List.mem_map.mpr ⟨C, hC, rfl⟩, .ref a, hi, rfl, rfl, dx, _, v, rfl, w1.sub _ _ hx, ev, hp nu' F' H' O' _ e1 w1 (((s1.setAny i _).setFz rv).setNone i)⟩
      · exact hp.elim
    · exact hp.elim
/-- raise C(e), the word a field of the class's own -/
theorem sim_raise1 {C : Str} {f1 f2 x : Str} {t : TA} {m : MA} (h : SimA c W t m) :
    SimS c W (fun _ σ H => tMkO (c.ca C) (spI (c.ca C) 1 fun ws => [f1, f2].zip (ws ++ [.str x])) [] t σ H fun cls d H' => W cls d σ H') (sRaise C 1 [f1, f2] (fun ds => ds ++ [.str x]) m) :=
  sim_raise (n := 1) (fs := [f1, f2]) (g := fun ds => ds ++ [.str x]) (gV := fun ws => ws ++ [.str x]) (fun ds e => by rw [List.length_append, e]; rfl) (fun nu F ds vs r _ => r.append (RepL.one (show Rep c nu F (.str x) (.str x) from rfl))) (by decide) h
end
end L3
namespace L3
/-- «except C» names what is raised of E -/
theorem exm_mk {K : PySem.W.Frag} {E C : PySem.Addr} (h1 : PySem.W.subIn K (.ref C) (.type "BaseException") = some true) (h2 : PySem.W.isClsIn K C = true) (h3 : PySem.W.typeIn K (.ref C) = some (.type "type")) (h4 : PySem.W.subIn K (.ref E) (.ref C) = some true) :
    PySem.W.exmOne K (.ref E) (.ref C) = some true := by
  have e1 : (PySem.W.subIn K (.ref C) (.type "BaseException") == some true) = true := by rw [h1] <;> rfl
  have e2 : ((PySem.W.clsIn K C).isSome && PySem.W.typeIn K (.ref C) == some (.type "type")) = true := by
    have h2' : (PySem.W.clsIn K C).isSome = true := h2
    rw [h2', h3] <;> rfl
  show (if (PySem.W.subIn K (.ref C) (.type "BaseException") == some true) = true then (if ((PySem.W.clsIn K C).isSome && PySem.W.typeIn K (.ref C) == some (.type "type")) = true then PySem.W.subIn K (.ref E) (.ref C) else none) else none) = some true
  rw [if_pos e1, if_pos e2]
  exact h4
end L3

namespace L3
open PySem PySem.Spec PyProof.Rows L2 LamX
/-! ### a lambda handed to a def that calls it and catches what it raises -/
section
variable {X : Cx}
/-- the context of the def that got the lambda -/
abbrev gotCx (X : Cx) (Ng : List Str) (x : Str) (sg : Scope) (g : Addr) (cdg : Value) (s : Shared) (H : Hp) : Cx := cxOf C8.CX0 X.prog X.w X.K X.mg X.base Ng x sg g cdg X.A X.stack s H C8.E0
def tAct (q : Str) (f c' : Addr) (tl : XK → Hp → VK → Prop) (W : WX) : TE := fun σZ HZ Q => σZ[0]? = some (some (.ref f)) ∧ HZ c' = some (CodeO c' q) ∧ tl (WE W σZ) HZ Q
theorem pe_actS {Ng : List Str} {x q : Str} {sg : Scope} {g f c' : Addr} {cdg pm ctv : Value} {params : Arguments} {body : Expr} {scope : Scope} {k : Nat} {a : Str} {pn : List (Addr × Obj)} {xe : Value → Shared → Prop} {W : WX} {tb : XK → TE} {p1 p2 : Pos}
    {pins : List (Addr × Obj)} {σ : L2.St} {H : Hp} {s : Shared} (hq : q = X.env.qual ++ "<lambda>")
    (I : Inv X pins σ H s) (L : LamS X.env.scope scope)
    (hf : s.heap.get? f = some (PySem.W.kla_obj "<lambda>" q params body scope (cloFrom X.env.cells scope.names []) pm c' ctv)) (hfn : H f = none) (hfr : f ∉ frs X.stack)
    (hbind : bindArgs (PySem.W.kla_fn "<lambda>" q params body scope (cloFrom X.env.cells scope.names []) pm (.ref c') ctv) ⟨[], []⟩ = pure [])
    (tk : Takes ((gotCx X Ng x sg g cdg s H).tr pn xe) W) (hr : Room (k + 1) (X.A.deeper (envOfC x sg s.heap.objs.size g cdg)))
    (hbody : ∀ (A : Around) (outer : List Env) (s1 : Shared) (H1 : Hp) (E : XK), Room k (A.deeper (lamEnv X scope s1.heap.objs.size f c')) → PE (lamCx X A outer s1 H1 E scope f c') body (tb E))
    (hN : Ng[0]? = some a) (hv : Vis sg a) (hd : (a == ("__debug__" : Str)) = false) (hcd : (a == ("__classdict__" : Str)) = false) :
    PE ((gotCx X Ng x sg g cdg s H).tr pn xe) (.Call (.Name a p1) [] [] p2) (tAct q f c' (fun E => tb E σ) W) := by
  subst hq
  constructor
  rintro pz sz σz Hz Q Iz ⟨hs, hc, ht⟩
  have rd := (pe_var (pos := p1) (i := 0) hN hv hd hcd).run pz sz σz Hz (fun v H1 => v = .ref f ∧ H1 = Hz) Iz ⟨.ref f, hs, rfl, rfl⟩
  refine wpAny_Call_Name_kw (thn rd fun u s1 hu => ?_)
  obtain ⟨v, H1, I1, r1, ev, eH⟩ := hu
  subst ev
  rw [eH] at I1
  cases (show u = Value.ref f from r1)
  have at1 := I1.base.keep f _ hf hfn hfr fun z => nomatch (show f ∈ ([] : List Addr) from z)
  refine PySem.W.callWith_F0 ⟨_, _, _, _, at1⟩ ?_
  have un : Un (frs X.stack) [] H Hz s.heap s1.heap := I1.base
  obtain ⟨oc, vs, t, hoc, hdc, hvc⟩ := (I1.hok c' _ hc).1
  have run : codeAny (model X.prog X.w) (X.A.deeper (envOfC x sg s.heap.objs.size g cdg)) (.call (.ref f) ⟨[], []⟩)
      (CR (L2.CX X.prog X.w) (envOfC x sg s.heap.objs.size g cdg :: X.stack) X.prog X.w Hz s1 Q (WE W σz)) s1 := by
    refine PySem.W.kla_callFunE hr.depth at1 rfl L.co L.gen rfl ⟨c', oc, vs, t, rfl, hoc, hdc, hvc⟩ ?_
    rw [hbind]
    refine wpAny_pure (wpAny_newFunctionEnv (fun y hy => (L.own y hy).2) (fun y hy => absurd hy (by simp)) (fun h1 hns hsb => ⟨I1.nolimit.fresh _ hsb, ?_⟩) L.kind)
    show codeAny _ _ (.expr body (lamEnv X scope s1.heap.objs.size f c')) _ _
    have kp : ∀ b o, s1.heap.get? b = some o → h1.get? b = some o := fun b o e =>
      hsb.extBut b o (Nat.ne_of_lt (Heap.lt_size e)) (Heap.get?_push_of_some _ e)
    have J := lam_start2 (E := WE W σz) (A := X.A.deeper (envOfC x sg s.heap.objs.size g cdg)) (outer := envOfC x sg s.heap.objs.size g cdg :: X.stack) (c' := c') (f := f) (tk := s1.toks + ([] : List (Str × Value)).length) I L I1.env0 hr.hd un hns kp
    refine PySem.W.kla_codeExpr (wpAny_mono ((hbody _ _ s1 Hz (WE W σz) (hr.deeper _)).run [] _ _ Hz Q J ht) (fun v s' h' => ?_) fun e s' h' => h')
    obtain ⟨w', H', J', rv, q⟩ := h'
    exact ⟨w', H', J'.os, J'.bare, J'.base, J'.hok, rv, q⟩
  have hx : PassesAt (L2.CX X.prog X.w) ((gotCx X Ng x sg g cdg s H).tr pn xe) σz (WE W σz) := passAt tk σz
  refine wpAny_call (codeAny_mono run fun r s' h' => ?_)
  match r, h' with
  | .error e, h' => exact hx pz Hz s1 e s' I1 h'
  | .ok (.ret u), h' => exact I1.after h'
  | .ok .next, h' => exact False.elim h'
  | .ok .brk, h' => exact False.elim h'
  | .ok .cont, h' => exact False.elim h'
/-- what the def makes of what it got -/
def GivesS (X : Cx) (Ng : List Str) (x : Str) (sg : Scope) (g : Addr) (cdg : Value) (bg : List Stmt) (a q : Str) (TT : (XK → Hp → VK → Prop) → Hp → VK → Prop) : Prop :=
  ∀ (f c' : Addr) (s : Shared) (H : Hp) (Q : VK) (tl : XK → Hp → VK → Prop),
    (∀ (W : WX) (pn : List (Addr × Obj)) (xe : Value → Shared → Prop) (p1 p2 : Pos), Takes ((gotCx X Ng x sg g cdg s H).tr pn xe) W → PE ((gotCx X Ng x sg g cdg s H).tr pn xe) (.Call (.Name a p1) [] [] p2) (tAct q f c' tl W)) →
    H c' = some (CodeO c' q) → TT tl H Q →
    ∃ t, PSs (gotCx X Ng x sg g cdg s H).nox bg t ∧ t { nx := fun _ H' => Q .non H', rt := Q } (L2.start Ng [.ref f]) H
/-- x(lambda: body) -/
theorem pe_lamS {T : List (Addr × Str)} {TT : (XK → Hp → VK → Prop) → Hp → VK → Prop} {x a : Str} {g c P : Addr} {k : Nat} {pg : Arguments} {bg : List Stmt} {sg : Scope} {dV kV doc pm cdv ct oc : Value} {an od : Option Addr} {osl : Array (Option Value)} {Ng : List Str}
    {params : Arguments} {body : Expr} {scope : Scope} {t : XK → TE} {p lpos pos : Pos} (hg : Gl X x) (hm : X.mg x = some (.ref g)) (hk : PySem.W.keepIn X.K (.ref g) = true)
    (lk : X.K.lookup g = some ⟨oc, od, .func (PySem.W.fnOf x x pg bg sg dV kV doc pm an cdv ct), osl⟩) (hcg : PySem.W.codeIn X.K cdv x = true)
    (hb : L2.Binds X.K (PySem.W.fnOf x x pg bg sg dV kV doc pm an cdv ct) [a] []) (Sg : FnScope Ng [a] sg) (hNg : Ng[0]? = some a) (hva : Vis sg a)
    (hG : GivesS X Ng x sg g cdv bg a (X.env.qual ++ "<lambda>") TT)
    (TB : TabB X.base X.mg c P) (hcode : X.env.code = .ref c) (hmT : (P, X.env.qual ++ "<lambda>") ∈ T) (hu : ∀ p ∈ T, p.1 = P → p.2 = X.env.qual ++ "<lambda>")
    (hr : Room (k + 2) X.A) (L : LamS X.env.scope scope) (hdef : defaultsOf params X.env = ([], []))
    (hbind : ∀ (q : Str) (cl : List (Str × Addr)) (pm cv ctv : Value), bindArgs (PySem.W.kla_fn "<lambda>" q params body scope cl pm cv ctv) ⟨[], []⟩ = pure [])
    (hbody : ∀ (A : Around) (outer : List Env) (s : Shared) (H : Hp) (E : XK) (f c' : Addr), Room k (A.deeper (lamEnv X scope s.heap.objs.size f c')) → PE (lamCx X A outer s H E scope f c') body (t E))
    (hdb : (x == ("__debug__" : Str)) = false) (hd : (a == ("__debug__" : Str)) = false) (hcd : (a == ("__classdict__" : Str)) = false) :
    PE X (.Call (.Name x p) [.Lambda params body scope lpos] [] pos) (tLam T TT t) := by
  constructor
  rintro pins s σ H Q I ⟨hT, h⟩
  refine wpAny_Call_Name_kw (ld_glob I hg hm ?_ hdb)
  refine PySem.W.callWith_K (h₀ := X.base) I.ok.mod.kin hk ?_ (by rfl) (by rfl)
  show wpAny _ _ (spliced ((false, eval (.Lambda params body scope lpos) X.env) :: backTo pos (starEach [] X.env))) _ _ s
  refine Calls.spliced_cons (lam_make2 I TB hcode hmT hu hT hdef (L.has I.ok) fun f c' pm' ctv H1 s1 I1 eN T1 hf hfn hfr hco => ?_)
  refine Calls.spliced_nil ⟨I1.kIn, ?_⟩
  have run : codeAny (model X.prog X.w) X.A (.call (.ref g) ⟨[.ref f], []⟩) (CR C8.CX0 X.stack X.prog X.w H1 s1 Q C8.E0) s1 := by
    refine run_ofS (N := Ng) (ps := [a]) (us := [.ref f]) (vs := [.ref f]) lk hcg Sg hr I1.env0 (hb s1 [.ref f] I1.kIn rfl) (.cons rfl .nil) rfl fun hr2 => ?_
    have hact := fun (W : WX) (pn : List (Addr × Obj)) (xe : Value → Shared → Prop) (p1 p2 : Pos) (tk : Takes ((gotCx X Ng x sg g cdv s1 H1).tr pn xe) W) =>
      pe_actS (p1 := p1) (p2 := p2) (tb := t) rfl I1 L hf hfn hfr (hbind _ _ _ _ _) tk hr2 (fun A outer s H E hr3 => hbody A outer s H E f c' hr3) hNg hva hd hcd
    obtain ⟨t', ht', hq'⟩ := hG f c' s1 H1 Q (fun E H' Q' => t E σ H' Q') hact hco (h H1 eN T1)
    exact ⟨t', ht'.nox, hq'⟩
  refine wpAny_call (codeAny_mono run fun r s2 h' => ?_)
  match r, h' with
  | .error e, h' => exact (show False from h').elim
  | .ok (.ret u), h' => exact I1.after h'
  | .ok .next, h' => exact False.elim h'
  | .ok .brk, h' => exact False.elim h'
  | .ok .cont, h' => exact False.elim h'
end
end L3

namespace L3
open PySem PySem.Spec PyProof.Rows L2
/-! ### split and partition by the signs -/
theorem cut_inj {c : Nat} : ∀ {a b r s : List Nat}, c ∉ a → c ∉ b → a ++ c :: r = b ++ c :: s → a = b ∧ r = s
  | [], [], r, s, _, _, h => by simpa using h
  | [], y :: b, r, s, _, hb, h => by
    simp at h
    exact (hb (by rw [h.1]; exact List.mem_cons_self ..)).elim
  | x :: a, [], r, s, ha, _, h => by
    simp at h
    exact (ha (by rw [← h.1]; exact List.mem_cons_self ..)).elim
  | x :: a, y :: b, r, s, ha, hb, h => by
    simp at h
    obtain ⟨h1, h2⟩ := h
    obtain ⟨h3, h4⟩ := cut_inj (fun z => ha (List.mem_cons_of_mem _ z)) (fun z => hb (List.mem_cons_of_mem _ z)) h2
    exact ⟨by rw [h1, h3], h4⟩
theorem inter_two (s a b : List Nat) (r : List (List Nat)) : List.intercalate s (a :: b :: r) = a ++ (s ++ List.intercalate s (b :: r)) := by
  rw [inter_cons, inter_cons, List.map_cons, List.flatten_cons, List.append_assoc]
theorem inter_inj {c : Nat} : ∀ {A B : List (List Nat)}, A ≠ [] → B ≠ [] → (∀ a ∈ A, c ∉ a) → (∀ b ∈ B, c ∉ b) → List.intercalate [c] A = List.intercalate [c] B → A = B
  | [], _, h, _, _, _, _ => (h rfl).elim
  | _ :: _, [], _, h, _, _, _ => (h rfl).elim
  | [a], [b], _, _, _, _, h => by
    rw [inter_cons, inter_cons] at h
    simp at h
    rw [h]
  | [a], b :: b2 :: B, _, _, ha, _, h => by
    rw [inter_two, inter_cons] at h
    simp at h
    exact (ha a (List.mem_cons_self ..) (by rw [h]; simp)).elim
  | a :: a2 :: A, [b], _, _, _, hb, h => by
    rw [inter_two, inter_cons] at h
    simp at h
    exact (hb b (List.mem_cons_self ..) (by rw [← h]; simp)).elim
  | a :: a2 :: A, b :: b2 :: B, _, _, ha, hb, h => by
    rw [inter_two, inter_two] at h
    obtain ⟨h1, h2⟩ := cut_inj (ha a (List.mem_cons_self ..)) (hb b (List.mem_cons_self ..)) h
    rw [h1, inter_inj (A := a2 :: A) (B := b2 :: B) (by simp) (by simp) (fun x hx => ha x (List.mem_cons_of_mem _ hx)) (fun x hx => hb x (List.mem_cons_of_mem _ hx)) h2]
theorem sjoin_T (s : List Nat) : ∀ ls : List (List Nat), Str.join (T s) (ls.map T) = T (List.intercalate s ls)
  | [] => rfl
  | [a] => by simp [Str.join, List.intercalate]
  | a :: b :: r => by
    rw [inter_two]
    show T a ++ T s ++ Str.join (T s) ((b :: r).map T) = _
    rw [sjoin_T s (b :: r), T_app, T_app, List.append_assoc]
theorem map_T (xs : List Str) : (xs.map fun x => x.cps.toList).map T = xs := by
  rw [List.map_map]
  exact (List.map_congr_left fun x _ => (T_of x).symm).trans (List.map_id _)
theorem T_split {c : Nat} {ls : List (List Nat)} (h0 : ls ≠ []) (h : ∀ l ∈ ls, c ∉ l) : Txt.split (T (List.intercalate [c] ls)) (T [c]) = ls.map T := by
  have h1 := StrLaws.join_split (T (List.intercalate [c] ls)) (T [c])
  have h2 := StrLaws.split_free (T (List.intercalate [c] ls)) c
  rw [show (⟨#[c]⟩ : Str) = T [c] from rfl] at h2
  generalize hp : Txt.split (T (List.intercalate [c] ls)) (T [c]) = ps at h1 h2
  have h3 := map_T ps
  rw [← h3, sjoin_T, T_inj] at h1
  have hne : ps ≠ [] := by
    intro z
    rw [z] at hp
    unfold Txt.split at hp
    split at hp
    · cases hp
    · split at hp
      · cases hp
      · rw [StrLaws.partsBetween_eq] at hp
        obtain ⟨p, r, e⟩ := StrLaws.partsFrom_ne (T (List.intercalate [c] ls)) (T [c]).length 0 (Builtin.Str.occurrences (T (List.intercalate [c] ls)) (T [c]) 0 (T (List.intercalate [c] ls)).length ((T (List.intercalate [c] ls)).length + 1))
        rw [e] at hp
        cases hp
  have h4 := inter_inj (by simpa using hne) h0 (fun a ha => by
    obtain ⟨x, hx, rfl⟩ := List.mem_map.mp ha
    exact h2 x hx) h h1
  rw [← h3, h4]
theorem sub_T (l : List Nat) (i j : Nat) : Builtin.Str.strSub (T l) i j = T ((l.drop i).take (j - i)) := by
  unfold Builtin.Str.strSub T
  simp [List.drop_take, List.extract_eq_take_drop]
theorem at_T {l s : List Nat} {i : Nat} : StrLaws.At (T l) (T s) (T l).length i ↔ i + s.length ≤ l.length ∧ (l.drop i).take s.length = s := by
  unfold StrLaws.At Builtin.Str.subAt
  rw [T_len, T_len]
  have e : (T l).cps.extract i (i + s.length) = (T ((l.drop i).take s.length)).cps := by
    have := sub_T l i (i + s.length)
    rw [Nat.add_sub_cancel_left] at this
    exact congrArg Str.cps this
  rw [e]
  constructor
  · rintro ⟨h1, h2⟩
    refine ⟨h1, ?_⟩
    have := eq_of_beq h2
    simpa [T] using this
  · rintro ⟨h1, h2⟩
    refine ⟨h1, ?_⟩
    rw [h2]
    simp
/-- parted at the first place -/
theorem T_part {a s r : List Nat} (hs : s ≠ []) (h : ∀ i, i < a.length → ¬ ((a ++ s ++ r).drop i).take s.length = s) : Txt.partition (T (a ++ s ++ r)) (T s) = (T a, T s, T r) := by
  have hat : StrLaws.At (T (a ++ s ++ r)) (T s) (T (a ++ s ++ r)).length a.length := at_T.mpr ⟨by simp, by rw [List.append_assoc, List.drop_left, List.take_left]⟩
  unfold Txt.partition
  rcases StrLaws.occ_head (T (a ++ s ++ r)) (T s) 1 (Nat.le_refl _) with ⟨e, hn⟩ | ⟨i, q, e, hi, hk⟩
  · exact (hn _ hat).elim
  · have : i = a.length := by
      rcases Nat.lt_trichotomy i a.length with z | z | z
      · exact (h i z (at_T.mp hi).2).elim
      · exact z
      · exact (hk _ z hat).elim
    subst this
    rw [e]
    dsimp only
    rw [sub_T, sub_T, T_len, T_len]
    congr 1
    · simp
    · congr 1
      simp
      rw [List.take_of_length_le (by omega)]
theorem T_part_no {l s : List Nat} (h : ∀ i, i + s.length ≤ l.length → ¬ (l.drop i).take s.length = s) : Txt.partition (T l) (T s) = (T l, T [], T []) := by
  unfold Txt.partition
  rcases StrLaws.occ_head (T l) (T s) 1 (Nat.le_refl _) with ⟨e, hn⟩ | ⟨i, q, e, hi, hk⟩
  · rw [e]; rfl
  · obtain ⟨h1, h2⟩ := at_T.mp hi
    exact (h i h1 h2).elim
end L3

namespace L3
open PySem PySem.Spec PyProof.Rows L2 LamX
/-! ### a def that calls what it got and tells the refusal's word: what it does with the lambda's reading -/
/-- found = None; word = ''; try: found = ask() except C as e: word = e.f; return (found, word): the slots 1, 2, 3 -/
def tWhy (K : PySem.W.Frag) (cv : Value) (cs : List Addr) (fw : Str) (act : WX → TE) : TS :=
  tSeq (tAsg (tC .non) (gName 1)) (tSeq (tAsg (tC (.str (Str.ofString ""))) (gName 2))
    (tSeq (fun D σ H => tAsg (act (wAs K cv 3 (fun a cls d => tAsg (tXv a cls d cs fw 3) (gName 2)) W0 D)) (gName 1) D σ H)
      (tRet (tTup (tCons (tVar 1) (tCons (tVar 2) tNil))))))
def TTwhy (Ng : List Str) (K : PySem.W.Frag) (cv : Value) (cs : List Addr) (fw q : Str) : (XK → Hp → VK → Prop) → Hp → VK → Prop := fun tl H Q =>
  ∀ f c', H c' = some (CodeO c' q) → tWhy K cv cs fw (tAct q f c' tl) { nx := fun _ H' => Q .non H', rt := Q } (L2.start Ng [.ref f]) H
def eWhy (cs : List Str) (fw : Str) (m : ME) : ME := fun ρ S => match m ρ S with
  | .ok a S1 => (zD a S1).bind fun d S2 => .ok (.fz (.tup [d, .str (Str.ofString "")])) S2
  | .ex C fs vs S1 => if C ∈ cs then (match (fs.zip vs).lookup fw with
    | some d => .ok (.fz (.tup [.non, d])) S1
    | none => .bad) else .bad
  | .bad => .bad
theorem sim_why {c : Cn} {W : WX} {q fw a1 a2 a3 a4 : Str} {cs : List Str} {cv : Value} {tb : XK → TE} {m : ME} (hc : ∀ C ∈ cs, PySem.W.exmOne c.K (.ref (c.ca C)) cv = some true) (hb : ∀ E, SimE c (WE1 E) (tb E) m) :
    SimE c W (tLam c.T (TTwhy [a1, a2, a3, a4] c.K cv (cs.map c.ca) fw q) tb) (eWhy cs fw m) := fun nu F H O Oc S σ ρ Q w s hp => by
  refine ⟨w.tab.tabs, fun H1 eN T1 f c' hc' => ?_⟩
  have w1 : Wd c nu F H1 O S := w.code eN T1
  have l2 : 2 ≤ sizeLine := by decide
  refine ⟨rfl, hc', ?_⟩
  refine hb _ nu F H1 O Oc S σ ρ _ w1 s ?_
  unfold eWhy at hp
  cases em : m ρ S with
  | bad => rw [em] at hp; exact hp.elim
  | ok a S1 =>
    rw [em] at hp
    intro nu1 F1 H2 O1 b e1 w2 v
    obtain ⟨F2, O2, d, e3, w3, r, h1⟩ := zD_run vrelM e1 w2 v hp
    refine ⟨b, rfl, .str (Str.ofString ""), rfl, l2, fun p hpn => ?_⟩
    exact h1.tup w3 hpn ⟨b, _, rfl, r, _, _, rfl, rfl, rfl⟩
  | ex C fs vs S1 =>
    rw [em] at hp
    dsimp only at hp
    split at hp
    · rename_i hC
      split at hp
      · rename_i d ed
        intro nu1 F1 H2 O1 dx ws e1 w2 hx hl r
        obtain ⟨v, ev, rv⟩ := look_rep r ed
        refine ⟨true, hc C hC, fun _ a _ => ?_, fun z => nomatch z⟩
        refine ⟨c.ca C, List.mem_map.mpr ⟨C, hC, rfl⟩, .ref a, rfl, rfl, rfl, dx, _, v, rfl, w2.sub _ _ hx, ev, ?_⟩
        refine ⟨.non, rfl, v, rfl, l2, fun p hpn => ?_⟩
        exact (Post.base vrelM e1 hp).tup w2 hpn ⟨_, _, rfl, rfl, v, _, rfl, rv, rfl⟩
      · exact hp.elim
    · exact hp.elim
end L3
namespace L3
open PySem PySem.Spec PyProof.Rows L2 LamX
/-! ### defs that make lambdas -/
def qualL (qual : Str) (st : Stmt) : Str := (envOfC qual (defScope st) 0 0 .none).qual ++ "<lambda>"
structure Mk (c : Cn) (mg : Str → Option Value) (base : Heap) (x qual : Str) (st : Stmt) (fd : FuncData) (cc P : Addr) : Prop where
  ex : ∃ (oc : Value) (od : Option Addr) (kV doc pm : Value) (an : Option Addr) (ct : Value) (osl : Array (Option Value)), fd = PySem.W.fnOf x qual (defArgs st) (defBody st) (defScope st) .none kV doc pm an (.ref cc) ct ∧ c.K.lookup (c.ca x) = some ⟨oc, od, .func fd, osl⟩ ∧ PySem.W.codeIn c.K (.ref cc) qual = true
  tb : TabB base mg cc P
  mem : (P, qualL qual st) ∈ c.T
  uq : ∀ p ∈ c.T, p.1 = P → p.2 = qualL qual st
section
variable {c : Cn} {mg : Str → Option Value} {base : Heap} {k : Nat} {x qual : Str} {st : Stmt} {ps N : List Str} {fd : FuncData} {ms : MS} {cc P : Addr}
theorem ok0c (D : Df c mg x qual st ps fd) (M : Mk c mg base x qual st fd cc P) (S : FnScope N ps (defScope st))
    (hb : ∀ (A : Around) (outer : List Env) (s : Shared) (H : Hp) (E : XK), Room k (A.deeper (envOfC qual (defScope st) s.heap.objs.size (c.ca x) (.ref cc))) →
      ∃ t, PSs (cxOf CX0 c.P c.w c.K mg base N qual (defScope st) (c.ca x) (.ref cc) A outer s H E).nox (defBody st) t ∧ SimS c WT t ms) : Ok c mg base CX0 (k + 1) x ps (runF N.length ms) fd := by
  refine .of D ?_
  obtain ⟨oc, od, kV, doc, pm, an, ct, osl, rfl, lk, hcd⟩ := M.ex
  refine fn_of lk hcd S (fun vs H Q E h => h.1) fun A outer s H vs Q E hr hsp => ?_
  obtain ⟨t, h1, h2⟩ := hb A outer s H E hr
  obtain ⟨_, nu, F, O, S, ds, w, r, hp⟩ := hsp
  exact ⟨t, h1.nox, post_run w r h2 (fun _ _ _ _ _ => trivial) hp⟩
theorem okXc (D : Df c mg x qual st ps fd) (M : Mk c mg base x qual st fd cc P) (S : FnScope N ps (defScope st))
    (hb : ∀ (A : Around) (outer : List Env) (s : Shared) (H : Hp) (E : XK), Room k (A.deeper (envOfC qual (defScope st) s.heap.objs.size (c.ca x) (.ref cc))) →
      ∃ t, PSs (cxOf (L2.CX c.P c.w) c.P c.w c.K mg base N qual (defScope st) (c.ca x) (.ref cc) A outer s H E) (defBody st) t ∧ SimS c (WE1 E) t ms) : Ok c mg base (L2.CX c.P c.w) (k + 1) x ps (runF N.length ms) fd := by
  refine .of D ?_
  obtain ⟨oc, od, kV, doc, pm, an, ct, osl, rfl, lk, hcd⟩ := M.ex
  refine fn_of lk hcd S (fun vs H Q E h => h.1) fun A outer s H vs Q E hr hsp => ?_
  obtain ⟨t, h1, h2⟩ := hb A outer s H E hr
  obtain ⟨_, nu, F, O, S, ds, w, r, hp⟩ := hsp
  exact ⟨t, h1, post_run w r h2 (fun _ _ _ _ z => z) hp⟩
/-- x(lambda: body), x a def of the text with one parameter -/
theorem pe_why {X : Cx} {T : List (Addr × Str)} {TT : (XK → Hp → VK → Prop) → Hp → VK → Prop} {a : Str} {g : Addr} {Ng : List Str} {params : Arguments} {body : Expr} {scope : Scope} {t : XK → TE} {p lpos pos : Pos} (hg : Gl X x) (F : Fun X.K x x st g fd) (hm : X.mg x = some (.ref g)) (hb : Binds X.K fd [a] [])
    (Sg : FnScope Ng [a] (defScope st)) (hNg : Ng[0]? = some a) (hva : Vis (defScope st) a) (hG : ∀ cdv, GivesS X Ng x (defScope st) g cdv (defBody st) a (X.env.qual ++ "<lambda>") TT)
    (TB : TabB X.base X.mg cc P) (hcode : X.env.code = .ref cc) (hmT : (P, X.env.qual ++ "<lambda>") ∈ T) (hu : ∀ p ∈ T, p.1 = P → p.2 = X.env.qual ++ "<lambda>")
    (hr : Room (k + 2) X.A) (L : LamS X.env.scope scope) (hdef : defaultsOf params X.env = ([], []))
    (hbind : ∀ (q : Str) (cl : List (Str × Addr)) (pm cv ctv : Value), bindArgs (PySem.W.kla_fn "<lambda>" q params body scope cl pm cv ctv) ⟨[], []⟩ = pure [])
    (hbody : ∀ (A : Around) (outer : List Env) (s : Shared) (H : Hp) (E : XK) (f c' : Addr), Room k (A.deeper (lamEnv X scope s.heap.objs.size f c')) → PE (lamCx X A outer s H E scope f c') body (t E))
    (hdb : (x == ("__debug__" : Str)) = false) (hd : (a == ("__debug__" : Str)) = false) (hcd : (a == ("__classdict__" : Str)) = false) :
    PE X (.Call (.Name x p) [.Lambda params body scope lpos] [] pos) (tLam T TT t) := by
  obtain ⟨oc, od, kV, doc, pm, an, cdv, ct, osl, rfl, lk, hcg⟩ := F.ex
  exact pe_lamS hg hm F.kp lk hcg hb Sg hNg hva (hG cdv) TB hcode hmT hu hr L hdef hbind hbody hdb hd hcd
end
end L3

namespace L3
open PySem PySem.Spec PyProof.Rows L2
section
variable {c : Cn} {W : WX} {X : Cx}
/-! ### a text so many times -/
def rMulS : R2 := fun x y H Q => ∃ (a : Str) (n : Int), x = .str a ∧ y = .int n ∧ a.length ≤ 1000 ∧ 0 ≤ n ∧ n ≤ 10000 ∧ Q (.str (Txt.mul a n)) H
theorem op_mulS : OpR X (binaryOp .Mult) rMulS := by
  intro pins s σ H x y v u Q I rx ry h
  obtain ⟨a, n, rfl, rfl, ha, h0, h1, q⟩ := h
  obtain ⟨t, rfl⟩ := rx
  obtain ⟨t2, rfl⟩ := ry
  refine SB.mul (mulOk_of 1000 10000 ha (by omega) (by omega) (by decide) (by decide)) fun t' k => ?_
  exact ⟨.str (Txt.mul a n), H, I.tok _, ⟨t', rfl⟩, q⟩
def gMulS : MO := fun a b S => match a, b with
  | .str x, .int n => guardR (x.length ≤ 1000 ∧ 0 ≤ n ∧ n ≤ 10000) (.ok (.fz (.str (Txt.mul x n))) S)
  | _, _ => .bad
theorem s_mulS : R2S c W rMulS gMulS := fun nu F H O S σ ρ Q a b x y w ra rb h => by
  unfold gMulS at h
  split at h
  · rename_i z n e1 e2
    obtain ⟨g, h⟩ := h.guard
    exact ⟨z, n, ra.str w e1, rb.int w e2, g.1, g.2.1, g.2.2, h.fz w rfl⟩
  · exact h.elim
/-! ### a list to several names -/
def gL (n : Nat) (mg : List D → Rho → Option Rho) : MG := fun d ρ => match d with | .lst ds => if ds.length = n then mg ds ρ else none | _ => none
theorem sim_gL {ps : List Nat} {n : Nat} {g : TGs} {mg : List D → Rho → Option Rho} (h : SimGs c ps g mg) : SimG c ps (gLst c.K n g) (gL n mg) := fun nu F H O Oc S σ ρ d v ρ' Q w s r e k => by
  unfold gL at e
  split at e
  · rename_i ds
    split at e
    · rename_i hl
      obtain ⟨a, vs, rfl, h1, r1⟩ := (show ∃ a vs, v = V.ref a ∧ F a = some (.lst vs) ∧ RepL c nu F ds vs from r)
      exact ⟨a, vs, rfl, .inl (.inl (w.sub _ _ h1)), by rw [← r1.len]; exact hl, h nu F H O Oc S σ ρ ds vs ρ' Q w s r1 e k⟩
    · cases e
  · cases e
end
theorem reps_fold (l : List Nat) : ∀ (k : Nat) (a : Array Nat), ((List.replicate k (T l).cps).foldl (· ++ ·) a).toList = a.toList ++ (List.replicate k l).flatten
  | 0, a => by simp
  | k + 1, a => by
    rw [List.replicate_succ, List.foldl_cons, reps_fold l k, List.replicate_succ, List.flatten_cons, Array.toList_append, List.append_assoc, T_cps]
theorem T_mul (l : List Nat) (n : Nat) : Txt.mul (T l) (n : Int) = T (List.replicate n l).flatten := by
  unfold Txt.mul
  by_cases h1 : (n : Int) < 1
  · rw [if_pos h1]
    have : n = 0 := by omega
    subst this
    rfl
  · rw [if_neg h1]
    split
    · rename_i h2
      simp at h2
      rcases h2 with h2 | h2
      · have : n = 1 := by omega
        subst this
        simp
      · rw [T_len] at h2
        have : l = [] := List.length_eq_zero_iff.mp h2
        subst this
        simp
    · rw [Int.toNat_natCast]
      have := reps_fold l n #[]
      rw [T_of (Str.mk _)]
      exact congrArg T (by simpa using this)
end L3

namespace PX
open PySem PySem.Spec PyProof.Rows L2 L3
def topS (i : Nat) : Stmt := PySem.Challenge.pw_everbough_k03_terms_at_their_bounds.main.body.getD i (.Pass ⟨0, 0, 0, 0⟩)
abbrev s_BadTerm : Stmt := inClass (topS 2) 0
abbrev s_BadRows : Stmt := inClass (topS 3) 0
abbrev s_is_word : Stmt := topS 11
theorem sc_is_word : FnScope [(Str.ofString "text"), (Str.ofString "letter")] [(Str.ofString "text")] (defScope s_is_word) := ⟨rfl, rfl, rfl, by decide +kernel, rfl, by decide +kernel, by decide +kernel⟩
abbrev s_deep_of : Stmt := topS 12
theorem sc_deep_of : FnScope [(Str.ofString "term"), (Str.ofString "one")] [(Str.ofString "term")] (defScope s_deep_of) := ⟨rfl, rfl, rfl, by decide +kernel, rfl, by decide +kernel, by decide +kernel⟩
abbrev s_word_end : Stmt := topS 13
theorem sc_word_end : FnScope [(Str.ofString "text"), (Str.ofString "at")] [(Str.ofString "text"), (Str.ofString "at")] (defScope s_word_end) := ⟨rfl, rfl, rfl, by decide +kernel, rfl, by decide +kernel, by decide +kernel⟩
abbrev s_parsed : Stmt := topS 14
theorem sc_parsed : FnScope [(Str.ofString "text"), (Str.ofString "at"), (Str.ofString "deep"), (Str.ofString "free"), (Str.ofString "begin"), (Str.ofString "end"), (Str.ofString "word")] [(Str.ofString "text"), (Str.ofString "at"), (Str.ofString "deep")] (defScope s_parsed) := ⟨rfl, rfl, rfl, by decide +kernel, rfl, by decide +kernel, by decide +kernel⟩
abbrev s_branches_of : Stmt := topS 15
theorem sc_branches_of : FnScope [(Str.ofString "word"), (Str.ofString "text"), (Str.ofString "at"), (Str.ofString "deep"), (Str.ofString "found"), (Str.ofString "term")] [(Str.ofString "word"), (Str.ofString "text"), (Str.ofString "at"), (Str.ofString "deep")] (defScope s_branches_of) := ⟨rfl, rfl, rfl, by decide +kernel, rfl, by decide +kernel, by decide +kernel⟩
abbrev s_read_term : Stmt := topS 16
theorem sc_read_term : FnScope [(Str.ofString "text"), (Str.ofString "term"), (Str.ofString "end")] [(Str.ofString "text")] (defScope s_read_term) := ⟨rfl, rfl, rfl, by decide +kernel, rfl, by decide +kernel, by decide +kernel⟩
abbrev s_read_row : Stmt := topS 18
theorem sc_read_row : FnScope [(Str.ofString "row"), (Str.ofString "name"), (Str.ofString "between"), (Str.ofString "rest")] [(Str.ofString "row")] (defScope s_read_row) := ⟨rfl, rfl, rfl, by decide +kernel, rfl, by decide +kernel, by decide +kernel⟩
abbrev s_read_rows : Stmt := topS 19
theorem sc_read_rows : FnScope [(Str.ofString "text"), (Str.ofString "found"), (Str.ofString "names"), (Str.ofString "at"), (Str.ofString "row"), (Str.ofString "pair")] [(Str.ofString "text")] (defScope s_read_rows) := ⟨rfl, rfl, rfl, by decide +kernel, rfl, by decide +kernel, by decide +kernel⟩
abbrev s_law_bag : Stmt := topS 21
theorem sc_law_bag : FnScope [(Str.ofString "_law_script"), (Str.ofString "_law_cell")] [(Str.ofString "_law_script")] (defScope s_law_bag) := ⟨rfl, rfl, rfl, by decide +kernel, rfl, by decide +kernel, by decide +kernel⟩
abbrev s_law_pull : Stmt := topS 22
theorem sc_law_pull : FnScope [(Str.ofString "_law_bag_here"), (Str.ofString "_law_lot"), (Str.ofString "_law_cells"), (Str.ofString "_law_spot"), (Str.ofString "_law_cell")] [(Str.ofString "_law_bag_here"), (Str.ofString "_law_lot")] (defScope s_law_pull) := ⟨rfl, rfl, rfl, by decide +kernel, rfl, by decide +kernel, by decide +kernel⟩
abbrev s_law_same : Stmt := topS 23
theorem sc_law_same : FnScope [(Str.ofString "_law_found"), (Str.ofString "_law_due"), (Str.ofString "_law_a"), (Str.ofString "_law_b")] [(Str.ofString "_law_found"), (Str.ofString "_law_due")] (defScope s_law_same) := ⟨rfl, rfl, rfl, by decide +kernel, rfl, by decide +kernel, by decide +kernel⟩
abbrev s_law_of : Stmt := topS 25
theorem sc_law_of : FnScope [(Str.ofString "_law_bag_here"), (Str.ofString "_law_some")] [(Str.ofString "_law_bag_here"), (Str.ofString "_law_some")] (defScope s_law_of) := ⟨rfl, rfl, rfl, by decide +kernel, rfl, by decide +kernel, by decide +kernel⟩
abbrev s_law_words : Stmt := topS 26
theorem sc_law_words : FnScope [(Str.ofString "_law_bag_here"), (Str.ofString "_law_few"), (Str.ofString "_law_letters"), (Str.ofString "_law_size"), (Str.ofString "_law_base"), (Str.ofString "_law_spot"), (Str.ofString "_law_first"), (Str.ofString "_law_step"), (Str.ofString "_law_found"), (Str.ofString "_law_k")] [(Str.ofString "_law_bag_here"), (Str.ofString "_law_few")] (defScope s_law_words) := ⟨rfl, rfl, rfl, by decide +kernel, rfl, by decide +kernel, by decide +kernel⟩
abbrev s_law_is_word : Stmt := topS 27
theorem sc_law_is_word : FnScope [(Str.ofString "_law_text"), (Str.ofString "_law_sign")] [(Str.ofString "_law_text")] (defScope s_law_is_word) := ⟨rfl, rfl, rfl, by decide +kernel, rfl, by decide +kernel, by decide +kernel⟩
abbrev s_law_read : Stmt := topS 28
theorem sc_law_read : FnScope [(Str.ofString "_law_text"), (Str.ofString "_law_at"), (Str.ofString "_law_deep"), (Str.ofString "_law_begin"), (Str.ofString "_law_end"), (Str.ofString "_law_word"), (Str.ofString "_law_inner"), (Str.ofString "_law_one")] [(Str.ofString "_law_text"), (Str.ofString "_law_at"), (Str.ofString "_law_deep")] (defScope s_law_read) := ⟨rfl, rfl, rfl, by decide +kernel, rfl, by decide +kernel, by decide +kernel⟩
abbrev s_law_read_due : Stmt := topS 29
theorem sc_law_read_due : FnScope [(Str.ofString "_law_text"), (Str.ofString "_law_term"), (Str.ofString "_law_end")] [(Str.ofString "_law_text")] (defScope s_law_read_due) := ⟨rfl, rfl, rfl, by decide +kernel, rfl, by decide +kernel, by decide +kernel⟩
abbrev s_law : Stmt := topS 30
theorem sc_law : FnScope [(Str.ofString "_law_script"), (Str.ofString "_law_bag_here"), (Str.ofString "_law_words_here"), (Str.ofString "_law_turn"), (Str.ofString "_law_deep"), (Str.ofString "_law_end"), (Str.ofString "_law_text"), (Str.ofString "_law_k"), (Str.ofString "_law_found"), (Str.ofString "_law_word"), (Str.ofString "_law_inner"), (Str.ofString "_law_x"), (Str.ofString "_law_y"), (Str.ofString "_law_z"), (Str.ofString "_law_pair"), (Str.ofString "_law_pad"), (Str.ofString "_law_tail"), (Str.ofString "_law_row")] [(Str.ofString "_law_script")] (defScope s_law) := ⟨rfl, rfl, rfl, by decide +kernel, rfl, by decide +kernel, by decide +kernel⟩
abbrev s_law_why : Stmt := topS 24
theorem sc_law_why : FnScope [(Str.ofString "_law_ask"), (Str.ofString "_law_found"), (Str.ofString "_law_word"), (Str.ofString "e")] [(Str.ofString "_law_ask")] (defScope s_law_why) := ⟨rfl, rfl, rfl, by decide +kernel, rfl, by decide +kernel, by decide +kernel⟩
/-! mirrors -/
noncomputable section
def ms_is_word : MS := (sRet (eAndV (eChain gLe gLe (eC (.int 1)) (eUn gLen (eVar 0)) (eC (.int 6))) (eUn gAll (eLc (iS (eVar 0)) (gN 1) mYes (eOp gInSg (eVar 1) (eC (.str (Str.ofString "abcdefghijklmnopqrstuvwxyz")))) [1]))))
def m_is_word : MF := runF 2 ms_is_word
def ms_deep_of (f_deep_of : MF) : MS := (sSeq (sIf (mTest (eOp gNe (eOp gIx (eVar 0) (eC (.int 0))) (eC (.str (Str.ofString "sign"))))) (sRet (eC (.int 1))) sNext) (sRet (eOp gAdd (eC (.int 1)) (eMaxDf (eLc (iT (eOp gIx (eVar 0) (eC (.int 2)))) (gN 1) mYes (eCall 1 f_deep_of (aCons (eVar 1) aNil)) [1]) (aCons (eC (.int 0)) aNil)))))
def m_deep_of : Nat → MF
  | 0 => fun _ _ => .bad
  | n + 1 => runF 2 (ms_deep_of (m_deep_of n))
def ms_word_end : MS := (sSeq (sWhile (mAnd (mTest (eOp gLt (eVar 1) (eUn gLen (eVar 0)))) (mTest (eOp gInSg (eOp gIx (eVar 0) (eVar 1)) (eC (.str (Str.ofString "abcdefghijklmnopqrstuvwxyz")))))) (sAug (gI fun i j => .int (i + j)) 1 (eC (.int 1)))) (sRet (eVar 1)))
def m_word_end : MF := runF 2 ms_word_end
def ms_parsed (f_branches_of : MF) : MS := (sSeq (sAsg (gN 3) (eOp gEq (eSl (eVar 0) (oSm (eVar 1)) (oSm (eOp gAdd (eVar 1) (eC (.int 1))))) (eC (.str (Str.ofString "?"))))) (sSeq (sAsg (gN 4) (eOp gAdd (eVar 1) (eUn gInt1 (eVar 3)))) (sSeq (sAsg (gN 5) (eCall 2 m_word_end (aCons (eVar 0) (aCons (eVar 4) aNil)))) (sSeq (sAsg (gN 6) (eSl (eVar 0) (oSm (eVar 4)) (oSm (eVar 5)))) (sSeq (sIf (mOr (mTest (eOp gGt (eVar 2) (eC (.int 8)))) (mNot (mTest (eCall 1 m_is_word (aCons (eVar 6) aNil))))) (sRaise (Str.ofString "BadTerm") 0 [(Str.ofString "word")] (fun _ => [.str (Str.ofString "term")]) aNil) sNext) (sSeq (sIf (mTest (eVar 3)) (sRet (eTup (aCons (eTup (aCons (eC (.str (Str.ofString "free"))) (aCons (eVar 6) aNil))) (aCons (eVar 5) aNil)))) sNext) (sSeq (sIf (mTest (eOp gNe (eSl (eVar 0) (oSm (eVar 5)) (oSm (eOp gAdd (eVar 5) (eC (.int 1))))) (eC (.str (Str.ofString "("))))) (sRet (eTup (aCons (eTup (aCons (eC (.str (Str.ofString "name"))) (aCons (eVar 6) aNil))) (aCons (eVar 5) aNil)))) sNext) (sSeq (sIf (mTest (eOp gEq (eSl (eVar 0) (oSm (eVar 5)) (oSm (eOp gAdd (eVar 5) (eC (.int 2))))) (eC (.str (Str.ofString "()"))))) (sRet (eTup (aCons (eTup (aCons (eC (.str (Str.ofString "sign"))) (aCons (eVar 6) (aCons (eTup aNil) aNil)))) (aCons (eOp gAdd (eVar 5) (eC (.int 2))) aNil)))) sNext) (sRet (eCall 4 f_branches_of (aCons (eVar 6) (aCons (eVar 0) (aCons (eOp gAdd (eVar 5) (eC (.int 1))) (aCons (eVar 2) aNil))))))))))))))
def ms_branches_of (f_parsed : MF) : MS := (sSeq (sSet 4 (eLst aNil)) (sWhile (mTest (eC (.bl true))) (sSeq (sAsg (gT 2 (gsCons (gN 5) (gsCons (gN 2) gsNil))) (eCall 3 f_parsed (aCons (eVar 1) (aCons (eVar 2) (aCons (eOp gAdd (eVar 3) (eC (.int 1))) aNil))))) (sSeq (sAppV 4 (eVar 5)) (sSeq (sIf (mAnd (mTest (eOp gEq (eSl (eVar 1) (oSm (eVar 2)) (oSm (eOp gAdd (eVar 2) (eC (.int 1))))) (eC (.str (Str.ofString ")"))))) (mTest (eOp gLe (eUn gLen (eVar 4)) (eC (.int 3))))) (sRet (eTup (aCons (eTup (aCons (eC (.str (Str.ofString "sign"))) (aCons (eVar 0) (aCons (eUn gTupOf (eVar 4)) aNil)))) (aCons (eOp gAdd (eVar 2) (eC (.int 1))) aNil)))) sNext) (sSeq (sIf (mOr (mTest (eOp gNe (eSl (eVar 1) (oSm (eVar 2)) (oSm (eOp gAdd (eVar 2) (eC (.int 2))))) (eC (.str (Str.ofString ", "))))) (mTest (eOp gGe (eUn gLen (eVar 4)) (eC (.int 3))))) (sRaise (Str.ofString "BadTerm") 0 [(Str.ofString "word")] (fun _ => [.str (Str.ofString "term")]) aNil) sNext) (sAug (gI fun i j => .int (i + j)) 2 (eC (.int 2)))))))))
mutual
def m_parsed : Nat → MF
  | 0 => fun _ _ => .bad
  | n + 1 => runF 7 (ms_parsed (m_branches_of n))
def m_branches_of : Nat → MF
  | 0 => fun _ _ => .bad
  | n + 1 => runF 6 (ms_branches_of (m_parsed n))
end
def ms_read_term : MS := (sSeq (sIf (mTest (eOp gGt (eUn gLen (eVar 0)) (eC (.int 200)))) (sRaise (Str.ofString "BadTerm") 0 [(Str.ofString "word")] (fun _ => [.str (Str.ofString "term")]) aNil) sNext) (sSeq (sAsg (gT 2 (gsCons (gN 1) (gsCons (gN 2) gsNil))) (eCall 3 (m_parsed 40) (aCons (eVar 0) (aCons (eC (.int 0)) (aCons (eC (.int 1)) aNil))))) (sSeq (sIf (mTest (eOp gNe (eVar 2) (eUn gLen (eVar 0)))) (sRaise (Str.ofString "BadTerm") 0 [(Str.ofString "word")] (fun _ => [.str (Str.ofString "term")]) aNil) sNext) (sRet (eVar 1)))))
def m_read_term : MF := runF 3 ms_read_term
def ms_read_row : MS := (sSeq (sAsg (gT 3 (gsCons (gN 1) (gsCons (gN 2) (gsCons (gN 3) gsNil)))) (eM1 gPart (eVar 0) (eC (.str (Str.ofString " = "))))) (sSeq (sIf (mOr (mTest (eOp gGt (eUn gLen (eVar 0)) (eC (.int 200)))) (mOr (mTest (eOp gEq (eVar 2) (eC (.str (Str.ofString ""))))) (mNot (mTest (eCall 1 m_is_word (aCons (eVar 1) aNil)))))) (sRet (eC .non)) sNext) (sTry0 [(Str.ofString "BadTerm")] (sRet (eTup (aCons (eVar 1) (aCons (eCall 1 m_read_term (aCons (eVar 3) aNil)) aNil)))) (sRet (eC .non)))))
def m_read_row : MF := runF 4 ms_read_row
def ms_read_rows : MS := (sSeq (sSet 1 (eLst aNil)) (sSeq (sSet 2 (eCB gSet0 aNil)) (sSeq (sFor (iE (aCons (eM1 gSplit (eVar 0) (eC (.str (Str.ofString "\n")))) aNil)) (gT 2 (gsCons (gN 3) (gsCons (gN 4) gsNil))) (sSeq (sAsg (gN 5) (eCall 1 m_read_row (aCons (eVar 4) aNil))) (sSeq (sIf (mOr (mTest (eOp gIsN (eVar 5) (eC .non))) (mOr (mTest (eOp gInSet (eOp gIx (eVar 5) (eC (.int 0))) (eVar 2))) (mTest (eOp gGe (eVar 3) (eC (.int 60)))))) (sRaise (Str.ofString "BadRows") 1 [(Str.ofString "row"), (Str.ofString "word")] (fun ds => ds ++ [.str (Str.ofString "rows")]) (aCons (eVar 3) aNil)) sNext) (sSeq (sAddV 2 (eOp gIx (eVar 5) (eC (.int 0)))) (sAppV 1 (eVar 5)))))) (sRet (eVar 1)))))
def m_read_rows : MF := runF 6 ms_read_rows
def ms_law_bag : MS := (sRet (eLstR (aCons (eOp gAddR (eLc (iL (eSl (eVar 0) oNo (oSm (eC (.int 63))))) (gN 1) mYes (eUn gAbs (eVar 1)) [1]) (eLst (aCons (eC (.int 1)) aNil))) (aCons (eC (.int 0)) (aCons (eC (.int 0)) aNil)))))
def m_law_bag : MF := runF 2 ms_law_bag
def ms_law_pull : MS := (sSeq (sSet 2 (eOp gIx (eVar 0) (eC (.int 0)))) (sSeq (sAsg (gN 3) (eOp gMod (eOp gIx (eVar 0) (eC (.int 1))) (eUn gLen (eVar 2)))) (sSeq (sAsg (gN 4) (eOp gIx (eVar 2) (eVar 3))) (sSeq (sIf (mTest (eOp gGe (eVar 4) (eOp gPow (eC (.int 10)) (eC (.int 18))))) (sSeq (sPutR (eVar 2) (eVar 3) (eOp gFdiv (eVar 4) (eVar 1))) (sRet (eOp gMod (eVar 4) (eVar 1)))) sNext) (sSeq (sPutR (eVar 0) (eC (.int 1)) (eOp gAdd (eOp gIx (eVar 0) (eC (.int 1))) (eC (.int 1)))) (sSeq (sPutR (eVar 0) (eC (.int 2)) (eOp gMod (eOp gMul (eOp gAdd (eOp gAdd (eOp gIx (eVar 0) (eC (.int 2))) (eOp gMod (eVar 4) (eC (.int 2147483629)))) (eC (.int 77))) (eC (.int 48271))) (eC (.int 2147483629)))) (sRet (eOp gMod (eOp gFdiv (eOp gIx (eVar 0) (eC (.int 2))) (eC (.int 64))) (eVar 1)))))))))
def m_law_pull : MF := runF 5 ms_law_pull
def ms_law_same (f_law_same : MF) : MS := (sSeq (sIf (mTest (eIsi2 "list" "tuple" (eVar 1))) (sSeq (sIf (mOr (mTest (eOp gNe (eIsi "list" (eVar 1)) (eIsi "list" (eVar 0)))) (mTest (eOp gNe (eIsi "tuple" (eVar 1)) (eIsi "tuple" (eVar 0))))) (sRet (eC (.bl false))) sNext) (sSeq (sIf (mTest (eOp gNe (eUn gLen (eVar 0)) (eUn gLen (eVar 1)))) (sRet (eC (.bl false))) sNext) (sRet (eOp gNotIn (eC (.bl false)) (eLc (iZ (aCons (eVar 0) (aCons (eVar 1) aNil))) (gT 2 (gsCons (gN 2) (gsCons (gN 3) gsNil))) mYes (eCall 2 f_law_same (aCons (eVar 2) (aCons (eVar 3) aNil))) [2, 3]))))) sNext) (sSeq (sIf (mTest (eOp gIsN (eVar 1) (eC .non))) (sRet (eOp gIsN (eVar 0) (eC .non))) sNext) (sSeq (sIf (mOr (mTest (eOp gNe (eIsi "str" (eVar 1)) (eIsi "str" (eVar 0)))) (mTest (eOp gNe (eIsi "bool" (eVar 1)) (eIsi "bool" (eVar 0))))) (sRet (eC (.bl false))) sNext) (sRet (eAndV (eIsi2 "int" "str" (eVar 0)) (eOp gEq (eVar 0) (eVar 1)))))))
def m_law_same : Nat → MF
  | 0 => fun _ _ => .bad
  | n + 1 => runF 4 (ms_law_same (m_law_same n))
def ms_law_of : MS := (sRet (eOp gIx (eVar 1) (eCall 2 m_law_pull (aCons (eVar 0) (aCons (eUn gLen (eVar 1)) aNil)))))
def m_law_of : MF := runF 2 ms_law_of
def ms_law_words : MS := (sSeq (sAsg (gN 2) (eC (.str (Str.ofString "abcdefghijklmnopqrstuvwxyz")))) (sSeq (sAsg (gN 3) (eOp gAdd (eC (.int 1)) (eCall 2 m_law_pull (aCons (eVar 0) (aCons (eC (.int 6)) aNil))))) (sSeq (sSet 4 (eLc (iR1 (aCons (eVar 3) aNil)) (gN 9) mYes (eCall 2 m_law_of (aCons (eVar 0) (aCons (eVar 2) aNil))) [9])) (sSeq (sIf (mTest (eOp gEq (eCall 2 m_law_pull (aCons (eVar 0) (aCons (eC (.int 2)) aNil))) (eC (.int 0)))) (sSet 4 (eOp gMul (eLst (aCons (eOp gIx (eVar 4) (eC (.int 0))) aNil)) (eVar 3))) sNext) (sSeq (sAsg (gN 5) (eCall 2 m_law_pull (aCons (eVar 0) (aCons (eVar 3) aNil)))) (sSeq (sAsg (gN 6) (eCall 2 m_law_pull (aCons (eVar 0) (aCons (eC (.int 26)) aNil)))) (sSeq (sAsg (gN 7) (eCall 2 m_law_of (aCons (eVar 0) (aCons (eLst (aCons (eC (.int 1)) (aCons (eC (.int 3)) (aCons (eC (.int 5)) (aCons (eC (.int 7)) (aCons (eC (.int 9)) (aCons (eC (.int 11)) aNil))))))) aNil)))) (sSeq (sSet 8 (eLst aNil)) (sSeq (sFor (iR1 (aCons (eVar 1) aNil)) (gN 9) (sSeq (sPutV 4 (eVar 5) (eOp gIx (eVar 2) (eOp gMod (eOp gAdd (eVar 6) (eOp gMul (eVar 7) (eVar 9))) (eC (.int 26))))) (sAppV 8 (eM1 gJoin (eC (.str (Str.ofString ""))) (eVar 4))))) (sRet (eVar 8)))))))))))
def m_law_words : MF := runF 10 ms_law_words
def ms_law_is_word : MS := (sRet (eAndV (eChain gLe gLe (eC (.int 1)) (eUn gLen (eVar 0)) (eC (.int 6))) (eUn gAll (eLc (iS (eVar 0)) (gN 1) mYes (eOp gInSg (eVar 1) (eC (.str (Str.ofString "abcdefghijklmnopqrstuvwxyz")))) [1]))))
def m_law_is_word : MF := runF 2 ms_law_is_word
def ms_law_read (f_law_read : MF) : MS := (sSeq (sAsg (gN 3) (eOp gAdd (eVar 1) (eUn gInt1 (eOp gEq (eSl (eVar 0) (oSm (eVar 1)) (oSm (eOp gAdd (eVar 1) (eC (.int 1))))) (eC (.str (Str.ofString "?"))))))) (sSeq (sAsg (gN 4) (eVar 3)) (sSeq (sWhile (mAnd (mTest (eOp gLt (eVar 4) (eUn gLen (eVar 0)))) (mTest (eOp gInSg (eOp gIx (eVar 0) (eVar 4)) (eC (.str (Str.ofString "abcdefghijklmnopqrstuvwxyz")))))) (sAsg (gN 4) (eOp gAdd (eVar 4) (eC (.int 1))))) (sSeq (sAsg (gN 5) (eSl (eVar 0) (oSm (eVar 3)) (oSm (eVar 4)))) (sSeq (sIf (mOr (mTest (eOp gGt (eVar 2) (eC (.int 8)))) (mNot (mTest (eCall 1 m_law_is_word (aCons (eVar 5) aNil))))) (sRet (eTup (aCons (eC .non) (aCons (eC (.int 0)) aNil)))) sNext) (sSeq (sIf (mTest (eOp gGt (eVar 3) (eVar 1))) (sRet (eTup (aCons (eTup (aCons (eC (.str (Str.ofString "free"))) (aCons (eVar 5) aNil))) (aCons (eVar 4) aNil)))) sNext) (sSeq (sIf (mTest (eOp gNe (eSl (eVar 0) (oSm (eVar 4)) (oSm (eOp gAdd (eVar 4) (eC (.int 1))))) (eC (.str (Str.ofString "("))))) (sRet (eTup (aCons (eTup (aCons (eC (.str (Str.ofString "name"))) (aCons (eVar 5) aNil))) (aCons (eVar 4) aNil)))) sNext) (sSeq (sSet 6 (eLst aNil)) (sSeq (sAsg (gN 4) (eOp gAdd (eVar 4) (eC (.int 1)))) (sSeq (sWhile (mOr (mTest (eOp gNe (eSl (eVar 0) (oSm (eVar 4)) (oSm (eOp gAdd (eVar 4) (eC (.int 1))))) (eC (.str (Str.ofString ")"))))) (mTest (eOp gNe (eVar 6) (eLst aNil)))) (sSeq (sAsg (gT 2 (gsCons (gN 7) (gsCons (gN 4) gsNil))) (eCall 3 f_law_read (aCons (eVar 0) (aCons (eVar 4) (aCons (eOp gAdd (eVar 2) (eC (.int 1))) aNil))))) (sSeq (sAppV 6 (eVar 7)) (sSeq (sIf (mOr (mTest (eOp gIsN (eVar 7) (eC .non))) (mTest (eOp gGt (eUn gLen (eVar 6)) (eC (.int 3))))) (sRet (eTup (aCons (eC .non) (aCons (eC (.int 0)) aNil)))) sNext) (sSeq (sIf (mTest (eOp gEq (eSl (eVar 0) (oSm (eVar 4)) (oSm (eOp gAdd (eVar 4) (eC (.int 1))))) (eC (.str (Str.ofString ")"))))) sBreak sNext) (sSeq (sIf (mTest (eOp gNe (eSl (eVar 0) (oSm (eVar 4)) (oSm (eOp gAdd (eVar 4) (eC (.int 2))))) (eC (.str (Str.ofString ", "))))) (sRet (eTup (aCons (eC .non) (aCons (eC (.int 0)) aNil)))) sNext) (sAsg (gN 4) (eOp gAdd (eVar 4) (eC (.int 2)))))))))) (sRet (eTup (aCons (eTup (aCons (eC (.str (Str.ofString "sign"))) (aCons (eVar 5) (aCons (eUn gTupOf (eVar 6)) aNil)))) (aCons (eOp gAdd (eVar 4) (eC (.int 1))) aNil))))))))))))))
def m_law_read : Nat → MF
  | 0 => fun _ _ => .bad
  | n + 1 => runF 8 (ms_law_read (m_law_read n))
def ms_law_read_due : MS := (sSeq (sIf (mTest (eOp gGt (eUn gLen (eVar 0)) (eC (.int 200)))) (sRet (eC .non)) sNext) (sSeq (sAsg (gT 2 (gsCons (gN 1) (gsCons (gN 2) gsNil))) (eCall 3 (m_law_read 20) (aCons (eVar 0) (aCons (eC (.int 0)) (aCons (eC (.int 1)) aNil))))) (sRet (eIf (mAnd (mTest (eOp gNotN (eVar 1) (eC .non))) (mTest (eOp gEq (eVar 2) (eUn gLen (eVar 0))))) (eVar 1) (eC .non)))))
def m_law_read_due : MF := runF 3 ms_law_read_due
def ms_law : MS := (sSeq (sAsg (gN 1) (eCall 1 m_law_bag (aCons (eVar 0) aNil))) (sSeq (sAsg (gN 2) (eCall 2 m_law_words (aCons (eVar 1) (aCons (eC (.int 2)) aNil)))) (sSeq (sFor (iR1 (aCons (eC (.int 3)) aNil)) (gN 3) (sSeq (sAsg (gN 4) (eOp gAdd (eC (.int 5)) (eCall 2 m_law_pull (aCons (eVar 1) (aCons (eC (.int 7)) aNil))))) (sSeq (sAsg (gN 5) (eCall 2 m_law_of (aCons (eVar 1) (aCons (eLst (aCons (eOp gAdd (eC (.str (Str.ofString "?"))) (eOp gIx (eVar 2) (eC (.int 0)))) (aCons (eOp gIx (eVar 2) (eC (.int 1))) (aCons (eOp gAdd (eOp gIx (eVar 2) (eC (.int 0))) (eC (.str (Str.ofString "()")))) aNil)))) aNil)))) (sSeq (sAsg (gN 6) (eOp gAdd (eOp gAdd (eOp gAdd (eOp gIx (eVar 2) (eC (.int 0))) (eC (.str (Str.ofString "(")))) (eVar 5)) (eC (.str (Str.ofString ")"))))) (sSeq (sFor (iR1 (aCons (eOp L3.gSub (eVar 4) (eC (.int 2))) aNil)) (gN 7) (sAsg (gN 6) (eOp gAdd (eOp gAdd (eOp gAdd (eCall 2 m_law_of (aCons (eVar 1) (aCons (eLst (aCons (eC (.str (Str.ofString "f"))) (aCons (eC (.str (Str.ofString "gg"))) aNil))) aNil))) (eC (.str (Str.ofString "(")))) (eVar 6)) (eC (.str (Str.ofString ")")))))) (sSeq (sAsg (gT 2 (gsCons (gN 8) (gsCons (gN 9) gsNil))) (eWhy [(Str.ofString "BadTerm"), (Str.ofString "BadRows")] (Str.ofString "word") (eCall 1 m_read_term (aCons (eVar 6) aNil)))) (sSeq (sIf (mOr (mTest (eOp gNe (eVar 9) (eOp gIx (eLst (aCons (eC (.str (Str.ofString ""))) (aCons (eC (.str (Str.ofString "term"))) aNil))) (eUn gInt1 (eOp gGt (eVar 4) (eC (.int 8))))))) (mAnd (mTest (eOp gLt (eVar 4) (eC (.int 9)))) (mNot (mTest (eCall 2 (m_law_same 18) (aCons (eCall 1 (m_deep_of 10) (aCons (eVar 8) aNil)) (aCons (eVar 4) aNil))))))) (sRet (eC (.bl false))) sNext) (sSeq (sAsg (gN 10) (eC (.str (Str.ofString "abcdef(abcdef, abcdef, abcdef)")))) (sSeq (sAsg (gL 3 (gsCons (gN 11) (gsCons (gN 12) (gsCons (gN 13) gsNil)))) (eLc (iR1 (aCons (eC (.int 3)) aNil)) (gN 7) mYes (eSl (eC (.str (Str.ofString "xyzxyz"))) oNo (oSm (eOp gAdd (eC (.int 5)) (eCall 2 m_law_pull (aCons (eVar 1) (aCons (eC (.int 2)) aNil)))))) [7])) (sSeq (sAsg (gN 14) (eOp gAdd (eOp gAdd (eVar 10) (eC (.str (Str.ofString ", ")))) (eVar 10))) (sSeq (sAsg (gN 6) (eOp gAdd (eOp gAdd (eOp gAdd (eOp gAdd (eOp gAdd (eC (.str (Str.ofString "g("))) (eVar 14)) (eC (.str (Str.ofString ", h(")))) (eVar 14)) (eC (.str (Str.ofString ", k(")))) (eVar 10))) (sSeq (sAsg (gN 6) (eOp gAdd (eOp gAdd (eVar 6) (eC (.str (Str.ofString ", m(")))) (eM1 gJoin (eC (.str (Str.ofString ", "))) (eLst (aCons (eVar 11) (aCons (eVar 12) (aCons (eVar 13) aNil))))))) (sSeq (sAsg (gN 6) (eOp gAdd (eOp gAdd (eOp gAdd (eVar 6) (eC (.str (Str.ofString "), ")))) (eOp gMulS (eC (.str (Str.ofString "w"))) (eOp gAdd (eC (.int 1)) (eCall 2 m_law_pull (aCons (eVar 1) (aCons (eC (.int 6)) aNil)))))) (eC (.str (Str.ofString ")))"))))) (sSeq (sAsg (gT 2 (gsCons (gN 8) (gsCons (gN 9) gsNil))) (eWhy [(Str.ofString "BadTerm"), (Str.ofString "BadRows")] (Str.ofString "word") (eCall 1 m_read_term (aCons (eVar 6) aNil)))) (sSeq (sIf (mOr (mNot (mTest (eCall 2 (m_law_same 18) (aCons (eVar 8) (aCons (eCall 1 m_law_read_due (aCons (eVar 6) aNil)) aNil))))) (mTest (eOp gNe (eVar 9) (eOp gIx (eLst (aCons (eC (.str (Str.ofString ""))) (aCons (eC (.str (Str.ofString "term"))) aNil))) (eUn gInt1 (eOp gIsN (eVar 8) (eC .non))))))) (sRet (eC (.bl false))) sNext) (sSeq (sAsg (gN 15) (eOp gAdd (eOp gAdd (eC (.str (Str.ofString "abcdef("))) (eOp gMulS (eC (.str (Str.ofString "ab(abcdef, abcdef, abcdef), "))) (eC (.int 2)))) (eC (.str (Str.ofString "ab(abcdef, abcdef, abcdef))"))))) (sSeq (sAsg (gN 16) (eOp gAdd (eOp gAdd (eOp gAdd (eOp gMulS (eC (.str (Str.ofString "q"))) (eOp gAdd (eC (.int 1)) (eCall 2 m_law_pull (aCons (eVar 1) (aCons (eC (.int 6)) aNil))))) (eC (.str (Str.ofString "(")))) (eOp gMulS (eC (.str (Str.ofString "r"))) (eOp gAdd (eC (.int 1)) (eCall 2 m_law_pull (aCons (eVar 1) (aCons (eC (.int 6)) aNil)))))) (eC (.str (Str.ofString "))"))))) (sSeq (sAsg (gN 17) (eOp gAdd (eOp gAdd (eOp gAdd (eOp gAdd (eOp gAdd (eC (.str (Str.ofString "x = f("))) (eVar 15)) (eC (.str (Str.ofString ", ")))) (eVar 15)) (eC (.str (Str.ofString ", ")))) (eVar 16))) (sSeq (sAsg (gT 2 (gsCons (gN 8) (gsCons (gN 9) gsNil))) (eWhy [(Str.ofString "BadTerm"), (Str.ofString "BadRows")] (Str.ofString "word") (eCall 1 m_read_rows (aCons (eVar 17) aNil)))) (sIf (mTest (eOp gNe (eVar 9) (eOp gIx (eLst (aCons (eC (.str (Str.ofString ""))) (aCons (eC (.str (Str.ofString "rows"))) aNil))) (eUn gInt1 (eOp gGt (eUn gLen (eVar 17)) (eC (.int 200))))))) (sRet (eC (.bl false))) sNext)))))))))))))))))))) (sRet (eC (.bl true))))))
def m_law : MF := runF 18 ms_law
end
/-! what the top holds -/
structure Gx (mg : Str → Option Value) : Prop where
  c_LETTERS : ∃ t, mg (Str.ofString "LETTERS") = some (.str (Str.ofString "abcdefghijklmnopqrstuvwxyz") t)
  c_WORD : ∃ t, mg (Str.ofString "WORD") = some (.int 6 t)
  c_BRANCHES : ∃ t, mg (Str.ofString "BRANCHES") = some (.int 3 t)
  c_ROWS : ∃ t, mg (Str.ofString "ROWS") = some (.int 60 t)
  c_SIGNS : ∃ t, mg (Str.ofString "SIGNS") = some (.int 200 t)
  c_DEEP : ∃ t, mg (Str.ofString "DEEP") = some (.int 8 t)
  z_abs : mg (Str.ofString "abs") = none
  z_all : mg (Str.ofString "all") = none
  z_bool : mg (Str.ofString "bool") = none
  z_enumerate : mg (Str.ofString "enumerate") = none
  z_int : mg (Str.ofString "int") = none
  z_isinstance : mg (Str.ofString "isinstance") = none
  z_len : mg (Str.ofString "len") = none
  z_list : mg (Str.ofString "list") = none
  z_max : mg (Str.ofString "max") = none
  z_range : mg (Str.ofString "range") = none
  z_set : mg (Str.ofString "set") = none
  z_str : mg (Str.ofString "str") = none
  z_tuple : mg (Str.ofString "tuple") = none
  z_zip : mg (Str.ofString "zip") = none
structure Mx (c : Cn) (mg : Str → Option Value) : Prop where
  g_BadTerm : mg (Str.ofString "BadTerm") = some (.ref (c.ca (Str.ofString "BadTerm")))
  m_BadTerm_BadTerm : PySem.W.exmOne c.K (.ref (c.ca (Str.ofString "BadTerm"))) (.ref (c.ca (Str.ofString "BadTerm"))) = some true
  f_BadTerm : XfC c.K (c.ca (Str.ofString "BadTerm"))
  n_BadTerm_word : PySem.W.findIn c.K (.ref (c.ca (Str.ofString "BadTerm"))) (Str.ofString "word") = some none
  g_BoughError : mg (Str.ofString "BoughError") = some (.ref (c.ca (Str.ofString "BoughError")))
  m_BadTerm_BoughError : PySem.W.exmOne c.K (.ref (c.ca (Str.ofString "BadTerm"))) (.ref (c.ca (Str.ofString "BoughError"))) = some true
  m_BadRows_BoughError : PySem.W.exmOne c.K (.ref (c.ca (Str.ofString "BadRows"))) (.ref (c.ca (Str.ofString "BoughError"))) = some true
  f_BadRows : XfC c.K (c.ca (Str.ofString "BadRows"))
  n_BadRows_word : PySem.W.findIn c.K (.ref (c.ca (Str.ofString "BadRows"))) (Str.ofString "word") = some none
  n_BadRows_row : PySem.W.findIn c.K (.ref (c.ca (Str.ofString "BadRows"))) (Str.ofString "row") = some none
section
variable {c : Cn} {mg : Str → Option Value} {base : Heap} (G : Gx mg) (MM : Mx c mg)
omit G in
include MM in
theorem gives0_law_why {X : Cx} (hmg : X.mg = mg) (hK : X.K = c.K) (g : Addr) (cdv : Value) (q : Str) : GivesS X [(Str.ofString "_law_ask"), (Str.ofString "_law_found"), (Str.ofString "_law_word"), (Str.ofString "e")] (Str.ofString "_law_why") (defScope s_law_why) g cdv (defBody s_law_why) (Str.ofString "_law_ask") q (TTwhy [(Str.ofString "_law_ask"), (Str.ofString "_law_found"), (Str.ofString "_law_word"), (Str.ofString "e")] X.K (.ref (c.ca (Str.ofString "BoughError"))) ([(Str.ofString "BadTerm"), (Str.ofString "BadRows")].map c.ca) (Str.ofString "word") q) := by
  obtain ⟨P, w, K, ca, Ts⟩ := c
  subst hmg
  have hK : X.K = K := hK
  subst hK
  exact fun f c2 s H Q tl act hc h => ⟨_, (pss_cons (ps_set (i := 1) sc_law_why.nd rfl (Or.inl rfl) pe_non) (pss_cons (ps_set (i := 2) sc_law_why.nd rfl (Or.inl rfl) pe_str) (pss_cons (ps_try_as (i := 3) rfl rfl sc_law_why.nd rfl rfl ⟨by rfl, by decide, .inl MM.g_BoughError⟩ takes0 (fun W pn xe tk _ => (pss_one (ps_set (i := 1) sc_law_why.nd rfl (Or.inl rfl) (act W pn xe _ _ tk)))) (fun a oe cls d pn hz hf => (pss_one (ps_set (i := 2) sc_law_why.nd rfl (Or.inl rfl) (pe_xv (Cs := [(Str.ofString "BadTerm"), (Str.ofString "BadRows")].map ca) (List.forall_mem_cons.mpr ⟨(pe_xf MM.f_BadTerm MM.n_BadTerm_word hz hf (pv 3)), (List.forall_mem_cons.mpr ⟨(pe_xf MM.f_BadRows MM.n_BadRows_word hz hf (pv 3)), (fun _ h => nomatch h)⟩)⟩)))))) (pss_one (ps_ret (pe_tup (pa_cons (pv 1) (pa_cons (pv 2) pa_nil)))))))), h f c2 hc⟩
include G MM in
theorem gives_law_why {X : Cx} (hmg : X.mg = mg) (hK : X.K = c.K) (g : Addr) (cdv : Value) (q : Str) : GivesS X [(Str.ofString "_law_ask"), (Str.ofString "_law_found"), (Str.ofString "_law_word"), (Str.ofString "e")] (Str.ofString "_law_why") (defScope s_law_why) g cdv (defBody s_law_why) (Str.ofString "_law_ask") q (TTwhy [(Str.ofString "_law_ask"), (Str.ofString "_law_found"), (Str.ofString "_law_word"), (Str.ofString "e")] X.K (.ref (c.ca (Str.ofString "BoughError"))) ([(Str.ofString "BadTerm"), (Str.ofString "BadRows")].map c.ca) (Str.ofString "word") q) := gives0_law_why MM hmg hK g cdv q
include G MM in
theorem ok_is_word {fd_is_word : FuncData}   (D_is_word : Df c mg (Str.ofString "is_word") (Str.ofString "is_word") s_is_word [(Str.ofString "text")] fd_is_word)   : Ok c mg base CX0 1 (Str.ofString "is_word") [(Str.ofString "text")] m_is_word fd_is_word :=
  ok0 (k := 0) D_is_word sc_is_word fun cdv A outer s H E hr => ⟨_, (pss_one (ps_ret (pe_and (pe_chain op_le op_le pe_int (pe_callB call_len (by rfl) G.z_len (by decide +kernel) (pa_cons (pv 0) pa_nil)) (pe_globI (by rfl) G.c_WORD)) (pe_one (pe_callB (cr_all rfl) (by rfl) G.z_all (by decide +kernel) (pa_cons (pe_lc (own := [((Str.ofString "letter"), 1)]) (by rfl) sc_is_word.nd (pi_str (pv 0)) (blkOk_by (own := [((Str.ofString "letter"), 1)]) (N := [(Str.ofString "text"), (Str.ofString "letter")]) (sc := defScope s_is_word) (by decide +kernel)) (fun _ _ _ _ _ => (pg_name (i := 1) sc_is_word.nd rfl (Or.inl rfl))) (fun _ _ _ _ _ => pts_nil) (fun _ _ _ _ _ => (pe_cmpR op_in_sign (pv 1) (pe_globS (by rfl) G.c_LETTERS) (by rfl)))) pa_nil)))))), (sim_ret (sim_andV (sim_chain s_le s_le sim_int (sim_cb1 s_len (sim_var 0)) sim_int) (sim_cb1 s_all (sim_lc (vs := [1]) (sim_iS (sim_var 0)) (sim_gN (i := 1) (by decide)) sim_yes (sim_op s_inSg (sim_var 1) sim_str)))))⟩
include G MM in
theorem okr_deep_of {fd_deep_of : FuncData}   (D_deep_of : Df c mg (Str.ofString "deep_of") (Str.ofString "deep_of") s_deep_of [(Str.ofString "term")] fd_deep_of)   : ∀ n : Nat, Ok c mg base CX0 (1 + n) (Str.ofString "deep_of") [(Str.ofString "term")] (m_deep_of n) fd_deep_of
  | 0 => (Ok.bad D_deep_of : Ok c mg base _ 1 (Str.ofString "deep_of") [(Str.ofString "term")] _ fd_deep_of)
  | n + 1 => by
    have h_deep_of := okr_deep_of D_deep_of n
    exact
      ok0 (k := 1 + n) D_deep_of sc_deep_of fun cdv A outer s H E hr => ⟨_, (pss_cons (ps_if (pt_cmpR (op_neD hr.units) (pe_ix ix_seq (pv 0) pe_int (fun _ _ => rfl)) pe_str (nomark _)) (pss_one (ps_ret pe_int)) pss_nil) (pss_one (ps_ret (pe_op op_addU pe_int (pe_callBK (cr_maxDf hr.units rfl) (by rfl) G.z_max (by decide +kernel) (pa_cons (pe_lc (own := [((Str.ofString "one"), 1)]) (by rfl) sc_deep_of.nd (pi_tup (pe_ix ix_seq (pv 0) pe_int (fun _ _ => rfl))) (blkOk_by (own := [((Str.ofString "one"), 1)]) (N := [(Str.ofString "term"), (Str.ofString "one")]) (sc := defScope s_deep_of) (by decide +kernel)) (fun _ _ _ _ _ => (pg_name (i := 1) sc_deep_of.nd rfl (Or.inl rfl))) (fun _ _ _ _ _ => pts_nil) (fun _ _ _ _ _ => (pe_call (E := ET) (h_deep_of).F (hr.mono (by omega)) (by rfl) (h_deep_of).g (h_deep_of).kp (h_deep_of).b .nil passT (pa_cons (pv 1) pa_nil)))) pa_nil) (pk_cons pe_int pk_nil)))))), (sim_seq (sim_if (sim_test (sim_op s_ne (sim_op s_ix (sim_var 0) sim_int) sim_str)) (sim_ret sim_int) sim_next) (sim_ret (sim_op s_add sim_int (sim_maxDf (sim_lc (vs := [1]) (sim_iT (sim_op s_ix (sim_var 0) sim_int)) (sim_gN (i := 1) (by decide)) sim_yes (sim_callT (sim_cons (sim_var 1) sim_nil))) (sim_cons sim_int sim_nil)))))⟩
include G MM in
theorem ok_word_end {fd_word_end : FuncData}   (D_word_end : Df c mg (Str.ofString "word_end") (Str.ofString "word_end") s_word_end [(Str.ofString "text"), (Str.ofString "at")] fd_word_end)   : Ok c mg base CX0 1 (Str.ofString "word_end") [(Str.ofString "text"), (Str.ofString "at")] m_word_end fd_word_end :=
  ok0 (k := 0) D_word_end sc_word_end fun cdv A outer s H E hr => ⟨_, (pss_cons (ps_while (PassesOwn.never) (PW.pt (pw_and (pt_cmpR op_lt (pv 1) (pe_callB call_len (by rfl) G.z_len (by decide +kernel) (pa_cons (pv 0) pa_nil)) (nomark _)) (pw_and1 (pt_cmpR op_in_sign (pe_ix ix_seq (pv 0) (pv 1) (fun _ _ => rfl)) (pe_globS (by rfl) G.c_LETTERS) (by rfl))))) (pss_one (ps_aug (i := 1) sc_word_end.nd rfl (Or.inl rfl) pe_int ip_add))) (pss_one (ps_ret (pv 1)))), (sim_seq (sim_while (sim_and (sim_test (sim_op s_lt (sim_var 1) (sim_cb1 s_len (sim_var 0)))) (sim_test (sim_op s_inSg (sim_op s_ix (sim_var 0) (sim_var 1)) sim_str))) (sim_aug (s_I0 (gd := fun i j => .int (i + j)) fun _ _ _ _ => rfl) sim_int)) (sim_ret (sim_var 1)))⟩
include G MM in
theorem okr_parsed {fd_word_end fd_is_word fd_parsed fd_branches_of : FuncData} (H_word_end : Ok c mg base CX0 1 (Str.ofString "word_end") [(Str.ofString "text"), (Str.ofString "at")] m_word_end fd_word_end) (H_is_word : Ok c mg base CX0 1 (Str.ofString "is_word") [(Str.ofString "text")] m_is_word fd_is_word) {fI_BadTerm : Addr} {fdI_BadTerm : FuncData} (X_BadTerm : Xc c mg base (Str.ofString "BadTerm") [(Str.ofString "self")] 0 (fun ws => [(Str.ofString "word")].zip [.str (Str.ofString "term")]) fI_BadTerm fdI_BadTerm) (D_parsed : Df c mg (Str.ofString "parsed") (Str.ofString "parsed") s_parsed [(Str.ofString "text"), (Str.ofString "at"), (Str.ofString "deep")] fd_parsed) (D_branches_of : Df c mg (Str.ofString "branches_of") (Str.ofString "branches_of") s_branches_of [(Str.ofString "word"), (Str.ofString "text"), (Str.ofString "at"), (Str.ofString "deep")] fd_branches_of)   : ∀ n : Nat, Ok c mg base (L2.CX c.P c.w) (3 + n) (Str.ofString "parsed") [(Str.ofString "text"), (Str.ofString "at"), (Str.ofString "deep")] (m_parsed n) fd_parsed ∧ Ok c mg base (L2.CX c.P c.w) (3 + n) (Str.ofString "branches_of") [(Str.ofString "word"), (Str.ofString "text"), (Str.ofString "at"), (Str.ofString "deep")] (m_branches_of n) fd_branches_of
  | 0 => ⟨(Ok.bad D_parsed : Ok c mg base _ 3 (Str.ofString "parsed") [(Str.ofString "text"), (Str.ofString "at"), (Str.ofString "deep")] _ fd_parsed), (Ok.bad D_branches_of : Ok c mg base _ 3 (Str.ofString "branches_of") [(Str.ofString "word"), (Str.ofString "text"), (Str.ofString "at"), (Str.ofString "deep")] _ fd_branches_of)⟩
  | n + 1 => by
    obtain ⟨h_parsed, h_branches_of⟩ := okr_parsed H_word_end H_is_word X_BadTerm D_parsed D_branches_of n
    refine ⟨?_, ?_⟩
    · exact
        okX (k := 3 + n) D_parsed sc_parsed fun cdv A outer s H E hr => ⟨_, (pss_cons (ps_set (i := 3) sc_parsed.nd rfl (Or.inl rfl) (pe_cmpR (op_eqD hr.units) (pe_slice sl_U (pv 0) (po_some (pv 1)) (po_some (pe_op op_addU (pv 1) pe_int))) pe_str (nomark _))) (pss_cons (ps_set (i := 4) sc_parsed.nd rfl (Or.inl rfl) (pe_op op_addU (pv 1) (pe_callTy call_int1 (by rfl) G.z_int (by decide +kernel) (pa_cons (pv 3) pa_nil)))) (pss_cons (ps_set (i := 5) sc_parsed.nd rfl (Or.inl rfl) (pe_call (E := ET) H_word_end.F (hr.mono (by omega)) (by rfl) H_word_end.g H_word_end.kp H_word_end.b .nil passT (pa_cons (pv 0) (pa_cons (pv 4) pa_nil)))) (pss_cons (ps_set (i := 6) sc_parsed.nd rfl (Or.inl rfl) (pe_slice sl_U (pv 0) (po_some (pv 4)) (po_some (pv 5)))) (pss_cons (ps_if (PW.pt (pw_or (pt_cmpR op_gt (pv 2) (pe_globI (by rfl) G.c_DEEP) (nomark _)) (pw_or1 (pt_not (pt_val (pe_call (E := ET) H_is_word.F (hr.mono (by omega)) (by rfl) H_is_word.g H_is_word.kp H_is_word.b .nil passT (pa_cons (pv 6) pa_nil))))))) (pss_one (ps_raise rfl (takes_of rfl rfl rfl rfl) (pmk_oex0 X_BadTerm.T X_BadTerm.iC X_BadTerm.tI X_BadTerm.F (hr.mono (by omega)) X_BadTerm.b .nil passF (by rfl) X_BadTerm.g))) pss_nil) (pss_cons (ps_if (pt_val (pv 3)) (pss_one (ps_ret (pe_tup (pa_cons (pe_tup (pa_cons pe_str (pa_cons (pv 6) pa_nil))) (pa_cons (pv 5) pa_nil))))) pss_nil) (pss_cons (ps_if (pt_cmpR (op_neD hr.units) (pe_slice sl_U (pv 0) (po_some (pv 5)) (po_some (pe_op op_addU (pv 5) pe_int))) pe_str (nomark _)) (pss_one (ps_ret (pe_tup (pa_cons (pe_tup (pa_cons pe_str (pa_cons (pv 6) pa_nil))) (pa_cons (pv 5) pa_nil))))) pss_nil) (pss_cons (ps_if (pt_cmpR (op_eqD hr.units) (pe_slice sl_U (pv 0) (po_some (pv 5)) (po_some (pe_op op_addU (pv 5) pe_int))) pe_str (nomark _)) (pss_one (ps_ret (pe_tup (pa_cons (pe_tup (pa_cons pe_str (pa_cons (pv 6) (pa_cons (pe_tup pa_nil) pa_nil)))) (pa_cons (pe_op op_addU (pv 5) pe_int) pa_nil))))) pss_nil) (pss_one (ps_ret (pe_call (E := E) (h_branches_of).F (hr.mono (by omega)) (by rfl) (h_branches_of).g (h_branches_of).kp (h_branches_of).b .nil (passes_call (takes_of rfl rfl rfl rfl) fun _ _ _ _ z => z) (pa_cons (pv 6) (pa_cons (pv 0) (pa_cons (pe_op op_addU (pv 5) pe_int) (pa_cons (pv 2) pa_nil))))))))))))))), (sim_seq (sim_asg (sim_gN (ps := [3]) (i := 3) (by decide)) (sim_op s_eq (sim_sl (sim_var 0) (sim_oSm (sim_var 1)) (sim_oSm (sim_op s_add (sim_var 1) sim_int))) sim_str)) (sim_seq (sim_asg (sim_gN (ps := [4]) (i := 4) (by decide)) (sim_op s_add (sim_var 1) (sim_cb1 s_int1 (sim_var 3)))) (sim_seq (sim_asg (sim_gN (ps := [5]) (i := 5) (by decide)) (sim_callT (sim_cons (sim_var 0) (sim_cons (sim_var 4) sim_nil)))) (sim_seq (sim_asg (sim_gN (ps := [6]) (i := 6) (by decide)) (sim_sl (sim_var 0) (sim_oSm (sim_var 4)) (sim_oSm (sim_var 5)))) (sim_seq (sim_if (sim_or (sim_test (sim_op s_gt (sim_var 2) sim_int)) (sim_not (sim_tB (sim_callT (sim_cons (sim_var 6) sim_nil))))) (sim_raise (gV := fun _ => [.str (Str.ofString "term")]) (fun _ _ => rfl) (fun _ _ _ _ _ _ => ⟨_, _, rfl, rfl, rfl⟩) (by decide) sim_nil) sim_next) (sim_seq (sim_if (sim_tB (sim_var 3)) (sim_ret (sim_tup (sim_cons (sim_tup (sim_cons sim_str (sim_cons (sim_var 6) sim_nil))) (sim_cons (sim_var 5) sim_nil)))) sim_next) (sim_seq (sim_if (sim_test (sim_op s_ne (sim_sl (sim_var 0) (sim_oSm (sim_var 5)) (sim_oSm (sim_op s_add (sim_var 5) sim_int))) sim_str)) (sim_ret (sim_tup (sim_cons (sim_tup (sim_cons sim_str (sim_cons (sim_var 6) sim_nil))) (sim_cons (sim_var 5) sim_nil)))) sim_next) (sim_seq (sim_if (sim_test (sim_op s_eq (sim_sl (sim_var 0) (sim_oSm (sim_var 5)) (sim_oSm (sim_op s_add (sim_var 5) sim_int))) sim_str)) (sim_ret (sim_tup (sim_cons (sim_tup (sim_cons sim_str (sim_cons (sim_var 6) (sim_cons (sim_tup sim_nil) sim_nil)))) (sim_cons (sim_op s_add (sim_var 5) sim_int) sim_nil)))) sim_next) (sim_ret (sim_callE (sim_cons (sim_var 6) (sim_cons (sim_var 0) (sim_cons (sim_op s_add (sim_var 5) sim_int) (sim_cons (sim_var 2) sim_nil))))))))))))))⟩
    · exact
        okX (k := 3 + n) D_branches_of sc_branches_of fun cdv A outer s H E hr => ⟨_, (pss_cons (ps_set (i := 4) sc_branches_of.nd rfl (Or.inl rfl) (pe_lst pa_nil)) (pss_one (ps_while (passes_of rfl) (pt_val pe_bl) (pss_cons (ps_asg (pe_call (E := E) (h_parsed).F (hr.mono (by omega)) (by rfl) (h_parsed).g (h_parsed).kp (h_parsed).b .nil (passes_call (takes_of rfl rfl rfl rfl) fun _ _ _ _ z => z) (pa_cons (pv 1) (pa_cons (pv 2) (pa_cons (pe_op op_addU (pv 3) pe_int) pa_nil)))) (pg_tup rfl (pgs_cons (pg_name (i := 5) sc_branches_of.nd rfl (Or.inl rfl)) (pgs_cons (pg_name (i := 2) sc_branches_of.nd rfl (Or.inl rfl)) pgs_nil)))) (pss_cons (ps_expr (pe_bm PySem.F.plainAttrs_list PySem.F.slot_list_append PySem.F.type_list_append mt_append (pv 4) (pa_cons (pv 5) pa_nil))) (pss_cons (ps_if (PW.pt (pw_and (pt_cmpR (op_eqD hr.units) (pe_slice sl_U (pv 1) (po_some (pv 2)) (po_some (pe_op op_addU (pv 2) pe_int))) pe_str (nomark _)) (pw_and1 (pt_cmpR op_le (pe_callB call_len (by rfl) G.z_len (by decide +kernel) (pa_cons (pv 4) pa_nil)) (pe_globI (by rfl) G.c_BRANCHES) (nomark _))))) (pss_one (ps_ret (pe_tup (pa_cons (pe_tup (pa_cons pe_str (pa_cons (pv 0) (pa_cons (pe_callTy call_tuple_of (by rfl) G.z_tuple (by decide +kernel) (pa_cons (pv 4) pa_nil)) pa_nil)))) (pa_cons (pe_op op_addU (pv 2) pe_int) pa_nil))))) pss_nil) (pss_cons (ps_if (PW.pt (pw_or (pt_cmpR (op_neD hr.units) (pe_slice sl_U (pv 1) (po_some (pv 2)) (po_some (pe_op op_addU (pv 2) pe_int))) pe_str (nomark _)) (pw_or1 (pt_cmpR op_ge (pe_callB call_len (by rfl) G.z_len (by decide +kernel) (pa_cons (pv 4) pa_nil)) (pe_globI (by rfl) G.c_BRANCHES) (nomark _))))) (pss_one (ps_raise rfl (takes_of rfl rfl rfl rfl) (pmk_oex0 X_BadTerm.T X_BadTerm.iC X_BadTerm.tI X_BadTerm.F (hr.mono (by omega)) X_BadTerm.b .nil passF (by rfl) X_BadTerm.g))) pss_nil) (pss_one (ps_aug (i := 2) sc_branches_of.nd rfl (Or.inl rfl) pe_int ip_add))))))))), (sim_seq (sim_set (sim_lst sim_nil)) (sim_while (sim_tB sim_bl) (sim_seq (sim_asg (sim_gT (n := 2) (sim_gsCons (sim_gN (ps := [0, 1, 2, 3, 4, 5]) (i := 5) (by decide)) (sim_gsCons (sim_gN (ps := [0, 1, 2, 3, 4, 5]) (i := 2) (by decide)) sim_gsNil))) (sim_callE (sim_cons (sim_var 1) (sim_cons (sim_var 2) (sim_cons (sim_op s_add (sim_var 3) sim_int) sim_nil))))) (sim_seq (sim_appV (sim_var 5)) (sim_seq (sim_if (sim_and (sim_test (sim_op s_eq (sim_sl (sim_var 1) (sim_oSm (sim_var 2)) (sim_oSm (sim_op s_add (sim_var 2) sim_int))) sim_str)) (sim_test (sim_op s_le (sim_cb1 s_len (sim_var 4)) sim_int))) (sim_ret (sim_tup (sim_cons (sim_tup (sim_cons sim_str (sim_cons (sim_var 0) (sim_cons (sim_cb1 s_tupOf (sim_var 4)) sim_nil)))) (sim_cons (sim_op s_add (sim_var 2) sim_int) sim_nil)))) sim_next) (sim_seq (sim_if (sim_or (sim_test (sim_op s_ne (sim_sl (sim_var 1) (sim_oSm (sim_var 2)) (sim_oSm (sim_op s_add (sim_var 2) sim_int))) sim_str)) (sim_test (sim_op s_ge (sim_cb1 s_len (sim_var 4)) sim_int))) (sim_raise (gV := fun _ => [.str (Str.ofString "term")]) (fun _ _ => rfl) (fun _ _ _ _ _ _ => ⟨_, _, rfl, rfl, rfl⟩) (by decide) sim_nil) sim_next) (sim_aug (s_I0 (gd := fun i j => .int (i + j)) fun _ _ _ _ => rfl) sim_int)))))))⟩
include G MM in
theorem ok_read_term {fd_parsed fd_read_term : FuncData} (H_parsed : Ok c mg base (L2.CX c.P c.w) 43 (Str.ofString "parsed") [(Str.ofString "text"), (Str.ofString "at"), (Str.ofString "deep")] (m_parsed 40) fd_parsed) {fI_BadTerm : Addr} {fdI_BadTerm : FuncData} (X_BadTerm : Xc c mg base (Str.ofString "BadTerm") [(Str.ofString "self")] 0 (fun ws => [(Str.ofString "word")].zip [.str (Str.ofString "term")]) fI_BadTerm fdI_BadTerm) (D_read_term : Df c mg (Str.ofString "read_term") (Str.ofString "read_term") s_read_term [(Str.ofString "text")] fd_read_term)   : Ok c mg base (L2.CX c.P c.w) 44 (Str.ofString "read_term") [(Str.ofString "text")] m_read_term fd_read_term :=
  okX (k := 43) D_read_term sc_read_term fun cdv A outer s H E hr => ⟨_, (pss_cons (ps_if (pt_cmpR op_gt (pe_callB call_len (by rfl) G.z_len (by decide +kernel) (pa_cons (pv 0) pa_nil)) (pe_globI (by rfl) G.c_SIGNS) (nomark _)) (pss_one (ps_raise rfl (takes_of rfl rfl rfl rfl) (pmk_oex0 X_BadTerm.T X_BadTerm.iC X_BadTerm.tI X_BadTerm.F (hr.mono (by omega)) X_BadTerm.b .nil passF (by rfl) X_BadTerm.g))) pss_nil) (pss_cons (ps_asg (pe_call (E := E) H_parsed.F (hr.mono (by omega)) (by rfl) H_parsed.g H_parsed.kp H_parsed.b .nil (passes_call (takes_of rfl rfl rfl rfl) fun _ _ _ _ z => z) (pa_cons (pv 0) (pa_cons pe_int (pa_cons pe_int pa_nil)))) (pg_tup rfl (pgs_cons (pg_name (i := 1) sc_read_term.nd rfl (Or.inl rfl)) (pgs_cons (pg_name (i := 2) sc_read_term.nd rfl (Or.inl rfl)) pgs_nil)))) (pss_cons (ps_if (pt_cmpR (op_neD hr.units) (pv 2) (pe_callB call_len (by rfl) G.z_len (by decide +kernel) (pa_cons (pv 0) pa_nil)) (nomark _)) (pss_one (ps_raise rfl (takes_of rfl rfl rfl rfl) (pmk_oex0 X_BadTerm.T X_BadTerm.iC X_BadTerm.tI X_BadTerm.F (hr.mono (by omega)) X_BadTerm.b .nil passF (by rfl) X_BadTerm.g))) pss_nil) (pss_one (ps_ret (pv 1)))))), (sim_seq (sim_if (sim_test (sim_op s_gt (sim_cb1 s_len (sim_var 0)) sim_int)) (sim_raise (gV := fun _ => [.str (Str.ofString "term")]) (fun _ _ => rfl) (fun _ _ _ _ _ _ => ⟨_, _, rfl, rfl, rfl⟩) (by decide) sim_nil) sim_next) (sim_seq (sim_asg (sim_gT (n := 2) (sim_gsCons (sim_gN (ps := [0, 1, 2]) (i := 1) (by decide)) (sim_gsCons (sim_gN (ps := [0, 1, 2]) (i := 2) (by decide)) sim_gsNil))) (sim_callE (sim_cons (sim_var 0) (sim_cons sim_int (sim_cons sim_int sim_nil))))) (sim_seq (sim_if (sim_test (sim_op s_ne (sim_var 2) (sim_cb1 s_len (sim_var 0)))) (sim_raise (gV := fun _ => [.str (Str.ofString "term")]) (fun _ _ => rfl) (fun _ _ _ _ _ _ => ⟨_, _, rfl, rfl, rfl⟩) (by decide) sim_nil) sim_next) (sim_ret (sim_var 1)))))⟩
include G MM in
theorem ok_read_row {fd_is_word fd_read_term fd_read_row : FuncData} (H_is_word : Ok c mg base CX0 1 (Str.ofString "is_word") [(Str.ofString "text")] m_is_word fd_is_word) (H_read_term : Ok c mg base (L2.CX c.P c.w) 44 (Str.ofString "read_term") [(Str.ofString "text")] m_read_term fd_read_term)  (D_read_row : Df c mg (Str.ofString "read_row") (Str.ofString "read_row") s_read_row [(Str.ofString "row")] fd_read_row)   : Ok c mg base CX0 45 (Str.ofString "read_row") [(Str.ofString "row")] m_read_row fd_read_row :=
  ok0 (k := 44) D_read_row sc_read_row fun cdv A outer s H E hr => ⟨_, (pss_cons (ps_asg (pe_partition (pv 0) pe_str) (pg_tup rfl (pgs_cons (pg_name (i := 1) sc_read_row.nd rfl (Or.inl rfl)) (pgs_cons (pg_name (i := 2) sc_read_row.nd rfl (Or.inl rfl)) (pgs_cons (pg_name (i := 3) sc_read_row.nd rfl (Or.inl rfl)) pgs_nil))))) (pss_cons (ps_if (PW.pt (pw_or (pt_cmpR op_gt (pe_callB call_len (by rfl) G.z_len (by decide +kernel) (pa_cons (pv 0) pa_nil)) (pe_globI (by rfl) G.c_SIGNS) (nomark _)) (pw_or (pt_cmpR (op_eqD hr.units) (pv 2) pe_str (nomark _)) (pw_or1 (pt_not (pt_val (pe_call (E := ET) H_is_word.F (hr.mono (by omega)) (by rfl) H_is_word.g H_is_word.kp H_is_word.b .nil passT (pa_cons (pv 1) pa_nil)))))))) (pss_one (ps_ret pe_non)) pss_nil) (pss_one (ps_try_only rfl rfl ⟨by rfl, by decide, .inl MM.g_BadTerm⟩ takes0 (fun W pn xe tk _ => (pss_one (ps_ret (pe_tup (pa_cons (pv 1) (pa_cons (pe_callS H_read_term.F (hr.mono (by omega)) (by rfl) H_read_term.g H_read_term.kp H_read_term.b (fun σ => passAt tk σ) (pa_cons (pv 3) pa_nil)) pa_nil)))))) (fun a oe cls d pn _ _ => (pss_one (ps_ret pe_non))))))), (sim_seq (sim_asg (sim_gT (n := 3) (sim_gsCons (sim_gN (ps := [0, 1, 2, 3]) (i := 1) (by decide)) (sim_gsCons (sim_gN (ps := [0, 1, 2, 3]) (i := 2) (by decide)) (sim_gsCons (sim_gN (ps := [0, 1, 2, 3]) (i := 3) (by decide)) sim_gsNil)))) (sim_part (sim_var 0) sim_str)) (sim_seq (sim_if (sim_or (sim_test (sim_op s_gt (sim_cb1 s_len (sim_var 0)) sim_int)) (sim_or (sim_test (sim_op s_eq (sim_var 2) sim_str)) (sim_not (sim_tB (sim_callT (sim_cons (sim_var 1) sim_nil)))))) (sim_ret sim_non) sim_next) (sim_try0 (fun W => (sim_ret (sim_tup (sim_cons (sim_var 1) (sim_cons (sim_callS (sim_cons (sim_var 3) sim_nil)) sim_nil))))) (fun a cls d => (sim_ret sim_non)) (List.forall_mem_cons.mpr ⟨MM.m_BadTerm_BadTerm, (fun _ h => nomatch h)⟩))))⟩
include G MM in
theorem ok_read_rows {fd_read_row fd_read_rows : FuncData} (H_read_row : Ok c mg base CX0 45 (Str.ofString "read_row") [(Str.ofString "row")] m_read_row fd_read_row) {fI_BadRows : Addr} {fdI_BadRows : FuncData} (X_BadRows : Xc c mg base (Str.ofString "BadRows") [(Str.ofString "self"), (Str.ofString "row")] 1 (fun ws => [(Str.ofString "row"), (Str.ofString "word")].zip (ws ++ [.str (Str.ofString "rows")])) fI_BadRows fdI_BadRows) (D_read_rows : Df c mg (Str.ofString "read_rows") (Str.ofString "read_rows") s_read_rows [(Str.ofString "text")] fd_read_rows)   : Ok c mg base (L2.CX c.P c.w) 46 (Str.ofString "read_rows") [(Str.ofString "text")] m_read_rows fd_read_rows :=
  okX (k := 45) D_read_rows sc_read_rows fun cdv A outer s H E hr => ⟨_, (pss_cons (ps_set (i := 1) sc_read_rows.nd rfl (Or.inl rfl) (pe_lst pa_nil)) (pss_cons (ps_set (i := 2) sc_read_rows.nd rfl (Or.inl rfl) (pe_callTy0 cr_set0K (by rfl) G.z_set (by decide +kernel))) (pss_cons (ps_for (passes_of rfl) rfl (pi_enum (by rfl) G.z_enumerate (pa_cons (pe_split (pv 0) pe_str) pa_nil)) (pg_tup rfl (pgs_cons (pg_name (i := 3) sc_read_rows.nd rfl (Or.inl rfl)) (pgs_cons (pg_name (i := 4) sc_read_rows.nd rfl (Or.inl rfl)) pgs_nil))) (pss_cons (ps_set (i := 5) sc_read_rows.nd rfl (Or.inl rfl) (pe_call (E := ET) H_read_row.F (hr.mono (by omega)) (by rfl) H_read_row.g H_read_row.kp H_read_row.b .nil passT (pa_cons (pv 4) pa_nil))) (pss_cons (ps_if (PW.pt (pw_or (pt_cmpR op_isN (pv 5) pe_non (nomark _)) (pw_or (pt_cmpR or_sinK (pe_ix ix_seq (pv 5) pe_int (fun _ _ => rfl)) (pv 2) (by rfl)) (pw_or1 (pt_cmpR op_ge (pv 3) (pe_globI (by rfl) G.c_ROWS) (nomark _)))))) (pss_one (ps_raise rfl (takes_of rfl rfl rfl rfl) (pmk_oex X_BadRows.T X_BadRows.iC X_BadRows.tI X_BadRows.F (hr.mono (by omega)) X_BadRows.b .nil passF (by rfl) X_BadRows.g (pa_cons (pv 3) pa_nil)))) pss_nil) (pss_cons (ps_expr (pe_saddK (pv 2) (pa_cons (pe_ix ix_seq (pv 5) pe_int (fun _ _ => rfl)) pa_nil))) (pss_one (ps_expr (pe_bm PySem.F.plainAttrs_list PySem.F.slot_list_append PySem.F.type_list_append mt_append (pv 1) (pa_cons (pv 5) pa_nil)))))))) (pss_one (ps_ret (pv 1)))))), (sim_seq (sim_set (sim_lst sim_nil)) (sim_seq (sim_set (sim_cb s_set0 sim_nil)) (sim_seq (sim_for (sim_iE (sim_cons (sim_split (sim_var 0) sim_str) sim_nil)) (sim_gT (n := 2) (sim_gsCons (sim_gN (ps := [0, 1, 2, 3, 4, 5]) (i := 3) (by decide)) (sim_gsCons (sim_gN (ps := [0, 1, 2, 3, 4, 5]) (i := 4) (by decide)) sim_gsNil))) (sim_seq (sim_asg (sim_gN (ps := [5]) (i := 5) (by decide)) (sim_callT (sim_cons (sim_var 4) sim_nil))) (sim_seq (sim_if (sim_or (sim_test (sim_op s_isN (sim_var 5) sim_non)) (sim_or (sim_test (sim_op s_inSet (sim_op s_ix (sim_var 5) sim_int) (sim_var 2))) (sim_test (sim_op s_ge (sim_var 3) sim_int)))) (sim_raise1 (sim_cons (sim_var 3) sim_nil)) sim_next) (sim_seq (sim_addV (sim_op s_ix (sim_var 5) sim_int)) (sim_appV (sim_var 5)))))) (sim_ret (sim_var 1)))))⟩
include G MM in
theorem ok_law_bag {fd_law_bag : FuncData}   (D_law_bag : Df c mg (Str.ofString "_law_bag") (Str.ofString "_law_bag") s_law_bag [(Str.ofString "_law_script")] fd_law_bag)   : Ok c mg base CX0 1 (Str.ofString "_law_bag") [(Str.ofString "_law_script")] m_law_bag fd_law_bag :=
  ok0 (k := 0) D_law_bag sc_law_bag fun cdv A outer s H E hr => ⟨_, (pss_one (ps_ret (pe_lst (pa_cons (pe_op op_addU (pe_lc (own := [((Str.ofString "_law_cell"), 1)]) (by rfl) sc_law_bag.nd (pi_list (pe_slice sl_U (pv 0) po_none (po_some pe_int))) (blkOk_by (own := [((Str.ofString "_law_cell"), 1)]) (N := [(Str.ofString "_law_script"), (Str.ofString "_law_cell")]) (sc := defScope s_law_bag) (by decide +kernel)) (fun _ _ _ _ _ => (pg_name (i := 1) sc_law_bag.nd rfl (Or.inl rfl))) (fun _ _ _ _ _ => pts_nil) (fun _ _ _ _ _ => (pe_callB call_abs (by rfl) G.z_abs (by decide +kernel) (pa_cons (pv 1) pa_nil)))) (pe_lst (pa_cons pe_int pa_nil))) (pa_cons pe_int (pa_cons pe_int pa_nil)))))), (sim_ret (sim_lstR (sim_cons (sim_op s_addR (sim_lc (vs := [1]) (sim_iL (sim_sl (sim_var 0) sim_oNo (sim_oSm sim_int))) (sim_gN (i := 1) (by decide)) sim_yes (sim_cb1 s_abs (sim_var 1))) (sim_lst (sim_cons sim_int sim_nil))) (sim_cons sim_int (sim_cons sim_int sim_nil)))))⟩
include G MM in
theorem ok_law_pull {fd_law_pull : FuncData}   (D_law_pull : Df c mg (Str.ofString "_law_pull") (Str.ofString "_law_pull") s_law_pull [(Str.ofString "_law_bag_here"), (Str.ofString "_law_lot")] fd_law_pull)   : Ok c mg base CX0 1 (Str.ofString "_law_pull") [(Str.ofString "_law_bag_here"), (Str.ofString "_law_lot")] m_law_pull fd_law_pull :=
  ok0 (k := 0) D_law_pull sc_law_pull fun cdv A outer s H E hr => ⟨_, (pss_cons (ps_set (i := 2) sc_law_pull.nd rfl (Or.inl rfl) (pe_ix ix_seq (pv 0) pe_int (fun _ _ => rfl))) (pss_cons (ps_set (i := 3) sc_law_pull.nd rfl (Or.inl rfl) (pe_op op_mod (pe_ix ix_seq (pv 0) pe_int (fun _ _ => rfl)) (pe_callB call_len (by rfl) G.z_len (by decide +kernel) (pa_cons (pv 2) pa_nil)))) (pss_cons (ps_set (i := 4) sc_law_pull.nd rfl (Or.inl rfl) (pe_ix ix_seq (pv 2) (pv 3) (fun _ _ => rfl))) (pss_cons (ps_if (pt_cmpR op_ge (pv 4) (pe_op op_pow pe_int pe_int) (nomark _)) (pss_cons (ps_asg (pe_op op_fdiv (pv 4) (pv 1)) (pg_sub (pv 2) (pv 3) set_list)) (pss_one (ps_ret (pe_op op_mod (pv 4) (pv 1))))) pss_nil) (pss_cons (ps_asg (pe_op op_addU (pe_ix ix_seq (pv 0) pe_int (fun _ _ => rfl)) pe_int) (pg_sub (pv 0) pe_int set_list)) (pss_cons (ps_asg (pe_op op_mod (pe_op op_mulU (pe_op op_addU (pe_op op_addU (pe_ix ix_seq (pv 0) pe_int (fun _ _ => rfl)) (pe_op op_mod (pv 4) pe_int)) pe_int) pe_int) pe_int) (pg_sub (pv 0) pe_int set_list)) (pss_one (ps_ret (pe_op op_mod (pe_op op_fdiv (pe_ix ix_seq (pv 0) pe_int (fun _ _ => rfl)) pe_int) (pv 1)))))))))), (sim_seq (sim_set (sim_op s_ix (sim_var 0) sim_int)) (sim_seq (sim_asg (sim_gN (ps := [3]) (i := 3) (by decide)) (sim_op s_mod (sim_op s_ix (sim_var 0) sim_int) (sim_cb1 s_len (sim_var 2)))) (sim_seq (sim_asg (sim_gN (ps := [4]) (i := 4) (by decide)) (sim_op s_ix (sim_var 2) (sim_var 3))) (sim_seq (sim_if (sim_test (sim_op s_ge (sim_var 4) (sim_op s_pow sim_int sim_int))) (sim_seq (sim_putR (sim_var 2) (sim_var 3) (sim_op s_fdiv (sim_var 4) (sim_var 1))) (sim_ret (sim_op s_mod (sim_var 4) (sim_var 1)))) sim_next) (sim_seq (sim_putR (sim_var 0) sim_int (sim_op s_add (sim_op s_ix (sim_var 0) sim_int) sim_int)) (sim_seq (sim_putR (sim_var 0) sim_int (sim_op s_mod (sim_op s_mul (sim_op s_add (sim_op s_add (sim_op s_ix (sim_var 0) sim_int) (sim_op s_mod (sim_var 4) sim_int)) sim_int) sim_int) sim_int)) (sim_ret (sim_op s_mod (sim_op s_fdiv (sim_op s_ix (sim_var 0) sim_int) sim_int) (sim_var 1)))))))))⟩
include G MM in
theorem okr_law_same {fd_law_same : FuncData}   (D_law_same : Df c mg (Str.ofString "_law_same") (Str.ofString "_law_same") s_law_same [(Str.ofString "_law_found"), (Str.ofString "_law_due")] fd_law_same)   : ∀ n : Nat, Ok c mg base CX0 (1 + n) (Str.ofString "_law_same") [(Str.ofString "_law_found"), (Str.ofString "_law_due")] (m_law_same n) fd_law_same
  | 0 => (Ok.bad D_law_same : Ok c mg base _ 1 (Str.ofString "_law_same") [(Str.ofString "_law_found"), (Str.ofString "_law_due")] _ fd_law_same)
  | n + 1 => by
    have h_law_same := okr_law_same D_law_same n
    exact
      ok0 (k := 1 + n) D_law_same sc_law_same fun cdv A outer s H E hr => ⟨_, (pss_cons (ps_if (pt_val (pe_callB call_isiT (by rfl) G.z_isinstance (by decide +kernel) (pa_cons (pv 1) (pa_cons (pe_tup (pa_cons (pe_bltn (v := .ty "list") (by rfl) G.z_list (by decide +kernel) rfl) (pa_cons (pe_bltn (v := .ty "tuple") (by rfl) G.z_tuple (by decide +kernel) rfl) pa_nil))) pa_nil)))) (pss_cons (ps_if (PW.pt (pw_or (pt_cmpR (op_neD hr.units) (pe_callB call_isi (by rfl) G.z_isinstance (by decide +kernel) (pa_cons (pv 1) (pa_cons (pe_bltn (v := .ty "list") (by rfl) G.z_list (by decide +kernel) rfl) pa_nil))) (pe_callB call_isi (by rfl) G.z_isinstance (by decide +kernel) (pa_cons (pv 0) (pa_cons (pe_bltn (v := .ty "list") (by rfl) G.z_list (by decide +kernel) rfl) pa_nil))) (nomark _)) (pw_or1 (pt_cmpR (op_neD hr.units) (pe_callB call_isi (by rfl) G.z_isinstance (by decide +kernel) (pa_cons (pv 1) (pa_cons (pe_bltn (v := .ty "tuple") (by rfl) G.z_tuple (by decide +kernel) rfl) pa_nil))) (pe_callB call_isi (by rfl) G.z_isinstance (by decide +kernel) (pa_cons (pv 0) (pa_cons (pe_bltn (v := .ty "tuple") (by rfl) G.z_tuple (by decide +kernel) rfl) pa_nil))) (nomark _))))) (pss_one (ps_ret pe_bl)) pss_nil) (pss_cons (ps_if (pt_cmpR (op_neD hr.units) (pe_callB call_len (by rfl) G.z_len (by decide +kernel) (pa_cons (pv 0) pa_nil)) (pe_callB call_len (by rfl) G.z_len (by decide +kernel) (pa_cons (pv 1) pa_nil)) (nomark _)) (pss_one (ps_ret pe_bl)) pss_nil) (pss_one (ps_ret (pe_cmpR op_notIn_seq pe_bl (pe_lc (own := [((Str.ofString "_law_a"), 2), ((Str.ofString "_law_b"), 3)]) (by rfl) sc_law_same.nd (RZ.pi_zipA (by rfl) G.z_zip (pa_cons (pv 0) (pa_cons (pv 1) pa_nil))) (blkOk_by (own := [((Str.ofString "_law_a"), 2), ((Str.ofString "_law_b"), 3)]) (N := [(Str.ofString "_law_found"), (Str.ofString "_law_due"), (Str.ofString "_law_a"), (Str.ofString "_law_b")]) (sc := defScope s_law_same) (by decide +kernel)) (fun _ _ _ _ _ => (pg_tup rfl (pgs_cons (pg_name (i := 2) sc_law_same.nd rfl (Or.inl rfl)) (pgs_cons (pg_name (i := 3) sc_law_same.nd rfl (Or.inl rfl)) pgs_nil)))) (fun _ _ _ _ _ => pts_nil) (fun _ _ _ _ _ => (pe_call (E := ET) (h_law_same).F (hr.mono (by omega)) (by rfl) (h_law_same).g (h_law_same).kp (h_law_same).b .nil passT (pa_cons (pv 2) (pa_cons (pv 3) pa_nil))))) (by rfl)))))) pss_nil) (pss_cons (ps_if (pt_cmpR op_isN (pv 1) pe_non (nomark _)) (pss_one (ps_ret (pe_cmpR op_isN (pv 0) pe_non (nomark _)))) pss_nil) (pss_cons (ps_if (PW.pt (pw_or (pt_cmpR (op_neD hr.units) (pe_callB call_isi (by rfl) G.z_isinstance (by decide +kernel) (pa_cons (pv 1) (pa_cons (pe_bltn (v := .ty "str") (by rfl) G.z_str (by decide +kernel) rfl) pa_nil))) (pe_callB call_isi (by rfl) G.z_isinstance (by decide +kernel) (pa_cons (pv 0) (pa_cons (pe_bltn (v := .ty "str") (by rfl) G.z_str (by decide +kernel) rfl) pa_nil))) (nomark _)) (pw_or1 (pt_cmpR (op_neD hr.units) (pe_callB call_isi (by rfl) G.z_isinstance (by decide +kernel) (pa_cons (pv 1) (pa_cons (pe_bltn (v := .ty "bool") (by rfl) G.z_bool (by decide +kernel) rfl) pa_nil))) (pe_callB call_isi (by rfl) G.z_isinstance (by decide +kernel) (pa_cons (pv 0) (pa_cons (pe_bltn (v := .ty "bool") (by rfl) G.z_bool (by decide +kernel) rfl) pa_nil))) (nomark _))))) (pss_one (ps_ret pe_bl)) pss_nil) (pss_one (ps_ret (pe_and (pe_callB call_isiT (by rfl) G.z_isinstance (by decide +kernel) (pa_cons (pv 0) (pa_cons (pe_tup (pa_cons (pe_bltn (v := .ty "int") (by rfl) G.z_int (by decide +kernel) rfl) (pa_cons (pe_bltn (v := .ty "str") (by rfl) G.z_str (by decide +kernel) rfl) pa_nil))) pa_nil))) (pe_one (pe_cmpR (op_eqD hr.units) (pv 0) (pv 1) (nomark _))))))))), (sim_seq (sim_if (sim_tB (sim_isi2 (sim_var 1))) (sim_seq (sim_if (sim_or (sim_test (sim_op s_ne (sim_isi (sim_var 1)) (sim_isi (sim_var 0)))) (sim_test (sim_op s_ne (sim_isi (sim_var 1)) (sim_isi (sim_var 0))))) (sim_ret sim_bl) sim_next) (sim_seq (sim_if (sim_test (sim_op s_ne (sim_cb1 s_len (sim_var 0)) (sim_cb1 s_len (sim_var 1)))) (sim_ret sim_bl) sim_next) (sim_ret (sim_op s_notIn sim_bl (sim_lc (vs := [2, 3]) (sim_iZ (sim_cons (sim_var 0) (sim_cons (sim_var 1) sim_nil))) (sim_gT (n := 2) (sim_gsCons (sim_gN (i := 2) (by decide)) (sim_gsCons (sim_gN (i := 3) (by decide)) sim_gsNil))) sim_yes (sim_callT (sim_cons (sim_var 2) (sim_cons (sim_var 3) sim_nil)))))))) sim_next) (sim_seq (sim_if (sim_test (sim_op s_isN (sim_var 1) sim_non)) (sim_ret (sim_op s_isN (sim_var 0) sim_non)) sim_next) (sim_seq (sim_if (sim_or (sim_test (sim_op s_ne (sim_isi (sim_var 1)) (sim_isi (sim_var 0)))) (sim_test (sim_op s_ne (sim_isi (sim_var 1)) (sim_isi (sim_var 0))))) (sim_ret sim_bl) sim_next) (sim_ret (sim_andV (sim_isi2 (sim_var 0)) (sim_op s_eq (sim_var 0) (sim_var 1)))))))⟩
include G MM in
theorem ok_law_of {fd_law_pull fd_law_of : FuncData} (H_law_pull : Ok c mg base CX0 1 (Str.ofString "_law_pull") [(Str.ofString "_law_bag_here"), (Str.ofString "_law_lot")] m_law_pull fd_law_pull)  (D_law_of : Df c mg (Str.ofString "_law_of") (Str.ofString "_law_of") s_law_of [(Str.ofString "_law_bag_here"), (Str.ofString "_law_some")] fd_law_of)   : Ok c mg base CX0 2 (Str.ofString "_law_of") [(Str.ofString "_law_bag_here"), (Str.ofString "_law_some")] m_law_of fd_law_of :=
  ok0 (k := 1) D_law_of sc_law_of fun cdv A outer s H E hr => ⟨_, (pss_one (ps_ret (pe_ix ix_seq (pv 1) (pe_call (E := ET) H_law_pull.F (hr.mono (by omega)) (by rfl) H_law_pull.g H_law_pull.kp H_law_pull.b .nil passT (pa_cons (pv 0) (pa_cons (pe_callB call_len (by rfl) G.z_len (by decide +kernel) (pa_cons (pv 1) pa_nil)) pa_nil))) (fun _ _ => rfl)))), (sim_ret (sim_op s_ix (sim_var 1) (sim_callT (sim_cons (sim_var 0) (sim_cons (sim_cb1 s_len (sim_var 1)) sim_nil)))))⟩
include G MM in
theorem ok_law_words {fd_law_pull fd_law_of fd_law_words : FuncData} (H_law_pull : Ok c mg base CX0 1 (Str.ofString "_law_pull") [(Str.ofString "_law_bag_here"), (Str.ofString "_law_lot")] m_law_pull fd_law_pull) (H_law_of : Ok c mg base CX0 2 (Str.ofString "_law_of") [(Str.ofString "_law_bag_here"), (Str.ofString "_law_some")] m_law_of fd_law_of)  (D_law_words : Df c mg (Str.ofString "_law_words") (Str.ofString "_law_words") s_law_words [(Str.ofString "_law_bag_here"), (Str.ofString "_law_few")] fd_law_words)   : Ok c mg base CX0 3 (Str.ofString "_law_words") [(Str.ofString "_law_bag_here"), (Str.ofString "_law_few")] m_law_words fd_law_words :=
  ok0 (k := 2) D_law_words sc_law_words fun cdv A outer s H E hr => ⟨_, (pss_cons (ps_set (i := 2) sc_law_words.nd rfl (Or.inr rfl) pe_str) (pss_cons (ps_set (i := 3) sc_law_words.nd rfl (Or.inl rfl) (pe_op op_addU pe_int (pe_call (E := ET) H_law_pull.F (hr.mono (by omega)) (by rfl) H_law_pull.g H_law_pull.kp H_law_pull.b .nil passT (pa_cons (pv 0) (pa_cons pe_int pa_nil))))) (pss_cons (ps_setLc (i := 4) (own := [((Str.ofString "_law_k"), 9)]) (by rfl) sc_law_words.nd rfl rfl (sw_true rfl rfl rfl (by decide +kernel)) (pi_range1 (by rfl) G.z_range (pa_cons (pv 3) pa_nil)) (blkOk_by (own := [((Str.ofString "_law_k"), 9)]) (N := [(Str.ofString "_law_bag_here"), (Str.ofString "_law_few"), (Str.ofString "_law_letters"), (Str.ofString "_law_size"), (Str.ofString "_law_base"), (Str.ofString "_law_spot"), (Str.ofString "_law_first"), (Str.ofString "_law_step"), (Str.ofString "_law_found"), (Str.ofString "_law_k")]) (sc := defScope s_law_words) (by decide +kernel)) (fun _ _ _ _ _ => (pg_name (i := 9) sc_law_words.nd rfl (Or.inl rfl))) (fun _ _ _ _ _ => pts_nil) (fun _ _ _ _ _ => (pe_call (E := ET) H_law_of.F (hr.mono (by omega)) (by rfl) H_law_of.g H_law_of.kp H_law_of.b .nil passT (pa_cons (pv 0) (pa_cons (pv 2) pa_nil))))) (pss_cons (ps_if (pt_cmpR (op_eqD hr.units) (pe_call (E := ET) H_law_pull.F (hr.mono (by omega)) (by rfl) H_law_pull.g H_law_pull.kp H_law_pull.b .nil passT (pa_cons (pv 0) (pa_cons pe_int pa_nil))) pe_int (nomark _)) (pss_one (ps_set (i := 4) sc_law_words.nd rfl (Or.inl rfl) (pe_op op_mulU (pe_lst (pa_cons (pe_ix ix_seq (pv 4) pe_int (fun _ _ => rfl)) pa_nil)) (pv 3)))) pss_nil) (pss_cons (ps_set (i := 5) sc_law_words.nd rfl (Or.inl rfl) (pe_call (E := ET) H_law_pull.F (hr.mono (by omega)) (by rfl) H_law_pull.g H_law_pull.kp H_law_pull.b .nil passT (pa_cons (pv 0) (pa_cons (pv 3) pa_nil)))) (pss_cons (ps_set (i := 6) sc_law_words.nd rfl (Or.inl rfl) (pe_call (E := ET) H_law_pull.F (hr.mono (by omega)) (by rfl) H_law_pull.g H_law_pull.kp H_law_pull.b .nil passT (pa_cons (pv 0) (pa_cons pe_int pa_nil)))) (pss_cons (ps_set (i := 7) sc_law_words.nd rfl (Or.inl rfl) (pe_call (E := ET) H_law_of.F (hr.mono (by omega)) (by rfl) H_law_of.g H_law_of.kp H_law_of.b .nil passT (pa_cons (pv 0) (pa_cons (pe_lst (pa_cons pe_int (pa_cons pe_int (pa_cons pe_int (pa_cons pe_int (pa_cons pe_int (pa_cons pe_int pa_nil))))))) pa_nil)))) (pss_cons (ps_set (i := 8) sc_law_words.nd rfl (Or.inl rfl) (pe_lst pa_nil)) (pss_cons (ps_for (PassesOwn.never) rfl (pi_range1 (by rfl) G.z_range (pa_cons (pv 1) pa_nil)) (pg_name (i := 9) sc_law_words.nd rfl (Or.inl rfl)) (pss_cons (ps_asg (pe_ix ix_seq (pv 2) (pe_op op_mod (pe_op op_addU (pv 6) (pe_op op_mulU (pv 7) (pv 9))) pe_int) (fun _ _ => rfl)) (pg_sub (pv 4) (pv 5) set_list)) (pss_one (ps_expr (pe_bm PySem.F.plainAttrs_list PySem.F.slot_list_append PySem.F.type_list_append mt_append (pv 8) (pa_cons (pe_join pe_str (pv 4)) pa_nil)))))) (pss_one (ps_ret (pv 8)))))))))))), (sim_seq (sim_asg (sim_gN (ps := [2]) (i := 2) (by decide)) sim_str) (sim_seq (sim_asg (sim_gN (ps := [3]) (i := 3) (by decide)) (sim_op s_add sim_int (sim_callT (sim_cons (sim_var 0) (sim_cons sim_int sim_nil))))) (sim_seq (sim_set (sim_lc (vs := [9]) (sim_iR1 (sim_cons (sim_var 3) sim_nil)) (sim_gN (i := 9) (by decide)) sim_yes (sim_callT (sim_cons (sim_var 0) (sim_cons (sim_var 2) sim_nil))))) (sim_seq (sim_if (sim_test (sim_op s_eq (sim_callT (sim_cons (sim_var 0) (sim_cons sim_int sim_nil))) sim_int)) (sim_set (sim_op s_mul (sim_lst (sim_cons (sim_op s_ix (sim_var 4) sim_int) sim_nil)) (sim_var 3))) sim_next) (sim_seq (sim_asg (sim_gN (ps := [5]) (i := 5) (by decide)) (sim_callT (sim_cons (sim_var 0) (sim_cons (sim_var 3) sim_nil)))) (sim_seq (sim_asg (sim_gN (ps := [6]) (i := 6) (by decide)) (sim_callT (sim_cons (sim_var 0) (sim_cons sim_int sim_nil)))) (sim_seq (sim_asg (sim_gN (ps := [7]) (i := 7) (by decide)) (sim_callT (sim_cons (sim_var 0) (sim_cons (sim_lst (sim_cons sim_int (sim_cons sim_int (sim_cons sim_int (sim_cons sim_int (sim_cons sim_int (sim_cons sim_int sim_nil))))))) sim_nil)))) (sim_seq (sim_set (sim_lst sim_nil)) (sim_seq (sim_for (sim_iR1 (sim_cons (sim_var 1) sim_nil)) (sim_gN (ps := [0, 1, 2, 3, 4, 5, 6, 7, 8, 9]) (i := 9) (by decide)) (sim_seq (sim_putV (sim_var 5) (sim_op s_ix (sim_var 2) (sim_op s_mod (sim_op s_add (sim_var 6) (sim_op s_mul (sim_var 7) (sim_var 9))) sim_int))) (sim_appV (sim_join sim_str (sim_var 4))))) (sim_ret (sim_var 8)))))))))))⟩
include G MM in
theorem ok_law_is_word {fd_law_is_word : FuncData}   (D_law_is_word : Df c mg (Str.ofString "_law_is_word") (Str.ofString "_law_is_word") s_law_is_word [(Str.ofString "_law_text")] fd_law_is_word)   : Ok c mg base CX0 1 (Str.ofString "_law_is_word") [(Str.ofString "_law_text")] m_law_is_word fd_law_is_word :=
  ok0 (k := 0) D_law_is_word sc_law_is_word fun cdv A outer s H E hr => ⟨_, (pss_one (ps_ret (pe_and (pe_chain op_le op_le pe_int (pe_callB call_len (by rfl) G.z_len (by decide +kernel) (pa_cons (pv 0) pa_nil)) pe_int) (pe_one (pe_callB (cr_all rfl) (by rfl) G.z_all (by decide +kernel) (pa_cons (pe_lc (own := [((Str.ofString "_law_sign"), 1)]) (by rfl) sc_law_is_word.nd (pi_str (pv 0)) (blkOk_by (own := [((Str.ofString "_law_sign"), 1)]) (N := [(Str.ofString "_law_text"), (Str.ofString "_law_sign")]) (sc := defScope s_law_is_word) (by decide +kernel)) (fun _ _ _ _ _ => (pg_name (i := 1) sc_law_is_word.nd rfl (Or.inl rfl))) (fun _ _ _ _ _ => pts_nil) (fun _ _ _ _ _ => (pe_cmpR op_in_sign (pv 1) pe_str (by rfl)))) pa_nil)))))), (sim_ret (sim_andV (sim_chain s_le s_le sim_int (sim_cb1 s_len (sim_var 0)) sim_int) (sim_cb1 s_all (sim_lc (vs := [1]) (sim_iS (sim_var 0)) (sim_gN (i := 1) (by decide)) sim_yes (sim_op s_inSg (sim_var 1) sim_str)))))⟩
include G MM in
theorem okr_law_read {fd_law_is_word fd_law_read : FuncData} (H_law_is_word : Ok c mg base CX0 1 (Str.ofString "_law_is_word") [(Str.ofString "_law_text")] m_law_is_word fd_law_is_word)  (D_law_read : Df c mg (Str.ofString "_law_read") (Str.ofString "_law_read") s_law_read [(Str.ofString "_law_text"), (Str.ofString "_law_at"), (Str.ofString "_law_deep")] fd_law_read)   : ∀ n : Nat, Ok c mg base CX0 (2 + n) (Str.ofString "_law_read") [(Str.ofString "_law_text"), (Str.ofString "_law_at"), (Str.ofString "_law_deep")] (m_law_read n) fd_law_read
  | 0 => (Ok.bad D_law_read : Ok c mg base _ 2 (Str.ofString "_law_read") [(Str.ofString "_law_text"), (Str.ofString "_law_at"), (Str.ofString "_law_deep")] _ fd_law_read)
  | n + 1 => by
    have h_law_read := okr_law_read H_law_is_word D_law_read n
    exact
      ok0 (k := 2 + n) D_law_read sc_law_read fun cdv A outer s H E hr => ⟨_, (pss_cons (ps_set (i := 3) sc_law_read.nd rfl (Or.inl rfl) (pe_op op_addU (pv 1) (pe_callTy call_int1 (by rfl) G.z_int (by decide +kernel) (pa_cons (pe_cmpR (op_eqD hr.units) (pe_slice sl_U (pv 0) (po_some (pv 1)) (po_some (pe_op op_addU (pv 1) pe_int))) pe_str (nomark _)) pa_nil)))) (pss_cons (ps_set (i := 4) sc_law_read.nd rfl (Or.inl rfl) (pv 3)) (pss_cons (ps_while (PassesOwn.never) (PW.pt (pw_and (pt_cmpR op_lt (pv 4) (pe_callB call_len (by rfl) G.z_len (by decide +kernel) (pa_cons (pv 0) pa_nil)) (nomark _)) (pw_and1 (pt_cmpR op_in_sign (pe_ix ix_seq (pv 0) (pv 4) (fun _ _ => rfl)) pe_str (by rfl))))) (pss_one (ps_set (i := 4) sc_law_read.nd rfl (Or.inl rfl) (pe_op op_addU (pv 4) pe_int)))) (pss_cons (ps_set (i := 5) sc_law_read.nd rfl (Or.inl rfl) (pe_slice sl_U (pv 0) (po_some (pv 3)) (po_some (pv 4)))) (pss_cons (ps_if (PW.pt (pw_or (pt_cmpR op_gt (pv 2) pe_int (nomark _)) (pw_or1 (pt_not (pt_val (pe_call (E := ET) H_law_is_word.F (hr.mono (by omega)) (by rfl) H_law_is_word.g H_law_is_word.kp H_law_is_word.b .nil passT (pa_cons (pv 5) pa_nil))))))) (pss_one (ps_ret (pe_tup (pa_cons pe_non (pa_cons pe_int pa_nil))))) pss_nil) (pss_cons (ps_if (pt_cmpR op_gt (pv 3) (pv 1) (nomark _)) (pss_one (ps_ret (pe_tup (pa_cons (pe_tup (pa_cons pe_str (pa_cons (pv 5) pa_nil))) (pa_cons (pv 4) pa_nil))))) pss_nil) (pss_cons (ps_if (pt_cmpR (op_neD hr.units) (pe_slice sl_U (pv 0) (po_some (pv 4)) (po_some (pe_op op_addU (pv 4) pe_int))) pe_str (nomark _)) (pss_one (ps_ret (pe_tup (pa_cons (pe_tup (pa_cons pe_str (pa_cons (pv 5) pa_nil))) (pa_cons (pv 4) pa_nil))))) pss_nil) (pss_cons (ps_set (i := 6) sc_law_read.nd rfl (Or.inl rfl) (pe_lst pa_nil)) (pss_cons (ps_set (i := 4) sc_law_read.nd rfl (Or.inl rfl) (pe_op op_addU (pv 4) pe_int)) (pss_cons (ps_while (PassesOwn.never) (PW.pt (pw_or (pt_cmpR (op_neD hr.units) (pe_slice sl_U (pv 0) (po_some (pv 4)) (po_some (pe_op op_addU (pv 4) pe_int))) pe_str (nomark _)) (pw_or1 (pt_cmpR (op_neD hr.units) (pv 6) (pe_lst pa_nil) (nomark _))))) (pss_cons (ps_asg (pe_call (E := ET) (h_law_read).F (hr.mono (by omega)) (by rfl) (h_law_read).g (h_law_read).kp (h_law_read).b .nil passT (pa_cons (pv 0) (pa_cons (pv 4) (pa_cons (pe_op op_addU (pv 2) pe_int) pa_nil)))) (pg_tup rfl (pgs_cons (pg_name (i := 7) sc_law_read.nd rfl (Or.inl rfl)) (pgs_cons (pg_name (i := 4) sc_law_read.nd rfl (Or.inl rfl)) pgs_nil)))) (pss_cons (ps_expr (pe_bm PySem.F.plainAttrs_list PySem.F.slot_list_append PySem.F.type_list_append mt_append (pv 6) (pa_cons (pv 7) pa_nil))) (pss_cons (ps_if (PW.pt (pw_or (pt_cmpR op_isN (pv 7) pe_non (nomark _)) (pw_or1 (pt_cmpR op_gt (pe_callB call_len (by rfl) G.z_len (by decide +kernel) (pa_cons (pv 6) pa_nil)) pe_int (nomark _))))) (pss_one (ps_ret (pe_tup (pa_cons pe_non (pa_cons pe_int pa_nil))))) pss_nil) (pss_cons (ps_if (pt_cmpR (op_eqD hr.units) (pe_slice sl_U (pv 0) (po_some (pv 4)) (po_some (pe_op op_addU (pv 4) pe_int))) pe_str (nomark _)) (pss_one ps_break) pss_nil) (pss_cons (ps_if (pt_cmpR (op_neD hr.units) (pe_slice sl_U (pv 0) (po_some (pv 4)) (po_some (pe_op op_addU (pv 4) pe_int))) pe_str (nomark _)) (pss_one (ps_ret (pe_tup (pa_cons pe_non (pa_cons pe_int pa_nil))))) pss_nil) (pss_one (ps_set (i := 4) sc_law_read.nd rfl (Or.inl rfl) (pe_op op_addU (pv 4) pe_int))))))))) (pss_one (ps_ret (pe_tup (pa_cons (pe_tup (pa_cons pe_str (pa_cons (pv 5) (pa_cons (pe_callTy call_tuple_of (by rfl) G.z_tuple (by decide +kernel) (pa_cons (pv 6) pa_nil)) pa_nil)))) (pa_cons (pe_op op_addU (pv 4) pe_int) pa_nil))))))))))))))), (sim_seq (sim_asg (sim_gN (ps := [3]) (i := 3) (by decide)) (sim_op s_add (sim_var 1) (sim_cb1 s_int1 (sim_op s_eq (sim_sl (sim_var 0) (sim_oSm (sim_var 1)) (sim_oSm (sim_op s_add (sim_var 1) sim_int))) sim_str)))) (sim_seq (sim_asg (sim_gN (ps := [4]) (i := 4) (by decide)) (sim_var 3)) (sim_seq (sim_while (sim_and (sim_test (sim_op s_lt (sim_var 4) (sim_cb1 s_len (sim_var 0)))) (sim_test (sim_op s_inSg (sim_op s_ix (sim_var 0) (sim_var 4)) sim_str))) (sim_asg (sim_gN (ps := [4]) (i := 4) (by decide)) (sim_op s_add (sim_var 4) sim_int))) (sim_seq (sim_asg (sim_gN (ps := [5]) (i := 5) (by decide)) (sim_sl (sim_var 0) (sim_oSm (sim_var 3)) (sim_oSm (sim_var 4)))) (sim_seq (sim_if (sim_or (sim_test (sim_op s_gt (sim_var 2) sim_int)) (sim_not (sim_tB (sim_callT (sim_cons (sim_var 5) sim_nil))))) (sim_ret (sim_tup (sim_cons sim_non (sim_cons sim_int sim_nil)))) sim_next) (sim_seq (sim_if (sim_test (sim_op s_gt (sim_var 3) (sim_var 1))) (sim_ret (sim_tup (sim_cons (sim_tup (sim_cons sim_str (sim_cons (sim_var 5) sim_nil))) (sim_cons (sim_var 4) sim_nil)))) sim_next) (sim_seq (sim_if (sim_test (sim_op s_ne (sim_sl (sim_var 0) (sim_oSm (sim_var 4)) (sim_oSm (sim_op s_add (sim_var 4) sim_int))) sim_str)) (sim_ret (sim_tup (sim_cons (sim_tup (sim_cons sim_str (sim_cons (sim_var 5) sim_nil))) (sim_cons (sim_var 4) sim_nil)))) sim_next) (sim_seq (sim_set (sim_lst sim_nil)) (sim_seq (sim_asg (sim_gN (ps := [4]) (i := 4) (by decide)) (sim_op s_add (sim_var 4) sim_int)) (sim_seq (sim_while (sim_or (sim_test (sim_op s_ne (sim_sl (sim_var 0) (sim_oSm (sim_var 4)) (sim_oSm (sim_op s_add (sim_var 4) sim_int))) sim_str)) (sim_test (sim_op s_ne (sim_var 6) (sim_lst sim_nil)))) (sim_seq (sim_asg (sim_gT (n := 2) (sim_gsCons (sim_gN (ps := [0, 1, 2, 3, 4, 5, 6, 7]) (i := 7) (by decide)) (sim_gsCons (sim_gN (ps := [0, 1, 2, 3, 4, 5, 6, 7]) (i := 4) (by decide)) sim_gsNil))) (sim_callT (sim_cons (sim_var 0) (sim_cons (sim_var 4) (sim_cons (sim_op s_add (sim_var 2) sim_int) sim_nil))))) (sim_seq (sim_appV (sim_var 7)) (sim_seq (sim_if (sim_or (sim_test (sim_op s_isN (sim_var 7) sim_non)) (sim_test (sim_op s_gt (sim_cb1 s_len (sim_var 6)) sim_int))) (sim_ret (sim_tup (sim_cons sim_non (sim_cons sim_int sim_nil)))) sim_next) (sim_seq (sim_if (sim_test (sim_op s_eq (sim_sl (sim_var 0) (sim_oSm (sim_var 4)) (sim_oSm (sim_op s_add (sim_var 4) sim_int))) sim_str)) sim_break sim_next) (sim_seq (sim_if (sim_test (sim_op s_ne (sim_sl (sim_var 0) (sim_oSm (sim_var 4)) (sim_oSm (sim_op s_add (sim_var 4) sim_int))) sim_str)) (sim_ret (sim_tup (sim_cons sim_non (sim_cons sim_int sim_nil)))) sim_next) (sim_asg (sim_gN (ps := [4]) (i := 4) (by decide)) (sim_op s_add (sim_var 4) sim_int)))))))) (sim_ret (sim_tup (sim_cons (sim_tup (sim_cons sim_str (sim_cons (sim_var 5) (sim_cons (sim_cb1 s_tupOf (sim_var 6)) sim_nil)))) (sim_cons (sim_op s_add (sim_var 4) sim_int) sim_nil))))))))))))))⟩
include G MM in
theorem ok_law_read_due {fd_law_read fd_law_read_due : FuncData} (H_law_read : Ok c mg base CX0 22 (Str.ofString "_law_read") [(Str.ofString "_law_text"), (Str.ofString "_law_at"), (Str.ofString "_law_deep")] (m_law_read 20) fd_law_read)  (D_law_read_due : Df c mg (Str.ofString "_law_read_due") (Str.ofString "_law_read_due") s_law_read_due [(Str.ofString "_law_text")] fd_law_read_due)   : Ok c mg base CX0 23 (Str.ofString "_law_read_due") [(Str.ofString "_law_text")] m_law_read_due fd_law_read_due :=
  ok0 (k := 22) D_law_read_due sc_law_read_due fun cdv A outer s H E hr => ⟨_, (pss_cons (ps_if (pt_cmpR op_gt (pe_callB call_len (by rfl) G.z_len (by decide +kernel) (pa_cons (pv 0) pa_nil)) pe_int (nomark _)) (pss_one (ps_ret pe_non)) pss_nil) (pss_cons (ps_asg (pe_call (E := ET) H_law_read.F (hr.mono (by omega)) (by rfl) H_law_read.g H_law_read.kp H_law_read.b .nil passT (pa_cons (pv 0) (pa_cons pe_int (pa_cons pe_int pa_nil)))) (pg_tup rfl (pgs_cons (pg_name (i := 1) sc_law_read_due.nd rfl (Or.inl rfl)) (pgs_cons (pg_name (i := 2) sc_law_read_due.nd rfl (Or.inl rfl)) pgs_nil)))) (pss_one (ps_ret (pe_ifExp (PW.pt (pw_and (pt_cmpR op_notN (pv 1) pe_non (nomark _)) (pw_and1 (pt_cmpR (op_eqD hr.units) (pv 2) (pe_callB call_len (by rfl) G.z_len (by decide +kernel) (pa_cons (pv 0) pa_nil)) (nomark _))))) (pv 1) pe_non))))), (sim_seq (sim_if (sim_test (sim_op s_gt (sim_cb1 s_len (sim_var 0)) sim_int)) (sim_ret sim_non) sim_next) (sim_seq (sim_asg (sim_gT (n := 2) (sim_gsCons (sim_gN (ps := [0, 1, 2]) (i := 1) (by decide)) (sim_gsCons (sim_gN (ps := [0, 1, 2]) (i := 2) (by decide)) sim_gsNil))) (sim_callT (sim_cons (sim_var 0) (sim_cons sim_int (sim_cons sim_int sim_nil))))) (sim_ret (sim_ifE (sim_and (sim_test (sim_op s_notN (sim_var 1) sim_non)) (sim_test (sim_op s_eq (sim_var 2) (sim_cb1 s_len (sim_var 0))))) (sim_var 1) sim_non))))⟩
include G MM in
theorem ok_law {fd_law_bag fd_law_words fd_law_of fd_law_pull fd_read_term fd_law_same fd_read_rows fd_law_read_due fd_deep_of fd_law : FuncData} (H_law_bag : Ok c mg base CX0 1 (Str.ofString "_law_bag") [(Str.ofString "_law_script")] m_law_bag fd_law_bag) (H_law_words : Ok c mg base CX0 3 (Str.ofString "_law_words") [(Str.ofString "_law_bag_here"), (Str.ofString "_law_few")] m_law_words fd_law_words) (H_law_of : Ok c mg base CX0 2 (Str.ofString "_law_of") [(Str.ofString "_law_bag_here"), (Str.ofString "_law_some")] m_law_of fd_law_of) (H_law_pull : Ok c mg base CX0 1 (Str.ofString "_law_pull") [(Str.ofString "_law_bag_here"), (Str.ofString "_law_lot")] m_law_pull fd_law_pull) (H_read_term : Ok c mg base (L2.CX c.P c.w) 44 (Str.ofString "read_term") [(Str.ofString "text")] m_read_term fd_read_term) (H_law_same : Ok c mg base CX0 19 (Str.ofString "_law_same") [(Str.ofString "_law_found"), (Str.ofString "_law_due")] (m_law_same 18) fd_law_same) (H_read_rows : Ok c mg base (L2.CX c.P c.w) 46 (Str.ofString "read_rows") [(Str.ofString "text")] m_read_rows fd_read_rows) (H_law_read_due : Ok c mg base CX0 23 (Str.ofString "_law_read_due") [(Str.ofString "_law_text")] m_law_read_due fd_law_read_due) (H_deep_of : Ok c mg base CX0 11 (Str.ofString "deep_of") [(Str.ofString "term")] (m_deep_of 10) fd_deep_of)  (D_law : Df c mg (Str.ofString "law") (Str.ofString "law") s_law [(Str.ofString "_law_script")] fd_law) {fd_law_why : FuncData} (D_law_why : Df c mg (Str.ofString "_law_why") (Str.ofString "_law_why") s_law_why [(Str.ofString "_law_ask")] fd_law_why) {cc_law P_law : Addr} (M_law : Mk c mg base (Str.ofString "law") (Str.ofString "law") s_law fd_law cc_law P_law) : Ok c mg base CX0 49 (Str.ofString "law") [(Str.ofString "_law_script")] m_law fd_law :=
  ok0c (k := 48) D_law M_law sc_law fun A outer s H E hr => ⟨_, (pss_cons (ps_set (i := 1) sc_law.nd rfl (Or.inr rfl) (pe_call (E := ET) H_law_bag.F (hr.mono (by omega)) (by rfl) H_law_bag.g H_law_bag.kp H_law_bag.b .nil passT (pa_cons (pv 0) pa_nil))) (pss_cons (ps_set (i := 2) sc_law.nd rfl (Or.inl rfl) (pe_call (E := ET) H_law_words.F (hr.mono (by omega)) (by rfl) H_law_words.g H_law_words.kp H_law_words.b .nil passT (pa_cons (pv 1) (pa_cons pe_int pa_nil)))) (pss_cons (ps_for (PassesOwn.never) rfl (pi_range1 (by rfl) G.z_range (pa_cons pe_int pa_nil)) (pg_name (i := 3) sc_law.nd rfl (Or.inl rfl)) (pss_cons (ps_set (i := 4) sc_law.nd rfl (Or.inl rfl) (pe_op op_addU pe_int (pe_call (E := ET) H_law_pull.F (hr.mono (by omega)) (by rfl) H_law_pull.g H_law_pull.kp H_law_pull.b .nil passT (pa_cons (pv 1) (pa_cons pe_int pa_nil))))) (pss_cons (ps_set (i := 5) sc_law.nd rfl (Or.inl rfl) (pe_call (E := ET) H_law_of.F (hr.mono (by omega)) (by rfl) H_law_of.g H_law_of.kp H_law_of.b .nil passT (pa_cons (pv 1) (pa_cons (pe_lst (pa_cons (pe_op op_addU pe_str (pe_ix ix_seq (pv 2) pe_int (fun _ _ => rfl))) (pa_cons (pe_ix ix_seq (pv 2) pe_int (fun _ _ => rfl)) (pa_cons (pe_op op_addU (pe_ix ix_seq (pv 2) pe_int (fun _ _ => rfl)) pe_str) pa_nil)))) pa_nil)))) (pss_cons (ps_set (i := 6) sc_law.nd rfl (Or.inr rfl) (pe_op op_addU (pe_op op_addU (pe_op op_addU (pe_ix ix_seq (pv 2) pe_int (fun _ _ => rfl)) pe_str) (pv 5)) pe_str)) (pss_cons (ps_for (PassesOwn.never) rfl (pi_range1 (by rfl) G.z_range (pa_cons (pe_op op_sub (pv 4) pe_int) pa_nil)) (pg_name (i := 7) sc_law.nd rfl (Or.inl rfl)) (pss_one (ps_set (i := 6) sc_law.nd rfl (Or.inr rfl) (pe_op op_addU (pe_op op_addU (pe_op op_addU (pe_call (E := ET) H_law_of.F (hr.mono (by omega)) (by rfl) H_law_of.g H_law_of.kp H_law_of.b .nil passT (pa_cons (pv 1) (pa_cons (pe_lst (pa_cons pe_str (pa_cons pe_str pa_nil))) pa_nil))) pe_str) (pv 6)) pe_str)))) (pss_cons (ps_asg (pe_why (k := 46) (by rfl) D_law_why.F D_law_why.g D_law_why.b sc_law_why rfl (Or.inl rfl) (fun cdv => gives_law_why G MM rfl rfl _ _ _) M_law.tb rfl M_law.mem M_law.uq (hr.mono (by omega)) (LamX.lamS_by (show LamX.lamSB (defScope s_law) _ = true by decide +kernel)) rfl (fun _ _ _ _ _ => rfl) (fun A outer s H E f c2 hr => (pe_call (E := E) H_read_term.F (hr.mono (by omega)) (by rfl) H_read_term.g H_read_term.kp H_read_term.b .nil (passes_call (takes_of rfl rfl rfl rfl) fun _ _ _ _ z => z) (pa_cons (pv 6) pa_nil))) (by decide) (by decide) (by decide)) (pg_tup rfl (pgs_cons (pg_name (i := 8) sc_law.nd rfl (Or.inl rfl)) (pgs_cons (pg_name (i := 9) sc_law.nd rfl (Or.inl rfl)) pgs_nil)))) (pss_cons (ps_if (PW.pt (pw_or (pt_cmpR (op_neD hr.units) (pv 9) (pe_ix ix_seq (pe_lst (pa_cons pe_str (pa_cons pe_str pa_nil))) (pe_callTy call_int1 (by rfl) G.z_int (by decide +kernel) (pa_cons (pe_cmpR op_gt (pv 4) pe_int (nomark _)) pa_nil)) (fun _ _ => rfl)) (nomark _)) (pw_or1 (PW.pt (pw_and (pt_cmpR op_lt (pv 4) pe_int (nomark _)) (pw_and1 (pt_not (pt_val (pe_call (E := ET) H_law_same.F (hr.mono (by omega)) (by rfl) H_law_same.g H_law_same.kp H_law_same.b .nil passT (pa_cons (pe_call (E := ET) H_deep_of.F (hr.mono (by omega)) (by rfl) H_deep_of.g H_deep_of.kp H_deep_of.b .nil passT (pa_cons (pv 8) pa_nil)) (pa_cons (pv 4) pa_nil))))))))))) (pss_one (ps_ret pe_bl)) pss_nil) (pss_cons (ps_set (i := 10) sc_law.nd rfl (Or.inl rfl) pe_str) (pss_cons (ps_asg (pe_lc (own := [((Str.ofString "_law_k"), 7)]) (by rfl) sc_law.nd (pi_range1 (by rfl) G.z_range (pa_cons pe_int pa_nil)) (blkOk_by (own := [((Str.ofString "_law_k"), 7)]) (N := [(Str.ofString "_law_script"), (Str.ofString "_law_bag_here"), (Str.ofString "_law_words_here"), (Str.ofString "_law_turn"), (Str.ofString "_law_deep"), (Str.ofString "_law_end"), (Str.ofString "_law_text"), (Str.ofString "_law_k"), (Str.ofString "_law_found"), (Str.ofString "_law_word"), (Str.ofString "_law_inner"), (Str.ofString "_law_x"), (Str.ofString "_law_y"), (Str.ofString "_law_z"), (Str.ofString "_law_pair"), (Str.ofString "_law_pad"), (Str.ofString "_law_tail"), (Str.ofString "_law_row")]) (sc := defScope s_law) (by decide +kernel)) (fun _ _ _ _ _ => (pg_name (i := 7) sc_law.nd rfl (Or.inl rfl))) (fun _ _ _ _ _ => pts_nil) (fun _ _ _ _ _ => (pe_slice sl_U pe_str po_none (po_some (pe_op op_addU pe_int (pe_call (E := ET) H_law_pull.F (hr.mono (by omega)) (by rfl) H_law_pull.g H_law_pull.kp H_law_pull.b .nil passT (pa_cons (pv 1) (pa_cons pe_int pa_nil)))))))) (pg_lst rfl (pgs_cons (pg_name (i := 11) sc_law.nd rfl (Or.inl rfl)) (pgs_cons (pg_name (i := 12) sc_law.nd rfl (Or.inl rfl)) (pgs_cons (pg_name (i := 13) sc_law.nd rfl (Or.inl rfl)) pgs_nil))))) (pss_cons (ps_set (i := 14) sc_law.nd rfl (Or.inl rfl) (pe_op op_addU (pe_op op_addU (pv 10) pe_str) (pv 10))) (pss_cons (ps_set (i := 6) sc_law.nd rfl (Or.inr rfl) (pe_op op_addU (pe_op op_addU (pe_op op_addU (pe_op op_addU (pe_op op_addU pe_str (pv 14)) pe_str) (pv 14)) pe_str) (pv 10))) (pss_cons (ps_set (i := 6) sc_law.nd rfl (Or.inr rfl) (pe_op op_addU (pe_op op_addU (pv 6) pe_str) (pe_join pe_str (pe_lst (pa_cons (pv 11) (pa_cons (pv 12) (pa_cons (pv 13) pa_nil))))))) (pss_cons (ps_set (i := 6) sc_law.nd rfl (Or.inr rfl) (pe_op op_addU (pe_op op_addU (pe_op op_addU (pv 6) pe_str) (pe_op op_mulS pe_str (pe_op op_addU pe_int (pe_call (E := ET) H_law_pull.F (hr.mono (by omega)) (by rfl) H_law_pull.g H_law_pull.kp H_law_pull.b .nil passT (pa_cons (pv 1) (pa_cons pe_int pa_nil)))))) pe_str)) (pss_cons (ps_asg (pe_why (k := 46) (by rfl) D_law_why.F D_law_why.g D_law_why.b sc_law_why rfl (Or.inl rfl) (fun cdv => gives_law_why G MM rfl rfl _ _ _) M_law.tb rfl M_law.mem M_law.uq (hr.mono (by omega)) (LamX.lamS_by (show LamX.lamSB (defScope s_law) _ = true by decide +kernel)) rfl (fun _ _ _ _ _ => rfl) (fun A outer s H E f c2 hr => (pe_call (E := E) H_read_term.F (hr.mono (by omega)) (by rfl) H_read_term.g H_read_term.kp H_read_term.b .nil (passes_call (takes_of rfl rfl rfl rfl) fun _ _ _ _ z => z) (pa_cons (pv 6) pa_nil))) (by decide) (by decide) (by decide)) (pg_tup rfl (pgs_cons (pg_name (i := 8) sc_law.nd rfl (Or.inl rfl)) (pgs_cons (pg_name (i := 9) sc_law.nd rfl (Or.inl rfl)) pgs_nil)))) (pss_cons (ps_if (PW.pt (pw_or (pt_not (pt_val (pe_call (E := ET) H_law_same.F (hr.mono (by omega)) (by rfl) H_law_same.g H_law_same.kp H_law_same.b .nil passT (pa_cons (pv 8) (pa_cons (pe_call (E := ET) H_law_read_due.F (hr.mono (by omega)) (by rfl) H_law_read_due.g H_law_read_due.kp H_law_read_due.b .nil passT (pa_cons (pv 6) pa_nil)) pa_nil))))) (pw_or1 (pt_cmpR (op_neD hr.units) (pv 9) (pe_ix ix_seq (pe_lst (pa_cons pe_str (pa_cons pe_str pa_nil))) (pe_callTy call_int1 (by rfl) G.z_int (by decide +kernel) (pa_cons (pe_cmpR op_isN (pv 8) pe_non (nomark _)) pa_nil)) (fun _ _ => rfl)) (nomark _))))) (pss_one (ps_ret pe_bl)) pss_nil) (pss_cons (ps_set (i := 15) sc_law.nd rfl (Or.inl rfl) (pe_op op_addU (pe_op op_addU pe_str (pe_op op_mulS pe_str pe_int)) pe_str)) (pss_cons (ps_set (i := 16) sc_law.nd rfl (Or.inl rfl) (pe_op op_addU (pe_op op_addU (pe_op op_addU (pe_op op_mulS pe_str (pe_op op_addU pe_int (pe_call (E := ET) H_law_pull.F (hr.mono (by omega)) (by rfl) H_law_pull.g H_law_pull.kp H_law_pull.b .nil passT (pa_cons (pv 1) (pa_cons pe_int pa_nil))))) pe_str) (pe_op op_mulS pe_str (pe_op op_addU pe_int (pe_call (E := ET) H_law_pull.F (hr.mono (by omega)) (by rfl) H_law_pull.g H_law_pull.kp H_law_pull.b .nil passT (pa_cons (pv 1) (pa_cons pe_int pa_nil)))))) pe_str)) (pss_cons (ps_set (i := 17) sc_law.nd rfl (Or.inr rfl) (pe_op op_addU (pe_op op_addU (pe_op op_addU (pe_op op_addU (pe_op op_addU pe_str (pv 15)) pe_str) (pv 15)) pe_str) (pv 16))) (pss_cons (ps_asg (pe_why (k := 46) (by rfl) D_law_why.F D_law_why.g D_law_why.b sc_law_why rfl (Or.inl rfl) (fun cdv => gives_law_why G MM rfl rfl _ _ _) M_law.tb rfl M_law.mem M_law.uq (hr.mono (by omega)) (LamX.lamS_by (show LamX.lamSB (defScope s_law) _ = true by decide +kernel)) rfl (fun _ _ _ _ _ => rfl) (fun A outer s H E f c2 hr => (pe_call (E := E) H_read_rows.F (hr.mono (by omega)) (by rfl) H_read_rows.g H_read_rows.kp H_read_rows.b .nil (passes_call (takes_of rfl rfl rfl rfl) fun _ _ _ _ z => z) (pa_cons (pv 17) pa_nil))) (by decide) (by decide) (by decide)) (pg_tup rfl (pgs_cons (pg_name (i := 8) sc_law.nd rfl (Or.inl rfl)) (pgs_cons (pg_name (i := 9) sc_law.nd rfl (Or.inl rfl)) pgs_nil)))) (pss_one (ps_if (pt_cmpR (op_neD hr.units) (pv 9) (pe_ix ix_seq (pe_lst (pa_cons pe_str (pa_cons pe_str pa_nil))) (pe_callTy call_int1 (by rfl) G.z_int (by decide +kernel) (pa_cons (pe_cmpR op_gt (pe_callB call_len (by rfl) G.z_len (by decide +kernel) (pa_cons (pv 17) pa_nil)) pe_int (nomark _)) pa_nil)) (fun _ _ => rfl)) (nomark _)) (pss_one (ps_ret pe_bl)) pss_nil))))))))))))))))))))) (pss_one (ps_ret pe_bl))))), (sim_seq (sim_asg (sim_gN (ps := [1]) (i := 1) (by decide)) (sim_callT (sim_cons (sim_var 0) sim_nil))) (sim_seq (sim_asg (sim_gN (ps := [2]) (i := 2) (by decide)) (sim_callT (sim_cons (sim_var 1) (sim_cons sim_int sim_nil)))) (sim_seq (sim_for (sim_iR1 (sim_cons sim_int sim_nil)) (sim_gN (ps := [0, 1, 2, 3, 4, 5, 6, 7, 8, 9, 10, 11, 12, 13, 14, 15, 16, 17]) (i := 3) (by decide)) (sim_seq (sim_asg (sim_gN (ps := [4]) (i := 4) (by decide)) (sim_op s_add sim_int (sim_callT (sim_cons (sim_var 1) (sim_cons sim_int sim_nil))))) (sim_seq (sim_asg (sim_gN (ps := [5]) (i := 5) (by decide)) (sim_callT (sim_cons (sim_var 1) (sim_cons (sim_lst (sim_cons (sim_op s_add sim_str (sim_op s_ix (sim_var 2) sim_int)) (sim_cons (sim_op s_ix (sim_var 2) sim_int) (sim_cons (sim_op s_add (sim_op s_ix (sim_var 2) sim_int) sim_str) sim_nil)))) sim_nil)))) (sim_seq (sim_asg (sim_gN (ps := [6]) (i := 6) (by decide)) (sim_op s_add (sim_op s_add (sim_op s_add (sim_op s_ix (sim_var 2) sim_int) sim_str) (sim_var 5)) sim_str)) (sim_seq (sim_for (sim_iR1 (sim_cons (sim_op s_sub (sim_var 4) sim_int) sim_nil)) (sim_gN (ps := [0, 1, 2, 3, 4, 5, 6, 7, 8, 9, 10, 11, 12, 13, 14, 15, 16, 17]) (i := 7) (by decide)) (sim_asg (sim_gN (ps := [6]) (i := 6) (by decide)) (sim_op s_add (sim_op s_add (sim_op s_add (sim_callT (sim_cons (sim_var 1) (sim_cons (sim_lst (sim_cons sim_str (sim_cons sim_str sim_nil))) sim_nil))) sim_str) (sim_var 6)) sim_str))) (sim_seq (sim_asg (sim_gT (n := 2) (sim_gsCons (sim_gN (ps := [0, 1, 2, 3, 4, 5, 6, 7, 8, 9, 10, 11, 12, 13, 14, 15, 16, 17]) (i := 8) (by decide)) (sim_gsCons (sim_gN (ps := [0, 1, 2, 3, 4, 5, 6, 7, 8, 9, 10, 11, 12, 13, 14, 15, 16, 17]) (i := 9) (by decide)) sim_gsNil))) (sim_why (List.forall_mem_cons.mpr ⟨MM.m_BadTerm_BoughError, (List.forall_mem_cons.mpr ⟨MM.m_BadRows_BoughError, (fun _ h => nomatch h)⟩)⟩) (fun E => (sim_callE (sim_cons (sim_var 6) sim_nil))))) (sim_seq (sim_if (sim_or (sim_test (sim_op s_ne (sim_var 9) (sim_op s_ix (sim_lst (sim_cons sim_str (sim_cons sim_str sim_nil))) (sim_cb1 s_int1 (sim_op s_gt (sim_var 4) sim_int))))) (sim_and (sim_test (sim_op s_lt (sim_var 4) sim_int)) (sim_not (sim_tB (sim_callT (sim_cons (sim_callT (sim_cons (sim_var 8) sim_nil)) (sim_cons (sim_var 4) sim_nil))))))) (sim_ret sim_bl) sim_next) (sim_seq (sim_asg (sim_gN (ps := [10]) (i := 10) (by decide)) sim_str) (sim_seq (sim_asg (sim_gL (n := 3) (sim_gsCons (sim_gN (ps := [0, 1, 2, 3, 4, 5, 6, 7, 8, 9, 10, 11, 12, 13, 14, 15, 16, 17]) (i := 11) (by decide)) (sim_gsCons (sim_gN (ps := [0, 1, 2, 3, 4, 5, 6, 7, 8, 9, 10, 11, 12, 13, 14, 15, 16, 17]) (i := 12) (by decide)) (sim_gsCons (sim_gN (ps := [0, 1, 2, 3, 4, 5, 6, 7, 8, 9, 10, 11, 12, 13, 14, 15, 16, 17]) (i := 13) (by decide)) sim_gsNil)))) (sim_lc (vs := [7]) (sim_iR1 (sim_cons sim_int sim_nil)) (sim_gN (i := 7) (by decide)) sim_yes (sim_sl sim_str sim_oNo (sim_oSm (sim_op s_add sim_int (sim_callT (sim_cons (sim_var 1) (sim_cons sim_int sim_nil)))))))) (sim_seq (sim_asg (sim_gN (ps := [14]) (i := 14) (by decide)) (sim_op s_add (sim_op s_add (sim_var 10) sim_str) (sim_var 10))) (sim_seq (sim_asg (sim_gN (ps := [6]) (i := 6) (by decide)) (sim_op s_add (sim_op s_add (sim_op s_add (sim_op s_add (sim_op s_add sim_str (sim_var 14)) sim_str) (sim_var 14)) sim_str) (sim_var 10))) (sim_seq (sim_asg (sim_gN (ps := [6]) (i := 6) (by decide)) (sim_op s_add (sim_op s_add (sim_var 6) sim_str) (sim_join sim_str (sim_lst (sim_cons (sim_var 11) (sim_cons (sim_var 12) (sim_cons (sim_var 13) sim_nil))))))) (sim_seq (sim_asg (sim_gN (ps := [6]) (i := 6) (by decide)) (sim_op s_add (sim_op s_add (sim_op s_add (sim_var 6) sim_str) (sim_op s_mulS sim_str (sim_op s_add sim_int (sim_callT (sim_cons (sim_var 1) (sim_cons sim_int sim_nil)))))) sim_str)) (sim_seq (sim_asg (sim_gT (n := 2) (sim_gsCons (sim_gN (ps := [0, 1, 2, 3, 4, 5, 6, 7, 8, 9, 10, 11, 12, 13, 14, 15, 16, 17]) (i := 8) (by decide)) (sim_gsCons (sim_gN (ps := [0, 1, 2, 3, 4, 5, 6, 7, 8, 9, 10, 11, 12, 13, 14, 15, 16, 17]) (i := 9) (by decide)) sim_gsNil))) (sim_why (List.forall_mem_cons.mpr ⟨MM.m_BadTerm_BoughError, (List.forall_mem_cons.mpr ⟨MM.m_BadRows_BoughError, (fun _ h => nomatch h)⟩)⟩) (fun E => (sim_callE (sim_cons (sim_var 6) sim_nil))))) (sim_seq (sim_if (sim_or (sim_not (sim_tB (sim_callT (sim_cons (sim_var 8) (sim_cons (sim_callT (sim_cons (sim_var 6) sim_nil)) sim_nil))))) (sim_test (sim_op s_ne (sim_var 9) (sim_op s_ix (sim_lst (sim_cons sim_str (sim_cons sim_str sim_nil))) (sim_cb1 s_int1 (sim_op s_isN (sim_var 8) sim_non)))))) (sim_ret sim_bl) sim_next) (sim_seq (sim_asg (sim_gN (ps := [15]) (i := 15) (by decide)) (sim_op s_add (sim_op s_add sim_str (sim_op s_mulS sim_str sim_int)) sim_str)) (sim_seq (sim_asg (sim_gN (ps := [16]) (i := 16) (by decide)) (sim_op s_add (sim_op s_add (sim_op s_add (sim_op s_mulS sim_str (sim_op s_add sim_int (sim_callT (sim_cons (sim_var 1) (sim_cons sim_int sim_nil))))) sim_str) (sim_op s_mulS sim_str (sim_op s_add sim_int (sim_callT (sim_cons (sim_var 1) (sim_cons sim_int sim_nil)))))) sim_str)) (sim_seq (sim_asg (sim_gN (ps := [17]) (i := 17) (by decide)) (sim_op s_add (sim_op s_add (sim_op s_add (sim_op s_add (sim_op s_add sim_str (sim_var 15)) sim_str) (sim_var 15)) sim_str) (sim_var 16))) (sim_seq (sim_asg (sim_gT (n := 2) (sim_gsCons (sim_gN (ps := [0, 1, 2, 3, 4, 5, 6, 7, 8, 9, 10, 11, 12, 13, 14, 15, 16, 17]) (i := 8) (by decide)) (sim_gsCons (sim_gN (ps := [0, 1, 2, 3, 4, 5, 6, 7, 8, 9, 10, 11, 12, 13, 14, 15, 16, 17]) (i := 9) (by decide)) sim_gsNil))) (sim_why (List.forall_mem_cons.mpr ⟨MM.m_BadTerm_BoughError, (List.forall_mem_cons.mpr ⟨MM.m_BadRows_BoughError, (fun _ h => nomatch h)⟩)⟩) (fun E => (sim_callE (sim_cons (sim_var 17) sim_nil))))) (sim_if (sim_test (sim_op s_ne (sim_var 9) (sim_op s_ix (sim_lst (sim_cons sim_str (sim_cons sim_str sim_nil))) (sim_cb1 s_int1 (sim_op s_gt (sim_cb1 s_len (sim_var 17)) sim_int))))) (sim_ret sim_bl) sim_next)))))))))))))))))))) (sim_ret sim_bl))))⟩
end
end PX

namespace MK
open PySem PySem.Spec PyProof.Rows L2 L3 PX
def bagS (cs : List Int) (i acc : Int) : AS := [.lst (cs.map .int), .lst [.ref 0, .int i, .int acc]]
structure Bag (S : AS) (cs : List Int) (i acc : Int) : Prop where
  e : S = bagS cs i acc
  c : 0 < cs.length
  p : ∀ x ∈ cs, 0 ≤ x
  a : 0 ≤ acc
def BagS (S : AS) : Prop := ∃ cs i acc, Bag S cs i acc
theorem cpow18 : CPow 10 18 := by unfold CPow; decide
theorem cmul_k (a : Int) : CMul a 48271 := .inr (by decide)
theorem pull_spec {S : AS} (hb : BagS S) {lot : Int} (h : 0 < lot) (h2 : lot < 1073741824) : ∃ r S', m_law_pull [.ref 1, .int lot] S = .ok (.fz (.int r)) S' ∧ BagS S' ∧ 0 ≤ r ∧ r < lot := by
  obtain ⟨cs, i, acc, rfl, hc, hp, ha⟩ := hb
  have hd : ∀ a, CDiv a lot := fun a => ⟨h, h2⟩
  have hd2 : ∀ a, CDiv a 64 := fun a => ⟨by decide, by decide⟩
  have k0 : 0 ≤ i % (cs.length : Int) := Int.emod_nonneg _ (by omega)
  have k1 : i % (cs.length : Int) < cs.length := Int.emod_lt_of_pos _ (by omega)
  obtain ⟨x, e1, e2, e3⟩ := atI_in k0 k1
  have x0 := hp x e2
  have e4 := ixN_in k0 k1
  generalize hk : i % (cs.length : Int) = k at *
  by_cases hx : (1000000000000000000 : Int) ≤ x
  · refine ⟨x % lot, bagS (cs.set k.toNat (x / lot)) i acc, ?_, ⟨_, i, acc, rfl, by simpa using hc, fun y hy => ?_, ha⟩, Int.emod_nonneg _ (by omega), Int.emod_lt_of_pos _ h⟩
    · simp [m_law_pull, ms_law_pull, bagS, runF, rho0, sSeq, sSet, sIf, mTest, mAnd, mOr, mNot, eOp, eUn, eVar, eC, sRet, sRetN, sNext, sBreak, sCont, sAug, sDrop, sFreeze, frzS, sAsg, gT, gsCons, gsNil, gN, aNil, aCons, eCall, eTup, eLst, eLstR, eIf, eAndV, eOrV, eNotV, sPutR, sPutV, sAppV, sAppR, sRaise, gI, gIC, gLt, gLe, gGt, gGe, L3.gSub, gFdiv, gMod, gPow, guardR, bind_ok, bind_ex, bind_bad, toS_ok, toS_ex, toS_bad, putS_fz, putS_own, retS_fz, retS_own, retS_bor, zD_fz, zD_own, d_fz, d_own, d_bor, List.map_cons, List.map_nil, List.cons_append, List.nil_append, List.append_nil, List.length_cons, List.length_nil, List.replicate, List.getElem?_cons_zero, List.getElem?_cons_succ, List.set_cons_zero, List.set_cons_succ, oNo, oSm, eSl, mYes, gIx, gLen, atI_map, atI0, atI1, atI2, L2.ixN, hc, hk, e1, e4, cpow18, hx, hd, h, k0, k1]
    · rcases List.mem_or_eq_of_mem_set hy with z | z
      · exact hp y z
      · rw [z]; exact Int.ediv_nonneg x0 (by omega)
  · refine ⟨(((acc + x % 2147483629 + 77) * 48271) % 2147483629) / 64 % lot, bagS cs (i + 1) (((acc + x % 2147483629 + 77) * 48271) % 2147483629), ?_, ⟨cs, _, _, rfl, hc, hp, Int.emod_nonneg _ (by decide)⟩, Int.emod_nonneg _ (by omega), Int.emod_lt_of_pos _ h⟩
    simp [m_law_pull, ms_law_pull, bagS, runF, rho0, sSeq, sSet, sIf, mTest, mAnd, mOr, mNot, eOp, eUn, eVar, eC, sRet, sRetN, sNext, sBreak, sCont, sAug, sDrop, sFreeze, frzS, sAsg, gT, gsCons, gsNil, gN, aNil, aCons, eCall, eTup, eLst, eLstR, eIf, eAndV, eOrV, eNotV, sPutR, sPutV, sAppV, sAppR, sRaise, gI, gIC, gLt, gLe, gGt, gGe, L3.gSub, gFdiv, gMod, gPow, guardR, bind_ok, bind_ex, bind_bad, toS_ok, toS_ex, toS_bad, putS_fz, putS_own, retS_fz, retS_own, retS_bor, zD_fz, zD_own, d_fz, d_own, d_bor, List.map_cons, List.map_nil, List.cons_append, List.nil_append, List.append_nil, List.length_cons, List.length_nil, List.replicate, List.getElem?_cons_zero, List.getElem?_cons_succ, List.set_cons_zero, List.set_cons_succ, oNo, oSm, eSl, mYes, gIx, gLen, gAdd, gMul, cmul_k, atI_map, atI0, atI1, atI2, L2.ixN, hc, hk, e1, e4, cpow18, hx, hd, hd2, h, k0, k1]

/-! ### letters, words -/
def az : List Nat := (List.range 26).map (97 + ·)
theorem az_of : Str.ofString "abcdefghijklmnopqrstuvwxyz" = T az := by decide +kernel
theorem az_mem {k : Nat} : k ∈ az ↔ 97 ≤ k ∧ k ≤ 122 := by
  unfold az
  rw [List.mem_map]
  constructor
  · rintro ⟨j, h, rfl⟩
    have := List.mem_range.mp h
    omega
  · rintro ⟨h1, h2⟩
    exact ⟨k - 97, List.mem_range.mpr (by omega), by omega⟩
def Ltr (w : List Nat) : Prop := ∀ k ∈ w, 97 ≤ k ∧ k ≤ 122
def NoL : List Nat → Prop | [] => True | k :: _ => ¬(97 ≤ k ∧ k ≤ 122)
def WordOk (w : List Nat) : Prop := Ltr w ∧ 1 ≤ w.length ∧ w.length ≤ 6
theorem strOk_T {l : List Nat} (h : ∀ k ∈ l, k < 128) : PyData.strOk (T l) = true := by
  unfold PyData.strOk
  rw [Array.all_eq_true_iff_forall_mem]
  intro k hk
  have := h k (by simpa [T] using hk)
  simp; omega
theorem we_loop {S : AS} : ∀ (w a b : List Nat), Ltr w → NoL b → (a ++ w ++ b).length ≤ sizeLine →
    sWhile (mAnd (mTest (eOp gLt (eVar 1) (eUn gLen (eVar 0)))) (mTest (eOp gInSg (eOp gIx (eVar 0) (eVar 1)) (eC (.str (Str.ofString "abcdefghijklmnopqrstuvwxyz")))))) (sAug (gI fun i j => .int (i + j)) 1 (eC (.int 1))) [some (.fz (.str (T (a ++ w ++ b)))), some (.fz (.int a.length))] S = .nx [some (.fz (.str (T (a ++ w ++ b)))), some (.fz (.int (a ++ w).length))] S
  | [], a, b, _, hb, hl => by
    rw [sWhile_eq]
    cases b with
    | nil =>
      simp [runF, rho0, sSeq, sSet, sIf, mTest, mAnd, mOr, mNot, eOp, eUn, eVar, eC, sRet, sRetN, sNext, sBreak, sCont, sAug, sDrop, sFreeze, frzS, sAsg, gT, gsCons, gsNil, gN, aNil, aCons, eCall, eTup, eLst, eLstR, eIf, eAndV, eOrV, eNotV, sPutR, sPutV, sAppV, sAppR, sRaise, gI, gIC, gLt, gLe, gGt, gGe, L3.gSub, gFdiv, gMod, gPow, guardR, bind_ok, bind_ex, bind_bad, toS_ok, toS_ex, toS_bad, putS_fz, putS_own, retS_fz, retS_own, retS_bor, zD_fz, zD_own, d_fz, d_own, d_bor, List.map_cons, List.map_nil, List.cons_append, List.nil_append, List.append_nil, List.length_cons, List.length_nil, List.replicate, List.getElem?_cons_zero, List.getElem?_cons_succ, List.set_cons_zero, List.set_cons_succ, oNo, oSm, eSl, mYes, gLen, T_len] at hl ⊢
      simp [hl]
    | cons k b =>
      have e : L2.atI (a ++ k :: b) (a.length : Int) = some k := atI_at (by simp)
      have hk : ¬(k ∈ az) := fun z => hb (az_mem.mp z)
      simp [runF, rho0, sSeq, sSet, sIf, mTest, mAnd, mOr, mNot, eOp, eUn, eVar, eC, sRet, sRetN, sNext, sBreak, sCont, sAug, sDrop, sFreeze, frzS, sAsg, gT, gsCons, gsNil, gN, aNil, aCons, eCall, eTup, eLst, eLstR, eIf, eAndV, eOrV, eNotV, sPutR, sPutV, sAppV, sAppR, sRaise, gI, gIC, gLt, gLe, gGt, gGe, L3.gSub, gFdiv, gMod, gPow, guardR, bind_ok, bind_ex, bind_bad, toS_ok, toS_ex, toS_bad, putS_fz, putS_own, retS_fz, retS_own, retS_bor, zD_fz, zD_own, d_fz, d_own, d_bor, List.map_cons, List.map_nil, List.cons_append, List.nil_append, List.append_nil, List.length_cons, List.length_nil, List.replicate, List.getElem?_cons_zero, List.getElem?_cons_succ, List.set_cons_zero, List.set_cons_succ, oNo, oSm, eSl, mYes, gLen, T_len, T_cps, T_mem, gIx, gInSg, az_of, e, hk] at hl ⊢
      have h2 : (a.length : Int) < a.length + (b.length + 1) := by omega
      simp [hl, h2, T_mem, hk]
  | k :: w, a, b, hw, hb, hl => by
    rw [sWhile_eq]
    have e : L2.atI (a ++ k :: (w ++ b)) (a.length : Int) = some k := atI_at (by simp)
    have hk : k ∈ az := az_mem.mpr (hw k (List.mem_cons_self ..))
    have ih := we_loop (S := S) w (a ++ [k]) b (fun x hx => hw x (List.mem_cons_of_mem _ hx)) hb (by simpa using hl)
    simp at ih
    simp [runF, rho0, sSeq, sSet, sIf, mTest, mAnd, mOr, mNot, eOp, eUn, eVar, eC, sRet, sRetN, sNext, sBreak, sCont, sAug, sDrop, sFreeze, frzS, sAsg, gT, gsCons, gsNil, gN, aNil, aCons, eCall, eTup, eLst, eLstR, eIf, eAndV, eOrV, eNotV, sPutR, sPutV, sAppV, sAppR, sRaise, gI, gIC, gLt, gLe, gGt, gGe, L3.gSub, gFdiv, gMod, gPow, guardR, bind_ok, bind_ex, bind_bad, toS_ok, toS_ex, toS_bad, putS_fz, putS_own, retS_fz, retS_own, retS_bor, zD_fz, zD_own, d_fz, d_own, d_bor, List.map_cons, List.map_nil, List.cons_append, List.nil_append, List.append_nil, List.length_cons, List.length_nil, List.replicate, List.getElem?_cons_zero, List.getElem?_cons_succ, List.set_cons_zero, List.set_cons_succ, oNo, oSm, eSl, mYes, gLen, T_len, T_cps, T_mem, gIx, gInSg, az_of, e, hk] at hl ih ⊢
    have h2 : (a.length : Int) < a.length + (w.length + b.length + 1) := by omega
    simp [hl, h2, ih, T_mem, hk]
theorem word_end_spec {S : AS} (w a b : List Nat) (hw : Ltr w) (hb : NoL b) (hl : (a ++ w ++ b).length ≤ sizeLine) : m_word_end [.str (T (a ++ w ++ b)), .int a.length] S = .ok (.fz (.int (a ++ w).length)) S := by
  have e : rho0 2 [.str (T (a ++ w ++ b)), .int a.length] = [some (.fz (.str (T (a ++ w ++ b)))), some (.fz (.int a.length))] := rfl
  unfold m_word_end ms_word_end runF
  rw [e]
  unfold sSeq
  rw [we_loop (S := S) w a b hw hb hl]
  simp [runF, rho0, sSeq, sSet, sIf, mTest, mAnd, mOr, mNot, eOp, eUn, eVar, eC, sRet, sRetN, sNext, sBreak, sCont, sAug, sDrop, sFreeze, frzS, sAsg, gT, gsCons, gsNil, gN, aNil, aCons, eCall, eTup, eLst, eLstR, eIf, eAndV, eOrV, eNotV, sPutR, sPutV, sAppV, sAppR, sRaise, gI, gIC, gLt, gLe, gGt, gGe, L3.gSub, gFdiv, gMod, gPow, guardR, bind_ok, bind_ex, bind_bad, toS_ok, toS_ex, toS_bad, putS_fz, putS_own, retS_fz, retS_own, retS_bor, zD_fz, zD_own, d_fz, d_own, d_bor, List.map_cons, List.map_nil, List.cons_append, List.nil_append, List.append_nil, List.length_cons, List.length_nil, List.replicate, List.getElem?_cons_zero, List.getElem?_cons_succ, List.set_cons_zero, List.set_cons_succ, oNo, oSm, eSl, mYes]
/-! ### is_word -/
theorem is_word_spec {S : AS} {w : List Nat} (hw : WordOk w) : m_is_word [.str (T w)] S = .ok (.fz (.bl true)) S := by
  obtain ⟨h1, h2, h3⟩ := hw
  have hl : w.length ≤ sizeLine := szl _ (by omega)
  have hc : compL (gN 1) mYes (eOp gInSg (eVar 1) (eC (.str (T az)))) [some (.fz (.str (T w))), none] (sgnD (T w)) S [] = .ok (w.map fun _ => D.bl true) S := by
    have e := compL_map (mg := gN 1) (me := eOp gInSg (eVar 1) (eC (.str (T az)))) (fun k : Nat => D.str ⟨#[k]⟩) (fun _ => D.bl true) [some (.fz (.str (T w))), none] S w [] (fun k hk => by
      have hk : k ∈ az := az_mem.mpr (h1 k hk)
      exact ⟨_, .fz (.bl true), rfl, by simp [runF, rho0, sSeq, sSet, sIf, mTest, mAnd, mOr, mNot, eOp, eUn, eVar, eC, sRet, sRetN, sNext, sBreak, sCont, sAug, sDrop, sFreeze, frzS, sAsg, gT, gsCons, gsNil, gN, aNil, aCons, eCall, eTup, eLst, eLstR, eIf, eAndV, eOrV, eNotV, sPutR, sPutV, sAppV, sAppR, sRaise, gI, gIC, gLt, gLe, gGt, gGe, L3.gSub, gFdiv, gMod, gPow, guardR, bind_ok, bind_ex, bind_bad, toS_ok, toS_ex, toS_bad, putS_fz, putS_own, retS_fz, retS_own, retS_bor, zD_fz, zD_own, d_fz, d_own, d_bor, List.map_cons, List.map_nil, List.cons_append, List.nil_append, List.append_nil, List.length_cons, List.length_nil, List.replicate, List.getElem?_cons_zero, List.getElem?_cons_succ, List.set_cons_zero, List.set_cons_succ, oNo, oSm, eSl, mYes, gInSg, T_mem, hk], rfl⟩) (by simpa using hl)
    rw [show sgnD (T w) = w.map fun k => D.str ⟨#[k]⟩ by unfold sgnD; rw [T_cps], e]
    rfl
  have h4 : (0 : Int) < w.length := by omega
  have h4' : (1 : Int) ≤ w.length := by omega
  have h5 : (w.length : Int) ≤ 6 := by omega
  have h6 : ∀ l : List Nat, (List.map (fun _ => true) l).all id = true := fun l => by simp
  simp [m_is_word, ms_is_word, runF, rho0, sSeq, sSet, sIf, mTest, mAnd, mOr, mNot, eOp, eUn, eVar, eC, sRet, sRetN, sNext, sBreak, sCont, sAug, sDrop, sFreeze, frzS, sAsg, gT, gsCons, gsNil, gN, aNil, aCons, eCall, eTup, eLst, eLstR, eIf, eAndV, eOrV, eNotV, sPutR, sPutV, sAppV, sAppR, sRaise, gI, gIC, gLt, gLe, gGt, gGe, L3.gSub, gFdiv, gMod, gPow, guardR, bind_ok, bind_ex, bind_bad, toS_ok, toS_ex, toS_bad, putS_fz, putS_own, retS_fz, retS_own, retS_bor, zD_fz, zD_own, d_fz, d_own, d_bor, List.map_cons, List.map_nil, List.cons_append, List.nil_append, List.append_nil, List.length_cons, List.length_nil, List.replicate, List.getElem?_cons_zero, List.getElem?_cons_succ, List.set_cons_zero, List.set_cons_succ, oNo, oSm, eSl, mYes, eChain, gLen, T_len, hl, iS, eLc, wipeR, az_of, h4', h5, hc, gAll, blsD_of, h6]
/-! ### the bag -/
theorem bag_spec {ns : List Int} (h : ns.length ≤ 63) : ∃ S', m_law_bag [.scr ns] [] = .ok (.fz (.ref 1)) S' ∧ BagS S' := by
  have hc : cutI ns none (some 63) = ns := by
    unfold cutI
    have e1 : HT.sIx ns.length ns.length (some 63) = ns.length := by
      have := HT.sIx_nat ns.length ns.length 63
      simp at this
      omega
    rw [e1, HT.sIx_none]
    simp
  have e := compL_map (mg := gN 1) (me := eUn gAbs (eVar 1)) (fun k : Int => D.int k) (fun k => D.int (if k < 0 then -k else k)) [some (.fz (.scr ns)), none] [] ns [] (fun k hk => ⟨_, .fz (.int (if k < 0 then -k else k)), rfl, by simp [runF, rho0, sSeq, sSet, sIf, mTest, mAnd, mOr, mNot, eOp, eUn, eVar, eC, sRet, sRetN, sNext, sBreak, sCont, sAug, sDrop, sFreeze, frzS, sAsg, gT, gsCons, gsNil, gN, aNil, aCons, eCall, eTup, eLst, eLstR, eIf, eAndV, eOrV, eNotV, sPutR, sPutV, sAppV, sAppR, sRaise, gI, gIC, gLt, gLe, gGt, gGe, L3.gSub, gFdiv, gMod, gPow, guardR, bind_ok, bind_ex, bind_bad, toS_ok, toS_ex, toS_bad, putS_fz, putS_own, retS_fz, retS_own, retS_bor, zD_fz, zD_own, d_fz, d_own, d_bor, List.map_cons, List.map_nil, List.cons_append, List.nil_append, List.append_nil, List.length_cons, List.length_nil, List.replicate, List.getElem?_cons_zero, List.getElem?_cons_succ, List.set_cons_zero, List.set_cons_succ, oNo, oSm, eSl, mYes, gAbs], rfl⟩) (szl _ (by simp; omega))
  refine ⟨bagS (ns.map (fun k => if k < 0 then -k else k) ++ [1]) 0 0, ?_, _, _, _, rfl, by simp, fun x hx => ?_, by decide⟩
  · have h2 : ns.length + 1 ≤ sizeLine := szl _ (by omega)
    have h3 : 3 ≤ sizeLine := by decide
    have h4 : 1 ≤ sizeLine := by decide
    simp at e
    simp [m_law_bag, ms_law_bag, runF, rho0, sSeq, sSet, sIf, mTest, mAnd, mOr, mNot, eOp, eUn, eVar, eC, sRet, sRetN, sNext, sBreak, sCont, sAug, sDrop, sFreeze, frzS, sAsg, gT, gsCons, gsNil, gN, aNil, aCons, eCall, eTup, eLst, eLstR, eIf, eAndV, eOrV, eNotV, sPutR, sPutV, sAppV, sAppR, sRaise, gI, gIC, gLt, gLe, gGt, gGe, L3.gSub, gFdiv, gMod, gPow, guardR, bind_ok, bind_ex, bind_bad, toS_ok, toS_ex, toS_bad, putS_fz, putS_own, retS_fz, retS_own, retS_bor, zD_fz, zD_own, d_fz, d_own, d_bor, List.map_cons, List.map_nil, List.cons_append, List.nil_append, List.append_nil, List.length_cons, List.length_nil, List.replicate, List.getElem?_cons_zero, List.getElem?_cons_succ, List.set_cons_zero, List.set_cons_succ, oNo, oSm, eSl, mYes, gSl, hc, iL, lstD, eLc, wipeR, e, gAddR, bagS, h2, h3, h4, Function.comp_def]
  · rcases List.mem_append.mp hx with z | z
    · obtain ⟨k, _, rfl⟩ := List.mem_map.mp z
      split <;> omega
    · rw [List.mem_singleton.mp z]; decide
/-! ### one of some -/
theorem of_str {S : AS} (hb : BagS S) {l : List Nat} (h0 : 0 < l.length) (h : l.length ≤ 1000) : ∃ k S', k ∈ l ∧ m_law_of [.ref 1, .str (T l)] S = .ok (.fz (.str (T [k]))) S' ∧ BagS S' := by
  obtain ⟨r, S', e, hb', r0, r1⟩ := pull_spec hb (lot := l.length) (by omega) (by omega)
  obtain ⟨x, e1, e2, _⟩ := atI_in (xs := l) r0 r1
  refine ⟨x, S', e2, ?_, hb'⟩
  have h2 : l.length ≤ sizeLine := szl _ (by omega)
  simp [m_law_of, ms_law_of, runF, rho0, sSeq, sSet, sIf, mTest, mAnd, mOr, mNot, eOp, eUn, eVar, eC, sRet, sRetN, sNext, sBreak, sCont, sAug, sDrop, sFreeze, frzS, sAsg, gT, gsCons, gsNil, gN, aNil, aCons, eCall, eTup, eLst, eLstR, eIf, eAndV, eOrV, eNotV, sPutR, sPutV, sAppV, sAppR, sRaise, gI, gIC, gLt, gLe, gGt, gGe, L3.gSub, gFdiv, gMod, gPow, guardR, bind_ok, bind_ex, bind_bad, toS_ok, toS_ex, toS_bad, putS_fz, putS_own, retS_fz, retS_own, retS_bor, zD_fz, zD_own, d_fz, d_own, d_bor, List.map_cons, List.map_nil, List.cons_append, List.nil_append, List.append_nil, List.length_cons, List.length_nil, List.replicate, List.getElem?_cons_zero, List.getElem?_cons_succ, List.set_cons_zero, List.set_cons_succ, oNo, oSm, eSl, mYes, gLen, T_len, h2, e, gIx, T_cps, e1, T_one]
theorem of_lst {S : AS} (hb : BagS S) {l : List D} (h0 : 0 < l.length) (h : l.length ≤ 1000) : ∃ d S', d ∈ l ∧ m_law_of [.ref 1, .lst l] S = .ok (.fz d) S' ∧ BagS S' := by
  obtain ⟨r, S', e, hb', r0, r1⟩ := pull_spec hb (lot := l.length) (by omega) (by omega)
  obtain ⟨x, e1, e2, _⟩ := atI_in (xs := l) r0 r1
  refine ⟨x, S', e2, ?_, hb'⟩
  simp [m_law_of, ms_law_of, runF, rho0, sSeq, sSet, sIf, mTest, mAnd, mOr, mNot, eOp, eUn, eVar, eC, sRet, sRetN, sNext, sBreak, sCont, sAug, sDrop, sFreeze, frzS, sAsg, gT, gsCons, gsNil, gN, aNil, aCons, eCall, eTup, eLst, eLstR, eIf, eAndV, eOrV, eNotV, sPutR, sPutV, sAppV, sAppR, sRaise, gI, gIC, gLt, gLe, gGt, gGe, L3.gSub, gFdiv, gMod, gPow, guardR, bind_ok, bind_ex, bind_bad, toS_ok, toS_ex, toS_bad, putS_fz, putS_own, retS_fz, retS_own, retS_bor, zD_fz, zD_own, d_fz, d_own, d_bor, List.map_cons, List.map_nil, List.cons_append, List.nil_append, List.append_nil, List.length_cons, List.length_nil, List.replicate, List.getElem?_cons_zero, List.getElem?_cons_succ, List.set_cons_zero, List.set_cons_succ, oNo, oSm, eSl, mYes, gLen, e, gIx, e1]
end MK

namespace MK
open PySem PySem.Spec PyProof.Rows L2 L3 PX
theorem map_of {α : Type} {Q : α → Prop} {f : α → D} : ∀ {out : List D}, (∀ x ∈ out, ∃ k, Q k ∧ x = f k) → ∃ ks : List α, out = ks.map f ∧ ∀ k ∈ ks, Q k
  | [], _ => ⟨[], rfl, fun _ h => nomatch h⟩
  | x :: r, h => by
    obtain ⟨k, h1, h2⟩ := h x (List.mem_cons_self ..)
    obtain ⟨ks, h3, h4⟩ := map_of (fun y hy => h y (List.mem_cons_of_mem _ hy))
    exact ⟨k :: ks, by rw [h2, h3]; rfl, fun z hz => by
      rcases List.mem_cons.mp hz with q | q
      · rw [q]; exact h1
      · exact h4 z q⟩
theorem loopL_idx {mg : MG} {mb : MS} (I : Nat → Rho → AS → Prop) : ∀ (ds : List D) (j : Nat) (ρ : Rho) (S : AS), (∀ k d, ds[k]? = some d → ∀ ρ S, I (j + k) ρ S → ∃ ρ1 ρ2 S2, mg d ρ = some ρ1 ∧ mb ρ1 S = .nx ρ2 S2 ∧ I (j + k + 1) ρ2 S2) → I j ρ S → ∃ ρ2 S2, loopL mg mb ds ρ S = .nx ρ2 S2 ∧ I (j + ds.length) ρ2 S2
  | [], j, ρ, S, _, h => ⟨ρ, S, rfl, h⟩
  | d :: r, j, ρ, S, hs, h => by
    obtain ⟨ρ1, ρ2, S2, e1, e2, h2⟩ := hs 0 d rfl ρ S h
    obtain ⟨ρ3, S3, e3, h3⟩ := loopL_idx I r (j + 1) ρ2 S2 (fun k d hd => by
      have := hs (k + 1) d (by simpa using hd)
      rw [show j + 1 + k = j + (k + 1) by omega]
      exact this) h2
    refine ⟨ρ3, S3, ?_, by rw [List.length_cons, show j + (r.length + 1) = j + 1 + r.length by omega]; exact h3⟩
    unfold loopL
    rw [e1]
    dsimp only
    rw [e2]
    exact e3
theorem sum_ones : ∀ l : List Nat, (l.map fun _ => 1).sum = l.length
  | [] => rfl
  | _ :: r => by rw [List.map_cons, List.sum_cons, sum_ones r, List.length_cons]; omega
theorem inter_nil : ∀ l : List Nat, List.intercalate [] (l.map fun k => [k]) = l
  | [] => rfl
  | k :: r => by
    rw [List.map_cons, inter_cons]
    have : ∀ l : List Nat, ((l.map fun k => [k]).map fun x => ([] : List Nat) ++ x).flatten = l := fun l => by
      induction l with
      | nil => rfl
      | cons a l ih => simp at ih ⊢; exact ih
    rw [this]
    rfl
/-- the signs of a list, joined -/
theorem join_signs {S : AS} {ks : List Nat} (h : ks.length ≤ 1000) : gJoin (.str (Str.ofString "")) (.lst (ks.map fun k => .str (T [k]))) S = .ok (.fz (.str (T ks))) S := by
  have e : strsD (ks.map fun k => D.str (T [k])) = some (ks.map fun k => T [k]) := strsD_of (fun k => T [k]) ks
  have e2 : (ks.map fun k => T [k]) = (ks.map fun k => [k]).map T := by simp
  have e3 : Str.ofString "" = T [] := rfl
  have e4 : (T []).length = 0 := rfl
  have e5 : ∀ k, (T [k]).length = 1 := fun _ => rfl
  unfold gJoin
  dsimp only
  rw [e]
  dsimp only
  rw [guardR_t, e3, e2, T_join, inter_nil]
  rw [e3, e4, List.map_map]
  have : (ks.map (Str.length ∘ fun k => T [k])).sum = ks.length := sum_ones ks
  rw [this]
  omega
def encW (w : List Nat) : D := .str (T w)
def lineW (mm : Nat) (n : Nat) (spot first step : Int) (ks : List Nat) (ws : List (List Nat)) (q : Option SV) : Rho :=
  [some (.fz (.ref 1)), some (.fz (.int mm)), some (.fz (.str (T az))), some (.fz (.int n)), some (.own (.lst (ks.map fun k => .str (T [k])))), some (.fz (.int spot)), some (.fz (.int first)), some (.fz (.int step)), some (.own (.lst (ws.map encW))), q]
theorem ltr_set {ks : List Nat} {j x : Nat} (h : Ltr ks) (hx : x ∈ az) : Ltr (ks.set j x) := fun k hk => by
  rcases List.mem_or_eq_of_mem_set hk with z | z
  · exact h k z
  · rw [z]; exact az_mem.mp hx
theorem az_at {i : Nat} {x : Nat} (h : az[i]? = some x) : x = 97 + i := by
  unfold az at h
  rw [List.getElem?_map] at h
  cases e : (List.range 26)[i]? with
  | none => rw [e] at h; cases h
  | some j =>
    rw [e] at h
    obtain ⟨hi, hj⟩ := List.getElem?_eq_some_iff.mp e
    rw [List.getElem_range] at hj
    subst hj
    cases h
    rfl
def Spt (spot : Nat) (first step : Int) (ws : List (List Nat)) : Prop := ∀ (k : Nat) (w : List Nat), ws[k]? = some w → w[spot]? = some (97 + ((first + step * k) % 26).toNat)
theorem spt_nodup {spot : Nat} {first step : Int} {ws : List (List Nat)} (h : Spt spot first step ws) (hl : ws.length ≤ 26) (hst : step = 1 ∨ step = 3 ∨ step = 5 ∨ step = 7 ∨ step = 9 ∨ step = 11) : ws.Nodup := by
  rw [List.nodup_iff_pairwise_ne, List.pairwise_iff_getElem]
  intro i j hi hj hij e
  have h1 := h i _ (List.getElem?_eq_getElem hi)
  have h2 := h j _ (List.getElem?_eq_getElem hj)
  rw [e, h2] at h1
  have h3 : ((first + step * j) % 26).toNat = ((first + step * i) % 26).toNat := by
    have := Option.some.inj h1
    omega
  rcases hst with z | z | z | z | z | z <;> subst z <;> omega
theorem words_spec {S : AS} (mm : Nat) (hmm : mm ≤ 1000) (hb : BagS S) : ∃ (ws : List (List Nat)) (S' : AS), m_law_words [.ref 1, .int mm] S = .ok (.own (.lst (ws.map encW))) S' ∧ ws.length = mm ∧ (∀ w ∈ ws, WordOk w) ∧ BagS S' ∧ (mm ≤ 26 → ws.Nodup) := by
  obtain ⟨r, S1, e1, hb1, r0, r1⟩ := pull_spec hb (lot := 6) (by decide) (by decide)
  obtain ⟨n, hn⟩ : ∃ n : Nat, 1 + r = n := ⟨(1 + r).toNat, by omega⟩
  have hn1 : 1 ≤ n ∧ n ≤ 6 := by omega
  obtain ⟨out, S2, e2, l2, p2, hb2⟩ := compL_inv (mg := gN 9) (me := eCall 2 m_law_of (aCons (eVar 0) (aCons (eVar 2) aNil))) BagS (fun x => ∃ k, k ∈ az ∧ x = .str (T [k])) [some (.fz (.ref 1)), some (.fz (.int mm)), some (.fz (.str (T az))), some (.fz (.int n)), none, none, none, none, none, none] (rngD 0 n) S1 [] (fun d hd S hS => by
    obtain ⟨k, S', hk, e, hS'⟩ := of_str hS (l := az) (by decide) (by decide)
    exact ⟨_, .fz (.str (T [k])), S', _, rfl, by simp [runF, rho0, sSeq, sSet, sIf, mTest, mAnd, mOr, mNot, eOp, eUn, eVar, eC, sRet, sRetN, sNext, sBreak, sCont, sAug, sDrop, sFreeze, frzS, sAsg, gT, gsCons, gsNil, gN, aNil, aCons, eCall, eTup, eLst, eLstR, eIf, eAndV, eOrV, eNotV, sPutR, sPutV, sAppV, sAppR, sRaise, gI, gIC, gLt, gLe, gGt, gGe, L3.gSub, gFdiv, gMod, gPow, guardR, bind_ok, bind_ex, bind_bad, toS_ok, toS_ex, toS_bad, putS_fz, putS_own, retS_fz, retS_own, retS_bor, zD_fz, zD_own, d_fz, d_own, d_bor, List.map_cons, List.map_nil, List.cons_append, List.nil_append, List.append_nil, List.length_cons, List.length_nil, List.replicate, List.getElem?_cons_zero, List.getElem?_cons_succ, List.set_cons_zero, List.set_cons_succ, oNo, oSm, eSl, mYes, e], rfl, ⟨k, hk, rfl⟩, hS'⟩) (szl _ (by simp [rngD_len]; omega)) hb1
  obtain ⟨ks, rfl, hks⟩ := map_of p2
  rw [List.length_map, rngD_len] at l2
  obtain ⟨r3, S3, e3, hb3, r30, r31⟩ := pull_spec hb2 (lot := 2) (by decide) (by decide)
  have hz : 0 < ks.length := by omega
  obtain ⟨k0, ek0, mk0, _⟩ := atI_in (xs := ks) (i := 0) (by decide) (by omega)
  -- the base, after the if
  have hbase : ∃ ks2 : List Nat, ks2.length = n ∧ Ltr ks2 ∧ (if r3 = 0 then List.replicate n k0 else ks) = ks2 := by
    refine ⟨_, ?_, ?_, rfl⟩
    · split
      · simp
      · exact l2
    · split
      · intro k hk; rw [List.eq_of_mem_replicate hk]; exact az_mem.mp (hks _ mk0)
      · exact fun k hk => az_mem.mp (hks k hk)
  obtain ⟨ks2, l4, hl4, e4⟩ := hbase
  obtain ⟨spot, S4, e5, hb4, s0, s1⟩ := pull_spec hb3 (lot := n) (by omega) (by omega)
  obtain ⟨first, S5, e6, hb5, f0, f1⟩ := pull_spec hb4 (lot := 26) (by decide) (by decide)
  obtain ⟨st, S6, hst, e7, hb6⟩ := of_lst hb5 (l := [.int 1, .int 3, .int 5, .int 7, .int 9, .int 11]) (by decide) (by decide)
  obtain ⟨step, rfl, hs0, hs1, hst6⟩ : ∃ i : Int, st = .int i ∧ 0 ≤ i ∧ i ≤ 11 ∧ (i = 1 ∨ i = 3 ∨ i = 5 ∨ i = 7 ∨ i = 9 ∨ i = 11) := by
    simp at hst
    rcases hst with z | z | z | z | z | z <;> subst z <;> exact ⟨_, rfl, by decide, by decide, by decide⟩
  have loop : ∃ ρ2 S2, loopL (gN 9) (sSeq (sPutV 4 (eVar 5) (eOp gIx (eVar 2) (eOp gMod (eOp gAdd (eVar 6) (eOp gMul (eVar 7) (eVar 9))) (eC (.int 26))))) (sAppV 8 (eM1 gJoin (eC (.str (Str.ofString ""))) (eVar 4)))) (rngD 0 mm) (lineW mm n spot first step ks2 [] none) S6 = .nx ρ2 S2 ∧ (∃ ks3 ws q, ρ2 = lineW mm n spot first step ks3 ws q ∧ ks3.length = n ∧ Ltr ks3 ∧ ws.length = 0 + (rngD 0 mm).length ∧ (∀ w ∈ ws, WordOk w) ∧ Spt spot.toNat first step ws ∧ S2 = S6) := by
    refine loopL_idx (fun j ρ S => ∃ ks3 ws q, ρ = lineW mm n spot first step ks3 ws q ∧ ks3.length = n ∧ Ltr ks3 ∧ ws.length = j ∧ (∀ w ∈ ws, WordOk w) ∧ Spt spot.toNat first step ws ∧ S = S6) (rngD 0 mm) 0 _ _ ?_ ⟨ks2, [], none, rfl, l4, hl4, rfl, (fun _ h => (nomatch h)), (fun k w h => by simp at h), rfl⟩
    rintro k d hd ρ S ⟨ks3, ws, q, rfl, h1, h2, h3, h4, hsp, rfl⟩
    obtain ⟨hk, rfl⟩ := rngD_get hd
    have b0 : 0 ≤ (first + step * k) % 26 := Int.emod_nonneg _ (by decide)
    have b1 : (first + step * k) % 26 < 26 := Int.emod_lt_of_pos _ (by decide)
    obtain ⟨x, ex, mx, ex3⟩ := atI_in (xs := az) b0 b1
    have hm : CMul step (k : Int) := .inl (by omega)
    have e8 : L2.ixN ks3.length spot = some spot.toNat := ixN_in s0 (by omega)
    have h5 : Ltr (ks3.set spot.toNat x) := ltr_set h2 mx
    have h6 : (ks3.set spot.toNat x).length = n := by simpa using h1
    have h7 : ws.length < sizeLine := by unfold sizeLine; omega
    have h8 := join_signs (S := S) (ks := ks3.set spot.toNat x) (by omega)
    have h9 : 26 ≤ sizeLine := by decide
    have h10 : az.length = 26 := rfl
    refine ⟨_, lineW mm n spot first step (ks3.set spot.toNat x) (ws ++ [ks3.set spot.toNat x]) (some (.fz (.int k))), S, rfl, ?_, _, _, _, rfl, h6, h5, by simp; omega, fun w hw => ?_, fun k2 w hw => ?_, rfl⟩
    · rw [List.map_set] at h8
      simp [lineW, runF, rho0, sSeq, sSet, sIf, mTest, mAnd, mOr, mNot, eOp, eUn, eVar, eC, sRet, sRetN, sNext, sBreak, sCont, sAug, sDrop, sFreeze, frzS, sAsg, gT, gsCons, gsNil, gN, aNil, aCons, eCall, eTup, eLst, eLstR, eIf, eAndV, eOrV, eNotV, sPutR, sPutV, sAppV, sAppR, sRaise, gI, gIC, gLt, gLe, gGt, gGe, L3.gSub, gFdiv, gMod, gPow, guardR, bind_ok, bind_ex, bind_bad, toS_ok, toS_ex, toS_bad, putS_fz, putS_own, retS_fz, retS_own, retS_bor, zD_fz, zD_own, d_fz, d_own, d_bor, List.map_cons, List.map_nil, List.cons_append, List.nil_append, List.append_nil, List.length_cons, List.length_nil, List.replicate, List.getElem?_cons_zero, List.getElem?_cons_succ, List.set_cons_zero, List.set_cons_succ, oNo, oSm, eSl, mYes, gAdd, gMul, hm, gIx, T_cps, T_len, h9, h10, ex, e8, T_one, h7, eM1, h8, encW, List.map_set]
    · rcases List.mem_append.mp hw with z | z
      · exact h4 w z
      · rw [List.mem_singleton.mp z]; exact ⟨h5, by omega, by omega⟩
    · by_cases hk2 : k2 < ws.length
      · rw [List.getElem?_append_left hk2] at hw
        exact hsp k2 w hw
      · rw [List.getElem?_append_right (by omega)] at hw
        obtain ⟨hi, hj⟩ := List.getElem?_eq_some_iff.mp hw
        have hk3 : k2 = k := by simp at hi; omega
        subst hk3
        have : w = ks3.set spot.toNat x := by rw [← hj]; simp
        rw [this, List.getElem?_set_self (by omega), az_at ex3]
  obtain ⟨ρ2, S7, e9, ks3, ws, q, rfl, _, _, l9, h9, hsp9, rfl⟩ := loop
  rw [rngD_len] at l9
  refine ⟨ws, S7, ?_, by omega, h9, hb6, fun hm => spt_nodup hsp9 (by omega) hst6⟩
  have h10 : 1 ≤ sizeLine := by decide
  have h11 : 6 ≤ sizeLine := by decide
  have h12 : n ≤ sizeLine := szl _ (by omega)
  have h13 : (n : Int) < 4611686018427387904 := by omega
  have h14 : -4611686018427387904 ≤ (n : Int) := by omega
  have h15 : (n : Int) < 9223372036854775808 := by omega
  simp at e2
  have cell : ∀ q : Option SV, sRet (eVar 8) (lineW mm n spot first step ks3 ws q) S7 = .rt (.own (.lst (ws.map encW))) S7 := fun q => by simp [lineW, runF, rho0, sSeq, sSet, sIf, mTest, mAnd, mOr, mNot, eOp, eUn, eVar, eC, sRet, sRetN, sNext, sBreak, sCont, sAug, sDrop, sFreeze, frzS, sAsg, gT, gsCons, gsNil, gN, aNil, aCons, eCall, eTup, eLst, eLstR, eIf, eAndV, eOrV, eNotV, sPutR, sPutV, sAppV, sAppR, sRaise, gI, gIC, gLt, gLe, gGt, gGe, L3.gSub, gFdiv, gMod, gPow, guardR, bind_ok, bind_ex, bind_bad, toS_ok, toS_ex, toS_bad, putS_fz, putS_own, retS_fz, retS_own, retS_bor, zD_fz, zD_own, d_fz, d_own, d_bor, List.map_cons, List.map_nil, List.cons_append, List.nil_append, List.append_nil, List.length_cons, List.length_nil, List.replicate, List.getElem?_cons_zero, List.getElem?_cons_succ, List.set_cons_zero, List.set_cons_succ, oNo, oSm, eSl, mYes]
  have ifr : ∀ (mb : List Nat), mb = ks → sIf (mTest (eOp gEq (eCall 2 m_law_pull (aCons (eVar 0) (aCons (eC (.int 2)) aNil))) (eC (.int 0)))) (sSet 4 (eOp gMul (eLst (aCons (eOp gIx (eVar 4) (eC (.int 0))) aNil)) (eVar 3))) sNext [some (.fz (.ref 1)), some (.fz (.int mm)), some (.fz (.str (T az))), some (.fz (.int n)), some (.own (.lst (ks.map fun k => .str (T [k])))), none, none, none, none, none] S2
      = .nx [some (.fz (.ref 1)), some (.fz (.int mm)), some (.fz (.str (T az))), some (.fz (.int n)), some (.own (.lst (ks2.map fun k => .str (T [k])))), none, none, none, none, none] S3 := fun _ _ => by
    by_cases hr : r3 = 0
    · rw [if_pos hr] at e4
      subst hr
      have e10 : (List.replicate n [D.str (T [k0])]).flatten = ks2.map fun k => .str (T [k]) := by
        rw [← e4]
        simp [List.map_replicate]
      have e11 : gMul (.lst [.str (T [k0])]) (.int n) S3 = _ := gMul_rep (by omega) (by simpa using h12)
      rw [e10] at e11
      exact sIf_t (S1 := S3) (by simp [runF, rho0, sSeq, sSet, sIf, mTest, mAnd, mOr, mNot, eOp, eUn, eVar, eC, sRet, sRetN, sNext, sBreak, sCont, sAug, sDrop, sFreeze, frzS, sAsg, gT, gsCons, gsNil, gN, aNil, aCons, eCall, eTup, eLst, eLstR, eIf, eAndV, eOrV, eNotV, sPutR, sPutV, sAppV, sAppR, sRaise, gI, gIC, gLt, gLe, gGt, gGe, L3.gSub, gFdiv, gMod, gPow, guardR, bind_ok, bind_ex, bind_bad, toS_ok, toS_ex, toS_bad, putS_fz, putS_own, retS_fz, retS_own, retS_bor, zD_fz, zD_own, d_fz, d_own, d_bor, List.map_cons, List.map_nil, List.cons_append, List.nil_append, List.append_nil, List.length_cons, List.length_nil, List.replicate, List.getElem?_cons_zero, List.getElem?_cons_succ, List.set_cons_zero, List.set_cons_succ, oNo, oSm, eSl, mYes, e3, gEq, q_int]) (sSet_own (eOp_ok (a := .own (.lst [.str (T [k0])])) (by simp [runF, rho0, sSeq, sSet, sIf, mTest, mAnd, mOr, mNot, eOp, eUn, eVar, eC, sRet, sRetN, sNext, sBreak, sCont, sAug, sDrop, sFreeze, frzS, sAsg, gT, gsCons, gsNil, gN, aNil, aCons, eCall, eTup, eLst, eLstR, eIf, eAndV, eOrV, eNotV, sPutR, sPutV, sAppV, sAppR, sRaise, gI, gIC, gLt, gLe, gGt, gGe, L3.gSub, gFdiv, gMod, gPow, guardR, bind_ok, bind_ex, bind_bad, toS_ok, toS_ex, toS_bad, putS_fz, putS_own, retS_fz, retS_own, retS_bor, zD_fz, zD_own, d_fz, d_own, d_bor, List.map_cons, List.map_nil, List.cons_append, List.nil_append, List.append_nil, List.length_cons, List.length_nil, List.replicate, List.getElem?_cons_zero, List.getElem?_cons_succ, List.set_cons_zero, List.set_cons_succ, oNo, oSm, eSl, mYes, h10, gIx, atI_map, ek0]) rfl e11))
    · rw [if_neg hr] at e4
      subst e4
      simp [runF, rho0, sSeq, sSet, sIf, mTest, mAnd, mOr, mNot, eOp, eUn, eVar, eC, sRet, sRetN, sNext, sBreak, sCont, sAug, sDrop, sFreeze, frzS, sAsg, gT, gsCons, gsNil, gN, aNil, aCons, eCall, eTup, eLst, eLstR, eIf, eAndV, eOrV, eNotV, sPutR, sPutV, sAppV, sAppR, sRaise, gI, gIC, gLt, gLe, gGt, gGe, L3.gSub, gFdiv, gMod, gPow, guardR, bind_ok, bind_ex, bind_bad, toS_ok, toS_ex, toS_bad, putS_fz, putS_own, retS_fz, retS_own, retS_bor, zD_fz, zD_own, d_fz, d_own, d_bor, List.map_cons, List.map_nil, List.cons_append, List.nil_append, List.append_nil, List.length_cons, List.length_nil, List.replicate, List.getElem?_cons_zero, List.getElem?_cons_succ, List.set_cons_zero, List.set_cons_succ, oNo, oSm, eSl, mYes, e3, gEq, q_int, hr]
  have ei1 := iR1_nat (m := aCons (eVar 3) aNil) (ρ := [some (.fz (.ref 1)), some (.fz (.int mm)), some (.fz (.str (T az))), some (.fz (.int n)), none, none, none, none, none, none]) (S := S1) (S1 := S1) (n := n) (by simp [runF, rho0, sSeq, sSet, sIf, mTest, mAnd, mOr, mNot, eOp, eUn, eVar, eC, sRet, sRetN, sNext, sBreak, sCont, sAug, sDrop, sFreeze, frzS, sAsg, gT, gsCons, gsNil, gN, aNil, aCons, eCall, eTup, eLst, eLstR, eIf, eAndV, eOrV, eNotV, sPutR, sPutV, sAppV, sAppR, sRaise, gI, gIC, gLt, gLe, gGt, gGe, L3.gSub, gFdiv, gMod, gPow, guardR, bind_ok, bind_ex, bind_bad, toS_ok, toS_ex, toS_bad, putS_fz, putS_own, retS_fz, retS_own, retS_bor, zD_fz, zD_own, d_fz, d_own, d_bor, List.map_cons, List.map_nil, List.cons_append, List.nil_append, List.append_nil, List.length_cons, List.length_nil, List.replicate, List.getElem?_cons_zero, List.getElem?_cons_succ, List.set_cons_zero, List.set_cons_succ, oNo, oSm, eSl, mYes]) (by omega)
  refine run_rt ?_
  rw [show rho0 10 [.ref 1, .int mm] = [some (.fz (.ref 1)), some (.fz (.int mm)), none, none, none, none, none, none, none, none] from rfl]
  unfold ms_law_words
  refine go (ρ' := [some (.fz (.ref 1)), some (.fz (.int mm)), some (.fz (.str (T az))), none, none, none, none, none, none, none]) (S' := S) (by simp [runF, rho0, sSeq, sSet, sIf, mTest, mAnd, mOr, mNot, eOp, eUn, eVar, eC, sRet, sRetN, sNext, sBreak, sCont, sAug, sDrop, sFreeze, frzS, sAsg, gT, gsCons, gsNil, gN, aNil, aCons, eCall, eTup, eLst, eLstR, eIf, eAndV, eOrV, eNotV, sPutR, sPutV, sAppV, sAppR, sRaise, gI, gIC, gLt, gLe, gGt, gGe, L3.gSub, gFdiv, gMod, gPow, guardR, bind_ok, bind_ex, bind_bad, toS_ok, toS_ex, toS_bad, putS_fz, putS_own, retS_fz, retS_own, retS_bor, zD_fz, zD_own, d_fz, d_own, d_bor, List.map_cons, List.map_nil, List.cons_append, List.nil_append, List.append_nil, List.length_cons, List.length_nil, List.replicate, List.getElem?_cons_zero, List.getElem?_cons_succ, List.set_cons_zero, List.set_cons_succ, oNo, oSm, eSl, mYes, az_of]) ?_
  refine go (ρ' := [some (.fz (.ref 1)), some (.fz (.int mm)), some (.fz (.str (T az))), some (.fz (.int n)), none, none, none, none, none, none]) (S' := S1) (by simp [runF, rho0, sSeq, sSet, sIf, mTest, mAnd, mOr, mNot, eOp, eUn, eVar, eC, sRet, sRetN, sNext, sBreak, sCont, sAug, sDrop, sFreeze, frzS, sAsg, gT, gsCons, gsNil, gN, aNil, aCons, eCall, eTup, eLst, eLstR, eIf, eAndV, eOrV, eNotV, sPutR, sPutV, sAppV, sAppR, sRaise, gI, gIC, gLt, gLe, gGt, gGe, L3.gSub, gFdiv, gMod, gPow, guardR, bind_ok, bind_ex, bind_bad, toS_ok, toS_ex, toS_bad, putS_fz, putS_own, retS_fz, retS_own, retS_bor, zD_fz, zD_own, d_fz, d_own, d_bor, List.map_cons, List.map_nil, List.cons_append, List.nil_append, List.append_nil, List.length_cons, List.length_nil, List.replicate, List.getElem?_cons_zero, List.getElem?_cons_succ, List.set_cons_zero, List.set_cons_succ, oNo, oSm, eSl, mYes, e1, gAdd, hn]) ?_
  refine go (ρ' := [some (.fz (.ref 1)), some (.fz (.int mm)), some (.fz (.str (T az))), some (.fz (.int n)), some (.own (.lst (ks.map fun k => .str (T [k])))), none, none, none, none, none]) (S' := S2) (by simp [runF, rho0, sSeq, sSet, sIf, mTest, mAnd, mOr, mNot, eOp, eUn, eVar, eC, sRet, sRetN, sNext, sBreak, sCont, sAug, sDrop, sFreeze, frzS, sAsg, gT, gsCons, gsNil, gN, aNil, aCons, eCall, eTup, eLst, eLstR, eIf, eAndV, eOrV, eNotV, sPutR, sPutV, sAppV, sAppR, sRaise, gI, gIC, gLt, gLe, gGt, gGe, L3.gSub, gFdiv, gMod, gPow, guardR, bind_ok, bind_ex, bind_bad, toS_ok, toS_ex, toS_bad, putS_fz, putS_own, retS_fz, retS_own, retS_bor, zD_fz, zD_own, d_fz, d_own, d_bor, List.map_cons, List.map_nil, List.cons_append, List.nil_append, List.append_nil, List.length_cons, List.length_nil, List.replicate, List.getElem?_cons_zero, List.getElem?_cons_succ, List.set_cons_zero, List.set_cons_succ, oNo, oSm, eSl, mYes, eLc, ei1, wipeR, e2]) ?_
  refine go (ifr _ rfl) ?_
  refine go (ρ' := [some (.fz (.ref 1)), some (.fz (.int mm)), some (.fz (.str (T az))), some (.fz (.int n)), some (.own (.lst (ks2.map fun k => .str (T [k])))), some (.fz (.int spot)), none, none, none, none]) (S' := S4) (by simp [runF, rho0, sSeq, sSet, sIf, mTest, mAnd, mOr, mNot, eOp, eUn, eVar, eC, sRet, sRetN, sNext, sBreak, sCont, sAug, sDrop, sFreeze, frzS, sAsg, gT, gsCons, gsNil, gN, aNil, aCons, eCall, eTup, eLst, eLstR, eIf, eAndV, eOrV, eNotV, sPutR, sPutV, sAppV, sAppR, sRaise, gI, gIC, gLt, gLe, gGt, gGe, L3.gSub, gFdiv, gMod, gPow, guardR, bind_ok, bind_ex, bind_bad, toS_ok, toS_ex, toS_bad, putS_fz, putS_own, retS_fz, retS_own, retS_bor, zD_fz, zD_own, d_fz, d_own, d_bor, List.map_cons, List.map_nil, List.cons_append, List.nil_append, List.append_nil, List.length_cons, List.length_nil, List.replicate, List.getElem?_cons_zero, List.getElem?_cons_succ, List.set_cons_zero, List.set_cons_succ, oNo, oSm, eSl, mYes, e5]) ?_
  refine go (ρ' := [some (.fz (.ref 1)), some (.fz (.int mm)), some (.fz (.str (T az))), some (.fz (.int n)), some (.own (.lst (ks2.map fun k => .str (T [k])))), some (.fz (.int spot)), some (.fz (.int first)), none, none, none]) (S' := S5) (by simp [runF, rho0, sSeq, sSet, sIf, mTest, mAnd, mOr, mNot, eOp, eUn, eVar, eC, sRet, sRetN, sNext, sBreak, sCont, sAug, sDrop, sFreeze, frzS, sAsg, gT, gsCons, gsNil, gN, aNil, aCons, eCall, eTup, eLst, eLstR, eIf, eAndV, eOrV, eNotV, sPutR, sPutV, sAppV, sAppR, sRaise, gI, gIC, gLt, gLe, gGt, gGe, L3.gSub, gFdiv, gMod, gPow, guardR, bind_ok, bind_ex, bind_bad, toS_ok, toS_ex, toS_bad, putS_fz, putS_own, retS_fz, retS_own, retS_bor, zD_fz, zD_own, d_fz, d_own, d_bor, List.map_cons, List.map_nil, List.cons_append, List.nil_append, List.append_nil, List.length_cons, List.length_nil, List.replicate, List.getElem?_cons_zero, List.getElem?_cons_succ, List.set_cons_zero, List.set_cons_succ, oNo, oSm, eSl, mYes, e6]) ?_
  refine go (ρ' := [some (.fz (.ref 1)), some (.fz (.int mm)), some (.fz (.str (T az))), some (.fz (.int n)), some (.own (.lst (ks2.map fun k => .str (T [k])))), some (.fz (.int spot)), some (.fz (.int first)), some (.fz (.int step)), none, none]) (S' := S7) (by simp [runF, rho0, sSeq, sSet, sIf, mTest, mAnd, mOr, mNot, eOp, eUn, eVar, eC, sRet, sRetN, sNext, sBreak, sCont, sAug, sDrop, sFreeze, frzS, sAsg, gT, gsCons, gsNil, gN, aNil, aCons, eCall, eTup, eLst, eLstR, eIf, eAndV, eOrV, eNotV, sPutR, sPutV, sAppV, sAppR, sRaise, gI, gIC, gLt, gLe, gGt, gGe, L3.gSub, gFdiv, gMod, gPow, guardR, bind_ok, bind_ex, bind_bad, toS_ok, toS_ex, toS_bad, putS_fz, putS_own, retS_fz, retS_own, retS_bor, zD_fz, zD_own, d_fz, d_own, d_bor, List.map_cons, List.map_nil, List.cons_append, List.nil_append, List.append_nil, List.length_cons, List.length_nil, List.replicate, List.getElem?_cons_zero, List.getElem?_cons_succ, List.set_cons_zero, List.set_cons_succ, oNo, oSm, eSl, mYes, e7, h11]) ?_
  refine go (ρ' := lineW mm n spot first step ks2 [] none) (S' := S7) (by simp [runF, rho0, sSeq, sSet, sIf, mTest, mAnd, mOr, mNot, eOp, eUn, eVar, eC, sRet, sRetN, sNext, sBreak, sCont, sAug, sDrop, sFreeze, frzS, sAsg, gT, gsCons, gsNil, gN, aNil, aCons, eCall, eTup, eLst, eLstR, eIf, eAndV, eOrV, eNotV, sPutR, sPutV, sAppV, sAppR, sRaise, gI, gIC, gLt, gLe, gGt, gGe, L3.gSub, gFdiv, gMod, gPow, guardR, bind_ok, bind_ex, bind_bad, toS_ok, toS_ex, toS_bad, putS_fz, putS_own, retS_fz, retS_own, retS_bor, zD_fz, zD_own, d_fz, d_own, d_bor, List.map_cons, List.map_nil, List.cons_append, List.nil_append, List.append_nil, List.length_cons, List.length_nil, List.replicate, List.getElem?_cons_zero, List.getElem?_cons_succ, List.set_cons_zero, List.set_cons_succ, oNo, oSm, eSl, mYes, lineW]) ?_
  refine go (ρ' := lineW mm n spot first step ks3 ws q) (S' := S7) ?_ (cell q)
  unfold sFor
  have e11 : iR1 (aCons (eVar 1) aNil) (lineW mm n spot first step ks2 [] none) S7 = .ok (rngD 0 mm) S7 := iR1_nat (S1 := S7) (n := mm) (by simp [runF, rho0, sSeq, sSet, sIf, mTest, mAnd, mOr, mNot, eOp, eUn, eVar, eC, sRet, sRetN, sNext, sBreak, sCont, sAug, sDrop, sFreeze, frzS, sAsg, gT, gsCons, gsNil, gN, aNil, aCons, eCall, eTup, eLst, eLstR, eIf, eAndV, eOrV, eNotV, sPutR, sPutV, sAppV, sAppR, sRaise, gI, gIC, gLt, gLe, gGt, gGe, L3.gSub, gFdiv, gMod, gPow, guardR, bind_ok, bind_ex, bind_bad, toS_ok, toS_ex, toS_bad, putS_fz, putS_own, retS_fz, retS_own, retS_bor, zD_fz, zD_own, d_fz, d_own, d_bor, List.map_cons, List.map_nil, List.cons_append, List.nil_append, List.append_nil, List.length_cons, List.length_nil, List.replicate, List.getElem?_cons_zero, List.getElem?_cons_succ, List.set_cons_zero, List.set_cons_succ, oNo, oSm, eSl, mYes, lineW]) (by omega)
  rw [e11]
  exact e9
end MK

namespace MK
open PySem PySem.Spec PyProof.Rows L2 L3 PX
/-! ### _law_same of a thing and itself -/
def Pln : Nat → D → Prop
  | 0, _ => False
  | n + 1, d => d = .non ∨ (∃ b, d = .bl b) ∨ (∃ i, d = .int i) ∨ (∃ x, d = .str x ∧ PyData.strOk x = true) ∨
    (∃ ds, (d = .tup ds ∨ d = .lst ds) ∧ ds.length ≤ 1000000 ∧ ∀ e ∈ ds, Pln n e)
theorem Pln.up : ∀ {n : Nat} {d : D}, Pln n d → Pln (n + 1) d
  | 0, _, h => h.elim
  | n + 1, d, h => by
    rcases h with h | h | h | h | ⟨ds, h1, h2, h3⟩
    · exact .inl h
    · exact .inr (.inl h)
    · exact .inr (.inr (.inl h))
    · exact .inr (.inr (.inr (.inl h)))
    · exact .inr (.inr (.inr (.inr ⟨ds, h1, h2, fun e he => Pln.up (h3 e he)⟩)))
theorem Pln.le {n m : Nat} {d : D} (h : n ≤ m) (p : Pln n d) : Pln m d := by
  induction h with
  | refl => exact p
  | step _ ih => exact ih.up
theorem flat_bls : ∀ n : Nat, flatL (List.replicate n (D.bl true)) = some (List.replicate n (V.bl true))
  | 0 => rfl
  | n + 1 => by
    rw [List.replicate_succ, List.replicate_succ]
    unfold flatL
    rw [flat_bls n]
    rfl
theorem no_false (n : Nat) (S : AS) : gNotIn (.bl false) (.lst (List.replicate n (.bl true))) S = .ok (.fz (.bl true)) S := by
  have e : inFlat (.bl false) (.lst (List.replicate n (.bl true))) = some false := by
    unfold inFlat
    dsimp only
    rw [flat_bls]
    show some _ = _
    congr 1
    unfold inV
    rw [List.any_replicate]
    split <;> rfl
  unfold gNotIn
  rw [e]
  rfl
theorem kbs : kitB2 "NoneType" "list" "tuple" = some false ∧ kitB2 "bool" "list" "tuple" = some false ∧ kitB2 "int" "list" "tuple" = some false ∧ kitB2 "str" "list" "tuple" = some false ∧ kitB2 "list" "list" "tuple" = some true ∧ kitB2 "tuple" "list" "tuple" = some true := ⟨rfl, rfl, rfl, rfl, rfl, rfl⟩
theorem kb1 : kitB "bool" "str" = some false ∧ kitB "bool" "bool" = some true ∧ kitB "int" "str" = some false ∧ kitB "int" "bool" = some false ∧ kitB "str" "str" = some true ∧ kitB "str" "bool" = some false ∧ kitB "list" "list" = some true ∧ kitB "list" "tuple" = some false ∧ kitB "tuple" "list" = some false ∧ kitB "tuple" "tuple" = some true := ⟨rfl, rfl, rfl, rfl, rfl, rfl, rfl, rfl, rfl, rfl⟩
theorem kb3 : kitB2 "bool" "int" "str" = some true ∧ kitB2 "int" "int" "str" = some true ∧ kitB2 "str" "int" "str" = some true := ⟨rfl, rfl, rfl⟩
theorem zip_self (ds : List D) : zipD ds ds = ds.map fun d => .tup [d, d] := by
  unfold zipD
  induction ds with
  | nil => rfl
  | cons d r ih =>
    simp at ih ⊢
    exact ih
theorem same_spec {S : AS} : ∀ (n : Nat) (d : D), Pln n d → m_law_same n [d, d] S = .ok (.fz (.bl true)) S
  | 0, _, h => h.elim
  | n + 1, d, h => by
    obtain ⟨k1, k2, k3, k4, k5, k6⟩ := kbs
    obtain ⟨j1, j2, j3, j4, j5, j6, j7, j8, j9, j10⟩ := kb1
    obtain ⟨i1, i2, i3⟩ := kb3
    rcases h with rfl | ⟨b, rfl⟩ | ⟨i, rfl⟩ | ⟨x, rfl, hx⟩ | ⟨ds, h1, h2, h3⟩
    · simp [m_law_same, ms_law_same, runF, rho0, sSeq, sSet, sIf, mTest, mAnd, mOr, mNot, eOp, eUn, eVar, eC, sRet, sRetN, sNext, sBreak, sCont, sAug, sDrop, sFreeze, frzS, sAsg, gT, gsCons, gsNil, gN, aNil, aCons, eCall, eTup, eLst, eLstR, eIf, eAndV, eOrV, eNotV, sPutR, sPutV, sAppV, sAppR, sRaise, gI, gIC, gLt, gLe, gGt, gGe, L3.gSub, gFdiv, gMod, gPow, guardR, bind_ok, bind_ex, bind_bad, toS_ok, toS_ex, toS_bad, putS_fz, putS_own, retS_fz, retS_own, retS_bor, zD_fz, zD_own, d_fz, d_own, d_bor, List.map_cons, List.map_nil, List.cons_append, List.nil_append, List.append_nil, List.length_cons, List.length_nil, List.replicate, List.getElem?_cons_zero, List.getElem?_cons_succ, List.set_cons_zero, List.set_cons_succ, oNo, oSm, eSl, mYes, eIsi, eIsi2, gIsi, gIsi2, tyD, gIsN, L3.isNon, k1]
    · simp [m_law_same, ms_law_same, runF, rho0, sSeq, sSet, sIf, mTest, mAnd, mOr, mNot, eOp, eUn, eVar, eC, sRet, sRetN, sNext, sBreak, sCont, sAug, sDrop, sFreeze, frzS, sAsg, gT, gsCons, gsNil, gN, aNil, aCons, eCall, eTup, eLst, eLstR, eIf, eAndV, eOrV, eNotV, sPutR, sPutV, sAppV, sAppR, sRaise, gI, gIC, gLt, gLe, gGt, gGe, L3.gSub, gFdiv, gMod, gPow, guardR, bind_ok, bind_ex, bind_bad, toS_ok, toS_ex, toS_bad, putS_fz, putS_own, retS_fz, retS_own, retS_bor, zD_fz, zD_own, d_fz, d_own, d_bor, List.map_cons, List.map_nil, List.cons_append, List.nil_append, List.append_nil, List.length_cons, List.length_nil, List.replicate, List.getElem?_cons_zero, List.getElem?_cons_succ, List.set_cons_zero, List.set_cons_succ, oNo, oSm, eSl, mYes, eIsi, eIsi2, gIsi, gIsi2, tyD, gIsN, L3.isNon, k2, j1, j2, i1, gNe, gEq, q_bl]
    · simp [m_law_same, ms_law_same, runF, rho0, sSeq, sSet, sIf, mTest, mAnd, mOr, mNot, eOp, eUn, eVar, eC, sRet, sRetN, sNext, sBreak, sCont, sAug, sDrop, sFreeze, frzS, sAsg, gT, gsCons, gsNil, gN, aNil, aCons, eCall, eTup, eLst, eLstR, eIf, eAndV, eOrV, eNotV, sPutR, sPutV, sAppV, sAppR, sRaise, gI, gIC, gLt, gLe, gGt, gGe, L3.gSub, gFdiv, gMod, gPow, guardR, bind_ok, bind_ex, bind_bad, toS_ok, toS_ex, toS_bad, putS_fz, putS_own, retS_fz, retS_own, retS_bor, zD_fz, zD_own, d_fz, d_own, d_bor, List.map_cons, List.map_nil, List.cons_append, List.nil_append, List.append_nil, List.length_cons, List.length_nil, List.replicate, List.getElem?_cons_zero, List.getElem?_cons_succ, List.set_cons_zero, List.set_cons_succ, oNo, oSm, eSl, mYes, eIsi, eIsi2, gIsi, gIsi2, tyD, gIsN, L3.isNon, k3, j3, j4, i2, gNe, gEq, q_bl, q_int]
    · simp [m_law_same, ms_law_same, runF, rho0, sSeq, sSet, sIf, mTest, mAnd, mOr, mNot, eOp, eUn, eVar, eC, sRet, sRetN, sNext, sBreak, sCont, sAug, sDrop, sFreeze, frzS, sAsg, gT, gsCons, gsNil, gN, aNil, aCons, eCall, eTup, eLst, eLstR, eIf, eAndV, eOrV, eNotV, sPutR, sPutV, sAppV, sAppR, sRaise, gI, gIC, gLt, gLe, gGt, gGe, L3.gSub, gFdiv, gMod, gPow, guardR, bind_ok, bind_ex, bind_bad, toS_ok, toS_ex, toS_bad, putS_fz, putS_own, retS_fz, retS_own, retS_bor, zD_fz, zD_own, d_fz, d_own, d_bor, List.map_cons, List.map_nil, List.cons_append, List.nil_append, List.append_nil, List.length_cons, List.length_nil, List.replicate, List.getElem?_cons_zero, List.getElem?_cons_succ, List.set_cons_zero, List.set_cons_succ, oNo, oSm, eSl, mYes, eIsi, eIsi2, gIsi, gIsi2, tyD, gIsN, L3.isNon, k4, j5, j6, i3, gNe, gEq, q_bl, q_str hx hx]
    · have hc := compL_map (mg := gT 2 (gsCons (gN 2) (gsCons (gN 3) gsNil))) (me := eCall 2 (m_law_same n) (aCons (eVar 2) (aCons (eVar 3) aNil))) (fun e => D.tup [e, e]) (fun _ => .bl true) [some (.fz d), some (.fz d), none, none] S ds [] (fun e he =>
        ⟨[some (.fz d), some (.fz d), some (.fz e), some (.fz e)], .fz (.bl true), rfl, by simp [runF, rho0, sSeq, sSet, sIf, mTest, mAnd, mOr, mNot, eOp, eUn, eVar, eC, sRet, sRetN, sNext, sBreak, sCont, sAug, sDrop, sFreeze, frzS, sAsg, gT, gsCons, gsNil, gN, aNil, aCons, eCall, eTup, eLst, eLstR, eIf, eAndV, eOrV, eNotV, sPutR, sPutV, sAppV, sAppR, sRaise, gI, gIC, gLt, gLe, gGt, gGe, L3.gSub, gFdiv, gMod, gPow, guardR, bind_ok, bind_ex, bind_bad, toS_ok, toS_ex, toS_bad, putS_fz, putS_own, retS_fz, retS_own, retS_bor, zD_fz, zD_own, d_fz, d_own, d_bor, List.map_cons, List.map_nil, List.cons_append, List.nil_append, List.append_nil, List.length_cons, List.length_nil, List.replicate, List.getElem?_cons_zero, List.getElem?_cons_succ, List.set_cons_zero, List.set_cons_succ, oNo, oSm, eSl, mYes, same_spec n e (h3 e he)], rfl⟩) (szl _ (by simp; omega))
      have hr : ds.map (fun _ => D.bl true) = List.replicate ds.length (.bl true) := List.map_const'
      have hn := no_false ds.length S
      rw [← zip_self, hr, List.nil_append] at hc
      rcases h1 with rfl | rfl
      · simp [m_law_same, ms_law_same, runF, rho0, sSeq, sSet, sIf, mTest, mAnd, mOr, mNot, eOp, eUn, eVar, eC, sRet, sRetN, sNext, sBreak, sCont, sAug, sDrop, sFreeze, frzS, sAsg, gT, gsCons, gsNil, gN, aNil, aCons, eCall, eTup, eLst, eLstR, eIf, eAndV, eOrV, eNotV, sPutR, sPutV, sAppV, sAppR, sRaise, gI, gIC, gLt, gLe, gGt, gGe, L3.gSub, gFdiv, gMod, gPow, guardR, bind_ok, bind_ex, bind_bad, toS_ok, toS_ex, toS_bad, putS_fz, putS_own, retS_fz, retS_own, retS_bor, zD_fz, zD_own, d_fz, d_own, d_bor, List.map_cons, List.map_nil, List.cons_append, List.nil_append, List.append_nil, List.length_cons, List.length_nil, List.replicate, List.getElem?_cons_zero, List.getElem?_cons_succ, List.set_cons_zero, List.set_cons_succ, oNo, oSm, eSl, mYes, eIsi, eIsi2, gIsi, gIsi2, tyD, k6, j9, j10, gNe, q_bl, q_int, gLen, eLc, iZ, zipG, wipeR, hc, hn]
      · simp [m_law_same, ms_law_same, runF, rho0, sSeq, sSet, sIf, mTest, mAnd, mOr, mNot, eOp, eUn, eVar, eC, sRet, sRetN, sNext, sBreak, sCont, sAug, sDrop, sFreeze, frzS, sAsg, gT, gsCons, gsNil, gN, aNil, aCons, eCall, eTup, eLst, eLstR, eIf, eAndV, eOrV, eNotV, sPutR, sPutV, sAppV, sAppR, sRaise, gI, gIC, gLt, gLe, gGt, gGe, L3.gSub, gFdiv, gMod, gPow, guardR, bind_ok, bind_ex, bind_bad, toS_ok, toS_ex, toS_bad, putS_fz, putS_own, retS_fz, retS_own, retS_bor, zD_fz, zD_own, d_fz, d_own, d_bor, List.map_cons, List.map_nil, List.cons_append, List.nil_append, List.append_nil, List.length_cons, List.length_nil, List.replicate, List.getElem?_cons_zero, List.getElem?_cons_succ, List.set_cons_zero, List.set_cons_succ, oNo, oSm, eSl, mYes, eIsi, eIsi2, gIsi, gIsi2, tyD, k5, j7, j8, gNe, q_bl, q_int, gLen, eLc, iZ, zipG, wipeR, hc, hn]
/-! ### terms -/
inductive Tm where
  | free (w : List Nat) | name (w : List Nat) | sign (w : List Nat) (ts : List Tm)
def enc : Tm → D
  | .free w => .tup [.str (Str.ofString "free"), .str (T w)]
  | .name w => .tup [.str (Str.ofString "name"), .str (T w)]
  | .sign w ts => .tup [.str (Str.ofString "sign"), .str (T w), .tup (ts.map enc)]
def shw : Tm → List Nat
  | .free w => 63 :: w
  | .name w => w
  | .sign w ts => w ++ 40 :: (List.intercalate [44, 32] (ts.map shw) ++ [41])
def dep : Tm → Int
  | .free _ => 1
  | .name _ => 1
  | .sign _ ts => 1 + (ts.map dep).foldl max 0
def nms : Tm → List (List Nat)
  | .free _ => []
  | .name w => [w]
  | .sign _ ts => (ts.map nms).flatten
def Good : Nat → Tm → Prop
  | 0, _ => False
  | _ + 1, .free w => WordOk w
  | _ + 1, .name w => WordOk w
  | n + 1, .sign w ts => WordOk w ∧ ts.length ≤ 3 ∧ ∀ t ∈ ts, Good n t
theorem Good.up : ∀ {n : Nat} {t : Tm}, Good n t → Good (n + 1) t
  | 0, _, h => h.elim
  | n + 1, .free w, h => h
  | n + 1, .name w, h => h
  | n + 1, .sign w ts, ⟨h1, h2, h3⟩ => ⟨h1, h2, fun t ht => Good.up (h3 t ht)⟩
theorem Good.le {n m : Nat} {t : Tm} (h : n ≤ m) (p : Good n t) : Good m t := by
  induction h with
  | refl => exact p
  | step _ ih => exact ih.up
def kW (w : List Nat) : D := .str (T w)
theorem wordsE (ws : List (List Nat)) : ws.map encW = ws.map fun w => .str (T w) := rfl
theorem of_words {S : AS} (hb : BagS S) {ws : List (List Nat)} (h0 : 0 < ws.length ∧ ws.length ≤ 1000) (hw : ∀ w ∈ ws, WordOk w) : ∃ w S', WordOk w ∧ m_law_of [.ref 1, .lst (ws.map encW)] S = .ok (.fz (.str (T w))) S' ∧ BagS S' := by
  obtain ⟨d, S', h1, h2, h3⟩ := of_lst hb (l := ws.map encW) (by simp; omega) (by simp; omega)
  obtain ⟨w, hw1, rfl⟩ := List.mem_map.mp h1
  exact ⟨w, S', hw w hw1, h2, h3⟩
end MK

namespace MK
open PySem PySem.Spec PyProof.Rows L2 L3 PX
/-! ### the told text -/
theorem sumlen_le {m : Nat} : ∀ (ls : List (List Nat)), (∀ l ∈ ls, l.length ≤ m) → (ls.map List.length).sum ≤ ls.length * m
  | [], _ => by simp
  | l :: r, h => by
    have h1 := h l (List.mem_cons_self ..)
    have h2 := sumlen_le r fun x hx => h x (List.mem_cons_of_mem _ hx)
    rw [List.map_cons, List.sum_cons, List.length_cons, Nat.succ_mul]
    omega
theorem inter_len (s : List Nat) (ls : List (List Nat)) : (List.intercalate s ls).length ≤ (ls.map List.length).sum + ls.length * s.length := by
  cases ls with
  | nil => simp [List.intercalate]
  | cons l r =>
    rw [inter_cons, List.length_append, List.map_cons, List.sum_cons, List.length_cons]
    have : ((r.map fun x => s ++ x).flatten).length = (r.map List.length).sum + r.length * s.length := by
      induction r with
      | nil => simp
      | cons x r ih => rw [List.map_cons, List.flatten_cons, List.length_append, ih, List.map_cons, List.sum_cons, List.length_cons, List.length_append, Nat.succ_mul]; omega
    rw [this, Nat.succ_mul]
    omega
theorem inter_mem {s : List Nat} {ls : List (List Nat)} {k : Nat} (h : k ∈ List.intercalate s ls) : k ∈ s ∨ ∃ l ∈ ls, k ∈ l := by
  cases ls with
  | nil => simp [List.intercalate] at h
  | cons l r =>
    rw [inter_cons] at h
    rcases List.mem_append.mp h with z | z
    · exact .inr ⟨l, List.mem_cons_self .., z⟩
    · obtain ⟨x, hx, hk⟩ := List.mem_flatten.mp z
      obtain ⟨y, hy, rfl⟩ := List.mem_map.mp hx
      rcases List.mem_append.mp hk with q | q
      · exact .inl q
      · exact .inr ⟨y, List.mem_cons_of_mem _ hy, q⟩
theorem shw_len : ∀ {n : Nat} {t : Tm}, Good n t → (shw t).length ≤ 20 * 4 ^ n
  | 0, _, h => h.elim
  | n + 1, .free w, h => by
    have := h.2.2
    have h4 : 1 ≤ 4 ^ n := Nat.pow_pos (by decide)
    rw [shw, List.length_cons, Nat.pow_succ]; omega
  | n + 1, .name w, h => by
    have := h.2.2
    have h4 : 1 ≤ 4 ^ n := Nat.pow_pos (by decide)
    rw [shw, Nat.pow_succ]; omega
  | n + 1, .sign w ts, ⟨h1, h2, h3⟩ => by
    have hw := h1.2.2
    have h4 : 1 ≤ 4 ^ n := Nat.pow_pos (by decide)
    have h5 := inter_len [44, 32] (ts.map shw)
    rw [show [44, 32].length = 2 from rfl] at h5
    have h6 := sumlen_le (m := 20 * 4 ^ n) (ts.map shw) (fun l hl => by
      obtain ⟨t, ht, rfl⟩ := List.mem_map.mp hl
      exact shw_len (h3 t ht))
    rw [List.length_map] at h5 h6
    have h7 : ts.length * (20 * 4 ^ n) ≤ 3 * (20 * 4 ^ n) := Nat.mul_le_mul_right _ h2
    rw [shw, List.length_append, List.length_cons, List.length_append, Nat.pow_succ]
    rw [show [41].length = 1 from rfl]
    omega
theorem shw_asc : ∀ {n : Nat} {t : Tm}, Good n t → ∀ k ∈ shw t, k < 128
  | 0, _, h => h.elim
  | n + 1, .free w, h => fun k hk => by
    rw [shw] at hk
    rcases List.mem_cons.mp hk with z | z
    · omega
    · have := h.1 k z; omega
  | n + 1, .name w, h => fun k hk => by
    rw [shw] at hk
    have := h.1 k hk; omega
  | n + 1, .sign w ts, ⟨h1, h2, h3⟩ => fun k hk => by
    rw [shw] at hk
    rcases List.mem_append.mp hk with z | z
    · have := h1.1 k z; omega
    · rcases List.mem_cons.mp z with q | q
      · omega
      · rcases List.mem_append.mp q with p | p
        · rcases inter_mem p with o | ⟨l, hl, o⟩
          · simp at o; omega
          · obtain ⟨t, ht, rfl⟩ := List.mem_map.mp hl
            exact shw_asc (h3 t ht) k o
        · simp at p; omega
theorem lit : Str.ofString "free" = T [102, 114, 101, 101] ∧ Str.ofString "name" = T [110, 97, 109, 101] ∧ Str.ofString "sign" = T [115, 105, 103, 110] ∧ Str.ofString "?" = T [63] ∧ Str.ofString "(" = T [40] ∧ Str.ofString ")" = T [41] ∧ Str.ofString ", " = T [44, 32] ∧ Str.ofString "()" = T [40, 41] := by
  refine ⟨?_, ?_, ?_, ?_, ?_, ?_, ?_, ?_⟩ <;> decide +kernel
theorem kinds : pyEq (.str (Str.ofString "free")) (.str (Str.ofString "free")) = some true ∧ pyEq (.str (Str.ofString "name")) (.str (Str.ofString "free")) = some false ∧ pyEq (.str (Str.ofString "sign")) (.str (Str.ofString "free")) = some false
    ∧ pyEq (.str (Str.ofString "free")) (.str (Str.ofString "name")) = some false ∧ pyEq (.str (Str.ofString "name")) (.str (Str.ofString "name")) = some true ∧ pyEq (.str (Str.ofString "sign")) (.str (Str.ofString "name")) = some false
    ∧ pyEq (.str (Str.ofString "free")) (.str (Str.ofString "sign")) = some false ∧ pyEq (.str (Str.ofString "name")) (.str (Str.ofString "sign")) = some false ∧ pyEq (.str (Str.ofString "sign")) (.str (Str.ofString "sign")) = some true := by
  refine ⟨?_, ?_, ?_, ?_, ?_, ?_, ?_, ?_, ?_⟩ <;> (rw [q_str (by decide +kernel) (by decide +kernel)]; decide +kernel)
theorem join_txt {S : AS} {ls : List (List Nat)} (h : (ls.map List.length).sum + ls.length * 2 ≤ 16777216) : gJoin (.str (Str.ofString ", ")) (.lst (ls.map fun l => .str (T l))) S = .ok (.fz (.str (T (List.intercalate [44, 32] ls)))) S := by
  have e : strsD (ls.map fun l => D.str (T l)) = some (ls.map T) := strsD_of T ls
  have e3 : Str.ofString ", " = T [44, 32] := lit.2.2.2.2.2.2.1
  unfold gJoin
  dsimp only
  rw [e]
  dsimp only
  rw [guardR_t, e3, T_join]
  rw [e3, List.map_map]
  have : (Str.length ∘ T) = List.length := funext T_len
  rw [this, T_len, List.length_map]
  exact h
theorem pow_n {n : Nat} (h : n ≤ 8) : 20 * 4 ^ n ≤ 1310720 := by
  have : 4 ^ n ≤ 4 ^ 8 := Nat.pow_le_pow_right (by decide) h
  omega
theorem emp : Str.empty = T [] := rfl
theorem inner_ok {ts : List Tm} {n : Nat} (hn : n ≤ 8) (h2 : ts.length ≤ 3) (h3 : ∀ t ∈ ts, Good n t) : ((ts.map shw).map List.length).sum + (ts.map shw).length * 2 ≤ 4000000 ∧ (List.intercalate [44, 32] (ts.map shw)).length ≤ 4000000 := by
  have h6 := sumlen_le (m := 1310720) (ts.map shw) (fun l hl => by
    obtain ⟨t, ht, rfl⟩ := List.mem_map.mp hl
    exact Nat.le_trans (shw_len (h3 t ht)) (pow_n hn))
  have h5 := inter_len [44, 32] (ts.map shw)
  rw [show [44, 32].length = 2 from rfl] at h5
  rw [List.length_map] at h5 h6 ⊢
  have : ts.length * 1310720 ≤ 3 * 1310720 := Nat.mul_le_mul_right _ h2
  omega
end MK

namespace MK
open PySem PySem.Spec PyProof.Rows L2 L3 PX
/-! ### depth -/
theorem dep_pos : ∀ {n : Nat} {t : Tm}, Good n t → 1 ≤ dep t
  | 0, _, h => h.elim
  | n + 1, .free w, h => by rw [dep]; decide
  | n + 1, .name w, h => by rw [dep]; decide
  | n + 1, .sign w ts, _ => by
    have : ∀ (l : List Int) (a : Int), a ≤ l.foldl max a := fun l => by
      induction l with
      | nil => exact fun a => Int.le_refl a
      | cons x r ih => exact fun a => Int.le_trans (Int.le_max_left a x) (ih (max a x))
    have := this (ts.map dep) 0
    rw [dep]
    omega
theorem deep_spec {S : AS} : ∀ (n : Nat) (t : Tm), Good n t → m_deep_of n [enc t] S = .ok (.fz (.int (dep t))) S
  | 0, _, h => h.elim
  | n + 1, .free w, h => by
    show runF 2 (ms_deep_of (m_deep_of n)) _ _ = _
    obtain ⟨a1, a2, a3, a4, a5, a6, a7, a8, a9⟩ := kinds
    simp [ms_deep_of, runF, rho0, sSeq, sSet, sIf, mTest, mAnd, mOr, mNot, eOp, eUn, eVar, eC, sRet, sRetN, sNext, sBreak, sCont, sAug, sDrop, sFreeze, frzS, sAsg, gT, gsCons, gsNil, gN, aNil, aCons, eCall, eTup, eLst, eLstR, eIf, eAndV, eOrV, eNotV, sPutR, sPutV, sAppV, sAppR, sRaise, gI, gIC, gLt, gLe, gGt, gGe, L3.gSub, gFdiv, gMod, gPow, guardR, bind_ok, bind_ex, bind_bad, toS_ok, toS_ex, toS_bad, putS_fz, putS_own, retS_fz, retS_own, retS_bor, zD_fz, zD_own, d_fz, d_own, d_bor, List.map_cons, List.map_nil, List.cons_append, List.nil_append, List.append_nil, List.length_cons, List.length_nil, List.replicate, List.getElem?_cons_zero, List.getElem?_cons_succ, List.set_cons_zero, List.set_cons_succ, oNo, oSm, eSl, mYes, enc, dep, gIx, atI0, atI1, gNe, a7]
  | n + 1, .name w, h => by
    show runF 2 (ms_deep_of (m_deep_of n)) _ _ = _
    obtain ⟨a1, a2, a3, a4, a5, a6, a7, a8, a9⟩ := kinds
    simp [ms_deep_of, runF, rho0, sSeq, sSet, sIf, mTest, mAnd, mOr, mNot, eOp, eUn, eVar, eC, sRet, sRetN, sNext, sBreak, sCont, sAug, sDrop, sFreeze, frzS, sAsg, gT, gsCons, gsNil, gN, aNil, aCons, eCall, eTup, eLst, eLstR, eIf, eAndV, eOrV, eNotV, sPutR, sPutV, sAppV, sAppR, sRaise, gI, gIC, gLt, gLe, gGt, gGe, L3.gSub, gFdiv, gMod, gPow, guardR, bind_ok, bind_ex, bind_bad, toS_ok, toS_ex, toS_bad, putS_fz, putS_own, retS_fz, retS_own, retS_bor, zD_fz, zD_own, d_fz, d_own, d_bor, List.map_cons, List.map_nil, List.cons_append, List.nil_append, List.append_nil, List.length_cons, List.length_nil, List.replicate, List.getElem?_cons_zero, List.getElem?_cons_succ, List.set_cons_zero, List.set_cons_succ, oNo, oSm, eSl, mYes, enc, dep, gIx, atI0, atI1, gNe, a8]
  | n + 1, .sign w ts, h => by
    obtain ⟨h1, h2, h3⟩ := h
    have hc := compL_map (mg := gN 1) (me := eCall 1 (m_deep_of n) (aCons (eVar 1) aNil)) enc (fun t => .int (dep t)) [some (.fz (enc (.sign w ts))), none] S ts [] (fun t ht => ⟨_, .fz (.int (dep t)), rfl, by simp [runF, rho0, sSeq, sSet, sIf, mTest, mAnd, mOr, mNot, eOp, eUn, eVar, eC, sRet, sRetN, sNext, sBreak, sCont, sAug, sDrop, sFreeze, frzS, sAsg, gT, gsCons, gsNil, gN, aNil, aCons, eCall, eTup, eLst, eLstR, eIf, eAndV, eOrV, eNotV, sPutR, sPutV, sAppV, sAppR, sRaise, gI, gIC, gLt, gLe, gGt, gGe, L3.gSub, gFdiv, gMod, gPow, guardR, bind_ok, bind_ex, bind_bad, toS_ok, toS_ex, toS_bad, putS_fz, putS_own, retS_fz, retS_own, retS_bor, zD_fz, zD_own, d_fz, d_own, d_bor, List.map_cons, List.map_nil, List.cons_append, List.nil_append, List.append_nil, List.length_cons, List.length_nil, List.replicate, List.getElem?_cons_zero, List.getElem?_cons_succ, List.set_cons_zero, List.set_cons_succ, oNo, oSm, eSl, mYes, deep_spec n t (h3 t ht)], rfl⟩) (szl _ (by simp; omega))
    rw [List.nil_append] at hc
    show runF 2 (ms_deep_of (m_deep_of n)) _ _ = _
    generalize m_deep_of n = f at *
    obtain ⟨a1, a2, a3, a4, a5, a6, a7, a8, a9⟩ := kinds
    have hm : gMaxDf (.lst (ts.map fun t => .int (dep t))) (.int 0) S = .ok (.fz (.int ((ts.map dep).foldl max 0))) S := by
      unfold gMaxDf
      dsimp only
      rw [intsD_of]
      dsimp only
      cases ts with
      | nil => rfl
      | cons t r =>
        have := dep_pos (h3 t (List.mem_cons_self ..))
        show R.ok (SV.fz (.int ((r.map dep).foldl max (dep t)))) S = _
        rw [List.map_cons, List.foldl_cons, show max 0 (dep t) = dep t by omega]
    unfold enc at hc
    simp [ms_deep_of, runF, rho0, sSeq, sSet, sIf, mTest, mAnd, mOr, mNot, eOp, eUn, eVar, eC, sRet, sRetN, sNext, sBreak, sCont, sAug, sDrop, sFreeze, frzS, sAsg, gT, gsCons, gsNil, gN, aNil, aCons, eCall, eTup, eLst, eLstR, eIf, eAndV, eOrV, eNotV, sPutR, sPutV, sAppV, sAppR, sRaise, gI, gIC, gLt, gLe, gGt, gGe, L3.gSub, gFdiv, gMod, gPow, guardR, bind_ok, bind_ex, bind_bad, toS_ok, toS_ex, toS_bad, putS_fz, putS_own, retS_fz, retS_own, retS_bor, zD_fz, zD_own, d_fz, d_own, d_bor, List.map_cons, List.map_nil, List.cons_append, List.nil_append, List.append_nil, List.length_cons, List.length_nil, List.replicate, List.getElem?_cons_zero, List.getElem?_cons_succ, List.set_cons_zero, List.set_cons_succ, oNo, oSm, eSl, mYes, enc, dep, gIx, atI0, atI1, atI2, gNe, a9, eLc, iT, wipeR, hc, eMaxDf, hm, gAdd]
end MK

namespace MK
open PySem PySem.Spec PyProof.Rows L2 L3 PX
/-! ### reading back -/
theorem cut_at (a r : List Nat) (j : Nat) : cutS (T (a ++ r)) (some (a.length : Int)) (some ((a.length : Int) + j)) = T (r.take j) := by
  have := T_cut a.length (a.length + j) (a ++ r)
  rw [List.drop_left, Nat.add_sub_cancel_left] at this
  rw [← this]
  rfl
section
variable {S : AS} {f : MF} {x : Str} {p e dp : Int} {w : List Nat} {s1 s2 : Str}
theorem parsed_free (hx : x.length ≤ sizeLine) (c1 : cutS x (some p) (some (p + 1)) = T [63]) (we : m_word_end [.str x, .int (p + 1)] S = .ok (.fz (.int e)) S) (c2 : cutS x (some (p + 1)) (some e) = T w) (hd : dp ≤ 8) (hw : m_is_word [.str (T w)] S = .ok (.fz (.bl true)) S) :
    runF 7 (ms_parsed f) [.str x, .int p, .int dp] S = .ok (.fz (.tup [enc (.free w), .int e])) S := by
  have q4 := lit.2.2.2.1
  have h8 : ¬ (8 < dp) := by omega
  have l2 : 2 ≤ sizeLine := by decide
  have o1 : PyData.strOk (T [63]) = true := by decide +kernel
  simp [ms_parsed, runF, rho0, sSeq, sSet, sIf, mTest, mAnd, mOr, mNot, eOp, eUn, eVar, eC, sRet, sRetN, sNext, sBreak, sCont, sAug, sDrop, sFreeze, frzS, sAsg, gT, gsCons, gsNil, gN, aNil, aCons, eCall, eTup, eLst, eLstR, eIf, eAndV, eOrV, eNotV, sPutR, sPutV, sAppV, sAppR, sRaise, gI, gIC, gLt, gLe, gGt, gGe, L3.gSub, gFdiv, gMod, gPow, guardR, bind_ok, bind_ex, bind_bad, toS_ok, toS_ex, toS_bad, putS_fz, putS_own, retS_fz, retS_own, retS_bor, zD_fz, zD_own, d_fz, d_own, d_bor, List.map_cons, List.map_nil, List.cons_append, List.nil_append, List.append_nil, List.length_cons, List.length_nil, List.replicate, List.getElem?_cons_zero, List.getElem?_cons_succ, List.set_cons_zero, List.set_cons_succ, oNo, oSm, eSl, mYes, gSl, hx, c1, q4, gEq, q_str o1 o1, gAdd, gInt1, we, c2, h8, hw, enc, l2]
theorem parsed_name (hx : x.length ≤ sizeLine) (c1 : cutS x (some p) (some (p + 1)) = s1) (n1 : pyEq (.str s1) (.str (Str.ofString "?")) = some false) (we : m_word_end [.str x, .int p] S = .ok (.fz (.int e)) S) (c2 : cutS x (some p) (some e) = T w) (hd : dp ≤ 8) (hw : m_is_word [.str (T w)] S = .ok (.fz (.bl true)) S)
    (c3 : cutS x (some e) (some (e + 1)) = s2) (n2 : pyEq (.str s2) (.str (Str.ofString "(")) = some false) :
    runF 7 (ms_parsed f) [.str x, .int p, .int dp] S = .ok (.fz (.tup [enc (.name w), .int e])) S := by
  have h8 : ¬ (8 < dp) := by omega
  have l2 : 2 ≤ sizeLine := by decide
  simp [ms_parsed, runF, rho0, sSeq, sSet, sIf, mTest, mAnd, mOr, mNot, eOp, eUn, eVar, eC, sRet, sRetN, sNext, sBreak, sCont, sAug, sDrop, sFreeze, frzS, sAsg, gT, gsCons, gsNil, gN, aNil, aCons, eCall, eTup, eLst, eLstR, eIf, eAndV, eOrV, eNotV, sPutR, sPutV, sAppV, sAppR, sRaise, gI, gIC, gLt, gLe, gGt, gGe, L3.gSub, gFdiv, gMod, gPow, guardR, bind_ok, bind_ex, bind_bad, toS_ok, toS_ex, toS_bad, putS_fz, putS_own, retS_fz, retS_own, retS_bor, zD_fz, zD_own, d_fz, d_own, d_bor, List.map_cons, List.map_nil, List.cons_append, List.nil_append, List.append_nil, List.length_cons, List.length_nil, List.replicate, List.getElem?_cons_zero, List.getElem?_cons_succ, List.set_cons_zero, List.set_cons_succ, oNo, oSm, eSl, mYes, gSl, hx, c1, gEq, gNe, n1, n2, gAdd, gInt1, we, c2, c3, h8, hw, enc, l2]
theorem parsed_none (hx : x.length ≤ sizeLine) (c1 : cutS x (some p) (some (p + 1)) = s1) (n1 : pyEq (.str s1) (.str (Str.ofString "?")) = some false) (we : m_word_end [.str x, .int p] S = .ok (.fz (.int e)) S) (c2 : cutS x (some p) (some e) = T w) (hd : dp ≤ 8) (hw : m_is_word [.str (T w)] S = .ok (.fz (.bl true)) S)
    (c3 : cutS x (some e) (some (e + 1)) = T [40]) (c4 : cutS x (some e) (some (e + 2)) = T [40, 41]) :
    runF 7 (ms_parsed f) [.str x, .int p, .int dp] S = .ok (.fz (.tup [enc (.sign w []), .int (e + 2)])) S := by
  have h8 : ¬ (8 < dp) := by omega
  have l2 : 2 ≤ sizeLine := by decide
  have l3 : 3 ≤ sizeLine := by decide
  have o1 : PyData.strOk (T [40]) = true := by decide +kernel
  have o2 : PyData.strOk (T [40, 41]) = true := by decide +kernel
  obtain ⟨_, _, _, _, q5, _, _, q8⟩ := lit
  simp [ms_parsed, runF, rho0, sSeq, sSet, sIf, mTest, mAnd, mOr, mNot, eOp, eUn, eVar, eC, sRet, sRetN, sNext, sBreak, sCont, sAug, sDrop, sFreeze, frzS, sAsg, gT, gsCons, gsNil, gN, aNil, aCons, eCall, eTup, eLst, eLstR, eIf, eAndV, eOrV, eNotV, sPutR, sPutV, sAppV, sAppR, sRaise, gI, gIC, gLt, gLe, gGt, gGe, L3.gSub, gFdiv, gMod, gPow, guardR, bind_ok, bind_ex, bind_bad, toS_ok, toS_ex, toS_bad, putS_fz, putS_own, retS_fz, retS_own, retS_bor, zD_fz, zD_own, d_fz, d_own, d_bor, List.map_cons, List.map_nil, List.cons_append, List.nil_append, List.append_nil, List.length_cons, List.length_nil, List.replicate, List.getElem?_cons_zero, List.getElem?_cons_succ, List.set_cons_zero, List.set_cons_succ, oNo, oSm, eSl, mYes, gSl, hx, c1, gEq, gNe, n1, q5, q8, q_str o1 o1, q_str o2 o2, gAdd, gInt1, we, c2, c3, c4, h8, hw, enc, l2, l3]
theorem parsed_some {r : D} (hx : x.length ≤ sizeLine) (c1 : cutS x (some p) (some (p + 1)) = s1) (n1 : pyEq (.str s1) (.str (Str.ofString "?")) = some false) (we : m_word_end [.str x, .int p] S = .ok (.fz (.int e)) S) (c2 : cutS x (some p) (some e) = T w) (hd : dp ≤ 8) (hw : m_is_word [.str (T w)] S = .ok (.fz (.bl true)) S)
    (c3 : cutS x (some e) (some (e + 1)) = T [40]) (c4 : cutS x (some e) (some (e + 2)) = s2) (n2 : pyEq (.str s2) (.str (Str.ofString "()")) = some false) (hf : f [.str (T w), .str x, .int (e + 1), .int dp] S = .ok (.fz r) S) :
    runF 7 (ms_parsed f) [.str x, .int p, .int dp] S = .ok (.fz r) S := by
  have h8 : ¬ (8 < dp) := by omega
  have o1 : PyData.strOk (T [40]) = true := by decide +kernel
  obtain ⟨_, _, _, _, q5, _, _, q8⟩ := lit
  simp [ms_parsed, runF, rho0, sSeq, sSet, sIf, mTest, mAnd, mOr, mNot, eOp, eUn, eVar, eC, sRet, sRetN, sNext, sBreak, sCont, sAug, sDrop, sFreeze, frzS, sAsg, gT, gsCons, gsNil, gN, aNil, aCons, eCall, eTup, eLst, eLstR, eIf, eAndV, eOrV, eNotV, sPutR, sPutV, sAppV, sAppR, sRaise, gI, gIC, gLt, gLe, gGt, gGe, L3.gSub, gFdiv, gMod, gPow, guardR, bind_ok, bind_ex, bind_bad, toS_ok, toS_ex, toS_bad, putS_fz, putS_own, retS_fz, retS_own, retS_bor, zD_fz, zD_own, d_fz, d_own, d_bor, List.map_cons, List.map_nil, List.cons_append, List.nil_append, List.append_nil, List.length_cons, List.length_nil, List.replicate, List.getElem?_cons_zero, List.getElem?_cons_succ, List.set_cons_zero, List.set_cons_succ, oNo, oSm, eSl, mYes, gSl, hx, c1, gEq, gNe, n1, n2, q5, q_str o1 o1, gAdd, gInt1, we, c2, c3, c4, h8, hw, hf]
def brT : MT := mTest (eC (.bl true))
def brB (f_parsed : MF) : MS := (sSeq (sAsg (gT 2 (gsCons (gN 5) (gsCons (gN 2) gsNil))) (eCall 3 f_parsed (aCons (eVar 1) (aCons (eVar 2) (aCons (eOp gAdd (eVar 3) (eC (.int 1))) aNil))))) (sSeq (sAppV 4 (eVar 5)) (sSeq (sIf (mAnd (mTest (eOp gEq (eSl (eVar 1) (oSm (eVar 2)) (oSm (eOp gAdd (eVar 2) (eC (.int 1))))) (eC (.str (Str.ofString ")"))))) (mTest (eOp gLe (eUn gLen (eVar 4)) (eC (.int 3))))) (sRet (eTup (aCons (eTup (aCons (eC (.str (Str.ofString "sign"))) (aCons (eVar 0) (aCons (eUn gTupOf (eVar 4)) aNil)))) (aCons (eOp gAdd (eVar 2) (eC (.int 1))) aNil)))) sNext) (sSeq (sIf (mOr (mTest (eOp gNe (eSl (eVar 1) (oSm (eVar 2)) (oSm (eOp gAdd (eVar 2) (eC (.int 2))))) (eC (.str (Str.ofString ", "))))) (mTest (eOp gGe (eUn gLen (eVar 4)) (eC (.int 3))))) (sRaise (Str.ofString "BadTerm") 0 [(Str.ofString "word")] (fun _ => [.str (Str.ofString "term")]) aNil) sNext) (sAug (gI fun i j => .int (i + j)) 2 (eC (.int 2)))))))
theorem br_form (f : MF) : ms_branches_of f = sSeq (sSet 4 (eLst aNil)) (sWhile brT (brB f)) := rfl
theorem br_last {d : D} {q : Option SV} {found : List D} (hx : x.length ≤ sizeLine) (hf : f [.str x, .int p, .int (dp + 1)] S = .ok (.fz (.tup [d, .int e])) S) (c1 : cutS x (some e) (some (e + 1)) = T [41]) (hn : found.length + 1 ≤ 3) :
    sWhile brT (brB f) [some (.fz (.str (T w))), some (.fz (.str x)), some (.fz (.int p)), some (.fz (.int dp)), some (.own (.lst found)), q] S = .rt (.fz (.tup [.tup [.str (Str.ofString "sign"), .str (T w), .tup (found ++ [d])], .int (e + 1)])) S := by
  rw [sWhile_eq]
  have o1 : PyData.strOk (T [41]) = true := by decide +kernel
  obtain ⟨_, _, _, _, q5, q6, _, q8⟩ := lit
  have l2 : 2 ≤ sizeLine := by decide
  have l3 : 3 ≤ sizeLine := by decide
  have l4 : found.length < sizeLine := by unfold sizeLine; omega
  have l5 : (found.length : Int) + 1 ≤ 3 := by omega
  simp [brT, brB, runF, rho0, sSeq, sSet, sIf, mTest, mAnd, mOr, mNot, eOp, eUn, eVar, eC, sRet, sRetN, sNext, sBreak, sCont, sAug, sDrop, sFreeze, frzS, sAsg, gT, gsCons, gsNil, gN, aNil, aCons, eCall, eTup, eLst, eLstR, eIf, eAndV, eOrV, eNotV, sPutR, sPutV, sAppV, sAppR, sRaise, gI, gIC, gLt, gLe, gGt, gGe, L3.gSub, gFdiv, gMod, gPow, guardR, bind_ok, bind_ex, bind_bad, toS_ok, toS_ex, toS_bad, putS_fz, putS_own, retS_fz, retS_own, retS_bor, zD_fz, zD_own, d_fz, d_own, d_bor, List.map_cons, List.map_nil, List.cons_append, List.nil_append, List.append_nil, List.length_cons, List.length_nil, List.replicate, List.getElem?_cons_zero, List.getElem?_cons_succ, List.set_cons_zero, List.set_cons_succ, oNo, oSm, eSl, mYes, gAdd, hf, l4, gSl, hx, c1, gEq, q6, q_str o1 o1, gLen, l5, gTupOf, l2, l3]
theorem br_next {d : D} {q : Option SV} {found : List D} (hx : x.length ≤ sizeLine) (hf : f [.str x, .int p, .int (dp + 1)] S = .ok (.fz (.tup [d, .int e])) S) (c1 : cutS x (some e) (some (e + 1)) = T [44]) (c2 : cutS x (some e) (some (e + 2)) = T [44, 32]) (hn : found.length + 1 < 3) :
    sWhile brT (brB f) [some (.fz (.str (T w))), some (.fz (.str x)), some (.fz (.int p)), some (.fz (.int dp)), some (.own (.lst found)), q] S = sWhile brT (brB f) [some (.fz (.str (T w))), some (.fz (.str x)), some (.fz (.int (e + 2))), some (.fz (.int dp)), some (.own (.lst (found ++ [d]))), some (.fz d)] S := by
  rw [sWhile_eq]
  have o1 : PyData.strOk (T [41]) = true := by decide +kernel
  have o2 : PyData.strOk (T [44]) = true := by decide +kernel
  have o3 : PyData.strOk (T [44, 32]) = true := by decide +kernel
  have n1 : pyEq (.str (T [44])) (.str (T [41])) = some false := by rw [q_str o2 o1]; decide +kernel
  obtain ⟨_, _, _, _, q5, q6, q7, q8⟩ := lit
  have l4 : found.length < sizeLine := by unfold sizeLine; omega
  have l5 : ¬ (3 ≤ (found.length : Int) + 1) := by omega
  have e1 : brT [some (.fz (.str (T w))), some (.fz (.str x)), some (.fz (.int p)), some (.fz (.int dp)), some (.own (.lst found)), q] S = .ok true S := rfl
  have e2 : brB f [some (.fz (.str (T w))), some (.fz (.str x)), some (.fz (.int p)), some (.fz (.int dp)), some (.own (.lst found)), q] S = .nx [some (.fz (.str (T w))), some (.fz (.str x)), some (.fz (.int (e + 2))), some (.fz (.int dp)), some (.own (.lst (found ++ [d]))), some (.fz d)] S := by
    simp [brB, runF, rho0, sSeq, sSet, sIf, mTest, mAnd, mOr, mNot, eOp, eUn, eVar, eC, sRet, sRetN, sNext, sBreak, sCont, sAug, sDrop, sFreeze, frzS, sAsg, gT, gsCons, gsNil, gN, aNil, aCons, eCall, eTup, eLst, eLstR, eIf, eAndV, eOrV, eNotV, sPutR, sPutV, sAppV, sAppR, sRaise, gI, gIC, gLt, gLe, gGt, gGe, L3.gSub, gFdiv, gMod, gPow, guardR, bind_ok, bind_ex, bind_bad, toS_ok, toS_ex, toS_bad, putS_fz, putS_own, retS_fz, retS_own, retS_bor, zD_fz, zD_own, d_fz, d_own, d_bor, List.map_cons, List.map_nil, List.cons_append, List.nil_append, List.append_nil, List.length_cons, List.length_nil, List.replicate, List.getElem?_cons_zero, List.getElem?_cons_succ, List.set_cons_zero, List.set_cons_succ, oNo, oSm, eSl, mYes, gAdd, hf, l4, gSl, hx, c1, c2, gEq, gNe, q6, q7, n1, q_str o3 o3, gLen, l5]
  rw [e1, toS_ok, if_pos rfl, e2]
end
end MK

namespace MK
open PySem PySem.Spec PyProof.Rows L2 L3 PX
def Stop (b : List Nat) : Prop := b = [] ∨ ∃ k r, b = k :: r ∧ (k = 41 ∨ k = 44)
theorem Stop.nol {b : List Nat} (h : Stop b) : NoL b := by
  rcases h with rfl | ⟨k, r, rfl, h⟩
  · trivial
  · show ¬(97 ≤ k ∧ k ≤ 122)
    omega
theorem ne_one {k j : Nat} (hk : k < 128) (hj : j < 128) (h : k ≠ j) : pyEq (.str (T [k])) (.str (T [j])) = some false := by
  rw [q_str (strOk_T fun x hx => by rw [List.mem_singleton.mp hx]; exact hk) (strOk_T fun x hx => by rw [List.mem_singleton.mp hx]; exact hj), T_beq]
  simp [h]
theorem parse_spec {S : AS} : ∀ (n k : Nat) (t : Tm) (a b : List Nat) (dp : Nat), 2 * n ≤ k → Good n t → Stop b → dp + n ≤ 9 → (a ++ shw t ++ b).length ≤ sizeLine →
    m_parsed k [.str (T (a ++ shw t ++ b)), .int a.length, .int dp] S = .ok (.fz (.tup [enc t, .int (a ++ shw t).length])) S
  | 0, _, _, _, _, _, _, h, _, _, _ => h.elim
  | n + 1, 0, _, _, _, _, hk, _, _, _, _ => absurd hk (by omega)
  | n + 1, k + 1, .free w, a, b, dp, hk, h, hb, hd, hl => by
    show runF 7 (ms_parsed (m_branches_of k)) _ _ = _
    rw [shw] at hl ⊢
    have hx : (T (a ++ 63 :: w ++ b)).length ≤ sizeLine := by rw [T_len]; exact hl
    have e1 : a ++ 63 :: w ++ b = a ++ (63 :: (w ++ b)) := by simp
    have e2 : a ++ 63 :: w ++ b = (a ++ [63]) ++ w ++ b := by simp
    have e3 : a ++ 63 :: w ++ b = (a ++ [63]) ++ (w ++ b) := by simp
    refine parsed_free hx ?_ ?_ ?_ (by omega) (is_word_spec h)
    · rw [e1]; exact cut_at a _ 1
    · have := word_end_spec (S := S) w (a ++ [63]) b h.1 hb.nol (by rw [← e2]; exact hl)
      rw [← e2] at this
      rw [show ((a.length : Int) + 1) = ((a ++ [63]).length : Nat) by simp, this]
      simp
    · have := cut_at (a ++ [63]) (w ++ b) w.length
      rw [← e3, List.take_left] at this
      have q1 : ((a ++ [63]).length : Int) = a.length + 1 := by simp
      have q2 : ((a ++ 63 :: w).length : Int) = (a.length : Int) + 1 + w.length := by simp; omega
      rw [q1] at this
      rw [q2]
      exact this
  | n + 1, k + 1, .name w, a, b, dp, hk, h, hb, hd, hl => by
    show runF 7 (ms_parsed (m_branches_of k)) _ _ = _
    rw [shw] at hl ⊢
    have hx : (T (a ++ w ++ b)).length ≤ sizeLine := by rw [T_len]; exact hl
    obtain ⟨c, r, rfl⟩ : ∃ c r, w = c :: r := by
      cases w with
      | nil => exact absurd h.2.1 (by simp)
      | cons c r => exact ⟨c, r, rfl⟩
    have hc := h.1 c (List.mem_cons_self ..)
    refine parsed_name (s1 := T [c]) (s2 := T (b.take 1)) hx ?_ ?_ (word_end_spec _ a b h.1 hb.nol hl) ?_ (by omega) (is_word_spec h) ?_ ?_
    · have := cut_at a (c :: r ++ b) 1
      rw [← List.append_assoc] at this
      exact this
    · rw [lit.2.2.2.1]; exact ne_one (by omega) (by decide) (by omega)
    · have := cut_at a ((c :: r) ++ b) (c :: r).length
      rw [← List.append_assoc, List.take_left] at this
      rw [List.length_append, Int.natCast_add]
      exact this
    · have := cut_at (a ++ c :: r) b 1
      exact this
    · rw [lit.2.2.2.2.1]
      rcases hb with rfl | ⟨q, r2, rfl, hq⟩
      · rw [q_str (by decide +kernel) (by decide +kernel)]; decide +kernel
      · exact ne_one (by omega) (by decide) (by omega)
  | n + 1, k + 1, .sign w ts, a, b, dp, hk, ⟨h1, h2, h3⟩, hb, hd, hl => by
    show runF 7 (ms_parsed (m_branches_of k)) _ _ = _
    have hx : (T (a ++ shw (.sign w ts) ++ b)).length ≤ sizeLine := by rw [T_len]; exact hl
    obtain ⟨c, r, hw⟩ : ∃ c r, w = c :: r := by
      cases w with
      | nil => exact absurd h1.2.1 (by simp)
      | cons c r => exact ⟨c, r, rfl⟩
    have hc := h1.1 c (by rw [hw]; exact List.mem_cons_self ..)
    -- the text: a ++ w ++ rest
    obtain ⟨rest, hr⟩ : ∃ rest, rest = 40 :: (List.intercalate [44, 32] (ts.map shw) ++ 41 :: b) := ⟨_, rfl⟩
    have e1 : a ++ shw (.sign w ts) ++ b = a ++ w ++ rest := by rw [shw, hr]; simp
    rw [e1] at hl hx ⊢
    have hnl : NoL rest := by rw [hr]; show ¬(97 ≤ 40 ∧ 40 ≤ 122); omega
    have we := word_end_spec (S := S) w a rest h1.1 hnl hl
    have c1 : cutS (T (a ++ w ++ rest)) (some (a.length : Int)) (some ((a.length : Int) + 1)) = T [c] := by
      have := cut_at a (w ++ rest) 1
      rw [← List.append_assoc] at this
      rw [hw] at this ⊢
      exact this
    have n1 : pyEq (.str (T [c])) (.str (Str.ofString "?")) = some false := by rw [lit.2.2.2.1]; exact ne_one (by omega) (by decide) (by omega)
    have c2 : cutS (T (a ++ w ++ rest)) (some (a.length : Int)) (some ((a ++ w).length : Nat)) = T w := by
      have := cut_at a (w ++ rest) w.length
      rw [← List.append_assoc, List.take_left] at this
      rw [List.length_append, Int.natCast_add]
      exact this
    have c3 : cutS (T (a ++ w ++ rest)) (some ((a ++ w).length : Nat)) (some (((a ++ w).length : Nat) + 1)) = T [40] := by
      have := cut_at (a ++ w) rest 1
      exact this.trans (by rw [hr]; rfl)
    cases ts with
    | nil =>
      have c4 : cutS (T (a ++ w ++ rest)) (some ((a ++ w).length : Nat)) (some (((a ++ w).length : Nat) + 2)) = T [40, 41] := by
        have := cut_at (a ++ w) rest 2
        rw [show (((a ++ w).length : Int) + 2) = ((a ++ w).length : Int) + (2 : Nat) from rfl, this, hr]
        rfl
      have := parsed_none (f := m_branches_of k) (dp := (dp : Int)) hx c1 n1 we c2 (by omega) (is_word_spec h1) c3 c4
      rw [this, shw]
      simp [List.intercalate]
      omega
    | cons t ts =>
      have hsh : ∃ y z, shw t = y :: z ∧ y < 128 ∧ y ≠ 41 := by
        have ht := h3 t (List.mem_cons_self ..)
        cases n with
        | zero => exact ht.elim
        | succ n =>
          cases t with
          | free w => exact ⟨63, w, by rw [shw], by decide, by decide⟩
          | name w =>
            cases w with
            | nil => exact absurd ht.2.1 (by simp)
            | cons y z => have := ht.1 y (List.mem_cons_self ..); exact ⟨y, z, by rw [shw], by omega, by omega⟩
          | sign w us =>
            cases w with
            | nil => exact absurd ht.1.2.1 (by simp)
            | cons y z => have := ht.1.1 y (List.mem_cons_self ..); exact ⟨y, _, by rw [shw]; rfl, by omega, by omega⟩
      obtain ⟨y, z, hy, hy1, hy2⟩ := hsh
      have c4 : cutS (T (a ++ w ++ rest)) (some ((a ++ w).length : Nat)) (some (((a ++ w).length : Nat) + 2)) = T [40, y] := by
        have := cut_at (a ++ w) rest 2
        rw [show (((a ++ w).length : Int) + 2) = ((a ++ w).length : Int) + (2 : Nat) from rfl, this, hr, List.map_cons, inter_cons, hy]
        rfl
      have n2 : pyEq (.str (T [40, y])) (.str (Str.ofString "()")) = some false := by
        rw [lit.2.2.2.2.2.2.2, q_str (strOk_T fun x hx => by simp at hx; omega) (by decide +kernel), T_beq]
        simp [hy2]
      refine parsed_some hx c1 n1 we c2 (by omega) (is_word_spec h1) c3 c4 n2 ?_
      -- the branches
      cases k with
      | zero => omega
      | succ k =>
        have loop : ∀ (us : List Tm) (u : Tm) (a2 b2 : List Nat) (found : List D) (q : Option SV) (X : List Nat), X = a2 ++ List.intercalate [44, 32] ((u :: us).map shw) ++ 41 :: b2 → X.length ≤ sizeLine → (∀ v ∈ u :: us, Good n v) → found.length + (us.length + 1) ≤ 3 →
            sWhile brT (brB (m_parsed k)) [some (.fz (.str (T w))), some (.fz (.str (T X))), some (.fz (.int a2.length)), some (.fz (.int dp)), some (.own (.lst found)), q] S
              = .rt (.fz (.tup [.tup [.str (Str.ofString "sign"), .str (T w), .tup (found ++ (u :: us).map enc)], .int ((a2 ++ List.intercalate [44, 32] ((u :: us).map shw)).length + 1 : Nat)])) S := by
          intro us
          induction us with
          | nil =>
            intro u a2 b2 found q X hX hXl hg hn
            have e5 : List.intercalate [44, 32] ([u].map shw) = shw u := by simp [List.intercalate]
            rw [e5] at hX ⊢
            have hp := parse_spec (S := S) n k u a2 (41 :: b2) (dp + 1) (by omega) (hg u (List.mem_cons_self ..)) (.inr ⟨41, b2, rfl, .inl rfl⟩) (by omega) (by rw [← hX]; exact hXl)
            rw [← hX] at hp
            have := br_last (w := w) (q := q) (found := found) (f := m_parsed k) (S := S) (x := T X) (p := a2.length) (dp := dp) (e := ((a2 ++ shw u).length : Nat)) (d := enc u) (by rw [T_len]; exact hXl) hp (by rw [hX]; exact cut_at (a2 ++ shw u) (41 :: b2) 1) (by simp at hn; omega)
            exact this
          | cons u2 us ih =>
            intro u a2 b2 found q X hX hXl hg hn
            have e5 : List.intercalate [44, 32] ((u :: u2 :: us).map shw) = shw u ++ [44, 32] ++ List.intercalate [44, 32] ((u2 :: us).map shw) := by
              rw [List.map_cons, List.map_cons, inter_cons, List.map_cons, inter_cons]; simp
            have e6 : X = a2 ++ shw u ++ (44 :: 32 :: (List.intercalate [44, 32] ((u2 :: us).map shw) ++ 41 :: b2)) := by rw [hX, e5]; simp
            have hp := parse_spec (S := S) n k u a2 (44 :: 32 :: (List.intercalate [44, 32] ((u2 :: us).map shw) ++ 41 :: b2)) (dp + 1) (by omega) (hg u (List.mem_cons_self ..)) (.inr ⟨44, _, rfl, .inr rfl⟩) (by omega) (by rw [← e6]; exact hXl)
            rw [← e6] at hp
            have hn2 : found.length + 1 < 3 := by simp at hn; omega
            have := br_next (w := w) (q := q) (found := found) (f := m_parsed k) (S := S) (x := T X) (p := a2.length) (dp := dp) (e := ((a2 ++ shw u).length : Nat)) (d := enc u) (by rw [T_len]; exact hXl) hp (by rw [e6]; exact cut_at (a2 ++ shw u) _ 1) (by rw [e6]; exact cut_at (a2 ++ shw u) _ 2) hn2
            rw [this]
            have ih2 := ih u2 (a2 ++ shw u ++ [44, 32]) b2 (found ++ [enc u]) (some (.fz (enc u))) X (by rw [hX, e5]; simp) hXl (fun v hv => hg v (List.mem_cons_of_mem _ hv)) (by simp at hn ⊢; omega)
            rw [show (((a2 ++ shw u).length : Nat) : Int) + 2 = ((a2 ++ shw u ++ [44, 32]).length : Nat) by simp; omega, ih2]
            congr 1
            simp [e5]
        have e7 : a ++ w ++ rest = (a ++ w ++ [40]) ++ List.intercalate [44, 32] ((t :: ts).map shw) ++ 41 :: b := by rw [hr]; simp
        have hlp := loop ts t (a ++ w ++ [40]) b [] none (a ++ w ++ rest) e7 hl h3 (by simp at h2 ⊢; omega)
        show runF 6 (ms_branches_of (m_parsed k)) _ _ = _
        refine run_rt ?_
        rw [br_form]
        refine go (ρ' := [some (.fz (.str (T w))), some (.fz (.str (T (a ++ w ++ rest)))), some (.fz (.int ((a ++ w ++ [40]).length : Nat))), some (.fz (.int dp)), some (.own (.lst [])), none]) (S' := S) ?_ ?_
        · simp [runF, rho0, sSeq, sSet, sIf, mTest, mAnd, mOr, mNot, eOp, eUn, eVar, eC, sRet, sRetN, sNext, sBreak, sCont, sAug, sDrop, sFreeze, frzS, sAsg, gT, gsCons, gsNil, gN, aNil, aCons, eCall, eTup, eLst, eLstR, eIf, eAndV, eOrV, eNotV, sPutR, sPutV, sAppV, sAppR, sRaise, gI, gIC, gLt, gLe, gGt, gGe, L3.gSub, gFdiv, gMod, gPow, guardR, bind_ok, bind_ex, bind_bad, toS_ok, toS_ex, toS_bad, putS_fz, putS_own, retS_fz, retS_own, retS_bor, zD_fz, zD_own, d_fz, d_own, d_bor, List.map_cons, List.map_nil, List.cons_append, List.nil_append, List.append_nil, List.length_cons, List.length_nil, List.replicate, List.getElem?_cons_zero, List.getElem?_cons_succ, List.set_cons_zero, List.set_cons_succ, oNo, oSm, eSl, mYes]
          omega
        · rw [hlp, shw, enc]
          simp
          omega
end MK

namespace MK
open PySem PySem.Spec PyProof.Rows L2 L3 PX
theorem bag_ind {S : AS} (hb : BagS S) : S.all indO = true := by
  obtain ⟨cs, i, acc, rfl, _, _, _⟩ := hb
  have : (cs.map D.int).all indF = true := by simp [indF]
  simp [bagS, indO, indF]
theorem plnW {w : List Nat} (h : ∀ k ∈ w, k < 128) (n : Nat) : Pln (n + 1) (.str (T w)) := .inr (.inr (.inr (.inl ⟨_, rfl, strOk_T h⟩)))
theorem plnK {x : Str} (h : PyData.strOk x = true) (n : Nat) : Pln (n + 1) (.str x) := .inr (.inr (.inr (.inl ⟨_, rfl, h⟩)))
theorem wasc {w : List Nat} (h : WordOk w) : ∀ k ∈ w, k < 128 := fun k hk => by have := h.1 k hk; omega
theorem enc_pln : ∀ {n : Nat} {t : Tm}, Good n t → Pln (2 * n) (enc t)
  | 0, _, h => h.elim
  | n + 1, .free w, h => by
    rw [enc]
    refine .inr (.inr (.inr (.inr ⟨_, .inl rfl, by simp, fun e he => ?_⟩)))
    simp at he
    rcases he with rfl | rfl
    · exact plnK (by decide +kernel) _
    · exact plnW (wasc h) _
  | n + 1, .name w, h => by
    rw [enc]
    refine .inr (.inr (.inr (.inr ⟨_, .inl rfl, by simp, fun e he => ?_⟩)))
    simp at he
    rcases he with rfl | rfl
    · exact plnK (by decide +kernel) _
    · exact plnW (wasc h) _
  | n + 1, .sign w ts, ⟨h1, h2, h3⟩ => by
    rw [enc]
    refine .inr (.inr (.inr (.inr ⟨_, .inl rfl, by simp, fun e he => ?_⟩)))
    simp at he
    rcases he with rfl | rfl | rfl
    · exact plnK (by decide +kernel) _
    · exact plnW (wasc h1) _
    · refine .inr (.inr (.inr (.inr ⟨_, .inl rfl, by simp; omega, fun e he => ?_⟩)))
      obtain ⟨t, ht, rfl⟩ := List.mem_map.mp he
      exact enc_pln (h3 t ht)
theorem read_spec {S : AS} {t : Tm} (h : Good 4 t) (hl : (shw t).length ≤ 200) : m_read_term [.str (T (shw t))] S = .ok (.fz (enc t)) S := by
  have hp := parse_spec (S := S) 4 40 t [] [] 1 (by omega) h (.inl rfl) (by omega) (szl _ (by simp; omega))
  simp at hp
  have l1 : (shw t).length ≤ sizeLine := szl _ (by omega)
  have l2 : ¬ ((200 : Int) < (shw t).length) := by omega
  simp [m_read_term, ms_read_term, runF, rho0, sSeq, sSet, sIf, mTest, mAnd, mOr, mNot, eOp, eUn, eVar, eC, sRet, sRetN, sNext, sBreak, sCont, sAug, sDrop, sFreeze, frzS, sAsg, gT, gsCons, gsNil, gN, aNil, aCons, eCall, eTup, eLst, eLstR, eIf, eAndV, eOrV, eNotV, sPutR, sPutV, sAppV, sAppR, sRaise, gI, gIC, gLt, gLe, gGt, gGe, L3.gSub, gFdiv, gMod, gPow, guardR, bind_ok, bind_ex, bind_bad, toS_ok, toS_ex, toS_bad, putS_fz, putS_own, retS_fz, retS_own, retS_bor, zD_fz, zD_own, d_fz, d_own, d_bor, List.map_cons, List.map_nil, List.cons_append, List.nil_append, List.append_nil, List.length_cons, List.length_nil, List.replicate, List.getElem?_cons_zero, List.getElem?_cons_succ, List.set_cons_zero, List.set_cons_succ, oNo, oSm, eSl, mYes, gLen, T_len, l1, l2, hp, gNe, q_int]
end MK

namespace MK
open PySem PySem.Spec PyProof.Rows L2 L3 PX
/-! ### any text read -/
abbrev Asc (l : List Nat) : Prop := ∀ k ∈ l, k < 128
theorem Asc.app {a b : List Nat} (h : Asc (a ++ b)) : Asc a ∧ Asc b := ⟨fun k hk => h k (List.mem_append_left _ hk), fun k hk => h k (List.mem_append_right _ hk)⟩
theorem Asc.take {a : List Nat} (h : Asc a) (n : Nat) : Asc (a.take n) := fun k hk => h k (List.mem_of_mem_take hk)
theorem Asc.drop {a : List Nat} (h : Asc a) (n : Nat) : Asc (a.drop n) := fun k hk => h k (List.mem_of_mem_drop hk)
theorem pyeq_T {a b : List Nat} (ha : Asc a) (hb : Asc b) : pyEq (.str (T a)) (.str (T b)) = some (decide (a = b)) := by
  rw [q_str (strOk_T ha) (strOk_T hb), T_beq]
def isL (k : Nat) : Bool := decide (97 ≤ k ∧ k ≤ 122)
def okW (w : List Nat) : Bool := decide (1 ≤ w.length ∧ w.length ≤ 6) && w.all isL
theorem isL_az {k : Nat} : isL k = decide (k ∈ az) := by
  unfold isL
  exact decide_eq_decide.mpr az_mem.symm
theorem okW_iff {w : List Nat} : okW w = true ↔ WordOk w := by
  unfold okW WordOk Ltr isL
  simp
  constructor
  · rintro ⟨⟨h1, h2⟩, h3⟩; exact ⟨h3, h1, h2⟩
  · rintro ⟨h3, h1, h2⟩; exact ⟨⟨h1, h2⟩, h3⟩
/-- is_word of any text -/
theorem is_word_gen {S : AS} {w : List Nat} (hl : w.length ≤ 16777216) : m_is_word [.str (T w)] S = .ok (.fz (.bl (okW w))) S := by
  have hl := szl _ hl
  have hc : compL (gN 1) mYes (eOp gInSg (eVar 1) (eC (.str (T az)))) [some (.fz (.str (T w))), none] (sgnD (T w)) S [] = .ok (w.map fun k => D.bl (isL k)) S := by
    have e := compL_map (mg := gN 1) (me := eOp gInSg (eVar 1) (eC (.str (T az)))) (fun k : Nat => D.str ⟨#[k]⟩) (fun k => D.bl (isL k)) [some (.fz (.str (T w))), none] S w [] (fun k hk => by
      exact ⟨_, .fz (.bl (isL k)), rfl, by simp [runF, rho0, sSeq, sSet, sIf, mTest, mAnd, mOr, mNot, eOp, eUn, eVar, eC, sRet, sRetN, sNext, sBreak, sCont, sAug, sDrop, sFreeze, frzS, sAsg, gT, gsCons, gsNil, gN, aNil, aCons, eCall, eTup, eLst, eLstR, eIf, eAndV, eOrV, eNotV, sPutR, sPutV, sAppV, sAppR, sRaise, gI, gIC, gLt, gLe, gGt, gGe, L3.gSub, gFdiv, gMod, gPow, guardR, bind_ok, bind_ex, bind_bad, toS_ok, toS_ex, toS_bad, putS_fz, putS_own, retS_fz, retS_own, retS_bor, zD_fz, zD_own, d_fz, d_own, d_bor, List.map_cons, List.map_nil, List.cons_append, List.nil_append, List.append_nil, List.length_cons, List.length_nil, List.replicate, List.getElem?_cons_zero, List.getElem?_cons_succ, List.set_cons_zero, List.set_cons_succ, oNo, oSm, eSl, mYes, gInSg, T_mem, isL_az], rfl⟩) (by simpa using hl)
    rw [show sgnD (T w) = w.map fun k => D.str ⟨#[k]⟩ by unfold sgnD; rw [T_cps], e]
    rfl
  have h6 : ∀ l : List Nat, (l.map isL).all id = l.all isL := fun l => by simp [List.all_map]
  have h7 : okW w = (decide ((1 : Int) ≤ w.length ∧ (w.length : Int) ≤ 6) && w.all isL) := by
    unfold okW
    congr 1
    exact decide_eq_decide.mpr (by omega)
  rw [h7]
  by_cases h4 : (1 : Int) ≤ w.length
  · by_cases h5 : (w.length : Int) ≤ 6
    · have h4' : (0 : Int) < w.length := by omega
      simp [m_is_word, ms_is_word, runF, rho0, sSeq, sSet, sIf, mTest, mAnd, mOr, mNot, eOp, eUn, eVar, eC, sRet, sRetN, sNext, sBreak, sCont, sAug, sDrop, sFreeze, frzS, sAsg, gT, gsCons, gsNil, gN, aNil, aCons, eCall, eTup, eLst, eLstR, eIf, eAndV, eOrV, eNotV, sPutR, sPutV, sAppV, sAppR, sRaise, gI, gIC, gLt, gLe, gGt, gGe, L3.gSub, gFdiv, gMod, gPow, guardR, bind_ok, bind_ex, bind_bad, toS_ok, toS_ex, toS_bad, putS_fz, putS_own, retS_fz, retS_own, retS_bor, zD_fz, zD_own, d_fz, d_own, d_bor, List.map_cons, List.map_nil, List.cons_append, List.nil_append, List.append_nil, List.length_cons, List.length_nil, List.replicate, List.getElem?_cons_zero, List.getElem?_cons_succ, List.set_cons_zero, List.set_cons_succ, oNo, oSm, eSl, mYes, eChain, gLen, T_len, hl, iS, eLc, wipeR, az_of, h4, h5, hc, gAll, blsD_of, h6]
    · have h4' : (0 : Int) < w.length := by omega
      simp [m_is_word, ms_is_word, runF, rho0, sSeq, sSet, sIf, mTest, mAnd, mOr, mNot, eOp, eUn, eVar, eC, sRet, sRetN, sNext, sBreak, sCont, sAug, sDrop, sFreeze, frzS, sAsg, gT, gsCons, gsNil, gN, aNil, aCons, eCall, eTup, eLst, eLstR, eIf, eAndV, eOrV, eNotV, sPutR, sPutV, sAppV, sAppR, sRaise, gI, gIC, gLt, gLe, gGt, gGe, L3.gSub, gFdiv, gMod, gPow, guardR, bind_ok, bind_ex, bind_bad, toS_ok, toS_ex, toS_bad, putS_fz, putS_own, retS_fz, retS_own, retS_bor, zD_fz, zD_own, d_fz, d_own, d_bor, List.map_cons, List.map_nil, List.cons_append, List.nil_append, List.append_nil, List.length_cons, List.length_nil, List.replicate, List.getElem?_cons_zero, List.getElem?_cons_succ, List.set_cons_zero, List.set_cons_succ, oNo, oSm, eSl, mYes, eChain, gLen, T_len, hl, iS, h4, h5]
  · simp [m_is_word, ms_is_word, runF, rho0, sSeq, sSet, sIf, mTest, mAnd, mOr, mNot, eOp, eUn, eVar, eC, sRet, sRetN, sNext, sBreak, sCont, sAug, sDrop, sFreeze, frzS, sAsg, gT, gsCons, gsNil, gN, aNil, aCons, eCall, eTup, eLst, eLstR, eIf, eAndV, eOrV, eNotV, sPutR, sPutV, sAppV, sAppR, sRaise, gI, gIC, gLt, gLe, gGt, gGe, L3.gSub, gFdiv, gMod, gPow, guardR, bind_ok, bind_ex, bind_bad, toS_ok, toS_ex, toS_bad, putS_fz, putS_own, retS_fz, retS_own, retS_bor, zD_fz, zD_own, d_fz, d_own, d_bor, List.map_cons, List.map_nil, List.cons_append, List.nil_append, List.append_nil, List.length_cons, List.length_nil, List.replicate, List.getElem?_cons_zero, List.getElem?_cons_succ, List.set_cons_zero, List.set_cons_succ, oNo, oSm, eSl, mYes, eChain, gLen, T_len, hl, iS, h4]
theorem dropW_noL : ∀ r : List Nat, NoL (r.dropWhile isL)
  | [] => trivial
  | k :: r => by
    rw [List.dropWhile_cons]
    by_cases h : isL k = true
    · rw [if_pos h]; exact dropW_noL r
    · rw [if_neg h]
      show ¬(97 ≤ k ∧ k ≤ 122)
      simpa [isL] using h
theorem takeW_ltr : ∀ r : List Nat, Ltr (r.takeWhile isL)
  | [] => fun k hk => nomatch hk
  | j :: r => fun k hk => by
    rw [List.takeWhile_cons] at hk
    split at hk
    · rename_i h
      rcases List.mem_cons.mp hk with z | z
      · rw [z]; simpa [isL] using h
      · exact takeW_ltr r k z
    · exact nomatch hk
theorem takeW_len (r : List Nat) : (r.takeWhile isL).length ≤ r.length := by
  have := congrArg List.length (List.takeWhile_append_dropWhile (p := isL) (l := r))
  rw [List.length_append] at this
  omega
theorem word_end_gen {S : AS} (a r : List Nat) (hl : (a ++ r).length ≤ sizeLine) : m_word_end [.str (T (a ++ r)), .int a.length] S = .ok (.fz (.int (a ++ r.takeWhile isL).length)) S := by
  have := word_end_spec (S := S) (r.takeWhile isL) a (r.dropWhile isL) (takeW_ltr r) (dropW_noL r) (by rw [List.append_assoc, List.takeWhile_append_dropWhile]; exact hl)
  rw [List.append_assoc, List.takeWhile_append_dropWhile] at this
  exact this
/-! ### the reading, by itself -/
def brs (P : List Nat → Option (Tm × List Nat)) (w : List Nat) : Nat → List Nat → List Tm → Option (Tm × List Nat)
  | 0, _, _ => none
  | m + 1, q, found => match P q with
    | none => none
    | some (t, q') => if q'.take 1 = [41] then some (.sign w (found ++ [t]), q'.drop 1)
      else if q'.take 2 = [44, 32] ∧ m ≠ 0 then brs P w m (q'.drop 2) (found ++ [t]) else none
def prs : Nat → List Nat → Nat → Option (Tm × List Nat)
  | 0, _, _ => none
  | n + 1, r, d =>
    let r1 := if r.take 1 = [63] then r.drop 1 else r
    let w := r1.takeWhile isL
    let r2 := r1.dropWhile isL
    if 8 < d ∨ okW w = false then none
    else if r.take 1 = [63] then some (.free w, r2)
    else if r2.take 1 ≠ [40] then some (.name w, r2)
    else if r2.take 2 = [40, 41] then some (.sign w [], r2.drop 2)
    else brs (fun q => prs n q (d + 1)) w 3 (r2.drop 1) []
section
variable {S : AS} {f : MF} {x : Str} {p e dp : Int} {w : List Nat} {s1 s2 : Str}
theorem parsed_bad {b : Bool} (hx : x.length ≤ sizeLine) (c1 : cutS x (some p) (some (p + 1)) = s1) (n1 : pyEq (.str s1) (.str (Str.ofString "?")) = some b) (we : m_word_end [.str x, .int (if b = true then p + 1 else p)] S = .ok (.fz (.int e)) S) (c2 : cutS x (some (if b = true then p + 1 else p)) (some e) = T w) (hw : m_is_word [.str (T w)] S = .ok (.fz (.bl (okW w))) S) (hb : 8 < dp ∨ okW w = false) :
    runF 7 (ms_parsed f) [.str x, .int p, .int dp] S = .ex (Str.ofString "BadTerm") [Str.ofString "word"] [.str (Str.ofString "term")] S := by
  by_cases h8 : 8 < dp
  · cases b <;> simp at we c2 <;> simp [ms_parsed, runF, rho0, sSeq, sSet, sIf, mTest, mAnd, mOr, mNot, eOp, eUn, eVar, eC, sRet, sRetN, sNext, sBreak, sCont, sAug, sDrop, sFreeze, frzS, sAsg, gT, gsCons, gsNil, gN, aNil, aCons, eCall, eTup, eLst, eLstR, eIf, eAndV, eOrV, eNotV, sPutR, sPutV, sAppV, sAppR, sRaise, gI, gIC, gLt, gLe, gGt, gGe, L3.gSub, gFdiv, gMod, gPow, guardR, bind_ok, bind_ex, bind_bad, toS_ok, toS_ex, toS_bad, putS_fz, putS_own, retS_fz, retS_own, retS_bor, zD_fz, zD_own, d_fz, d_own, d_bor, List.map_cons, List.map_nil, List.cons_append, List.nil_append, List.append_nil, List.length_cons, List.length_nil, List.replicate, List.getElem?_cons_zero, List.getElem?_cons_succ, List.set_cons_zero, List.set_cons_succ, oNo, oSm, eSl, mYes, gSl, hx, c1, gEq, n1, gAdd, gInt1, we, c2, h8]
  · have hb : okW w = false := hb.resolve_left h8
    cases b <;> simp at we c2 <;> simp [ms_parsed, runF, rho0, sSeq, sSet, sIf, mTest, mAnd, mOr, mNot, eOp, eUn, eVar, eC, sRet, sRetN, sNext, sBreak, sCont, sAug, sDrop, sFreeze, frzS, sAsg, gT, gsCons, gsNil, gN, aNil, aCons, eCall, eTup, eLst, eLstR, eIf, eAndV, eOrV, eNotV, sPutR, sPutV, sAppV, sAppR, sRaise, gI, gIC, gLt, gLe, gGt, gGe, L3.gSub, gFdiv, gMod, gPow, guardR, bind_ok, bind_ex, bind_bad, toS_ok, toS_ex, toS_bad, putS_fz, putS_own, retS_fz, retS_own, retS_bor, zD_fz, zD_own, d_fz, d_own, d_bor, List.map_cons, List.map_nil, List.cons_append, List.nil_append, List.append_nil, List.length_cons, List.length_nil, List.replicate, List.getElem?_cons_zero, List.getElem?_cons_succ, List.set_cons_zero, List.set_cons_succ, oNo, oSm, eSl, mYes, gSl, hx, c1, gEq, n1, gAdd, gInt1, we, c2, h8, hw, hb]
theorem parsed_ex {fs : List Str} {vs : List D} {C : Str} (hx : x.length ≤ sizeLine) (c1 : cutS x (some p) (some (p + 1)) = s1) (n1 : pyEq (.str s1) (.str (Str.ofString "?")) = some false) (we : m_word_end [.str x, .int p] S = .ok (.fz (.int e)) S) (c2 : cutS x (some p) (some e) = T w) (hd : dp ≤ 8) (hw : m_is_word [.str (T w)] S = .ok (.fz (.bl true)) S)
    (c3 : cutS x (some e) (some (e + 1)) = T [40]) (c4 : cutS x (some e) (some (e + 2)) = s2) (n2 : pyEq (.str s2) (.str (Str.ofString "()")) = some false) (hf : f [.str (T w), .str x, .int (e + 1), .int dp] S = .ex C fs vs S) :
    runF 7 (ms_parsed f) [.str x, .int p, .int dp] S = .ex C fs vs S := by
  have h8 : ¬ (8 < dp) := by omega
  have o1 : PyData.strOk (T [40]) = true := by decide +kernel
  obtain ⟨_, _, _, _, q5, _, _, q8⟩ := lit
  simp [ms_parsed, runF, rho0, sSeq, sSet, sIf, mTest, mAnd, mOr, mNot, eOp, eUn, eVar, eC, sRet, sRetN, sNext, sBreak, sCont, sAug, sDrop, sFreeze, frzS, sAsg, gT, gsCons, gsNil, gN, aNil, aCons, eCall, eTup, eLst, eLstR, eIf, eAndV, eOrV, eNotV, sPutR, sPutV, sAppV, sAppR, sRaise, gI, gIC, gLt, gLe, gGt, gGe, L3.gSub, gFdiv, gMod, gPow, guardR, bind_ok, bind_ex, bind_bad, toS_ok, toS_ex, toS_bad, putS_fz, putS_own, retS_fz, retS_own, retS_bor, zD_fz, zD_own, d_fz, d_own, d_bor, List.map_cons, List.map_nil, List.cons_append, List.nil_append, List.append_nil, List.length_cons, List.length_nil, List.replicate, List.getElem?_cons_zero, List.getElem?_cons_succ, List.set_cons_zero, List.set_cons_succ, oNo, oSm, eSl, mYes, gSl, hx, c1, gEq, gNe, n1, n2, q5, q_str o1 o1, gAdd, gInt1, we, c2, c3, c4, h8, hw, hf]
/-- a turn of the branches -/
theorem br_ex {d : D} {q : Option SV} {found : List D} {C : Str} {fs : List Str} {vs : List D} (hf : f [.str x, .int p, .int (dp + 1)] S = .ex C fs vs S) :
    ∃ ρ', sWhile brT (brB f) [some (.fz (.str (T w))), some (.fz (.str x)), some (.fz (.int p)), some (.fz (.int dp)), some (.own (.lst found)), q] S = .ex C fs vs ρ' S := by
  refine ⟨[some (.fz (.str (T w))), some (.fz (.str x)), some (.fz (.int p)), some (.fz (.int dp)), some (.own (.lst found)), q], ?_⟩
  have e1 : brT [some (.fz (.str (T w))), some (.fz (.str x)), some (.fz (.int p)), some (.fz (.int dp)), some (.own (.lst found)), q] S = .ok true S := rfl
  have e2 : brB f [some (.fz (.str (T w))), some (.fz (.str x)), some (.fz (.int p)), some (.fz (.int dp)), some (.own (.lst found)), q] S = .ex C fs vs [some (.fz (.str (T w))), some (.fz (.str x)), some (.fz (.int p)), some (.fz (.int dp)), some (.own (.lst found)), q] S := by
    simp [brB, runF, rho0, sSeq, sSet, sIf, mTest, mAnd, mOr, mNot, eOp, eUn, eVar, eC, sRet, sRetN, sNext, sBreak, sCont, sAug, sDrop, sFreeze, frzS, sAsg, gT, gsCons, gsNil, gN, aNil, aCons, eCall, eTup, eLst, eLstR, eIf, eAndV, eOrV, eNotV, sPutR, sPutV, sAppV, sAppR, sRaise, gI, gIC, gLt, gLe, gGt, gGe, L3.gSub, gFdiv, gMod, gPow, guardR, bind_ok, bind_ex, bind_bad, toS_ok, toS_ex, toS_bad, putS_fz, putS_own, retS_fz, retS_own, retS_bor, zD_fz, zD_own, d_fz, d_own, d_bor, List.map_cons, List.map_nil, List.cons_append, List.nil_append, List.append_nil, List.length_cons, List.length_nil, List.replicate, List.getElem?_cons_zero, List.getElem?_cons_succ, List.set_cons_zero, List.set_cons_succ, oNo, oSm, eSl, mYes, gAdd, hf]
  rw [sWhile_eq, e1, toS_ok, if_pos rfl, e2]
theorem br_stop {d : D} {q : Option SV} {found : List D} {u v : List Nat} (hx : x.length ≤ sizeLine) (hf : f [.str x, .int p, .int (dp + 1)] S = .ok (.fz (.tup [d, .int e])) S) (c1 : cutS x (some e) (some (e + 1)) = T u) (c2 : cutS x (some e) (some (e + 2)) = T v) (hu : Asc u) (hv : Asc v) (h1 : u ≠ [41]) (h2 : ¬ v = [44, 32] ∨ 3 ≤ found.length + 1) (hn : found.length ≤ 3) :
    ∃ ρ', sWhile brT (brB f) [some (.fz (.str (T w))), some (.fz (.str x)), some (.fz (.int p)), some (.fz (.int dp)), some (.own (.lst found)), q] S = .ex (Str.ofString "BadTerm") [Str.ofString "word"] [.str (Str.ofString "term")] ρ' S := by
  have n1 : pyEq (.str (T u)) (.str (T [41])) = some false := by rw [pyeq_T hu (by unfold Asc; decide)]; simp [h1]
  have n2 : pyEq (.str (T v)) (.str (T [44, 32])) = some (decide (v = [44, 32])) := pyeq_T hv (by unfold Asc; decide)
  obtain ⟨_, _, _, _, q5, q6, q7, q8⟩ := lit
  have l4 : found.length < sizeLine := by unfold sizeLine; omega
  have e1 : brT [some (.fz (.str (T w))), some (.fz (.str x)), some (.fz (.int p)), some (.fz (.int dp)), some (.own (.lst found)), q] S = .ok true S := rfl
  have e2 : brB f [some (.fz (.str (T w))), some (.fz (.str x)), some (.fz (.int p)), some (.fz (.int dp)), some (.own (.lst found)), q] S = .ex (Str.ofString "BadTerm") [Str.ofString "word"] [.str (Str.ofString "term")] [some (.fz (.str (T w))), some (.fz (.str x)), some (.fz (.int e)), some (.fz (.int dp)), some (.own (.lst (found ++ [d]))), some (.fz d)] S := by
    by_cases hv2 : v = [44, 32]
    · have l5 : (3 ≤ (found.length : Int) + 1) := by
        rcases h2 with h2 | h2
        · exact (h2 hv2).elim
        · omega
      rw [hv2] at n2 c2
      simp at n2
      simp [brB, runF, rho0, sSeq, sSet, sIf, mTest, mAnd, mOr, mNot, eOp, eUn, eVar, eC, sRet, sRetN, sNext, sBreak, sCont, sAug, sDrop, sFreeze, frzS, sAsg, gT, gsCons, gsNil, gN, aNil, aCons, eCall, eTup, eLst, eLstR, eIf, eAndV, eOrV, eNotV, sPutR, sPutV, sAppV, sAppR, sRaise, gI, gIC, gLt, gLe, gGt, gGe, L3.gSub, gFdiv, gMod, gPow, guardR, bind_ok, bind_ex, bind_bad, toS_ok, toS_ex, toS_bad, putS_fz, putS_own, retS_fz, retS_own, retS_bor, zD_fz, zD_own, d_fz, d_own, d_bor, List.map_cons, List.map_nil, List.cons_append, List.nil_append, List.append_nil, List.length_cons, List.length_nil, List.replicate, List.getElem?_cons_zero, List.getElem?_cons_succ, List.set_cons_zero, List.set_cons_succ, oNo, oSm, eSl, mYes, gAdd, hf, l4, gSl, hx, c1, c2, gEq, gNe, q6, q7, n1, n2, gLen, l5]
    · simp [brB, runF, rho0, sSeq, sSet, sIf, mTest, mAnd, mOr, mNot, eOp, eUn, eVar, eC, sRet, sRetN, sNext, sBreak, sCont, sAug, sDrop, sFreeze, frzS, sAsg, gT, gsCons, gsNil, gN, aNil, aCons, eCall, eTup, eLst, eLstR, eIf, eAndV, eOrV, eNotV, sPutR, sPutV, sAppV, sAppR, sRaise, gI, gIC, gLt, gLe, gGt, gGe, L3.gSub, gFdiv, gMod, gPow, guardR, bind_ok, bind_ex, bind_bad, toS_ok, toS_ex, toS_bad, putS_fz, putS_own, retS_fz, retS_own, retS_bor, zD_fz, zD_own, d_fz, d_own, d_bor, List.map_cons, List.map_nil, List.cons_append, List.nil_append, List.append_nil, List.length_cons, List.length_nil, List.replicate, List.getElem?_cons_zero, List.getElem?_cons_succ, List.set_cons_zero, List.set_cons_succ, oNo, oSm, eSl, mYes, gAdd, hf, l4, gSl, hx, c1, c2, gEq, gNe, q6, q7, n1, n2, gLen, hv2]
  refine ⟨[some (.fz (.str (T w))), some (.fz (.str x)), some (.fz (.int e)), some (.fz (.int dp)), some (.own (.lst (found ++ [d]))), some (.fz d)], ?_⟩
  rw [sWhile_eq, e1, toS_ok, if_pos rfl, e2]
end
theorem cut_two (a b r : List Nat) : cutS (T (a ++ b ++ r)) (some (a.length : Int)) (some ((a ++ b).length : Nat)) = T b := by
  have := cut_at a (b ++ r) b.length
  rw [← List.append_assoc, List.take_left] at this
  rw [List.length_append, Int.natCast_add]
  exact this
def BadT (S : AS) : R SV := .ex (Str.ofString "BadTerm") [Str.ofString "word"] [.str (Str.ofString "term")] S
def PrS (S : AS) (P : List Nat → Option (Tm × List Nat)) (f : MF) (dp : Nat) : Prop := ∀ a r : List Nat, Asc r → (a ++ r).length ≤ 16777216 →
  (∃ t u q, P r = some (t, q) ∧ r = u ++ q ∧ Good (9 - dp) t ∧ dp ≤ 8 ∧ f [.str (T (a ++ r)), .int a.length, .int dp] S = .ok (.fz (.tup [enc t, .int (a ++ u).length])) S) ∨ (P r = none ∧ f [.str (T (a ++ r)), .int a.length, .int dp] S = BadT S)
theorem take_app1 {q : List Nat} {k : Nat} (h : q.take 1 = [k]) : q = k :: q.drop 1 := by
  cases q with
  | nil => cases h
  | cons x r => simp at h; subst h; rfl
theorem take_app2 {q : List Nat} {k j : Nat} (h : q.take 2 = [k, j]) : q = k :: j :: q.drop 2 := by
  cases q with
  | nil => cases h
  | cons x r => cases r with
    | nil => simp at h
    | cons y r => simp at h; obtain ⟨rfl, rfl⟩ := h; rfl
theorem brs_spec {S : AS} {P : List Nat → Option (Tm × List Nat)} {f : MF} {dp : Nat} {w : List Nat} (ih : PrS S P f (dp + 1)) (hw : WordOk w) : ∀ (m : Nat) (a r : List Nat) (found : List Tm) (q0 : Option SV), Asc r → (a ++ r).length ≤ 16777216 → found.length + m = 3 → m ≠ 0 → (∀ t ∈ found, Good (8 - dp) t) →
    (∃ t u q, brs P w m r found = some (t, q) ∧ r = u ++ q ∧ Good (9 - dp) t ∧ dp ≤ 8 ∧ sWhile brT (brB f) [some (.fz (.str (T w))), some (.fz (.str (T (a ++ r)))), some (.fz (.int a.length)), some (.fz (.int dp)), some (.own (.lst (found.map enc))), q0] S = .rt (.fz (.tup [enc t, .int (a ++ u).length])) S) ∨
    (brs P w m r found = none ∧ ∃ ρ', sWhile brT (brB f) [some (.fz (.str (T w))), some (.fz (.str (T (a ++ r)))), some (.fz (.int a.length)), some (.fz (.int dp)), some (.own (.lst (found.map enc))), q0] S = .ex (Str.ofString "BadTerm") [Str.ofString "word"] [.str (Str.ofString "term")] ρ' S)
  | 0, _, _, _, _, _, _, _, h, _ => (h rfl).elim
  | m + 1, a, r, found, q0, ha, hl, hm, _, hf => by
    have hx : (T (a ++ r)).length ≤ sizeLine := by rw [T_len]; exact szl _ hl
    rcases ih a r ha hl with ⟨t, u, q, e1, e2, e3, e4, e5⟩ | ⟨e1, e5⟩
    · have hdp : ((dp + 1 : Nat) : Int) = (dp : Int) + 1 := by omega
      rw [hdp] at e5
      have hfl : (found.map enc).length = found.length := by simp
      have eu : a ++ r = (a ++ u) ++ q := by rw [e2, List.append_assoc]
      have c1 : cutS (T (a ++ r)) (some ((a ++ u).length : Nat)) (some (((a ++ u).length : Nat) + 1)) = T (q.take 1) := by rw [eu]; exact cut_at (a ++ u) q 1
      have c2 : cutS (T (a ++ r)) (some ((a ++ u).length : Nat)) (some (((a ++ u).length : Nat) + 2)) = T (q.take 2) := by rw [eu]; exact cut_at (a ++ u) q 2
      have hq : Asc q := by rw [e2] at ha; exact ha.app.2
      have eb : brs P w (m + 1) r found = (if q.take 1 = [41] then some (.sign w (found ++ [t]), q.drop 1) else if q.take 2 = [44, 32] ∧ m ≠ 0 then brs P w m (q.drop 2) (found ++ [t]) else none) := by
        conv => lhs; unfold brs
        rw [e1]
      have hg : ∀ t' ∈ found ++ [t], Good (8 - dp) t' := fun t' h => by
        rcases List.mem_append.mp h with z | z
        · exact hf t' z
        · rw [List.mem_singleton.mp z, show 8 - dp = 9 - (dp + 1) by omega]; exact e3
      by_cases h41 : q.take 1 = [41]
      · refine .inl ⟨.sign w (found ++ [t]), u ++ [41], q.drop 1, by rw [eb, if_pos h41], ?_, ?_, by omega, ?_⟩
        · rw [List.append_assoc]
          have := take_app1 h41
          rw [List.singleton_append, ← this]
          exact e2
        · rw [show 9 - dp = (8 - dp) + 1 by omega]
          exact ⟨hw, by simp; omega, hg⟩
        · rw [h41] at c1
          have := br_last (w := w) (found := found.map enc) (q := q0) hx e5 c1 (by rw [hfl]; omega)
          rw [this, enc]
          simp
          omega
      · by_cases h44 : q.take 2 = [44, 32] ∧ m ≠ 0
        · have hq2 := take_app2 h44.1
          have e6 : a ++ r = (a ++ (u ++ [44, 32])) ++ q.drop 2 := by
            rw [eu]
            conv => lhs; rw [hq2]
            simp
          have c3 : cutS (T (a ++ r)) (some ((a ++ u).length : Nat)) (some (((a ++ u).length : Nat) + 1)) = T [44] := by rw [c1, hq2]; rfl
          have hstep := br_next (w := w) (found := found.map enc) (q := q0) hx e5 c3 (by rw [c2, h44.1]) (by rw [hfl]; omega)
          have ev : (((a ++ u).length : Nat) : Int) + 2 = ((a ++ (u ++ [44, 32])).length : Nat) := by simp; omega
          rw [hstep, ev, show (found.map enc) ++ [enc t] = (found ++ [t]).map enc by simp, e6]
          rcases brs_spec ih hw m (a ++ (u ++ [44, 32])) (q.drop 2) (found ++ [t]) (some (.fz (enc t))) (hq.drop 2) (by rw [← e6]; exact hl) (by simp; omega) h44.2 hg with ⟨t2, u2, q2, f1, f2, f3, f4, f5⟩ | ⟨f1, ρ', f5⟩
          · refine .inl ⟨t2, u ++ [44, 32] ++ u2, q2, by rw [eb, if_neg h41, if_pos h44, f1], ?_, f3, f4, ?_⟩
            · rw [e2]
              conv => lhs; rw [hq2, f2]
              simp
            · rw [f5]
              simp
          · exact .inr ⟨by rw [eb, if_neg h41, if_pos h44, f1], ρ', f5⟩
        · refine .inr ⟨by rw [eb, if_neg h41, if_neg h44], ?_⟩
          refine br_stop (w := w) (found := found.map enc) (q := q0) hx e5 c1 c2 (hq.take 1) (hq.take 2) h41 ?_ (by rw [hfl]; omega)
          rw [hfl]
          by_cases h3 : q.take 2 = [44, 32]
          · right
            have : ¬ m ≠ 0 := fun z => h44 ⟨h3, z⟩
            omega
          · exact .inl h3
    · refine .inr ⟨by unfold brs; rw [e1], ?_⟩
      have hdp : ((dp + 1 : Nat) : Int) = (dp : Int) + 1 := by omega
      rw [hdp] at e5
      exact br_ex (d := .non) e5
theorem prs_spec {S : AS} : ∀ (n k dp : Nat), 2 * n + 1 ≤ k → 10 ≤ n + dp → PrS S (fun r => prs n r dp) (m_parsed k) dp
  | n, 0, _, hk, _ => absurd hk (by omega)
  | n, k + 1, dp, hk, hd => fun a r ha hl => by
    have hx : (T (a ++ r)).length ≤ sizeLine := by rw [T_len]; exact szl _ hl
    show _ ∨ (_ ∧ runF 7 (ms_parsed (m_branches_of k)) _ _ = _)
    -- the parts of the text
    obtain ⟨b, hb⟩ : ∃ b, decide (r.take 1 = [63]) = b := ⟨_, rfl⟩
    obtain ⟨a1, ha1⟩ : ∃ a1, (if b = true then a ++ [63] else a) = a1 := ⟨_, rfl⟩
    obtain ⟨r1, hr1⟩ : ∃ r1, (if r.take 1 = [63] then r.drop 1 else r) = r1 := ⟨_, rfl⟩
    have ear : a ++ r = a1 ++ r1 := by
      rw [← ha1, ← hr1, ← hb]
      by_cases h : r.take 1 = [63]
      · have := take_app1 h
        simp [h]
        rw [← List.drop_one]
        exact this
      · simp [h]
    have ea1 : (if b = true then (a.length : Int) + 1 else a.length) = (a1.length : Nat) := by
      rw [← ha1]
      cases b <;> simp
    obtain ⟨w, hw⟩ : ∃ w, r1.takeWhile isL = w := ⟨_, rfl⟩
    obtain ⟨r2, hr2⟩ : ∃ r2, r1.dropWhile isL = r2 := ⟨_, rfl⟩
    have er1 : r1 = w ++ r2 := by rw [← hw, ← hr2, List.takeWhile_append_dropWhile]
    have hr1a : Asc r1 := by
      rw [← hr1]
      split
      · exact ha.drop 1
      · exact ha
    have hr2a : Asc r2 := by rw [er1] at hr1a; exact hr1a.app.2
    have c1 : cutS (T (a ++ r)) (some (a.length : Int)) (some ((a.length : Int) + 1)) = T (r.take 1) := cut_at a r 1
    have n1 : pyEq (.str (T (r.take 1))) (.str (Str.ofString "?")) = some b := by
      rw [lit.2.2.2.1, pyeq_T (ha.take 1) (by unfold Asc; decide), hb]
    have we : m_word_end [.str (T (a ++ r)), .int (a1.length : Nat)] S = .ok (.fz (.int (a1 ++ w).length)) S := by
      rw [ear, ← hw]
      exact word_end_gen a1 r1 (by rw [← ear]; exact szl _ hl)
    have c2 : cutS (T (a ++ r)) (some (a1.length : Nat)) (some ((a1 ++ w).length : Nat)) = T w := by
      rw [ear, er1, ← List.append_assoc]
      exact cut_two a1 w r2
    have hwl : w.length ≤ 16777216 := by
      have h1 : (a1 ++ r1).length ≤ 16777216 := by rw [← ear]; exact hl
      rw [er1] at h1
      simp at h1
      omega
    have iw := is_word_gen (S := S) hwl
    by_cases hbad : 8 < dp ∨ okW w = false
    · refine .inr ⟨?_, ?_⟩
      · cases n with
        | zero => rfl
        | succ n =>
          show prs (n + 1) r dp = none
          unfold prs
          simp only
          rw [hr1, hw, if_pos hbad]
      · exact parsed_bad (b := b) hx c1 n1 (by rw [ea1]; exact we) (by rw [ea1]; exact c2) iw (by
          rcases hbad with z | z
          · exact .inl (by omega)
          · exact .inr z)
    · have h8 : ¬ 8 < dp := fun z => hbad (.inl z)
      have hok : okW w = true := by
        cases h : okW w with
        | true => rfl
        | false => exact (hbad (.inr h)).elim
      have hwok := okW_iff.mp hok
      rw [hok] at iw
      cases n with
      | zero => exact absurd hd (by omega)
      | succ n =>
        have ep : prs (n + 1) r dp = (if r.take 1 = [63] then some (.free w, r2) else if r2.take 1 ≠ [40] then some (.name w, r2) else if r2.take 2 = [40, 41] then some (.sign w [], r2.drop 2) else brs (fun q => prs n q (dp + 1)) w 3 (r2.drop 1) []) := by
          conv => lhs; unfold prs
          simp only
          rw [hr1, hw, hr2, if_neg hbad]
        have hg1 : Good (9 - dp) (.name w) := by rw [show 9 - dp = (8 - dp) + 1 by omega]; exact hwok
        by_cases hfr : r.take 1 = [63]
        · have hb1 : b = true := by rw [← hb]; simp [hfr]
          subst hb1
          rw [if_pos hfr] at hr1
          simp at ha1 ea1
          refine .inl ⟨.free w, 63 :: w, r2, by show prs (n + 1) r dp = _; rw [ep, if_pos hfr], ?_, ?_, by omega, ?_⟩
          · have := take_app1 hfr
            rw [this, hr1, er1]
            rfl
          · rw [show 9 - dp = (8 - dp) + 1 by omega]; exact hwok
          · show runF 7 (ms_parsed (m_branches_of k)) _ _ = _
            rw [hfr] at c1
            have := parsed_free (f := m_branches_of k) (dp := (dp : Int)) hx c1 (e := ((a1 ++ w).length : Nat)) (by rw [ea1]; exact we) (by rw [ea1]; exact c2) (by omega) iw
            rw [this, ← ha1]
            simp
        · have hb1 : b = false := by rw [← hb]; simp [hfr]
          subst hb1
          rw [if_neg hfr] at hr1
          simp at ha1 ea1
          subst ha1
          subst hr1
          have er : a ++ r = (a ++ w) ++ r2 := by rw [er1, List.append_assoc]
          have c3 : cutS (T (a ++ r)) (some ((a ++ w).length : Nat)) (some (((a ++ w).length : Nat) + 1)) = T (r2.take 1) := by rw [er]; exact cut_at (a ++ w) r2 1
          have c4 : cutS (T (a ++ r)) (some ((a ++ w).length : Nat)) (some (((a ++ w).length : Nat) + 2)) = T (r2.take 2) := by rw [er]; exact cut_at (a ++ w) r2 2
          by_cases h40 : r2.take 1 = [40]
          · rw [h40] at c3
            by_cases h41 : r2.take 2 = [40, 41]
            · rw [h41] at c4
              have q2 := take_app2 h41
              refine .inl ⟨.sign w [], w ++ [40, 41], r2.drop 2, by show prs (n + 1) r dp = _; rw [ep, if_neg hfr, if_neg (by simp [h40]), if_pos h41], ?_, ?_, by omega, ?_⟩
              · conv => lhs; rw [er1, q2]
                simp
              · rw [show 9 - dp = (8 - dp) + 1 by omega]; exact ⟨hwok, by simp, fun _ h => nomatch h⟩
              · show runF 7 (ms_parsed (m_branches_of k)) _ _ = _
                have := parsed_none (f := m_branches_of k) (dp := (dp : Int)) hx c1 n1 we c2 (by omega) iw c3 c4
                rw [this]
                simp
                omega
            · have q1 := take_app1 h40
              have n2 : pyEq (.str (T (r2.take 2))) (.str (Str.ofString "()")) = some false := by
                rw [lit.2.2.2.2.2.2.2, pyeq_T (hr2a.take 2) (by unfold Asc; decide)]
                simp [h41]
              have er' : a ++ r = (a ++ (w ++ [40])) ++ r2.drop 1 := by
                rw [er]
                conv => lhs; rw [q1]
                simp
              have ev : (((a ++ w).length : Nat) : Int) + 1 = ((a ++ (w ++ [40])).length : Nat) := by simp; omega
              cases k with
              | zero => exact absurd hk (by omega)
              | succ k =>
                have ihn := prs_spec (S := S) n k (dp + 1) (by omega) (by omega)
                have hbr := brs_spec ihn hwok 3 (a ++ (w ++ [40])) (r2.drop 1) [] none (hr2a.drop 1) (by rw [← er']; exact hl) rfl (by decide) (fun _ h => nomatch h)
                rw [← er'] at hbr
                have hrun : ∀ R : SR, sWhile brT (brB (m_parsed k)) [some (.fz (.str (T w))), some (.fz (.str (T (a ++ r)))), some (.fz (.int (a ++ (w ++ [40])).length)), some (.fz (.int dp)), some (.own (.lst [])), none] S = R → ms_branches_of (m_parsed k) (rho0 6 [.str (T w), .str (T (a ++ r)), .int (a ++ (w ++ [40])).length, .int dp]) S = R := fun R h => by
                  rw [br_form]
                  refine go (ρ' := [some (.fz (.str (T w))), some (.fz (.str (T (a ++ r)))), some (.fz (.int (a ++ (w ++ [40])).length)), some (.fz (.int dp)), some (.own (.lst [])), none]) (S' := S) (by simp [runF, rho0, sSeq, sSet, sIf, mTest, mAnd, mOr, mNot, eOp, eUn, eVar, eC, sRet, sRetN, sNext, sBreak, sCont, sAug, sDrop, sFreeze, frzS, sAsg, gT, gsCons, gsNil, gN, aNil, aCons, eCall, eTup, eLst, eLstR, eIf, eAndV, eOrV, eNotV, sPutR, sPutV, sAppV, sAppR, sRaise, gI, gIC, gLt, gLe, gGt, gGe, L3.gSub, gFdiv, gMod, gPow, guardR, bind_ok, bind_ex, bind_bad, toS_ok, toS_ex, toS_bad, putS_fz, putS_own, retS_fz, retS_own, retS_bor, zD_fz, zD_own, d_fz, d_own, d_bor, List.map_cons, List.map_nil, List.cons_append, List.nil_append, List.append_nil, List.length_cons, List.length_nil, List.replicate, List.getElem?_cons_zero, List.getElem?_cons_succ, List.set_cons_zero, List.set_cons_succ, oNo, oSm, eSl, mYes]) h
                rcases hbr with ⟨t, u, q, f1, f2, f3, f4, f5⟩ | ⟨f1, ρ', f5⟩
                · refine .inl ⟨t, w ++ [40] ++ u, q, by show prs (n + 1) r dp = _; rw [ep, if_neg hfr, if_neg (by simp [h40]), if_neg h41, f1], ?_, f3, f4, ?_⟩
                  · conv => lhs; rw [er1, q1, f2]
                    simp
                  · show runF 7 (ms_parsed (m_branches_of (k + 1))) _ _ = _
                    refine (parsed_some (f := m_branches_of (k + 1)) (dp := (dp : Int)) (r := .tup [enc t, .int (a ++ (w ++ [40] ++ u)).length]) hx c1 n1 we c2 (by omega) iw c3 c4 n2 ?_)
                    rw [ev]
                    refine run_rt (hrun _ ?_)
                    rw [List.map_nil] at f5
                    rw [f5]
                    simp
                · refine .inr ⟨by show prs (n + 1) r dp = _; rw [ep, if_neg hfr, if_neg (by simp [h40]), if_neg h41, f1], ?_⟩
                  refine parsed_ex (f := m_branches_of (k + 1)) (dp := (dp : Int)) hx c1 n1 we c2 (by omega) iw c3 c4 n2 ?_
                  rw [ev]
                  show runF 6 (ms_branches_of (m_parsed k)) _ _ = _
                  unfold runF
                  rw [List.map_nil] at f5
                  rw [hrun _ f5]
          · refine .inl ⟨.name w, w, r2, by show prs (n + 1) r dp = _; rw [ep, if_neg hfr, if_pos h40], er1, hg1, by omega, ?_⟩
            show runF 7 (ms_parsed (m_branches_of k)) _ _ = _
            have n2 : pyEq (.str (T (r2.take 1))) (.str (Str.ofString "(")) = some false := by
              rw [lit.2.2.2.2.1, pyeq_T (hr2a.take 1) (by unfold Asc; decide)]
              simp [h40]
            exact parsed_name (f := m_branches_of k) (dp := (dp : Int)) hx c1 n1 we c2 (by omega) iw c3 n2
/-! ### a whole text -/
def rdT (l : List Nat) : Option Tm := if 200 < l.length then none else match prs 9 l 1 with
  | some (t, []) => some t
  | _ => none
theorem read_gen {S : AS} {l : List Nat} (ha : Asc l) (hl : l.length ≤ 1000000) : m_read_term [.str (T l)] S = (match rdT l with | some t => .ok (.fz (enc t)) S | none => BadT S) ∧ (∀ t, rdT l = some t → Good 8 t) := by
  have l1 : l.length ≤ sizeLine := szl _ (by omega)
  unfold rdT
  by_cases h2 : 200 < l.length
  · rw [if_pos h2]
    have h2' : (200 : Int) < l.length := by omega
    refine ⟨?_, fun _ h => nomatch h⟩
    simp [m_read_term, ms_read_term, runF, rho0, sSeq, sSet, sIf, mTest, mAnd, mOr, mNot, eOp, eUn, eVar, eC, sRet, sRetN, sNext, sBreak, sCont, sAug, sDrop, sFreeze, frzS, sAsg, gT, gsCons, gsNil, gN, aNil, aCons, eCall, eTup, eLst, eLstR, eIf, eAndV, eOrV, eNotV, sPutR, sPutV, sAppV, sAppR, sRaise, gI, gIC, gLt, gLe, gGt, gGe, L3.gSub, gFdiv, gMod, gPow, guardR, bind_ok, bind_ex, bind_bad, toS_ok, toS_ex, toS_bad, putS_fz, putS_own, retS_fz, retS_own, retS_bor, zD_fz, zD_own, d_fz, d_own, d_bor, List.map_cons, List.map_nil, List.cons_append, List.nil_append, List.append_nil, List.length_cons, List.length_nil, List.replicate, List.getElem?_cons_zero, List.getElem?_cons_succ, List.set_cons_zero, List.set_cons_succ, oNo, oSm, eSl, mYes, gLen, T_len, l1, h2', BadT]
  · rw [if_neg h2]
    have h2' : ¬ (200 : Int) < l.length := by omega
    have hp := prs_spec (S := S) 9 40 1 (by decide) (by decide) [] l ha (by simp; omega)
    simp only [List.nil_append, List.length_nil] at hp
    rcases hp with ⟨t, u, q, e1, e2, e3, e4, e5⟩ | ⟨e1, e5⟩
    · rw [e1]
      have e5 : m_parsed 40 [.str (T l), .int 0, .int 1] S = .ok (.fz (.tup [enc t, .int u.length])) S := e5
      cases q with
      | nil =>
        have hu : (u.length : Int) = l.length := by rw [e2]; simp
        rw [hu] at e5
        exact ⟨by simp [m_read_term, ms_read_term, runF, rho0, sSeq, sSet, sIf, mTest, mAnd, mOr, mNot, eOp, eUn, eVar, eC, sRet, sRetN, sNext, sBreak, sCont, sAug, sDrop, sFreeze, frzS, sAsg, gT, gsCons, gsNil, gN, aNil, aCons, eCall, eTup, eLst, eLstR, eIf, eAndV, eOrV, eNotV, sPutR, sPutV, sAppV, sAppR, sRaise, gI, gIC, gLt, gLe, gGt, gGe, L3.gSub, gFdiv, gMod, gPow, guardR, bind_ok, bind_ex, bind_bad, toS_ok, toS_ex, toS_bad, putS_fz, putS_own, retS_fz, retS_own, retS_bor, zD_fz, zD_own, d_fz, d_own, d_bor, List.map_cons, List.map_nil, List.cons_append, List.nil_append, List.append_nil, List.length_cons, List.length_nil, List.replicate, List.getElem?_cons_zero, List.getElem?_cons_succ, List.set_cons_zero, List.set_cons_succ, oNo, oSm, eSl, mYes, gLen, T_len, l1, h2', e5, gNe, q_int], fun t' h => by cases h; exact e3⟩
      | cons k q =>
        have hu : ¬ (u.length : Int) = l.length := by rw [e2]; simp; omega
        exact ⟨by simp [m_read_term, ms_read_term, runF, rho0, sSeq, sSet, sIf, mTest, mAnd, mOr, mNot, eOp, eUn, eVar, eC, sRet, sRetN, sNext, sBreak, sCont, sAug, sDrop, sFreeze, frzS, sAsg, gT, gsCons, gsNil, gN, aNil, aCons, eCall, eTup, eLst, eLstR, eIf, eAndV, eOrV, eNotV, sPutR, sPutV, sAppV, sAppR, sRaise, gI, gIC, gLt, gLe, gGt, gGe, L3.gSub, gFdiv, gMod, gPow, guardR, bind_ok, bind_ex, bind_bad, toS_ok, toS_ex, toS_bad, putS_fz, putS_own, retS_fz, retS_own, retS_bor, zD_fz, zD_own, d_fz, d_own, d_bor, List.map_cons, List.map_nil, List.cons_append, List.nil_append, List.append_nil, List.length_cons, List.length_nil, List.replicate, List.getElem?_cons_zero, List.getElem?_cons_succ, List.set_cons_zero, List.set_cons_succ, oNo, oSm, eSl, mYes, gLen, T_len, l1, h2', e5, gNe, q_int, hu, BadT], fun t' h => nomatch h⟩
    · rw [e1]
      have e5 : m_parsed 40 [.str (T l), .int 0, .int 1] S = BadT S := e5
      exact ⟨by simp [m_read_term, ms_read_term, runF, rho0, sSeq, sSet, sIf, mTest, mAnd, mOr, mNot, eOp, eUn, eVar, eC, sRet, sRetN, sNext, sBreak, sCont, sAug, sDrop, sFreeze, frzS, sAsg, gT, gsCons, gsNil, gN, aNil, aCons, eCall, eTup, eLst, eLstR, eIf, eAndV, eOrV, eNotV, sPutR, sPutV, sAppV, sAppR, sRaise, gI, gIC, gLt, gLe, gGt, gGe, L3.gSub, gFdiv, gMod, gPow, guardR, bind_ok, bind_ex, bind_bad, toS_ok, toS_ex, toS_bad, putS_fz, putS_own, retS_fz, retS_own, retS_bor, zD_fz, zD_own, d_fz, d_own, d_bor, List.map_cons, List.map_nil, List.cons_append, List.nil_append, List.append_nil, List.length_cons, List.length_nil, List.replicate, List.getElem?_cons_zero, List.getElem?_cons_succ, List.set_cons_zero, List.set_cons_succ, oNo, oSm, eSl, mYes, gLen, T_len, l1, h2', e5, BadT], fun t' h => nomatch h⟩
end MK

namespace MK
open PySem PySem.Spec PyProof.Rows L2 L3 PX
/-! ### the law's own reading -/
theorem law_is_word_gen {S : AS} {w : List Nat} (hl : w.length ≤ 16777216) : m_law_is_word [.str (T w)] S = .ok (.fz (.bl (okW w))) S := by
  have := is_word_gen (S := S) hl
  exact this
theorem toPyL_of {α : Type} (f : α → D) (C : PyData → Prop) : ∀ l : List α, (∀ a ∈ l, ∃ p, toPy (f a) = some p ∧ C p) → ∃ ps, toPyL (l.map f) = some ps ∧ ps.length = l.length ∧ ∀ p ∈ ps, C p
  | [], _ => ⟨[], rfl, rfl, fun _ h => nomatch h⟩
  | a :: l, h => by
    obtain ⟨p, e1, h1⟩ := h a (List.mem_cons_self ..)
    obtain ⟨ps, e2, h2, h3⟩ := toPyL_of f C l fun b hb => h b (List.mem_cons_of_mem _ hb)
    refine ⟨p :: ps, by rw [List.map_cons, toPyL, e1, e2], by simp [h2], fun q hq => ?_⟩
    rcases List.mem_cons.mp hq with z | z
    · rw [z]; exact h1
    · exact h3 q z
theorem canAll {ps : List PyData} : (∀ p ∈ ps, p.canLay0 = true) → PyData.canLayAll0 ps = true := by
  induction ps with
  | nil => exact fun _ => rfl
  | cons p ps ih => exact fun h => by rw [PyData.canLayAll0, h p (List.mem_cons_self ..), ih fun q hq => h q (List.mem_cons_of_mem _ hq)]; rfl
theorem depAll {ps : List PyData} {n : Nat} : (∀ p ∈ ps, p.depth ≤ n) → PyData.depthAll ps ≤ n := by
  induction ps with
  | nil => exact fun _ => Nat.zero_le _
  | cons p ps ih =>
    intro h
    rw [PyData.depthAll]
    exact Nat.max_le.mpr ⟨h p (List.mem_cons_self ..), ih fun q hq => h q (List.mem_cons_of_mem _ hq)⟩
theorem enc_py : ∀ {n : Nat} {t : Tm}, Good n t → ∃ p, toPy (enc t) = some p ∧ p.canLay0 = true ∧ p.depth ≤ 2 * n
  | 0, _, h => h.elim
  | n + 1, .free w, h => ⟨.tuple [.str (Str.ofString "free"), .str (T w)], by simp [enc, toPy, toPyL], by
      have := strOk_T (wasc h)
      simp only [PyData.canLay0, PyData.canLayAll0, this, Bool.and_true]
      decide +kernel, by simp [PyData.depth, PyData.depthAll]; omega⟩
  | n + 1, .name w, h => ⟨.tuple [.str (Str.ofString "name"), .str (T w)], by simp [enc, toPy, toPyL], by
      have := strOk_T (wasc h)
      simp only [PyData.canLay0, PyData.canLayAll0, this, Bool.and_true]
      decide +kernel, by simp [PyData.depth, PyData.depthAll]; omega⟩
  | n + 1, .sign w ts, ⟨h1, h2, h3⟩ => by
    obtain ⟨ps, e1, _, e3⟩ := toPyL_of enc (fun p => p.canLay0 = true ∧ p.depth ≤ 2 * n) ts fun t ht => enc_py (h3 t ht)
    have hw := strOk_T (wasc h1)
    have hc := canAll fun p hp => (e3 p hp).1
    have hd := depAll fun p hp => (e3 p hp).2
    refine ⟨.tuple [.str (Str.ofString "sign"), .str (T w), .tuple ps], by simp [enc, toPy, toPyL, e1], ?_, ?_⟩
    · simp only [PyData.canLay0, PyData.canLayAll0, hw, hc, Bool.and_true]
      decide +kernel
    · simp [PyData.depth, PyData.depthAll]
      omega
theorem pyeq_nil {n : Nat} (hn : n ≤ 8) {ts : List Tm} (h : ∀ t ∈ ts, Good n t) : pyEq (.lst (ts.map enc)) (.lst []) = some (decide (ts = [])) := by
  obtain ⟨ps, e1, e2, e3⟩ := toPyL_of enc (fun p => p.canLay0 = true ∧ p.depth ≤ 2 * n) ts fun t ht => enc_py (h t ht)
  have hc := canAll fun p hp => (e3 p hp).1
  have hd := depAll fun p hp => (e3 p hp).2
  have q1 : toPy (.lst (ts.map enc)) = some (.list ps) := by simp [toPy, e1]
  have q2 : toPy (.lst []) = some (.list []) := by simp [toPy, toPyL]
  unfold pyEq
  rw [q1, q2]
  dsimp only
  have s1 : SeqAt.shaped (.list ps) = true := by
    unfold SeqAt.shaped
    rw [Bool.and_eq_true_iff]
    exact ⟨by rw [PyData.canLay0]; exact hc, by rw [PyData.depth]; simp; omega⟩
  have s2 : SeqAt.shaped (.list []) = true := by decide +kernel
  rw [if_pos ⟨s1, s2⟩]
  cases ps with
  | nil => cases ts with
    | nil => simp [PyData.eqv, PyData.eqvAll]
    | cons t ts => simp at e2
  | cons p ps => cases ts with
    | nil => simp at e2
    | cons t ts => simp [PyData.eqv, PyData.eqvAll]
def LrS (S : AS) (P : List Nat → Option (Tm × List Nat)) (f : MF) (dp : Nat) : Prop := ∀ a r : List Nat, Asc r → (a ++ r).length ≤ 16777216 →
  (∃ t u q, P r = some (t, q) ∧ r = u ++ q ∧ Good (9 - dp) t ∧ dp ≤ 8 ∧ f [.str (T (a ++ r)), .int a.length, .int dp] S = .ok (.fz (.tup [enc t, .int (a ++ u).length])) S) ∨ (P r = none ∧ f [.str (T (a ++ r)), .int a.length, .int dp] S = .ok (.fz (.tup [.non, .int 0])) S)
noncomputable def lrC : MT := (mOr (mTest (eOp gNe (eSl (eVar 0) (oSm (eVar 4)) (oSm (eOp gAdd (eVar 4) (eC (.int 1))))) (eC (.str (Str.ofString ")"))))) (mTest (eOp gNe (eVar 6) (eLst aNil))))
noncomputable def lrB (f_law_read : MF) : MS := (sSeq (sAsg (gT 2 (gsCons (gN 7) (gsCons (gN 4) gsNil))) (eCall 3 f_law_read (aCons (eVar 0) (aCons (eVar 4) (aCons (eOp gAdd (eVar 2) (eC (.int 1))) aNil))))) (sSeq (sAppV 6 (eVar 7)) (sSeq (sIf (mOr (mTest (eOp gIsN (eVar 7) (eC .non))) (mTest (eOp gGt (eUn gLen (eVar 6)) (eC (.int 3))))) (sRet (eTup (aCons (eC .non) (aCons (eC (.int 0)) aNil)))) sNext) (sSeq (sIf (mTest (eOp gEq (eSl (eVar 0) (oSm (eVar 4)) (oSm (eOp gAdd (eVar 4) (eC (.int 1))))) (eC (.str (Str.ofString ")"))))) sBreak sNext) (sSeq (sIf (mTest (eOp gNe (eSl (eVar 0) (oSm (eVar 4)) (oSm (eOp gAdd (eVar 4) (eC (.int 2))))) (eC (.str (Str.ofString ", "))))) (sRet (eTup (aCons (eC .non) (aCons (eC (.int 0)) aNil)))) sNext) (sAsg (gN 4) (eOp gAdd (eVar 4) (eC (.int 2)))))))))
noncomputable def lrR : MS := (sRet (eTup (aCons (eTup (aCons (eC (.str (Str.ofString "sign"))) (aCons (eVar 5) (aCons (eUn gTupOf (eVar 6)) aNil)))) (aCons (eOp gAdd (eVar 4) (eC (.int 1))) aNil))))
noncomputable def lrW : MS := (sWhile (mAnd (mTest (eOp gLt (eVar 4) (eUn gLen (eVar 0)))) (mTest (eOp gInSg (eOp gIx (eVar 0) (eVar 4)) (eC (.str (Str.ofString "abcdefghijklmnopqrstuvwxyz")))))) (sAsg (gN 4) (eOp gAdd (eVar 4) (eC (.int 1)))))
noncomputable def lrT (f : MF) : MS := (sSeq (sIf (mOr (mTest (eOp gGt (eVar 2) (eC (.int 8)))) (mNot (mTest (eCall 1 m_law_is_word (aCons (eVar 5) aNil))))) (sRet (eTup (aCons (eC .non) (aCons (eC (.int 0)) aNil)))) sNext) (sSeq (sIf (mTest (eOp gGt (eVar 3) (eVar 1))) (sRet (eTup (aCons (eTup (aCons (eC (.str (Str.ofString "free"))) (aCons (eVar 5) aNil))) (aCons (eVar 4) aNil)))) sNext) (sSeq (sIf (mTest (eOp gNe (eSl (eVar 0) (oSm (eVar 4)) (oSm (eOp gAdd (eVar 4) (eC (.int 1))))) (eC (.str (Str.ofString "("))))) (sRet (eTup (aCons (eTup (aCons (eC (.str (Str.ofString "name"))) (aCons (eVar 5) aNil))) (aCons (eVar 4) aNil)))) sNext) (sSeq (sSet 6 (eLst aNil)) (sSeq (sAsg (gN 4) (eOp gAdd (eVar 4) (eC (.int 1)))) (sSeq (sWhile lrC (lrB f)) lrR))))))
theorem lr_form (f : MF) : ms_law_read f = sSeq (sAsg (gN 3) (eOp gAdd (eVar 1) (eUn gInt1 (eOp gEq (eSl (eVar 0) (oSm (eVar 1)) (oSm (eOp gAdd (eVar 1) (eC (.int 1))))) (eC (.str (Str.ofString "?"))))))) (sSeq (sAsg (gN 4) (eVar 3)) (sSeq lrW (sSeq (sAsg (gN 5) (eSl (eVar 0) (oSm (eVar 3)) (oSm (eVar 4)))) (lrT f)))) := rfl
def ln8 (x : Str) (p dp b : Int) (q4 q5 q6 q7 : Option SV) : Rho := [some (.fz (.str x)), some (.fz (.int p)), some (.fz (.int dp)), some (.fz (.int b)), q4, q5, q6, q7]
theorem lrW_spec {S : AS} {p dp b : Int} {q5 q6 q7 : Option SV} : ∀ (w a c : List Nat), Ltr w → NoL c → (a ++ w ++ c).length ≤ sizeLine →
    lrW (ln8 (T (a ++ w ++ c)) p dp b (some (.fz (.int a.length))) q5 q6 q7) S = .nx (ln8 (T (a ++ w ++ c)) p dp b (some (.fz (.int (a ++ w).length))) q5 q6 q7) S
  | [], a, c, _, hb, hl => by
    unfold lrW
    rw [sWhile_eq]
    cases c with
    | nil =>
      simp [ln8, runF, rho0, sSeq, sSet, sIf, mTest, mAnd, mOr, mNot, eOp, eUn, eVar, eC, sRet, sRetN, sNext, sBreak, sCont, sAug, sDrop, sFreeze, frzS, sAsg, gT, gsCons, gsNil, gN, aNil, aCons, eCall, eTup, eLst, eLstR, eIf, eAndV, eOrV, eNotV, sPutR, sPutV, sAppV, sAppR, sRaise, gI, gIC, gLt, gLe, gGt, gGe, L3.gSub, gFdiv, gMod, gPow, guardR, bind_ok, bind_ex, bind_bad, toS_ok, toS_ex, toS_bad, putS_fz, putS_own, retS_fz, retS_own, retS_bor, zD_fz, zD_own, d_fz, d_own, d_bor, List.map_cons, List.map_nil, List.cons_append, List.nil_append, List.append_nil, List.length_cons, List.length_nil, List.replicate, List.getElem?_cons_zero, List.getElem?_cons_succ, List.set_cons_zero, List.set_cons_succ, oNo, oSm, eSl, mYes, gLen, T_len] at hl ⊢
      simp [hl]
    | cons k b =>
      have e : L2.atI (a ++ k :: b) (a.length : Int) = some k := atI_at (by simp)
      have hk : ¬(k ∈ az) := fun z => hb (az_mem.mp z)
      simp [ln8, runF, rho0, sSeq, sSet, sIf, mTest, mAnd, mOr, mNot, eOp, eUn, eVar, eC, sRet, sRetN, sNext, sBreak, sCont, sAug, sDrop, sFreeze, frzS, sAsg, gT, gsCons, gsNil, gN, aNil, aCons, eCall, eTup, eLst, eLstR, eIf, eAndV, eOrV, eNotV, sPutR, sPutV, sAppV, sAppR, sRaise, gI, gIC, gLt, gLe, gGt, gGe, L3.gSub, gFdiv, gMod, gPow, guardR, bind_ok, bind_ex, bind_bad, toS_ok, toS_ex, toS_bad, putS_fz, putS_own, retS_fz, retS_own, retS_bor, zD_fz, zD_own, d_fz, d_own, d_bor, List.map_cons, List.map_nil, List.cons_append, List.nil_append, List.append_nil, List.length_cons, List.length_nil, List.replicate, List.getElem?_cons_zero, List.getElem?_cons_succ, List.set_cons_zero, List.set_cons_succ, oNo, oSm, eSl, mYes, gLen, T_len, T_cps, T_mem, gIx, gInSg, az_of, e, hk] at hl ⊢
      have h2 : (a.length : Int) < a.length + (b.length + 1) := by omega
      simp [hl, h2, T_mem, hk]
  | k :: w, a, c, hw, hb, hl => by
    have ih := lrW_spec (S := S) (p := p) (dp := dp) (b := b) (q5 := q5) (q6 := q6) (q7 := q7) w (a ++ [k]) c (fun x hx => hw x (List.mem_cons_of_mem _ hx)) hb (by simpa using hl)
    unfold lrW at ih ⊢
    rw [sWhile_eq]
    have e : L2.atI (a ++ k :: (w ++ c)) (a.length : Int) = some k := atI_at (by simp)
    have hk : k ∈ az := az_mem.mpr (hw k (List.mem_cons_self ..))
    simp at ih
    simp [ln8, runF, rho0, sSeq, sSet, sIf, mTest, mAnd, mOr, mNot, eOp, eUn, eVar, eC, sRet, sRetN, sNext, sBreak, sCont, sAug, sDrop, sFreeze, frzS, sAsg, gT, gsCons, gsNil, gN, aNil, aCons, eCall, eTup, eLst, eLstR, eIf, eAndV, eOrV, eNotV, sPutR, sPutV, sAppV, sAppR, sRaise, gI, gIC, gLt, gLe, gGt, gGe, L3.gSub, gFdiv, gMod, gPow, guardR, bind_ok, bind_ex, bind_bad, toS_ok, toS_ex, toS_bad, putS_fz, putS_own, retS_fz, retS_own, retS_bor, zD_fz, zD_own, d_fz, d_own, d_bor, List.map_cons, List.map_nil, List.cons_append, List.nil_append, List.append_nil, List.length_cons, List.length_nil, List.replicate, List.getElem?_cons_zero, List.getElem?_cons_succ, List.set_cons_zero, List.set_cons_succ, oNo, oSm, eSl, mYes, gLen, T_len, T_cps, T_mem, gIx, gInSg, gAdd, az_of, e, hk] at hl ih ⊢
    have h2 : (a.length : Int) < a.length + (w.length + c.length + 1) := by omega
    simp [hl, h2, ih, T_mem, hk]
def NoneT : SV := .fz (.tup [.non, .int 0])
theorem lr_loop {S : AS} {P : List Nat → Option (Tm × List Nat)} {f : MF} {dp : Nat} {p b : Int} {w : List Nat} (hd : dp ≤ 8) (ih : LrS S P f (dp + 1)) (hw : WordOk w) : ∀ (m : Nat) (a r : List Nat) (found : List Tm) (q7 : Option SV), Asc r → (a ++ r).length ≤ 16777216 → found.length + m = 3 → (found ≠ [] ∨ r.take 1 ≠ [41]) → (∀ t ∈ found, Good (8 - dp) t) →
    (∃ t u q, brs P w m r found = some (t, q) ∧ r = u ++ q ∧ Good (9 - dp) t ∧ sSeq (sWhile lrC (lrB f)) lrR (ln8 (T (a ++ r)) p dp b (some (.fz (.int a.length))) (some (.fz (.str (T w)))) (some (.own (.lst (found.map enc)))) q7) S = .rt (.fz (.tup [enc t, .int (a ++ u).length])) S) ∨
    (brs P w m r found = none ∧ sSeq (sWhile lrC (lrB f)) lrR (ln8 (T (a ++ r)) p dp b (some (.fz (.int a.length))) (some (.fz (.str (T w)))) (some (.own (.lst (found.map enc)))) q7) S = .rt NoneT S) := by
  intro m
  induction m with
  | zero =>
    intro a r found q7 ha hl hm hne hf
    have hx : (T (a ++ r)).length ≤ sizeLine := by rw [T_len]; exact szl _ hl
    have hdp : ((dp + 1 : Nat) : Int) = (dp : Int) + 1 := by omega
    have hne2 : found ≠ [] := fun z => by rw [z] at hm; simp at hm
    have hnil := pyeq_nil (n := 8 - dp) (by omega) hf
    have c0 : cutS (T (a ++ r)) (some (a.length : Int)) (some ((a.length : Int) + 1)) = T (r.take 1) := cut_at a r 1
    have n0 : pyEq (.str (T (r.take 1))) (.str (T [41])) = some (decide (r.take 1 = [41])) := pyeq_T (ha.take 1) (by decide)
    have l4 : found.length < sizeLine := by unfold sizeLine; omega
    have l2 : 2 ≤ sizeLine := by decide
    have l5 : (3 : Int) < (found.length : Int) + 1 := by omega
    obtain ⟨_, _, _, _, _, q6, q8, _⟩ := lit
    refine .inr ⟨rfl, ?_⟩
    have ec : lrC (ln8 (T (a ++ r)) p dp b (some (.fz (.int a.length))) (some (.fz (.str (T w)))) (some (.own (.lst (found.map enc)))) q7) S = .ok true S := by
      by_cases h : r.take 1 = [41]
      · rw [h] at n0 c0
        simp at n0
        simp [lrC, ln8, runF, rho0, sSeq, sSet, sIf, mTest, mAnd, mOr, mNot, eOp, eUn, eVar, eC, sRet, sRetN, sNext, sBreak, sCont, sAug, sDrop, sFreeze, frzS, sAsg, gT, gsCons, gsNil, gN, aNil, aCons, eCall, eTup, eLst, eLstR, eIf, eAndV, eOrV, eNotV, sPutR, sPutV, sAppV, sAppR, sRaise, gI, gIC, gLt, gLe, gGt, gGe, L3.gSub, gFdiv, gMod, gPow, guardR, bind_ok, bind_ex, bind_bad, toS_ok, toS_ex, toS_bad, putS_fz, putS_own, retS_fz, retS_own, retS_bor, zD_fz, zD_own, d_fz, d_own, d_bor, List.map_cons, List.map_nil, List.cons_append, List.nil_append, List.append_nil, List.length_cons, List.length_nil, List.replicate, List.getElem?_cons_zero, List.getElem?_cons_succ, List.set_cons_zero, List.set_cons_succ, oNo, oSm, eSl, mYes, gAdd, gSl, hx, c0, gNe, q6, n0, hnil, hne2]
      · simp [lrC, ln8, runF, rho0, sSeq, sSet, sIf, mTest, mAnd, mOr, mNot, eOp, eUn, eVar, eC, sRet, sRetN, sNext, sBreak, sCont, sAug, sDrop, sFreeze, frzS, sAsg, gT, gsCons, gsNil, gN, aNil, aCons, eCall, eTup, eLst, eLstR, eIf, eAndV, eOrV, eNotV, sPutR, sPutV, sAppV, sAppR, sRaise, gI, gIC, gLt, gLe, gGt, gGe, L3.gSub, gFdiv, gMod, gPow, guardR, bind_ok, bind_ex, bind_bad, toS_ok, toS_ex, toS_bad, putS_fz, putS_own, retS_fz, retS_own, retS_bor, zD_fz, zD_own, d_fz, d_own, d_bor, List.map_cons, List.map_nil, List.cons_append, List.nil_append, List.append_nil, List.length_cons, List.length_nil, List.replicate, List.getElem?_cons_zero, List.getElem?_cons_succ, List.set_cons_zero, List.set_cons_succ, oNo, oSm, eSl, mYes, gAdd, gSl, hx, c0, gNe, q6, n0, h]
    have eb : lrB f (ln8 (T (a ++ r)) p dp b (some (.fz (.int a.length))) (some (.fz (.str (T w)))) (some (.own (.lst (found.map enc)))) q7) S = .rt NoneT S := by
      rcases ih a r ha hl with ⟨t, u, q, _, _, e3, _, e5⟩ | ⟨_, e5⟩
      · rw [hdp] at e5
        simp [lrB, ln8, runF, rho0, sSeq, sSet, sIf, mTest, mAnd, mOr, mNot, eOp, eUn, eVar, eC, sRet, sRetN, sNext, sBreak, sCont, sAug, sDrop, sFreeze, frzS, sAsg, gT, gsCons, gsNil, gN, aNil, aCons, eCall, eTup, eLst, eLstR, eIf, eAndV, eOrV, eNotV, sPutR, sPutV, sAppV, sAppR, sRaise, gI, gIC, gLt, gLe, gGt, gGe, L3.gSub, gFdiv, gMod, gPow, guardR, bind_ok, bind_ex, bind_bad, toS_ok, toS_ex, toS_bad, putS_fz, putS_own, retS_fz, retS_own, retS_bor, zD_fz, zD_own, d_fz, d_own, d_bor, List.map_cons, List.map_nil, List.cons_append, List.nil_append, List.append_nil, List.length_cons, List.length_nil, List.replicate, List.getElem?_cons_zero, List.getElem?_cons_succ, List.set_cons_zero, List.set_cons_succ, oNo, oSm, eSl, mYes, gAdd, e5, l4, gIsN, L3.isNon, gLen, l5, l2, NoneT]
      · rw [hdp] at e5
        simp [lrB, ln8, runF, rho0, sSeq, sSet, sIf, mTest, mAnd, mOr, mNot, eOp, eUn, eVar, eC, sRet, sRetN, sNext, sBreak, sCont, sAug, sDrop, sFreeze, frzS, sAsg, gT, gsCons, gsNil, gN, aNil, aCons, eCall, eTup, eLst, eLstR, eIf, eAndV, eOrV, eNotV, sPutR, sPutV, sAppV, sAppR, sRaise, gI, gIC, gLt, gLe, gGt, gGe, L3.gSub, gFdiv, gMod, gPow, guardR, bind_ok, bind_ex, bind_bad, toS_ok, toS_ex, toS_bad, putS_fz, putS_own, retS_fz, retS_own, retS_bor, zD_fz, zD_own, d_fz, d_own, d_bor, List.map_cons, List.map_nil, List.cons_append, List.nil_append, List.append_nil, List.length_cons, List.length_nil, List.replicate, List.getElem?_cons_zero, List.getElem?_cons_succ, List.set_cons_zero, List.set_cons_succ, oNo, oSm, eSl, mYes, gAdd, e5, l4, gIsN, L3.isNon, l2, NoneT]
    unfold sSeq
    rw [sWhile_eq, ec, toS_ok, if_pos rfl, eb]
  | succ m ihm =>
    intro a r found q7 ha hl hm hne hf
    have hx : (T (a ++ r)).length ≤ sizeLine := by rw [T_len]; exact szl _ hl
    have hdp : ((dp + 1 : Nat) : Int) = (dp : Int) + 1 := by omega
    have hnil := pyeq_nil (n := 8 - dp) (by omega) hf
    have c0 : cutS (T (a ++ r)) (some (a.length : Int)) (some ((a.length : Int) + 1)) = T (r.take 1) := cut_at a r 1
    have n0 : pyEq (.str (T (r.take 1))) (.str (T [41])) = some (decide (r.take 1 = [41])) := pyeq_T (ha.take 1) (by decide)
    have l4 : found.length < sizeLine := by unfold sizeLine; omega
    have l2 : 2 ≤ sizeLine := by decide
    have l3 : 3 ≤ sizeLine := by decide
    have l5 : ¬ (3 : Int) < (found.length : Int) + 1 := by omega
    obtain ⟨_, _, _, _, _, q6, q8, _⟩ := lit
    have ec : lrC (ln8 (T (a ++ r)) p dp b (some (.fz (.int a.length))) (some (.fz (.str (T w)))) (some (.own (.lst (found.map enc)))) q7) S = .ok true S := by
      by_cases h : r.take 1 = [41]
      · have hne2 := hne.resolve_right (fun z => z h)
        rw [h] at n0 c0
        simp at n0
        simp [lrC, ln8, runF, rho0, sSeq, sSet, sIf, mTest, mAnd, mOr, mNot, eOp, eUn, eVar, eC, sRet, sRetN, sNext, sBreak, sCont, sAug, sDrop, sFreeze, frzS, sAsg, gT, gsCons, gsNil, gN, aNil, aCons, eCall, eTup, eLst, eLstR, eIf, eAndV, eOrV, eNotV, sPutR, sPutV, sAppV, sAppR, sRaise, gI, gIC, gLt, gLe, gGt, gGe, L3.gSub, gFdiv, gMod, gPow, guardR, bind_ok, bind_ex, bind_bad, toS_ok, toS_ex, toS_bad, putS_fz, putS_own, retS_fz, retS_own, retS_bor, zD_fz, zD_own, d_fz, d_own, d_bor, List.map_cons, List.map_nil, List.cons_append, List.nil_append, List.append_nil, List.length_cons, List.length_nil, List.replicate, List.getElem?_cons_zero, List.getElem?_cons_succ, List.set_cons_zero, List.set_cons_succ, oNo, oSm, eSl, mYes, gAdd, gSl, hx, c0, gNe, q6, n0, hnil, hne2]
      · simp [lrC, ln8, runF, rho0, sSeq, sSet, sIf, mTest, mAnd, mOr, mNot, eOp, eUn, eVar, eC, sRet, sRetN, sNext, sBreak, sCont, sAug, sDrop, sFreeze, frzS, sAsg, gT, gsCons, gsNil, gN, aNil, aCons, eCall, eTup, eLst, eLstR, eIf, eAndV, eOrV, eNotV, sPutR, sPutV, sAppV, sAppR, sRaise, gI, gIC, gLt, gLe, gGt, gGe, L3.gSub, gFdiv, gMod, gPow, guardR, bind_ok, bind_ex, bind_bad, toS_ok, toS_ex, toS_bad, putS_fz, putS_own, retS_fz, retS_own, retS_bor, zD_fz, zD_own, d_fz, d_own, d_bor, List.map_cons, List.map_nil, List.cons_append, List.nil_append, List.append_nil, List.length_cons, List.length_nil, List.replicate, List.getElem?_cons_zero, List.getElem?_cons_succ, List.set_cons_zero, List.set_cons_succ, oNo, oSm, eSl, mYes, gAdd, gSl, hx, c0, gNe, q6, n0, h]
    rcases ih a r ha hl with ⟨t, u, q, e1, e2, e3, e4, e5⟩ | ⟨e1, e5⟩
    · rw [hdp] at e5
      have hnt : L3.isNon (enc t) = false := by cases t <;> simp [enc, L3.isNon]
      have eu : a ++ r = (a ++ u) ++ q := by rw [e2, List.append_assoc]
      have c1 : cutS (T (a ++ r)) (some ((a ++ u).length : Nat)) (some (((a ++ u).length : Nat) + 1)) = T (q.take 1) := by rw [eu]; exact cut_at (a ++ u) q 1
      have c2 : cutS (T (a ++ r)) (some ((a ++ u).length : Nat)) (some (((a ++ u).length : Nat) + 2)) = T (q.take 2) := by rw [eu]; exact cut_at (a ++ u) q 2
      have hq : Asc q := by rw [e2] at ha; exact ha.app.2
      have n1 : pyEq (.str (T (q.take 1))) (.str (T [41])) = some (decide (q.take 1 = [41])) := pyeq_T (hq.take 1) (by decide)
      have n2 : pyEq (.str (T (q.take 2))) (.str (T [44, 32])) = some (decide (q.take 2 = [44, 32])) := pyeq_T (hq.take 2) (by decide)
      have ebr : brs P w (m + 1) r found = (if q.take 1 = [41] then some (.sign w (found ++ [t]), q.drop 1) else if q.take 2 = [44, 32] ∧ m ≠ 0 then brs P w m (q.drop 2) (found ++ [t]) else none) := by
        conv => lhs; unfold brs
        rw [e1]
      have hg : ∀ t' ∈ found ++ [t], Good (8 - dp) t' := fun t' h => by
        rcases List.mem_append.mp h with z | z
        · exact hf t' z
        · rw [List.mem_singleton.mp z, show 8 - dp = 9 - (dp + 1) by omega]; exact e3
      generalize hk : (a ++ u).length = k at c1 c2 e5
      by_cases h41 : q.take 1 = [41]
      · have eb : lrB f (ln8 (T (a ++ r)) p dp b (some (.fz (.int a.length))) (some (.fz (.str (T w)))) (some (.own (.lst (found.map enc)))) q7) S = .bk (ln8 (T (a ++ r)) p dp b (some (.fz (.int k))) (some (.fz (.str (T w)))) (some (.own (.lst ((found ++ [t]).map enc)))) (some (.fz (enc t)))) S := by
          rw [h41] at n1 c1
          simp at n1
          simp [lrB, ln8, runF, rho0, sSeq, sSet, sIf, mTest, mAnd, mOr, mNot, eOp, eUn, eVar, eC, sRet, sRetN, sNext, sBreak, sCont, sAug, sDrop, sFreeze, frzS, sAsg, gT, gsCons, gsNil, gN, aNil, aCons, eCall, eTup, eLst, eLstR, eIf, eAndV, eOrV, eNotV, sPutR, sPutV, sAppV, sAppR, sRaise, gI, gIC, gLt, gLe, gGt, gGe, L3.gSub, gFdiv, gMod, gPow, guardR, bind_ok, bind_ex, bind_bad, toS_ok, toS_ex, toS_bad, putS_fz, putS_own, retS_fz, retS_own, retS_bor, zD_fz, zD_own, d_fz, d_own, d_bor, List.map_cons, List.map_nil, List.cons_append, List.nil_append, List.append_nil, List.length_cons, List.length_nil, List.replicate, List.getElem?_cons_zero, List.getElem?_cons_succ, List.set_cons_zero, List.set_cons_succ, oNo, oSm, eSl, mYes, gAdd, e5, l4, gIsN, hnt, gLen, l5, gSl, hx, c1, gEq, q6, n1]
        refine .inl ⟨.sign w (found ++ [t]), u ++ [41], q.drop 1, by rw [ebr, if_pos h41], ?_, ?_, ?_⟩
        · rw [List.append_assoc, List.singleton_append, ← take_app1 h41]; exact e2
        · rw [show 9 - dp = (8 - dp) + 1 by omega]; exact ⟨hw, by simp; omega, hg⟩
        · unfold sSeq
          rw [sWhile_eq, ec, toS_ok, if_pos rfl, eb]
          have : ((a ++ (u ++ [41])).length : Int) = (k : Int) + 1 := by rw [← hk]; simp; omega
          rw [this]
          simp [lrR, ln8, runF, rho0, sSeq, sSet, sIf, mTest, mAnd, mOr, mNot, eOp, eUn, eVar, eC, sRet, sRetN, sNext, sBreak, sCont, sAug, sDrop, sFreeze, frzS, sAsg, gT, gsCons, gsNil, gN, aNil, aCons, eCall, eTup, eLst, eLstR, eIf, eAndV, eOrV, eNotV, sPutR, sPutV, sAppV, sAppR, sRaise, gI, gIC, gLt, gLe, gGt, gGe, L3.gSub, gFdiv, gMod, gPow, guardR, bind_ok, bind_ex, bind_bad, toS_ok, toS_ex, toS_bad, putS_fz, putS_own, retS_fz, retS_own, retS_bor, zD_fz, zD_own, d_fz, d_own, d_bor, List.map_cons, List.map_nil, List.cons_append, List.nil_append, List.append_nil, List.length_cons, List.length_nil, List.replicate, List.getElem?_cons_zero, List.getElem?_cons_succ, List.set_cons_zero, List.set_cons_succ, oNo, oSm, eSl, mYes, gTupOf, gAdd, l2, l3, enc]
      · by_cases h44 : q.take 2 = [44, 32]
        · have hq2 := take_app2 h44
          have e6 : a ++ r = (a ++ (u ++ [44, 32])) ++ q.drop 2 := by
            rw [eu]
            conv => lhs; rw [hq2]
            simp
          have eb : lrB f (ln8 (T (a ++ r)) p dp b (some (.fz (.int a.length))) (some (.fz (.str (T w)))) (some (.own (.lst (found.map enc)))) q7) S = .nx (ln8 (T (a ++ r)) p dp b (some (.fz (.int ((k : Int) + 2)))) (some (.fz (.str (T w)))) (some (.own (.lst ((found ++ [t]).map enc)))) (some (.fz (enc t)))) S := by
            rw [h44] at n2 c2
            simp at n2
            simp [lrB, ln8, runF, rho0, sSeq, sSet, sIf, mTest, mAnd, mOr, mNot, eOp, eUn, eVar, eC, sRet, sRetN, sNext, sBreak, sCont, sAug, sDrop, sFreeze, frzS, sAsg, gT, gsCons, gsNil, gN, aNil, aCons, eCall, eTup, eLst, eLstR, eIf, eAndV, eOrV, eNotV, sPutR, sPutV, sAppV, sAppR, sRaise, gI, gIC, gLt, gLe, gGt, gGe, L3.gSub, gFdiv, gMod, gPow, guardR, bind_ok, bind_ex, bind_bad, toS_ok, toS_ex, toS_bad, putS_fz, putS_own, retS_fz, retS_own, retS_bor, zD_fz, zD_own, d_fz, d_own, d_bor, List.map_cons, List.map_nil, List.cons_append, List.nil_append, List.append_nil, List.length_cons, List.length_nil, List.replicate, List.getElem?_cons_zero, List.getElem?_cons_succ, List.set_cons_zero, List.set_cons_succ, oNo, oSm, eSl, mYes, gAdd, e5, l4, gIsN, hnt, gLen, l5, gSl, hx, c1, c2, gEq, gNe, q6, q8, n1, n2, h41]
          have ev : (k : Int) + 2 = ((a ++ (u ++ [44, 32])).length : Nat) := by rw [← hk]; simp; omega
          have hrec := ihm (a ++ (u ++ [44, 32])) (q.drop 2) (found ++ [t]) (some (.fz (enc t))) (hq.drop 2) (by rw [← e6]; exact hl) (by simp; omega) (.inl (by simp)) hg
          rw [← e6, ← ev] at hrec
          have estep : ∀ R : SR, sSeq (sWhile lrC (lrB f)) lrR (ln8 (T (a ++ r)) p dp b (some (.fz (.int ((k : Int) + 2)))) (some (.fz (.str (T w)))) (some (.own (.lst ((found ++ [t]).map enc)))) (some (.fz (enc t)))) S = R → sSeq (sWhile lrC (lrB f)) lrR (ln8 (T (a ++ r)) p dp b (some (.fz (.int a.length))) (some (.fz (.str (T w)))) (some (.own (.lst (found.map enc)))) q7) S = R := fun R h => by
            unfold sSeq at h ⊢
            rw [sWhile_eq, ec, toS_ok, if_pos rfl, eb]
            exact h
          have eb0 : brs P w (m + 1) r found = brs P w m (q.drop 2) (found ++ [t]) := by
            rw [ebr, if_neg h41]
            by_cases hm0 : m = 0
            · rw [if_neg (by simp [hm0]), hm0]; rfl
            · rw [if_pos ⟨h44, hm0⟩]
          rcases hrec with ⟨t2, u2, q2, f1, f2, f3, f5⟩ | ⟨f1, f5⟩
          · refine .inl ⟨t2, u ++ [44, 32] ++ u2, q2, by rw [eb0, f1], ?_, f3, ?_⟩
            · rw [e2]
              conv => lhs; rw [hq2, f2]
              simp
            · refine estep _ ?_
              rw [f5]
              simp
          · exact .inr ⟨by rw [eb0, f1], estep _ f5⟩
        · refine .inr ⟨by rw [ebr, if_neg h41, if_neg (by simp [h44])], ?_⟩
          have eb : lrB f (ln8 (T (a ++ r)) p dp b (some (.fz (.int a.length))) (some (.fz (.str (T w)))) (some (.own (.lst (found.map enc)))) q7) S = .rt NoneT S := by
            simp [lrB, ln8, runF, rho0, sSeq, sSet, sIf, mTest, mAnd, mOr, mNot, eOp, eUn, eVar, eC, sRet, sRetN, sNext, sBreak, sCont, sAug, sDrop, sFreeze, frzS, sAsg, gT, gsCons, gsNil, gN, aNil, aCons, eCall, eTup, eLst, eLstR, eIf, eAndV, eOrV, eNotV, sPutR, sPutV, sAppV, sAppR, sRaise, gI, gIC, gLt, gLe, gGt, gGe, L3.gSub, gFdiv, gMod, gPow, guardR, bind_ok, bind_ex, bind_bad, toS_ok, toS_ex, toS_bad, putS_fz, putS_own, retS_fz, retS_own, retS_bor, zD_fz, zD_own, d_fz, d_own, d_bor, List.map_cons, List.map_nil, List.cons_append, List.nil_append, List.append_nil, List.length_cons, List.length_nil, List.replicate, List.getElem?_cons_zero, List.getElem?_cons_succ, List.set_cons_zero, List.set_cons_succ, oNo, oSm, eSl, mYes, gAdd, e5, l4, gIsN, hnt, gLen, l5, gSl, hx, c1, c2, gEq, gNe, q6, q8, n1, n2, h41, h44, l2, NoneT]
          unfold sSeq
          rw [sWhile_eq, ec, toS_ok, if_pos rfl, eb]
    · rw [hdp] at e5
      refine .inr ⟨by unfold brs; rw [e1], ?_⟩
      have eb : lrB f (ln8 (T (a ++ r)) p dp b (some (.fz (.int a.length))) (some (.fz (.str (T w)))) (some (.own (.lst (found.map enc)))) q7) S = .rt NoneT S := by
        simp [lrB, ln8, runF, rho0, sSeq, sSet, sIf, mTest, mAnd, mOr, mNot, eOp, eUn, eVar, eC, sRet, sRetN, sNext, sBreak, sCont, sAug, sDrop, sFreeze, frzS, sAsg, gT, gsCons, gsNil, gN, aNil, aCons, eCall, eTup, eLst, eLstR, eIf, eAndV, eOrV, eNotV, sPutR, sPutV, sAppV, sAppR, sRaise, gI, gIC, gLt, gLe, gGt, gGe, L3.gSub, gFdiv, gMod, gPow, guardR, bind_ok, bind_ex, bind_bad, toS_ok, toS_ex, toS_bad, putS_fz, putS_own, retS_fz, retS_own, retS_bor, zD_fz, zD_own, d_fz, d_own, d_bor, List.map_cons, List.map_nil, List.cons_append, List.nil_append, List.append_nil, List.length_cons, List.length_nil, List.replicate, List.getElem?_cons_zero, List.getElem?_cons_succ, List.set_cons_zero, List.set_cons_succ, oNo, oSm, eSl, mYes, gAdd, e5, l4, gIsN, L3.isNon, l2, NoneT]
      unfold sSeq
      rw [sWhile_eq, ec, toS_ok, if_pos rfl, eb]
end MK

namespace MK
open PySem PySem.Spec PyProof.Rows L2 L3 PX
theorem lread_spec {S : AS} : ∀ (n k dp : Nat), n + 1 ≤ k → 10 ≤ n + dp → LrS S (fun r => prs n r dp) (m_law_read k) dp
  | n, 0, _, hk, _ => absurd hk (by omega)
  | n, k + 1, dp, hk, hd => fun a r ha hl => by
    have hx : (T (a ++ r)).length ≤ sizeLine := by rw [T_len]; exact szl _ hl
    have l2 : 2 ≤ sizeLine := by decide
    have l3 : 3 ≤ sizeLine := by decide
    obtain ⟨b, hb⟩ : ∃ b, decide (r.take 1 = [63]) = b := ⟨_, rfl⟩
    obtain ⟨a1, ha1⟩ : ∃ a1, (if b = true then a ++ [63] else a) = a1 := ⟨_, rfl⟩
    obtain ⟨r1, hr1⟩ : ∃ r1, (if r.take 1 = [63] then r.drop 1 else r) = r1 := ⟨_, rfl⟩
    have ear : a ++ r = a1 ++ r1 := by
      rw [← ha1, ← hr1, ← hb]
      by_cases h : r.take 1 = [63]
      · have := take_app1 h
        simp [h]
        rw [← List.drop_one]
        exact this
      · simp [h]
    have ea1 : (a1.length : Int) = (a.length : Int) + (if b = true then 1 else 0) := by
      rw [← ha1]
      cases b <;> simp
    obtain ⟨w, hw⟩ : ∃ w, r1.takeWhile isL = w := ⟨_, rfl⟩
    obtain ⟨r2, hr2⟩ : ∃ r2, r1.dropWhile isL = r2 := ⟨_, rfl⟩
    have er1 : r1 = w ++ r2 := by rw [← hw, ← hr2, List.takeWhile_append_dropWhile]
    have hr1a : Asc r1 := by
      rw [← hr1]
      split
      · exact ha.drop 1
      · exact ha
    have hr2a : Asc r2 := by rw [er1] at hr1a; exact hr1a.app.2
    have et : a ++ r = a1 ++ w ++ r2 := by rw [ear, er1, List.append_assoc]
    have c1 : cutS (T (a ++ r)) (some (a.length : Int)) (some ((a.length : Int) + 1)) = T (r.take 1) := cut_at a r 1
    have n1 : pyEq (.str (T (r.take 1))) (.str (Str.ofString "?")) = some b := by
      rw [lit.2.2.2.1, pyeq_T (ha.take 1) (by decide), hb]
    have wl := lrW_spec (S := S) (p := a.length) (dp := dp) (b := a1.length) (q5 := none) (q6 := none) (q7 := none) w a1 r2 (by rw [← hw]; exact takeW_ltr r1) (by rw [← hr2]; exact dropW_noL r1) (by rw [← et]; exact szl _ hl)
    rw [← et] at wl
    have c2 : cutS (T (a ++ r)) (some (a1.length : Nat)) (some ((a1 ++ w).length : Nat)) = T w := by
      rw [et]
      exact cut_two a1 w r2
    have hwl : w.length ≤ 16777216 := by
      have h1 : (a1 ++ w ++ r2).length ≤ 16777216 := by rw [← et]; exact hl
      simp at h1
      omega
    have iw := law_is_word_gen (S := S) hwl
    have e0 : ∀ R : SR, lrT (m_law_read k) (ln8 (T (a ++ r)) a.length dp a1.length (some (.fz (.int (a1 ++ w).length))) (some (.fz (.str (T w)))) none none) S = R → ms_law_read (m_law_read k) (rho0 8 [.str (T (a ++ r)), .int a.length, .int dp]) S = R := fun R h => by
      rw [lr_form, show rho0 8 [.str (T (a ++ r)), .int a.length, .int dp] = [some (.fz (.str (T (a ++ r)))), some (.fz (.int a.length)), some (.fz (.int dp)), none, none, none, none, none] from rfl]
      refine go (ρ' := ln8 (T (a ++ r)) a.length dp a1.length none none none none) (S' := S) ?_ ?_
      · cases b <;> simp at ea1 <;> simp [ln8, runF, rho0, sSeq, sSet, sIf, mTest, mAnd, mOr, mNot, eOp, eUn, eVar, eC, sRet, sRetN, sNext, sBreak, sCont, sAug, sDrop, sFreeze, frzS, sAsg, gT, gsCons, gsNil, gN, aNil, aCons, eCall, eTup, eLst, eLstR, eIf, eAndV, eOrV, eNotV, sPutR, sPutV, sAppV, sAppR, sRaise, gI, gIC, gLt, gLe, gGt, gGe, L3.gSub, gFdiv, gMod, gPow, guardR, bind_ok, bind_ex, bind_bad, toS_ok, toS_ex, toS_bad, putS_fz, putS_own, retS_fz, retS_own, retS_bor, zD_fz, zD_own, d_fz, d_own, d_bor, List.map_cons, List.map_nil, List.cons_append, List.nil_append, List.append_nil, List.length_cons, List.length_nil, List.replicate, List.getElem?_cons_zero, List.getElem?_cons_succ, List.set_cons_zero, List.set_cons_succ, oNo, oSm, eSl, mYes, gAdd, gSl, hx, c1, gEq, n1, gInt1, ea1]
      refine go (ρ' := ln8 (T (a ++ r)) a.length dp a1.length (some (.fz (.int a1.length))) none none none) (S' := S) (by simp [ln8, runF, rho0, sSeq, sSet, sIf, mTest, mAnd, mOr, mNot, eOp, eUn, eVar, eC, sRet, sRetN, sNext, sBreak, sCont, sAug, sDrop, sFreeze, frzS, sAsg, gT, gsCons, gsNil, gN, aNil, aCons, eCall, eTup, eLst, eLstR, eIf, eAndV, eOrV, eNotV, sPutR, sPutV, sAppV, sAppR, sRaise, gI, gIC, gLt, gLe, gGt, gGe, L3.gSub, gFdiv, gMod, gPow, guardR, bind_ok, bind_ex, bind_bad, toS_ok, toS_ex, toS_bad, putS_fz, putS_own, retS_fz, retS_own, retS_bor, zD_fz, zD_own, d_fz, d_own, d_bor, List.map_cons, List.map_nil, List.cons_append, List.nil_append, List.append_nil, List.length_cons, List.length_nil, List.replicate, List.getElem?_cons_zero, List.getElem?_cons_succ, List.set_cons_zero, List.set_cons_succ, oNo, oSm, eSl, mYes]) ?_
      refine go wl ?_
      refine go (ρ' := ln8 (T (a ++ r)) a.length dp a1.length (some (.fz (.int (a1 ++ w).length))) (some (.fz (.str (T w)))) none none) (S' := S) ?_ h
      generalize (a1 ++ w).length = j at c2
      simp [ln8, runF, rho0, sSeq, sSet, sIf, mTest, mAnd, mOr, mNot, eOp, eUn, eVar, eC, sRet, sRetN, sNext, sBreak, sCont, sAug, sDrop, sFreeze, frzS, sAsg, gT, gsCons, gsNil, gN, aNil, aCons, eCall, eTup, eLst, eLstR, eIf, eAndV, eOrV, eNotV, sPutR, sPutV, sAppV, sAppR, sRaise, gI, gIC, gLt, gLe, gGt, gGe, L3.gSub, gFdiv, gMod, gPow, guardR, bind_ok, bind_ex, bind_bad, toS_ok, toS_ex, toS_bad, putS_fz, putS_own, retS_fz, retS_own, retS_bor, zD_fz, zD_own, d_fz, d_own, d_bor, List.map_cons, List.map_nil, List.cons_append, List.nil_append, List.append_nil, List.length_cons, List.length_nil, List.replicate, List.getElem?_cons_zero, List.getElem?_cons_succ, List.set_cons_zero, List.set_cons_succ, oNo, oSm, eSl, mYes, gSl, hx, c2]
    have hbk : (if b = true then True else False) → (a.length : Int) < a1.length := fun h => by
      cases b
      · exact h.elim
      · simp at ea1; omega
    show _ ∨ (_ ∧ runF 8 (ms_law_read (m_law_read k)) _ _ = _)
    by_cases hbad : 8 < dp ∨ okW w = false
    · refine .inr ⟨?_, run_rt (e0 _ ?_)⟩
      · cases n with
        | zero => rfl
        | succ n =>
          show prs (n + 1) r dp = none
          unfold prs
          simp only
          rw [hr1, hw, if_pos hbad]
      · unfold lrT
        by_cases h8 : 8 < dp
        · have h8' : (8 : Int) < dp := by omega
          simp [ln8, runF, rho0, sSeq, sSet, sIf, mTest, mAnd, mOr, mNot, eOp, eUn, eVar, eC, sRet, sRetN, sNext, sBreak, sCont, sAug, sDrop, sFreeze, frzS, sAsg, gT, gsCons, gsNil, gN, aNil, aCons, eCall, eTup, eLst, eLstR, eIf, eAndV, eOrV, eNotV, sPutR, sPutV, sAppV, sAppR, sRaise, gI, gIC, gLt, gLe, gGt, gGe, L3.gSub, gFdiv, gMod, gPow, guardR, bind_ok, bind_ex, bind_bad, toS_ok, toS_ex, toS_bad, putS_fz, putS_own, retS_fz, retS_own, retS_bor, zD_fz, zD_own, d_fz, d_own, d_bor, List.map_cons, List.map_nil, List.cons_append, List.nil_append, List.append_nil, List.length_cons, List.length_nil, List.replicate, List.getElem?_cons_zero, List.getElem?_cons_succ, List.set_cons_zero, List.set_cons_succ, oNo, oSm, eSl, mYes, h8', l2]
        · have h8' : ¬ (8 : Int) < dp := by omega
          have hbw := hbad.resolve_left h8
          simp [ln8, runF, rho0, sSeq, sSet, sIf, mTest, mAnd, mOr, mNot, eOp, eUn, eVar, eC, sRet, sRetN, sNext, sBreak, sCont, sAug, sDrop, sFreeze, frzS, sAsg, gT, gsCons, gsNil, gN, aNil, aCons, eCall, eTup, eLst, eLstR, eIf, eAndV, eOrV, eNotV, sPutR, sPutV, sAppV, sAppR, sRaise, gI, gIC, gLt, gLe, gGt, gGe, L3.gSub, gFdiv, gMod, gPow, guardR, bind_ok, bind_ex, bind_bad, toS_ok, toS_ex, toS_bad, putS_fz, putS_own, retS_fz, retS_own, retS_bor, zD_fz, zD_own, d_fz, d_own, d_bor, List.map_cons, List.map_nil, List.cons_append, List.nil_append, List.append_nil, List.length_cons, List.length_nil, List.replicate, List.getElem?_cons_zero, List.getElem?_cons_succ, List.set_cons_zero, List.set_cons_succ, oNo, oSm, eSl, mYes, h8', iw, hbw, l2]
    · have h8 : ¬ 8 < dp := fun z => hbad (.inl z)
      have h8' : ¬ (8 : Int) < dp := by omega
      have hok : okW w = true := by
        cases h : okW w with
        | true => rfl
        | false => exact (hbad (.inr h)).elim
      have hwok := okW_iff.mp hok
      rw [hok] at iw
      cases n with
      | zero => exact absurd hd (by omega)
      | succ n =>
        have ep : prs (n + 1) r dp = (if r.take 1 = [63] then some (.free w, r2) else if r2.take 1 ≠ [40] then some (.name w, r2) else if r2.take 2 = [40, 41] then some (.sign w [], r2.drop 2) else brs (fun q => prs n q (dp + 1)) w 3 (r2.drop 1) []) := by
          conv => lhs; unfold prs
          simp only
          rw [hr1, hw, hr2, if_neg hbad]
        have hg1 : Good (9 - dp) (.name w) := by rw [show 9 - dp = (8 - dp) + 1 by omega]; exact hwok
        by_cases hfr : r.take 1 = [63]
        · have hb1 : b = true := by rw [← hb]; simp [hfr]
          subst hb1
          rw [if_pos hfr] at hr1
          simp at ha1 ea1
          refine .inl ⟨.free w, 63 :: w, r2, by show prs (n + 1) r dp = _; rw [ep, if_pos hfr], ?_, ?_, by omega, run_rt (e0 _ ?_)⟩
          · have := take_app1 hfr
            rw [this, hr1, er1]
            rfl
          · rw [show 9 - dp = (8 - dp) + 1 by omega]; exact hwok
          · have hlt : (a.length : Int) < a1.length := by omega
            have ev : ((a ++ 63 :: w).length : Int) = ((a1 ++ w).length : Nat) := by rw [← ha1]; simp
            rw [ev]
            generalize (a1 ++ w).length = j
            unfold lrT
            simp [ln8, runF, rho0, sSeq, sSet, sIf, mTest, mAnd, mOr, mNot, eOp, eUn, eVar, eC, sRet, sRetN, sNext, sBreak, sCont, sAug, sDrop, sFreeze, frzS, sAsg, gT, gsCons, gsNil, gN, aNil, aCons, eCall, eTup, eLst, eLstR, eIf, eAndV, eOrV, eNotV, sPutR, sPutV, sAppV, sAppR, sRaise, gI, gIC, gLt, gLe, gGt, gGe, L3.gSub, gFdiv, gMod, gPow, guardR, bind_ok, bind_ex, bind_bad, toS_ok, toS_ex, toS_bad, putS_fz, putS_own, retS_fz, retS_own, retS_bor, zD_fz, zD_own, d_fz, d_own, d_bor, List.map_cons, List.map_nil, List.cons_append, List.nil_append, List.append_nil, List.length_cons, List.length_nil, List.replicate, List.getElem?_cons_zero, List.getElem?_cons_succ, List.set_cons_zero, List.set_cons_succ, oNo, oSm, eSl, mYes, h8', iw, hlt, l2, enc]
        · have hb1 : b = false := by rw [← hb]; simp [hfr]
          subst hb1
          rw [if_neg hfr] at hr1
          simp at ha1 ea1
          subst ha1
          subst hr1
          have er : a ++ r = (a ++ w) ++ r2 := et
          have c3 : cutS (T (a ++ r)) (some ((a ++ w).length : Nat)) (some (((a ++ w).length : Nat) + 1)) = T (r2.take 1) := by rw [er]; exact cut_at (a ++ w) r2 1
          have n3 : pyEq (.str (T (r2.take 1))) (.str (T [40])) = some (decide (r2.take 1 = [40])) := pyeq_T (hr2a.take 1) (by decide)
          obtain ⟨_, _, _, _, q5, q6, _, _⟩ := lit
          by_cases h40 : r2.take 1 = [40]
          · have q1 := take_app1 h40
            have er' : a ++ r = (a ++ (w ++ [40])) ++ r2.drop 1 := by
              rw [er]
              conv => lhs; rw [q1]
              simp
            have ev : (((a ++ w).length : Nat) : Int) + 1 = ((a ++ (w ++ [40])).length : Nat) := by simp; omega
            have eT : ∀ R : SR, sSeq (sWhile lrC (lrB (m_law_read k))) lrR (ln8 (T (a ++ r)) a.length dp a.length (some (.fz (.int (a ++ (w ++ [40])).length))) (some (.fz (.str (T w)))) (some (.own (.lst []))) none) S = R → lrT (m_law_read k) (ln8 (T (a ++ r)) a.length dp a.length (some (.fz (.int (a ++ w).length))) (some (.fz (.str (T w)))) none none) S = R := fun R h => by
              rw [h40] at n3 c3
              simp at n3
              rw [← ev] at h
              generalize (a ++ w).length = j at h c3
              unfold lrT
              refine go (ρ' := ln8 (T (a ++ r)) a.length dp a.length (some (.fz (.int j))) (some (.fz (.str (T w)))) none none) (S' := S) (by simp [ln8, runF, rho0, sSeq, sSet, sIf, mTest, mAnd, mOr, mNot, eOp, eUn, eVar, eC, sRet, sRetN, sNext, sBreak, sCont, sAug, sDrop, sFreeze, frzS, sAsg, gT, gsCons, gsNil, gN, aNil, aCons, eCall, eTup, eLst, eLstR, eIf, eAndV, eOrV, eNotV, sPutR, sPutV, sAppV, sAppR, sRaise, gI, gIC, gLt, gLe, gGt, gGe, L3.gSub, gFdiv, gMod, gPow, guardR, bind_ok, bind_ex, bind_bad, toS_ok, toS_ex, toS_bad, putS_fz, putS_own, retS_fz, retS_own, retS_bor, zD_fz, zD_own, d_fz, d_own, d_bor, List.map_cons, List.map_nil, List.cons_append, List.nil_append, List.append_nil, List.length_cons, List.length_nil, List.replicate, List.getElem?_cons_zero, List.getElem?_cons_succ, List.set_cons_zero, List.set_cons_succ, oNo, oSm, eSl, mYes, h8', iw]) ?_
              refine go (ρ' := ln8 (T (a ++ r)) a.length dp a.length (some (.fz (.int j))) (some (.fz (.str (T w)))) none none) (S' := S) (by simp [ln8, runF, rho0, sSeq, sSet, sIf, mTest, mAnd, mOr, mNot, eOp, eUn, eVar, eC, sRet, sRetN, sNext, sBreak, sCont, sAug, sDrop, sFreeze, frzS, sAsg, gT, gsCons, gsNil, gN, aNil, aCons, eCall, eTup, eLst, eLstR, eIf, eAndV, eOrV, eNotV, sPutR, sPutV, sAppV, sAppR, sRaise, gI, gIC, gLt, gLe, gGt, gGe, L3.gSub, gFdiv, gMod, gPow, guardR, bind_ok, bind_ex, bind_bad, toS_ok, toS_ex, toS_bad, putS_fz, putS_own, retS_fz, retS_own, retS_bor, zD_fz, zD_own, d_fz, d_own, d_bor, List.map_cons, List.map_nil, List.cons_append, List.nil_append, List.append_nil, List.length_cons, List.length_nil, List.replicate, List.getElem?_cons_zero, List.getElem?_cons_succ, List.set_cons_zero, List.set_cons_succ, oNo, oSm, eSl, mYes]) ?_
              refine go (ρ' := ln8 (T (a ++ r)) a.length dp a.length (some (.fz (.int j))) (some (.fz (.str (T w)))) none none) (S' := S) (by simp [ln8, runF, rho0, sSeq, sSet, sIf, mTest, mAnd, mOr, mNot, eOp, eUn, eVar, eC, sRet, sRetN, sNext, sBreak, sCont, sAug, sDrop, sFreeze, frzS, sAsg, gT, gsCons, gsNil, gN, aNil, aCons, eCall, eTup, eLst, eLstR, eIf, eAndV, eOrV, eNotV, sPutR, sPutV, sAppV, sAppR, sRaise, gI, gIC, gLt, gLe, gGt, gGe, L3.gSub, gFdiv, gMod, gPow, guardR, bind_ok, bind_ex, bind_bad, toS_ok, toS_ex, toS_bad, putS_fz, putS_own, retS_fz, retS_own, retS_bor, zD_fz, zD_own, d_fz, d_own, d_bor, List.map_cons, List.map_nil, List.cons_append, List.nil_append, List.append_nil, List.length_cons, List.length_nil, List.replicate, List.getElem?_cons_zero, List.getElem?_cons_succ, List.set_cons_zero, List.set_cons_succ, oNo, oSm, eSl, mYes, gAdd, gSl, hx, c3, gNe, q5, n3]) ?_
              refine go (ρ' := ln8 (T (a ++ r)) a.length dp a.length (some (.fz (.int j))) (some (.fz (.str (T w)))) (some (.own (.lst []))) none) (S' := S) (by simp [ln8, runF, rho0, sSeq, sSet, sIf, mTest, mAnd, mOr, mNot, eOp, eUn, eVar, eC, sRet, sRetN, sNext, sBreak, sCont, sAug, sDrop, sFreeze, frzS, sAsg, gT, gsCons, gsNil, gN, aNil, aCons, eCall, eTup, eLst, eLstR, eIf, eAndV, eOrV, eNotV, sPutR, sPutV, sAppV, sAppR, sRaise, gI, gIC, gLt, gLe, gGt, gGe, L3.gSub, gFdiv, gMod, gPow, guardR, bind_ok, bind_ex, bind_bad, toS_ok, toS_ex, toS_bad, putS_fz, putS_own, retS_fz, retS_own, retS_bor, zD_fz, zD_own, d_fz, d_own, d_bor, List.map_cons, List.map_nil, List.cons_append, List.nil_append, List.append_nil, List.length_cons, List.length_nil, List.replicate, List.getElem?_cons_zero, List.getElem?_cons_succ, List.set_cons_zero, List.set_cons_succ, oNo, oSm, eSl, mYes]) ?_
              exact go (ρ' := ln8 (T (a ++ r)) a.length dp a.length (some (.fz (.int ((j : Int) + 1)))) (some (.fz (.str (T w)))) (some (.own (.lst []))) none) (S' := S) (by simp [ln8, runF, rho0, sSeq, sSet, sIf, mTest, mAnd, mOr, mNot, eOp, eUn, eVar, eC, sRet, sRetN, sNext, sBreak, sCont, sAug, sDrop, sFreeze, frzS, sAsg, gT, gsCons, gsNil, gN, aNil, aCons, eCall, eTup, eLst, eLstR, eIf, eAndV, eOrV, eNotV, sPutR, sPutV, sAppV, sAppR, sRaise, gI, gIC, gLt, gLe, gGt, gGe, L3.gSub, gFdiv, gMod, gPow, guardR, bind_ok, bind_ex, bind_bad, toS_ok, toS_ex, toS_bad, putS_fz, putS_own, retS_fz, retS_own, retS_bor, zD_fz, zD_own, d_fz, d_own, d_bor, List.map_cons, List.map_nil, List.cons_append, List.nil_append, List.append_nil, List.length_cons, List.length_nil, List.replicate, List.getElem?_cons_zero, List.getElem?_cons_succ, List.set_cons_zero, List.set_cons_succ, oNo, oSm, eSl, mYes, gAdd]) h
            by_cases h41 : r2.take 2 = [40, 41]
            · have q2 := take_app2 h41
              refine .inl ⟨.sign w [], w ++ [40, 41], r2.drop 2, by show prs (n + 1) r dp = _; rw [ep, if_neg hfr, if_neg (by simp [h40]), if_pos h41], ?_, ?_, by omega, run_rt (e0 _ (eT _ ?_))⟩
              · conv => lhs; rw [er1, q2]
                simp
              · rw [show 9 - dp = (8 - dp) + 1 by omega]; exact ⟨hwok, by simp, fun _ h => nomatch h⟩
              · have c4 : cutS (T (a ++ r)) (some ((a ++ (w ++ [40])).length : Nat)) (some (((a ++ (w ++ [40])).length : Nat) + 1)) = T [41] := by
                  rw [er']
                  have := cut_at (a ++ (w ++ [40])) (r2.drop 1) 1
                  rw [show (r2.drop 1).take 1 = [41] by rw [q2]; rfl] at this
                  exact this
                have n4 : pyEq (.str (T [41])) (.str (T [41])) = some true := by rw [pyeq_T (by decide) (by decide)]; rfl
                have n5 : pyEq (.lst []) (.lst []) = some true := by
                  have := pyeq_nil (n := 0) (by decide) (ts := []) (fun _ h => nomatch h)
                  simpa using this
                have ev2 : ((a ++ (w ++ [40, 41])).length : Int) = ((a ++ (w ++ [40])).length : Int) + 1 := by simp; omega
                rw [ev2]
                generalize (a ++ (w ++ [40])).length = j at c4
                refine go (ρ' := ln8 (T (a ++ r)) a.length dp a.length (some (.fz (.int j))) (some (.fz (.str (T w)))) (some (.own (.lst []))) none) (S' := S) ?_ ?_
                · rw [sWhile_eq]
                  have : lrC (ln8 (T (a ++ r)) a.length dp a.length (some (.fz (.int j))) (some (.fz (.str (T w)))) (some (.own (.lst []))) none) S = .ok false S := by
                    simp [lrC, ln8, runF, rho0, sSeq, sSet, sIf, mTest, mAnd, mOr, mNot, eOp, eUn, eVar, eC, sRet, sRetN, sNext, sBreak, sCont, sAug, sDrop, sFreeze, frzS, sAsg, gT, gsCons, gsNil, gN, aNil, aCons, eCall, eTup, eLst, eLstR, eIf, eAndV, eOrV, eNotV, sPutR, sPutV, sAppV, sAppR, sRaise, gI, gIC, gLt, gLe, gGt, gGe, L3.gSub, gFdiv, gMod, gPow, guardR, bind_ok, bind_ex, bind_bad, toS_ok, toS_ex, toS_bad, putS_fz, putS_own, retS_fz, retS_own, retS_bor, zD_fz, zD_own, d_fz, d_own, d_bor, List.map_cons, List.map_nil, List.cons_append, List.nil_append, List.append_nil, List.length_cons, List.length_nil, List.replicate, List.getElem?_cons_zero, List.getElem?_cons_succ, List.set_cons_zero, List.set_cons_succ, oNo, oSm, eSl, mYes, gAdd, gSl, hx, c4, gNe, q6, n4, n5]
                  rw [this, toS_ok]
                  simp
                · simp [lrR, ln8, runF, rho0, sSeq, sSet, sIf, mTest, mAnd, mOr, mNot, eOp, eUn, eVar, eC, sRet, sRetN, sNext, sBreak, sCont, sAug, sDrop, sFreeze, frzS, sAsg, gT, gsCons, gsNil, gN, aNil, aCons, eCall, eTup, eLst, eLstR, eIf, eAndV, eOrV, eNotV, sPutR, sPutV, sAppV, sAppR, sRaise, gI, gIC, gLt, gLe, gGt, gGe, L3.gSub, gFdiv, gMod, gPow, guardR, bind_ok, bind_ex, bind_bad, toS_ok, toS_ex, toS_bad, putS_fz, putS_own, retS_fz, retS_own, retS_bor, zD_fz, zD_own, d_fz, d_own, d_bor, List.map_cons, List.map_nil, List.cons_append, List.nil_append, List.append_nil, List.length_cons, List.length_nil, List.replicate, List.getElem?_cons_zero, List.getElem?_cons_succ, List.set_cons_zero, List.set_cons_succ, oNo, oSm, eSl, mYes, gTupOf, gAdd, l2, l3, enc]
            · have ihn := lread_spec (S := S) n k (dp + 1) (by omega) (by omega)
              have h41' : (r2.drop 1).take 1 ≠ [41] := fun z => h41 (by
                rw [q1]
                have := take_app1 z
                rw [this]
                rfl)
              have hbr := lr_loop (p := a.length) (b := a.length) (by omega) ihn hwok 3 (a ++ (w ++ [40])) (r2.drop 1) [] none (hr2a.drop 1) (by rw [← er']; exact hl) rfl (.inr h41') (fun _ h => nomatch h)
              rw [← er', List.map_nil] at hbr
              rcases hbr with ⟨t, u, q, f1, f2, f3, f5⟩ | ⟨f1, f5⟩
              · refine .inl ⟨t, w ++ [40] ++ u, q, by show prs (n + 1) r dp = _; rw [ep, if_neg hfr, if_neg (by simp [h40]), if_neg h41, f1], ?_, f3, by omega, run_rt (e0 _ (eT _ ?_))⟩
                · conv => lhs; rw [er1, q1, f2]
                  simp
                · rw [f5]
                  simp
              · exact .inr ⟨by show prs (n + 1) r dp = _; rw [ep, if_neg hfr, if_neg (by simp [h40]), if_neg h41, f1], run_rt (e0 _ (eT _ f5))⟩
          · refine .inl ⟨.name w, w, r2, by show prs (n + 1) r dp = _; rw [ep, if_neg hfr, if_pos h40], er1, hg1, by omega, run_rt (e0 _ ?_)⟩
            generalize (a ++ w).length = j at c3
            unfold lrT
            simp [ln8, runF, rho0, sSeq, sSet, sIf, mTest, mAnd, mOr, mNot, eOp, eUn, eVar, eC, sRet, sRetN, sNext, sBreak, sCont, sAug, sDrop, sFreeze, frzS, sAsg, gT, gsCons, gsNil, gN, aNil, aCons, eCall, eTup, eLst, eLstR, eIf, eAndV, eOrV, eNotV, sPutR, sPutV, sAppV, sAppR, sRaise, gI, gIC, gLt, gLe, gGt, gGe, L3.gSub, gFdiv, gMod, gPow, guardR, bind_ok, bind_ex, bind_bad, toS_ok, toS_ex, toS_bad, putS_fz, putS_own, retS_fz, retS_own, retS_bor, zD_fz, zD_own, d_fz, d_own, d_bor, List.map_cons, List.map_nil, List.cons_append, List.nil_append, List.append_nil, List.length_cons, List.length_nil, List.replicate, List.getElem?_cons_zero, List.getElem?_cons_succ, List.set_cons_zero, List.set_cons_succ, oNo, oSm, eSl, mYes, h8', iw, gAdd, gSl, hx, c3, gNe, q5, n3, h40, l2, enc]
def dueD (o : Option Tm) : D := match o with | some t => enc t | none => .non
theorem read_due_spec {S : AS} {l : List Nat} (ha : Asc l) (hl : l.length ≤ 1000000) : m_law_read_due [.str (T l)] S = .ok (.fz (dueD (rdT l))) S := by
  have l1 : l.length ≤ sizeLine := szl _ (by omega)
  unfold rdT
  by_cases h2 : 200 < l.length
  · rw [if_pos h2]
    have h2' : (200 : Int) < l.length := by omega
    simp [m_law_read_due, ms_law_read_due, runF, rho0, sSeq, sSet, sIf, mTest, mAnd, mOr, mNot, eOp, eUn, eVar, eC, sRet, sRetN, sNext, sBreak, sCont, sAug, sDrop, sFreeze, frzS, sAsg, gT, gsCons, gsNil, gN, aNil, aCons, eCall, eTup, eLst, eLstR, eIf, eAndV, eOrV, eNotV, sPutR, sPutV, sAppV, sAppR, sRaise, gI, gIC, gLt, gLe, gGt, gGe, L3.gSub, gFdiv, gMod, gPow, guardR, bind_ok, bind_ex, bind_bad, toS_ok, toS_ex, toS_bad, putS_fz, putS_own, retS_fz, retS_own, retS_bor, zD_fz, zD_own, d_fz, d_own, d_bor, List.map_cons, List.map_nil, List.cons_append, List.nil_append, List.append_nil, List.length_cons, List.length_nil, List.replicate, List.getElem?_cons_zero, List.getElem?_cons_succ, List.set_cons_zero, List.set_cons_succ, oNo, oSm, eSl, mYes, gLen, T_len, l1, h2', dueD]
  · rw [if_neg h2]
    have h2' : ¬ (200 : Int) < l.length := by omega
    have hp := lread_spec (S := S) 9 20 1 (by decide) (by decide) [] l ha (by simp; omega)
    simp only [List.nil_append, List.length_nil] at hp
    rcases hp with ⟨t, u, q, e1, e2, e3, e4, e5⟩ | ⟨e1, e5⟩
    · rw [e1]
      have e5 : m_law_read 20 [.str (T l), .int 0, .int 1] S = .ok (.fz (.tup [enc t, .int u.length])) S := e5
      have hnt : L3.isNon (enc t) = false := by cases t <;> simp [enc, L3.isNon]
      cases q with
      | nil =>
        have hu : (u.length : Int) = l.length := by rw [e2]; simp
        rw [hu] at e5
        simp [m_law_read_due, ms_law_read_due, runF, rho0, sSeq, sSet, sIf, mTest, mAnd, mOr, mNot, eOp, eUn, eVar, eC, sRet, sRetN, sNext, sBreak, sCont, sAug, sDrop, sFreeze, frzS, sAsg, gT, gsCons, gsNil, gN, aNil, aCons, eCall, eTup, eLst, eLstR, eIf, eAndV, eOrV, eNotV, sPutR, sPutV, sAppV, sAppR, sRaise, gI, gIC, gLt, gLe, gGt, gGe, L3.gSub, gFdiv, gMod, gPow, guardR, bind_ok, bind_ex, bind_bad, toS_ok, toS_ex, toS_bad, putS_fz, putS_own, retS_fz, retS_own, retS_bor, zD_fz, zD_own, d_fz, d_own, d_bor, List.map_cons, List.map_nil, List.cons_append, List.nil_append, List.append_nil, List.length_cons, List.length_nil, List.replicate, List.getElem?_cons_zero, List.getElem?_cons_succ, List.set_cons_zero, List.set_cons_succ, oNo, oSm, eSl, mYes, gLen, T_len, l1, h2', e5, eIf, gNotN, hnt, gEq, q_int, dueD]
      | cons k q =>
        have hu : ¬ (u.length : Int) = l.length := by rw [e2]; simp; omega
        simp [m_law_read_due, ms_law_read_due, runF, rho0, sSeq, sSet, sIf, mTest, mAnd, mOr, mNot, eOp, eUn, eVar, eC, sRet, sRetN, sNext, sBreak, sCont, sAug, sDrop, sFreeze, frzS, sAsg, gT, gsCons, gsNil, gN, aNil, aCons, eCall, eTup, eLst, eLstR, eIf, eAndV, eOrV, eNotV, sPutR, sPutV, sAppV, sAppR, sRaise, gI, gIC, gLt, gLe, gGt, gGe, L3.gSub, gFdiv, gMod, gPow, guardR, bind_ok, bind_ex, bind_bad, toS_ok, toS_ex, toS_bad, putS_fz, putS_own, retS_fz, retS_own, retS_bor, zD_fz, zD_own, d_fz, d_own, d_bor, List.map_cons, List.map_nil, List.cons_append, List.nil_append, List.append_nil, List.length_cons, List.length_nil, List.replicate, List.getElem?_cons_zero, List.getElem?_cons_succ, List.set_cons_zero, List.set_cons_succ, oNo, oSm, eSl, mYes, gLen, T_len, l1, h2', e5, eIf, gNotN, hnt, gEq, q_int, hu, dueD]
    · rw [e1]
      have e5 : m_law_read 20 [.str (T l), .int 0, .int 1] S = .ok (.fz (.tup [.non, .int 0])) S := e5
      simp [m_law_read_due, ms_law_read_due, runF, rho0, sSeq, sSet, sIf, mTest, mAnd, mOr, mNot, eOp, eUn, eVar, eC, sRet, sRetN, sNext, sBreak, sCont, sAug, sDrop, sFreeze, frzS, sAsg, gT, gsCons, gsNil, gN, aNil, aCons, eCall, eTup, eLst, eLstR, eIf, eAndV, eOrV, eNotV, sPutR, sPutV, sAppV, sAppR, sRaise, gI, gIC, gLt, gLe, gGt, gGe, L3.gSub, gFdiv, gMod, gPow, guardR, bind_ok, bind_ex, bind_bad, toS_ok, toS_ex, toS_bad, putS_fz, putS_own, retS_fz, retS_own, retS_bor, zD_fz, zD_own, d_fz, d_own, d_bor, List.map_cons, List.map_nil, List.cons_append, List.nil_append, List.append_nil, List.length_cons, List.length_nil, List.replicate, List.getElem?_cons_zero, List.getElem?_cons_succ, List.set_cons_zero, List.set_cons_succ, oNo, oSm, eSl, mYes, gLen, T_len, l1, h2', e5, eIf, gNotN, L3.isNon, dueD]
end MK

namespace MK
open PySem PySem.Spec PyProof.Rows L2 L3 PX
/-! ### a row -/
def sepE : List Nat := [32, 61, 32]
theorem lit2 : Str.ofString " = " = T sepE ∧ Str.ofString "" = T [] ∧ Str.ofString "\n" = T [10] := by
  refine ⟨?_, ?_, ?_⟩ <;> decide +kernel
/-- a name's letters: no sign below 48 -/
theorem part_row {w r : List Nat} (hw : ∀ k ∈ w, 48 ≤ k ∧ k ≠ 61) : Txt.partition (T (w ++ sepE ++ r)) (T sepE) = (T w, T sepE, T r) := by
  refine T_part (by decide) fun i hi h => ?_
  have h1 : ((w ++ sepE ++ r).drop i)[0]? = some 32 := by
    have : (((w ++ sepE ++ r).drop i).take sepE.length)[0]? = some 32 := by rw [h]; rfl
    rw [List.getElem?_take_of_lt (by decide)] at this
    exact this
  rw [List.getElem?_drop, Nat.add_zero, List.append_assoc, List.getElem?_append_left hi] at h1
  have := hw 32 (List.mem_of_getElem? h1)
  omega
theorem row_ok {S : AS} {w : List Nat} {t : Tm} (hw : WordOk w) (ht : Good 4 t) (hl : (w ++ sepE ++ shw t).length ≤ 200) : m_read_row [.str (T (w ++ sepE ++ shw t))] S = .ok (.fz (.tup [.str (T w), enc t])) S := by
  have hp := part_row (w := w) (r := shw t) fun k hk => by have := hw.1 k hk; omega
  have l1 : (w ++ sepE ++ shw t).length ≤ sizeLine := szl _ (by omega)
  have l2 : ¬ ((200 : Int) < (w ++ sepE ++ shw t).length) := by omega
  have e1 : pyEq (.str (T sepE)) (.str (T [])) = some false := by rw [pyeq_T (by decide) (by decide)]; rfl
  have iw := is_word_spec (S := S) hw
  have rd := read_spec (S := S) ht (by simp at hl; omega)
  have l3 : (T sepE).length = 3 := rfl
  have l4 : 2 ≤ sizeLine := by decide
  obtain ⟨q1, q2, _⟩ := lit2
  generalize hx : T (w ++ sepE ++ shw t) = x at hp ⊢
  have hxl : x.length = (w ++ sepE ++ shw t).length := by rw [← hx, T_len]
  rw [← hxl] at l1 l2
  simp [m_read_row, ms_read_row, runF, rho0, sSeq, sSet, sIf, mTest, mAnd, mOr, mNot, eOp, eUn, eVar, eC, sRet, sRetN, sNext, sBreak, sCont, sAug, sDrop, sFreeze, frzS, sAsg, gT, gsCons, gsNil, gN, aNil, aCons, eCall, eTup, eLst, eLstR, eIf, eAndV, eOrV, eNotV, sPutR, sPutV, sAppV, sAppR, sRaise, gI, gIC, gLt, gLe, gGt, gGe, L3.gSub, gFdiv, gMod, gPow, guardR, bind_ok, bind_ex, bind_bad, toS_ok, toS_ex, toS_bad, putS_fz, putS_own, retS_fz, retS_own, retS_bor, zD_fz, zD_own, d_fz, d_own, d_bor, List.map_cons, List.map_nil, List.cons_append, List.nil_append, List.append_nil, List.length_cons, List.length_nil, List.replicate, List.getElem?_cons_zero, List.getElem?_cons_succ, List.set_cons_zero, List.set_cons_succ, oNo, oSm, eSl, mYes, eM1, gPart, q1, q2, hp, l3, l1, l2, gLen, gEq, e1, iw, sTry0, rd, l4]
theorem row_long {S : AS} {w r : List Nat} (hw : ∀ k ∈ w, 48 ≤ k ∧ k ≠ 61) (hl : 200 < (w ++ sepE ++ r).length) (hl2 : (w ++ sepE ++ r).length ≤ sizeLine) : m_read_row [.str (T (w ++ sepE ++ r))] S = .ok (.fz .non) S := by
  have hp := part_row (w := w) (r := r) hw
  have l2 : ((200 : Int) < (w ++ sepE ++ r).length) := by omega
  have l3 : (T sepE).length = 3 := rfl
  obtain ⟨q1, q2, _⟩ := lit2
  generalize hx : T (w ++ sepE ++ r) = x at hp ⊢
  have hxl : x.length = (w ++ sepE ++ r).length := by rw [← hx, T_len]
  rw [← hxl] at l2 hl2
  simp [m_read_row, ms_read_row, runF, rho0, sSeq, sSet, sIf, mTest, mAnd, mOr, mNot, eOp, eUn, eVar, eC, sRet, sRetN, sNext, sBreak, sCont, sAug, sDrop, sFreeze, frzS, sAsg, gT, gsCons, gsNil, gN, aNil, aCons, eCall, eTup, eLst, eLstR, eIf, eAndV, eOrV, eNotV, sPutR, sPutV, sAppV, sAppR, sRaise, gI, gIC, gLt, gLe, gGt, gGe, L3.gSub, gFdiv, gMod, gPow, guardR, bind_ok, bind_ex, bind_bad, toS_ok, toS_ex, toS_bad, putS_fz, putS_own, retS_fz, retS_own, retS_bor, zD_fz, zD_own, d_fz, d_own, d_bor, List.map_cons, List.map_nil, List.cons_append, List.nil_append, List.append_nil, List.length_cons, List.length_nil, List.replicate, List.getElem?_cons_zero, List.getElem?_cons_succ, List.set_cons_zero, List.set_cons_succ, oNo, oSm, eSl, mYes, eM1, gPart, q1, q2, hp, l3, hl2, l2, gLen]
end MK

namespace MK
open PySem PySem.Spec PyProof.Rows L2 L3 PX
/-! ### rows -/
def Rd := List Nat → Option (List Nat × D)
def rdD : Option (List Nat × D) → D | none => .non | some (w, e) => .tup [.str (T w), e]
/-- the first row that is none, given the names so far -/
def badAt (R : Rd) : Nat → List Str → List (List Nat) → Option Nat
  | _, _, [] => none
  | i, ns, l :: r => match R l with
    | none => some i
    | some (w, _) => if T w ∈ ns ∨ 60 ≤ i then some i else badAt R (i + 1) (ns ++ [T w]) r
theorem badAt_cons (R : Rd) (i : Nat) (ns : List Str) (l : List Nat) (r : List (List Nat)) : badAt R i ns (l :: r) = (match R l with | none => some i | some (w, _) => if T w ∈ ns ∨ 60 ≤ i then some i else badAt R (i + 1) (ns ++ [T w]) r) := rfl
def pairsOf (R : Rd) (ls : List (List Nat)) : List D := ls.map fun l => rdD (R l)
theorem rngD_succ (lo : Int) (n : Nat) : rngD lo (n + 1) = .int lo :: rngD (lo + 1) n := by
  unfold rngD
  rw [List.range_succ_eq_map, List.map_cons, List.map_map]
  congr 1
  · simp
  · refine List.map_congr_left fun k _ => ?_
    simp
    omega
noncomputable def rowB : MS := (sSeq (sAsg (gN 5) (eCall 1 m_read_row (aCons (eVar 4) aNil))) (sSeq (sIf (mOr (mTest (eOp gIsN (eVar 5) (eC .non))) (mOr (mTest (eOp gInSet (eOp gIx (eVar 5) (eC (.int 0))) (eVar 2))) (mTest (eOp gGe (eVar 3) (eC (.int 60)))))) (sRaise (Str.ofString "BadRows") 1 [(Str.ofString "row"), (Str.ofString "word")] (fun ds => ds ++ [.str (Str.ofString "rows")]) (aCons (eVar 3) aNil)) sNext) (sSeq (sAddV 2 (eOp gIx (eVar 5) (eC (.int 0)))) (sAppV 1 (eVar 5)))))
end MK
namespace MK
open PySem PySem.Spec PyProof.Rows L2 L3 PX
def rowL (x : D) (found : List D) (ns : List Str) (q3 q4 q5 : Option SV) : Rho := [some (.fz x), some (.own (.lst found)), some (.own (.set ns)), q3, q4, q5]
theorem row_step {S : AS} {R : Rd} {x : D} {found : List D} {ns : List Str} {q5 : Option SV} {l : List Nat} {i : Nat} (hl : m_read_row [.str (T l)] S = .ok (.fz (rdD (R l))) S) (hf : found.length ≤ 1000) (hn : ns.length ≤ 1000) :
    (badAt R i ns [l] = none ∧ ∃ w e, R l = some (w, e) ∧ rowB (rowL x found ns (some (.fz (.int i))) (some (.fz (.str (T l)))) q5) S = .nx (rowL x (found ++ [rdD (R l)]) (ns ++ [T w]) (some (.fz (.int i))) (some (.fz (.str (T l)))) (some (.fz (rdD (R l))))) S) ∨
    (badAt R i ns [l] = some i ∧ ∃ ρ', rowB (rowL x found ns (some (.fz (.int i))) (some (.fz (.str (T l)))) q5) S = .ex (Str.ofString "BadRows") [Str.ofString "row", Str.ofString "word"] [.int i, .str (Str.ofString "rows")] ρ' S) := by
  have h1 : found.length < sizeLine := by unfold sizeLine; omega
  have h2 : ns.length + 1 < scanBound := by unfold scanBound; omega
  cases e : R l with
  | none =>
    refine .inr ⟨by simp [badAt, e], rowL x found ns (some (.fz (.int i))) (some (.fz (.str (T l)))) (some (.fz .non)), ?_⟩
    rw [e] at hl
    simp [rowB, rowL, runF, rho0, sSeq, sSet, sIf, mTest, mAnd, mOr, mNot, eOp, eUn, eVar, eC, sRet, sRetN, sNext, sBreak, sCont, sAug, sDrop, sFreeze, frzS, sAsg, gT, gsCons, gsNil, gN, aNil, aCons, eCall, eTup, eLst, eLstR, eIf, eAndV, eOrV, eNotV, sPutR, sPutV, sAppV, sAppR, sRaise, gI, gIC, gLt, gLe, gGt, gGe, L3.gSub, gFdiv, gMod, gPow, guardR, bind_ok, bind_ex, bind_bad, toS_ok, toS_ex, toS_bad, putS_fz, putS_own, retS_fz, retS_own, retS_bor, zD_fz, zD_own, d_fz, d_own, d_bor, List.map_cons, List.map_nil, List.cons_append, List.nil_append, List.append_nil, List.length_cons, List.length_nil, List.replicate, List.getElem?_cons_zero, List.getElem?_cons_succ, List.set_cons_zero, List.set_cons_succ, oNo, oSm, eSl, mYes, hl, rdD, gIsN, L3.isNon]
  | some p =>
    obtain ⟨w, d⟩ := p
    rw [e] at hl
    by_cases hw : T w ∈ ns
    · refine .inr ⟨by simp [badAt, e, hw], rowL x found ns (some (.fz (.int i))) (some (.fz (.str (T l)))) (some (.fz (rdD (some (w, d))))), ?_⟩
      simp [rowB, rowL, runF, rho0, sSeq, sSet, sIf, mTest, mAnd, mOr, mNot, eOp, eUn, eVar, eC, sRet, sRetN, sNext, sBreak, sCont, sAug, sDrop, sFreeze, frzS, sAsg, gT, gsCons, gsNil, gN, aNil, aCons, eCall, eTup, eLst, eLstR, eIf, eAndV, eOrV, eNotV, sPutR, sPutV, sAppV, sAppR, sRaise, gI, gIC, gLt, gLe, gGt, gGe, L3.gSub, gFdiv, gMod, gPow, guardR, bind_ok, bind_ex, bind_bad, toS_ok, toS_ex, toS_bad, putS_fz, putS_own, retS_fz, retS_own, retS_bor, zD_fz, zD_own, d_fz, d_own, d_bor, List.map_cons, List.map_nil, List.cons_append, List.nil_append, List.append_nil, List.length_cons, List.length_nil, List.replicate, List.getElem?_cons_zero, List.getElem?_cons_succ, List.set_cons_zero, List.set_cons_succ, oNo, oSm, eSl, mYes, hl, rdD, gIsN, L3.isNon, gIx, atI0, gInSet, hw]
    · by_cases hi : 60 ≤ i
      · refine .inr ⟨by simp [badAt, e, hi], rowL x found ns (some (.fz (.int i))) (some (.fz (.str (T l)))) (some (.fz (rdD (some (w, d))))), ?_⟩
        have hi2 : (60 : Int) ≤ i := by omega
        simp [rowB, rowL, runF, rho0, sSeq, sSet, sIf, mTest, mAnd, mOr, mNot, eOp, eUn, eVar, eC, sRet, sRetN, sNext, sBreak, sCont, sAug, sDrop, sFreeze, frzS, sAsg, gT, gsCons, gsNil, gN, aNil, aCons, eCall, eTup, eLst, eLstR, eIf, eAndV, eOrV, eNotV, sPutR, sPutV, sAppV, sAppR, sRaise, gI, gIC, gLt, gLe, gGt, gGe, L3.gSub, gFdiv, gMod, gPow, guardR, bind_ok, bind_ex, bind_bad, toS_ok, toS_ex, toS_bad, putS_fz, putS_own, retS_fz, retS_own, retS_bor, zD_fz, zD_own, d_fz, d_own, d_bor, List.map_cons, List.map_nil, List.cons_append, List.nil_append, List.append_nil, List.length_cons, List.length_nil, List.replicate, List.getElem?_cons_zero, List.getElem?_cons_succ, List.set_cons_zero, List.set_cons_succ, oNo, oSm, eSl, mYes, hl, rdD, gIsN, L3.isNon, gIx, atI0, gInSet, hw, hi2]
      · refine .inl ⟨by simp [badAt, e, hi, hw], w, d, rfl, ?_⟩
        have hi2 : ¬ ((60 : Int) ≤ i) := by omega
        simp [rowB, rowL, runF, rho0, sSeq, sSet, sIf, mTest, mAnd, mOr, mNot, eOp, eUn, eVar, eC, sRet, sRetN, sNext, sBreak, sCont, sAug, sDrop, sFreeze, frzS, sAsg, gT, gsCons, gsNil, gN, aNil, aCons, eCall, eTup, eLst, eLstR, eIf, eAndV, eOrV, eNotV, sPutR, sPutV, sAppV, sAppR, sRaise, gI, gIC, gLt, gLe, gGt, gGe, L3.gSub, gFdiv, gMod, gPow, guardR, bind_ok, bind_ex, bind_bad, toS_ok, toS_ex, toS_bad, putS_fz, putS_own, retS_fz, retS_own, retS_bor, zD_fz, zD_own, d_fz, d_own, d_bor, List.map_cons, List.map_nil, List.cons_append, List.nil_append, List.append_nil, List.length_cons, List.length_nil, List.replicate, List.getElem?_cons_zero, List.getElem?_cons_succ, List.set_cons_zero, List.set_cons_succ, oNo, oSm, eSl, mYes, hl, rdD, gIsN, L3.isNon, gIx, atI0, gInSet, hw, hi2, sAddV, h1, h2]
theorem rows_loop {S : AS} {R : Rd} {x : D} : ∀ (ls : List (List Nat)) (i : Nat) (found : List D) (ns : List Str) (q3 q4 q5 : Option SV), (∀ l ∈ ls, m_read_row [.str (T l)] S = .ok (.fz (rdD (R l))) S) → found.length + ls.length ≤ 1000 → ns.length + ls.length ≤ 1000 →
    (badAt R i ns ls = none ∧ ∃ ns' q3' q4' q5', loopL (gT 2 (gsCons (gN 3) (gsCons (gN 4) gsNil))) rowB (zipD (rngD i ls.length) (ls.map encW)) (rowL x found ns q3 q4 q5) S = .nx (rowL x (found ++ pairsOf R ls) ns' q3' q4' q5') S) ∨
    (∃ j, badAt R i ns ls = some j ∧ ∃ ρ', loopL (gT 2 (gsCons (gN 3) (gsCons (gN 4) gsNil))) rowB (zipD (rngD i ls.length) (ls.map encW)) (rowL x found ns q3 q4 q5) S = .ex (Str.ofString "BadRows") [Str.ofString "row", Str.ofString "word"] [.int j, .str (Str.ofString "rows")] ρ' S)
  | [], i, found, ns, q3, q4, q5, _, _, _ => .inl ⟨rfl, ns, q3, q4, q5, by simp [zipD, pairsOf, loopL]⟩
  | l :: r, i, found, ns, q3, q4, q5, hs, h1, h2 => by
    rw [List.length_cons] at h1 h2
    have ez : zipD (rngD i (l :: r).length) ((l :: r).map encW) = .tup [.int i, .str (T l)] :: zipD (rngD ((i + 1 : Nat) : Int) r.length) (r.map encW) := by
      rw [List.length_cons, rngD_succ]
      rfl
    have eg : gT 2 (gsCons (gN 3) (gsCons (gN 4) gsNil)) (.tup [.int i, .str (T l)]) (rowL x found ns q3 q4 q5) = some (rowL x found ns (some (.fz (.int i))) (some (.fz (.str (T l)))) q5) := rfl
    rcases row_step (x := x) (found := found) (ns := ns) (q5 := q5) (i := i) (hs l (List.mem_cons_self ..)) (by omega) (by omega) with ⟨hb, w, e, eR, er⟩ | ⟨hb, ρ', er⟩
    · have hb2 : badAt R i ns (l :: r) = badAt R (i + 1) (ns ++ [T w]) r := by
        rw [badAt_cons, eR] at hb ⊢
        dsimp only at hb ⊢
        split at hb
        · cases hb
        · rename_i hc; rw [if_neg hc]
      rcases rows_loop r (i + 1) (found ++ [rdD (R l)]) (ns ++ [T w]) (some (.fz (.int i))) (some (.fz (.str (T l)))) (some (.fz (rdD (R l)))) (fun y hy => hs y (List.mem_cons_of_mem _ hy)) (by simp; omega) (by simp; omega) with ⟨hn, ns', q3', q4', q5', el⟩ | ⟨j, hj, ρ', el⟩
      · refine .inl ⟨by rw [hb2]; exact hn, ns', q3', q4', q5', ?_⟩
        rw [ez]
        unfold loopL
        rw [eg]
        dsimp only
        rw [er]
        dsimp only
        rw [el]
        simp [pairsOf]
      · refine .inr ⟨j, by rw [hb2]; exact hj, ρ', ?_⟩
        rw [ez]
        unfold loopL
        rw [eg]
        dsimp only
        rw [er]
        dsimp only
        exact el
    · have hb2 : badAt R i ns (l :: r) = some i := by
        rw [badAt_cons] at hb ⊢
        cases eR : R l with
        | none => rfl
        | some p =>
          obtain ⟨w, d⟩ := p
          rw [eR] at hb
          dsimp only at hb ⊢
          split at hb
          · rename_i hc; rw [if_pos hc]
          · cases hb
      refine .inr ⟨i, hb2, ρ', ?_⟩
      rw [ez]
      unfold loopL
      rw [eg]
      dsimp only
      rw [er]
end MK

namespace MK
open PySem PySem.Spec PyProof.Rows L2 L3 PX
theorem go_ex {m n : MS} {ρ ρ' : Rho} {S S' : AS} {C : Str} {fs : List Str} {vs : List D} (h : m ρ S = .ex C fs vs ρ' S') : sSeq m n ρ S = .ex C fs vs ρ' S' := by unfold sSeq; rw [h]
theorem rows_form : ms_read_rows = sSeq (sSet 1 (eLst aNil)) (sSeq (sSet 2 (eCB gSet0 aNil)) (sSeq (sFor (iE (aCons (eM1 gSplit (eVar 0) (eC (.str (Str.ofString "\n")))) aNil)) (gT 2 (gsCons (gN 3) (gsCons (gN 4) gsNil))) rowB) (sRet (eVar 1)))) := rfl
theorem read_rows_spec {S : AS} {R : Rd} {ls : List (List Nat)} (h0 : ls ≠ []) (hn : ∀ l ∈ ls, 10 ∉ l) (hs : ∀ l ∈ ls, m_read_row [.str (T l)] S = .ok (.fz (rdD (R l))) S) (hl : ls.length ≤ 1000) (hz : (List.intercalate [10] ls).length + 2 ≤ sizeLine) :
    (badAt R 0 [] ls = none ∧ m_read_rows [.str (T (List.intercalate [10] ls))] S = .ok (.own (.lst (pairsOf R ls))) S) ∨
    (∃ j, badAt R 0 [] ls = some j ∧ m_read_rows [.str (T (List.intercalate [10] ls))] S = .ex (Str.ofString "BadRows") [Str.ofString "row", Str.ofString "word"] [.int j, .str (Str.ofString "rows")] S) := by
  have hsp := T_split h0 hn
  have l0 : (T [10]).length = 1 := rfl
  generalize hx : T (List.intercalate [10] ls) = x at hsp ⊢
  have hxl : x.length = (List.intercalate [10] ls).length := by rw [← hx, T_len]
  rw [← hxl] at hz
  have el : ((Txt.split x (T [10])).map D.str) = ls.map encW := by rw [hsp, List.map_map]; rfl
  have len : (ls.map encW).length = ls.length := by simp
  have ei : ∀ q1 q2 q3 q4 q5 : Option SV, iE (aCons (eM1 gSplit (eVar 0) (eC (.str (Str.ofString "\n")))) aNil) [some (.fz (.str x)), q1, q2, q3, q4, q5] S = .ok (zipD (rngD 0 ls.length) (ls.map encW)) S := fun q1 q2 q3 q4 q5 => by
    simp [iE, runF, rho0, sSeq, sSet, sIf, mTest, mAnd, mOr, mNot, eOp, eUn, eVar, eC, sRet, sRetN, sNext, sBreak, sCont, sAug, sDrop, sFreeze, frzS, sAsg, gT, gsCons, gsNil, gN, aNil, aCons, eCall, eTup, eLst, eLstR, eIf, eAndV, eOrV, eNotV, sPutR, sPutV, sAppV, sAppR, sRaise, gI, gIC, gLt, gLe, gGt, gGe, L3.gSub, gFdiv, gMod, gPow, guardR, bind_ok, bind_ex, bind_bad, toS_ok, toS_ex, toS_bad, putS_fz, putS_own, retS_fz, retS_own, retS_bor, zD_fz, zD_own, d_fz, d_own, d_bor, List.map_cons, List.map_nil, List.cons_append, List.nil_append, List.append_nil, List.length_cons, List.length_nil, List.replicate, List.getElem?_cons_zero, List.getElem?_cons_succ, List.set_cons_zero, List.set_cons_succ, oNo, oSm, eSl, mYes, eM1, gSplit, lit2.2.2, l0, hz, el, enuD, len]
  have st1 : sSet 1 (eLst aNil) [some (.fz (.str x)), none, none, none, none, none] S = .nx [some (.fz (.str x)), some (.own (.lst [])), none, none, none, none] S := by simp [runF, rho0, sSeq, sSet, sIf, mTest, mAnd, mOr, mNot, eOp, eUn, eVar, eC, sRet, sRetN, sNext, sBreak, sCont, sAug, sDrop, sFreeze, frzS, sAsg, gT, gsCons, gsNil, gN, aNil, aCons, eCall, eTup, eLst, eLstR, eIf, eAndV, eOrV, eNotV, sPutR, sPutV, sAppV, sAppR, sRaise, gI, gIC, gLt, gLe, gGt, gGe, L3.gSub, gFdiv, gMod, gPow, guardR, bind_ok, bind_ex, bind_bad, toS_ok, toS_ex, toS_bad, putS_fz, putS_own, retS_fz, retS_own, retS_bor, zD_fz, zD_own, d_fz, d_own, d_bor, List.map_cons, List.map_nil, List.cons_append, List.nil_append, List.append_nil, List.length_cons, List.length_nil, List.replicate, List.getElem?_cons_zero, List.getElem?_cons_succ, List.set_cons_zero, List.set_cons_succ, oNo, oSm, eSl, mYes]
  have st2 : sSet 2 (eCB gSet0 aNil) [some (.fz (.str x)), some (.own (.lst [])), none, none, none, none] S = .nx (rowL (.str x) [] [] none none none) S := by simp [runF, rho0, sSeq, sSet, sIf, mTest, mAnd, mOr, mNot, eOp, eUn, eVar, eC, sRet, sRetN, sNext, sBreak, sCont, sAug, sDrop, sFreeze, frzS, sAsg, gT, gsCons, gsNil, gN, aNil, aCons, eCall, eTup, eLst, eLstR, eIf, eAndV, eOrV, eNotV, sPutR, sPutV, sAppV, sAppR, sRaise, gI, gIC, gLt, gLe, gGt, gGe, L3.gSub, gFdiv, gMod, gPow, guardR, bind_ok, bind_ex, bind_bad, toS_ok, toS_ex, toS_bad, putS_fz, putS_own, retS_fz, retS_own, retS_bor, zD_fz, zD_own, d_fz, d_own, d_bor, List.map_cons, List.map_nil, List.cons_append, List.nil_append, List.append_nil, List.length_cons, List.length_nil, List.replicate, List.getElem?_cons_zero, List.getElem?_cons_succ, List.set_cons_zero, List.set_cons_succ, oNo, oSm, eSl, mYes, eCB, gSet0, rowL]
  rcases rows_loop (x := .str x) ls 0 [] [] none none none hs (by simpa using hl) (by simpa using hl) with ⟨hb, ns', q3, q4, q5, e⟩ | ⟨j, hb, ρ', e⟩
  · refine .inl ⟨hb, run_rt ?_⟩
    rw [show rho0 6 [.str x] = [some (.fz (.str x)), none, none, none, none, none] from rfl, rows_form]
    refine go st1 (go st2 (go (sFor_ok (ei _ _ _ _ _) e) ?_))
    simp [runF, rho0, sSeq, sSet, sIf, mTest, mAnd, mOr, mNot, eOp, eUn, eVar, eC, sRet, sRetN, sNext, sBreak, sCont, sAug, sDrop, sFreeze, frzS, sAsg, gT, gsCons, gsNil, gN, aNil, aCons, eCall, eTup, eLst, eLstR, eIf, eAndV, eOrV, eNotV, sPutR, sPutV, sAppV, sAppR, sRaise, gI, gIC, gLt, gLe, gGt, gGe, L3.gSub, gFdiv, gMod, gPow, guardR, bind_ok, bind_ex, bind_bad, toS_ok, toS_ex, toS_bad, putS_fz, putS_own, retS_fz, retS_own, retS_bor, zD_fz, zD_own, d_fz, d_own, d_bor, List.map_cons, List.map_nil, List.cons_append, List.nil_append, List.append_nil, List.length_cons, List.length_nil, List.replicate, List.getElem?_cons_zero, List.getElem?_cons_succ, List.set_cons_zero, List.set_cons_succ, oNo, oSm, eSl, mYes, rowL]
  · refine .inr ⟨j, hb, ?_⟩
    unfold m_read_rows runF
    rw [show rho0 6 [.str x] = [some (.fz (.str x)), none, none, none, none, none] from rfl, rows_form]
    have : sSeq (sSet 1 (eLst aNil)) (sSeq (sSet 2 (eCB gSet0 aNil)) (sSeq (sFor (iE (aCons (eM1 gSplit (eVar 0) (eC (.str (Str.ofString "\n")))) aNil)) (gT 2 (gsCons (gN 3) (gsCons (gN 4) gsNil))) rowB) (sRet (eVar 1)))) [some (.fz (.str x)), none, none, none, none, none] S = .ex (Str.ofString "BadRows") [Str.ofString "row", Str.ofString "word"] [.int j, .str (Str.ofString "rows")] ρ' S := by
      exact go st1 (go st2 (go_ex (sFor_ok (ei _ _ _ _ _) e)))
    rw [this]
end MK

namespace MK
open PySem PySem.Spec PyProof.Rows L2 L3 PX
/-! ### lines of signs of one branch -/
def wrp : List (List Nat) → Tm → Tm
  | [], e => e
  | w :: ws, e => .sign w [wrp ws e]
theorem shw_wrp (w : List Nat) (ws : List (List Nat)) (e : Tm) : shw (wrp (w :: ws) e) = w ++ 40 :: (shw (wrp ws e) ++ [41]) := by
  rw [wrp, shw]
  simp [List.intercalate]
theorem good_wrp : ∀ {ws : List (List Nat)} {e : Tm}, (∀ w ∈ ws, WordOk w) → Good 1 e → Good (ws.length + 1) (wrp ws e)
  | [], e, _, h => h
  | w :: ws, e, hw, h => ⟨hw w (List.mem_cons_self ..), by simp, fun t ht => by
      rw [List.mem_singleton.mp ht]
      exact good_wrp (fun x hx => hw x (List.mem_cons_of_mem _ hx)) h⟩
theorem dep_wrp : ∀ {ws : List (List Nat)} {e : Tm}, dep e = 1 → dep (wrp ws e) = ws.length + 1
  | [], e, h => by simp [wrp, h]
  | w :: ws, e, h => by
    have := dep_wrp (ws := ws) h
    rw [wrp, dep]
    simp [this]
    omega
/-- its first sign is none of ) -/
def FC (l : List Nat) : Prop := ∃ y z, l = y :: z ∧ y ≠ 41
theorem fc_word {w r : List Nat} (h : WordOk w) : FC (w ++ r) := by
  cases w with
  | nil => exact absurd h.2.1 (by simp)
  | cons y z => have := h.1 y (List.mem_cons_self ..); exact ⟨y, z ++ r, rfl, by omega⟩
theorem fc_wrp {ws : List (List Nat)} {e : Tm} (hw : ∀ w ∈ ws, WordOk w) (h : Good 1 e) (b : List Nat) : FC (shw (wrp ws e) ++ b) := by
  cases ws with
  | nil =>
    cases e with
    | free w => exact ⟨63, w ++ b, by rw [wrp, shw]; rfl, by decide⟩
    | name w => rw [wrp, shw]; exact fc_word h
    | sign w ts => rw [wrp, shw, List.append_assoc]; exact fc_word h.1
  | cons w ws => rw [shw_wrp, List.append_assoc]; exact fc_word (hw w (List.mem_cons_self ..))
theorem takeW_app : ∀ {w b : List Nat}, Ltr w → NoL b → (w ++ b).takeWhile isL = w ∧ (w ++ b).dropWhile isL = b
  | [], b, _, hb => by
    cases b with
    | nil => exact ⟨rfl, rfl⟩
    | cons k r =>
      have : isL k = false := by
        have h : ¬(97 ≤ k ∧ k ≤ 122) := hb
        unfold isL
        exact decide_eq_false h
      simp [List.takeWhile_cons, List.dropWhile_cons, this]
  | k :: w, b, hw, hb => by
    have hk : isL k = true := decide_eq_true (hw k (List.mem_cons_self ..))
    obtain ⟨h1, h2⟩ := takeW_app (w := w) (b := b) (fun x hx => hw x (List.mem_cons_of_mem _ hx)) hb
    rw [List.cons_append, List.takeWhile_cons, List.dropWhile_cons, if_pos hk, if_pos hk, h1, h2]
    exact ⟨rfl, rfl⟩
theorem prs_deep : ∀ (n : Nat) (ws : List (List Nat)) (e : Tm) (b : List Nat) (d : Nat), (∀ w ∈ ws, WordOk w) → Good 1 e → 8 < d + ws.length → prs n (shw (wrp ws e) ++ b) d = none
  | 0, _, _, _, _, _, _, _ => rfl
  | n + 1, ws, e, b, d, hw, he, hd => by
    by_cases h8 : 8 < d
    · unfold prs
      simp only
      rw [if_pos (.inl h8)]
    · cases ws with
      | nil => simp at hd; omega
      | cons w ws =>
        have hww := hw w (List.mem_cons_self ..)
        have hrest : ∀ x ∈ ws, WordOk x := fun x hx => hw x (List.mem_cons_of_mem _ hx)
        have er : shw (wrp (w :: ws) e) ++ b = w ++ 40 :: (shw (wrp ws e) ++ ([41] ++ b)) := by rw [shw_wrp]; simp
        obtain ⟨t1, t2⟩ := takeW_app (w := w) (b := 40 :: (shw (wrp ws e) ++ ([41] ++ b))) hww.1 (show ¬(97 ≤ 40 ∧ 40 ≤ 122) by omega)
        obtain ⟨y, z, ey, hy⟩ := fc_wrp (ws := ws) (e := e) hrest he ([41] ++ b)
        have h63 : ¬ (w ++ 40 :: (shw (wrp ws e) ++ ([41] ++ b))).take 1 = [63] := by
          cases w with
          | nil => exact absurd hww.2.1 (by simp)
          | cons c r => have := hww.1 c (List.mem_cons_self ..); simp; omega
        have hok : okW w = true := okW_iff.mpr hww
        have ih := prs_deep n ws e ([41] ++ b) (d + 1) hrest he (by rw [List.length_cons] at hd; omega)
        rw [er]
        unfold prs
        simp only
        rw [if_neg h63, t1, t2, if_neg (by simp [h8, hok]), if_neg h63, if_neg (by simp), ey, if_neg (by simp [hy])]
        unfold brs
        rw [← ey, List.drop_one, List.tail_cons, ih]
theorem read_deep {ws : List (List Nat)} {e : Tm} (hw : ∀ w ∈ ws, WordOk w) (he : Good 1 e) (hd : 7 < ws.length) : rdT (shw (wrp ws e)) = none := by
  unfold rdT
  split
  · rfl
  · have := prs_deep 9 ws e [] 1 hw he (by omega)
    rw [List.append_nil] at this
    rw [this]
theorem read_ok {S : AS} {t : Tm} (h : Good 8 t) (hl : (shw t).length ≤ 200) : m_read_term [.str (T (shw t))] S = .ok (.fz (enc t)) S := by
  have hp := parse_spec (S := S) 8 40 t [] [] 1 (by omega) h (.inl rfl) (by omega) (szl _ (by simp; omega))
  simp at hp
  have l1 : (shw t).length ≤ sizeLine := szl _ (by omega)
  have l2 : ¬ ((200 : Int) < (shw t).length) := by omega
  simp [m_read_term, ms_read_term, runF, rho0, sSeq, sSet, sIf, mTest, mAnd, mOr, mNot, eOp, eUn, eVar, eC, sRet, sRetN, sNext, sBreak, sCont, sAug, sDrop, sFreeze, frzS, sAsg, gT, gsCons, gsNil, gN, aNil, aCons, eCall, eTup, eLst, eLstR, eIf, eAndV, eOrV, eNotV, sPutR, sPutV, sAppV, sAppR, sRaise, gI, gIC, gLt, gLe, gGt, gGe, L3.gSub, gFdiv, gMod, gPow, guardR, bind_ok, bind_ex, bind_bad, toS_ok, toS_ex, toS_bad, putS_fz, putS_own, retS_fz, retS_own, retS_bor, zD_fz, zD_own, d_fz, d_own, d_bor, List.map_cons, List.map_nil, List.cons_append, List.nil_append, List.append_nil, List.length_cons, List.length_nil, List.replicate, List.getElem?_cons_zero, List.getElem?_cons_succ, List.set_cons_zero, List.set_cons_succ, oNo, oSm, eSl, mYes, gLen, T_len, l1, l2, hp, gNe, q_int]
theorem cut_to (l : List Nat) (n : Nat) : cutS (T l) none (some (n : Int)) = T (l.take n) := by
  have := T_cut 0 n l
  rw [List.drop_zero, Nat.sub_zero] at this
  rw [← this]
  unfold cutS
  rw [HT.sIx_none, HT.sIx_nat]
  have : HT.sIx (T l).length 0 (some ((0 : Nat) : Int)) = min 0 (T l).length := HT.sIx_nat _ _ 0
  rw [this, Nat.zero_min]
/-! ### the row -/
def padL : List Nat := [97, 98, 99, 100, 101, 102, 40] ++ ([97, 98, 40, 97, 98, 99, 100, 101, 102, 44, 32, 97, 98, 99, 100, 101, 102, 44, 32, 97, 98, 99, 100, 101, 102, 41, 44, 32] ++ [97, 98, 40, 97, 98, 99, 100, 101, 102, 44, 32, 97, 98, 99, 100, 101, 102, 44, 32, 97, 98, 99, 100, 101, 102, 41, 44, 32]) ++ [97, 98, 40, 97, 98, 99, 100, 101, 102, 44, 32, 97, 98, 99, 100, 101, 102, 44, 32, 97, 98, 99, 100, 101, 102, 41, 41]
def wA : List Nat := [97, 98, 99, 100, 101, 102]
def padT : Tm := .sign wA [.sign [97, 98] [.name wA, .name wA, .name wA], .sign [97, 98] [.name wA, .name wA, .name wA], .sign [97, 98] [.name wA, .name wA, .name wA]]
theorem shw_pad : shw padT = padL := by
  simp [padT, shw, padL, wA, List.intercalate]
def rowT (a b : Nat) : Tm := .sign [102] [padT, padT, .sign (List.replicate a 113) [.name (List.replicate b 114)]]
def rowL3 (a b : Nat) : List Nat := [120, 32, 61, 32, 102, 40] ++ padL ++ [44, 32] ++ padL ++ [44, 32] ++ (List.replicate a 113 ++ [40] ++ List.replicate b 114 ++ [41, 41])
theorem rowL_eq (a b : Nat) : rowL3 a b = [120] ++ sepE ++ shw (rowT a b) := by
  unfold rowL3 rowT sepE
  rw [shw]
  simp only [List.map_cons, List.map_nil, shw_pad]
  rw [shw]
  simp only [List.map_cons, List.map_nil]
  rw [shw]
  simp [List.intercalate]
theorem wordA : WordOk wA := okW_iff.mp (by decide)
theorem good_row {a b : Nat} (ha : 1 ≤ a ∧ a ≤ 6) (hb : 1 ≤ b ∧ b ≤ 6) : Good 4 (rowT a b) := by
  have w1 : WordOk [102] := okW_iff.mp (by decide)
  have w2 : WordOk [97, 98] := okW_iff.mp (by decide)
  have w3 : ∀ k n, 97 ≤ k ∧ k ≤ 122 → 1 ≤ n ∧ n ≤ 6 → WordOk (List.replicate n k) := fun k n hk hn => ⟨fun x hx => by rw [List.eq_of_mem_replicate hx]; exact hk, by simp; omega, by simp; omega⟩
  have gi : Good 2 (.sign [97, 98] [.name wA, .name wA, .name wA]) := ⟨w2, by simp, fun t ht => by
    simp at ht; subst ht; exact wordA⟩
  have gp : Good 3 padT := ⟨wordA, by simp, fun t ht => by
    simp at ht; subst ht; exact gi⟩
  refine ⟨w1, by simp, fun t ht => ?_⟩
  simp at ht
  rcases ht with rfl | rfl
  · exact gp
  · exact ⟨w3 113 a (by omega) ha, by simp, fun t ht => by
      simp at ht; subst ht
      exact w3 114 b (by omega) hb⟩
theorem rows_told {S : AS} {a b : Nat} (ha : 1 ≤ a ∧ a ≤ 6) (hb : 1 ≤ b ∧ b ≤ 6) :
    ((rowL3 a b).length ≤ 200 ∧ ∃ d, m_read_rows [.str (T (rowL3 a b))] S = .ok (.own (.lst d)) S) ∨ (200 < (rowL3 a b).length ∧ m_read_rows [.str (T (rowL3 a b))] S = .ex (Str.ofString "BadRows") [Str.ofString "row", Str.ofString "word"] [.int 0, .str (Str.ofString "rows")] S) := by
  have hlen : (rowL3 a b).length ≤ 300 := by unfold rowL3 padL; simp; omega
  have hasc : 10 ∉ rowL3 a b := fun h => by
    unfold rowL3 padL at h
    simp at h
  have h1 : List.intercalate [10] [rowL3 a b] = rowL3 a b := by simp [List.intercalate]
  have g := good_row ha hb
  by_cases hl : 200 < (rowL3 a b).length
  · have hr : ∀ S, m_read_row [.str (T (rowL3 a b))] S = .ok (.fz .non) S := fun S => by
      rw [rowL_eq] at hl ⊢
      exact row_long (fun k hk => by simp at hk; omega) hl (szl _ (by rw [← rowL_eq]; omega))
    have := read_rows_spec (S := S) (R := fun _ => none) (ls := [rowL3 a b]) (by simp) (fun l h => by rw [List.mem_singleton.mp h]; exact hasc) (fun l h => by rw [List.mem_singleton.mp h]; exact hr S) (by simp) (szl _ (by rw [h1]; omega))
    rw [h1] at this
    rcases this with ⟨hb, _⟩ | ⟨j, hb, e⟩
    · simp [badAt] at hb
    · simp [badAt] at hb
      subst hb
      exact .inr ⟨hl, e⟩
  · have hr : ∀ S, m_read_row [.str (T (rowL3 a b))] S = .ok (.fz (rdD (some ([120], enc (rowT a b))))) S := fun S => by
      rw [rowL_eq] at hl ⊢
      exact row_ok (okW_iff.mp (by decide)) g (by omega)
    have := read_rows_spec (S := S) (R := fun _ => some ([120], enc (rowT a b))) (ls := [rowL3 a b]) (by simp) (fun l h => by rw [List.mem_singleton.mp h]; exact hasc) (fun l h => by rw [List.mem_singleton.mp h]; exact hr S) (by simp) (szl _ (by rw [h1]; omega))
    rw [h1] at this
    rcases this with ⟨hb, e⟩ | ⟨j, hb, e⟩
    · exact .inl ⟨by omega, _, e⟩
    · simp [badAt] at hb
end MK

namespace MK
open PySem PySem.Spec PyProof.Rows L2 L3 PX
noncomputable def v2_0 : MS := (sAsg (gN 4) (eOp gAdd (eC (.int 5)) (eCall 2 m_law_pull (aCons (eVar 1) (aCons (eC (.int 7)) aNil)))))
noncomputable def v2_1 : MS := (sAsg (gN 5) (eCall 2 m_law_of (aCons (eVar 1) (aCons (eLst (aCons (eOp gAdd (eC (.str (Str.ofString "?"))) (eOp gIx (eVar 2) (eC (.int 0)))) (aCons (eOp gIx (eVar 2) (eC (.int 1))) (aCons (eOp gAdd (eOp gIx (eVar 2) (eC (.int 0))) (eC (.str (Str.ofString "()")))) aNil)))) aNil))))
noncomputable def v2_2 : MS := (sAsg (gN 6) (eOp gAdd (eOp gAdd (eOp gAdd (eOp gIx (eVar 2) (eC (.int 0))) (eC (.str (Str.ofString "(")))) (eVar 5)) (eC (.str (Str.ofString ")")))))
noncomputable def v2_3_0 : MS := (sAsg (gN 6) (eOp gAdd (eOp gAdd (eOp gAdd (eCall 2 m_law_of (aCons (eVar 1) (aCons (eLst (aCons (eC (.str (Str.ofString "f"))) (aCons (eC (.str (Str.ofString "gg"))) aNil))) aNil))) (eC (.str (Str.ofString "(")))) (eVar 6)) (eC (.str (Str.ofString ")")))))
noncomputable def v2_4 : MS := (sAsg (gT 2 (gsCons (gN 8) (gsCons (gN 9) gsNil))) (eWhy [(Str.ofString "BadTerm"), (Str.ofString "BadRows")] (Str.ofString "word") (eCall 1 m_read_term (aCons (eVar 6) aNil))))
noncomputable def v2_5 : MS := (sIf (mOr (mTest (eOp gNe (eVar 9) (eOp gIx (eLst (aCons (eC (.str (Str.ofString ""))) (aCons (eC (.str (Str.ofString "term"))) aNil))) (eUn gInt1 (eOp gGt (eVar 4) (eC (.int 8))))))) (mAnd (mTest (eOp gLt (eVar 4) (eC (.int 9)))) (mNot (mTest (eCall 2 (m_law_same 18) (aCons (eCall 1 (m_deep_of 10) (aCons (eVar 8) aNil)) (aCons (eVar 4) aNil))))))) (sRet (eC (.bl false))) sNext)
noncomputable def v2_6 : MS := (sAsg (gN 10) (eC (.str (Str.ofString "abcdef(abcdef, abcdef, abcdef)"))))
noncomputable def v2_7 : MS := (sAsg (gL 3 (gsCons (gN 11) (gsCons (gN 12) (gsCons (gN 13) gsNil)))) (eLc (iR1 (aCons (eC (.int 3)) aNil)) (gN 7) mYes (eSl (eC (.str (Str.ofString "xyzxyz"))) oNo (oSm (eOp gAdd (eC (.int 5)) (eCall 2 m_law_pull (aCons (eVar 1) (aCons (eC (.int 2)) aNil)))))) [7]))
noncomputable def v2_8 : MS := (sAsg (gN 14) (eOp gAdd (eOp gAdd (eVar 10) (eC (.str (Str.ofString ", ")))) (eVar 10)))
noncomputable def v2_9 : MS := (sAsg (gN 6) (eOp gAdd (eOp gAdd (eOp gAdd (eOp gAdd (eOp gAdd (eC (.str (Str.ofString "g("))) (eVar 14)) (eC (.str (Str.ofString ", h(")))) (eVar 14)) (eC (.str (Str.ofString ", k(")))) (eVar 10)))
noncomputable def v2_10 : MS := (sAsg (gN 6) (eOp gAdd (eOp gAdd (eVar 6) (eC (.str (Str.ofString ", m(")))) (eM1 gJoin (eC (.str (Str.ofString ", "))) (eLst (aCons (eVar 11) (aCons (eVar 12) (aCons (eVar 13) aNil)))))))
noncomputable def v2_11 : MS := (sAsg (gN 6) (eOp gAdd (eOp gAdd (eOp gAdd (eVar 6) (eC (.str (Str.ofString "), ")))) (eOp gMulS (eC (.str (Str.ofString "w"))) (eOp gAdd (eC (.int 1)) (eCall 2 m_law_pull (aCons (eVar 1) (aCons (eC (.int 6)) aNil)))))) (eC (.str (Str.ofString ")))")))))
noncomputable def v2_12 : MS := (sAsg (gT 2 (gsCons (gN 8) (gsCons (gN 9) gsNil))) (eWhy [(Str.ofString "BadTerm"), (Str.ofString "BadRows")] (Str.ofString "word") (eCall 1 m_read_term (aCons (eVar 6) aNil))))
noncomputable def v2_13 : MS := (sIf (mOr (mNot (mTest (eCall 2 (m_law_same 18) (aCons (eVar 8) (aCons (eCall 1 m_law_read_due (aCons (eVar 6) aNil)) aNil))))) (mTest (eOp gNe (eVar 9) (eOp gIx (eLst (aCons (eC (.str (Str.ofString ""))) (aCons (eC (.str (Str.ofString "term"))) aNil))) (eUn gInt1 (eOp gIsN (eVar 8) (eC .non))))))) (sRet (eC (.bl false))) sNext)
noncomputable def v2_14 : MS := (sAsg (gN 15) (eOp gAdd (eOp gAdd (eC (.str (Str.ofString "abcdef("))) (eOp gMulS (eC (.str (Str.ofString "ab(abcdef, abcdef, abcdef), "))) (eC (.int 2)))) (eC (.str (Str.ofString "ab(abcdef, abcdef, abcdef))")))))
noncomputable def v2_15 : MS := (sAsg (gN 16) (eOp gAdd (eOp gAdd (eOp gAdd (eOp gMulS (eC (.str (Str.ofString "q"))) (eOp gAdd (eC (.int 1)) (eCall 2 m_law_pull (aCons (eVar 1) (aCons (eC (.int 6)) aNil))))) (eC (.str (Str.ofString "(")))) (eOp gMulS (eC (.str (Str.ofString "r"))) (eOp gAdd (eC (.int 1)) (eCall 2 m_law_pull (aCons (eVar 1) (aCons (eC (.int 6)) aNil)))))) (eC (.str (Str.ofString "))")))))
noncomputable def v2_16 : MS := (sAsg (gN 17) (eOp gAdd (eOp gAdd (eOp gAdd (eOp gAdd (eOp gAdd (eC (.str (Str.ofString "x = f("))) (eVar 15)) (eC (.str (Str.ofString ", ")))) (eVar 15)) (eC (.str (Str.ofString ", ")))) (eVar 16)))
noncomputable def v2_17 : MS := (sAsg (gT 2 (gsCons (gN 8) (gsCons (gN 9) gsNil))) (eWhy [(Str.ofString "BadTerm"), (Str.ofString "BadRows")] (Str.ofString "word") (eCall 1 m_read_rows (aCons (eVar 17) aNil))))
noncomputable def v2_18 : MS := (sIf (mTest (eOp gNe (eVar 9) (eOp gIx (eLst (aCons (eC (.str (Str.ofString ""))) (aCons (eC (.str (Str.ofString "rows"))) aNil))) (eUn gInt1 (eOp gGt (eUn gLen (eVar 17)) (eC (.int 200))))))) (sRet (eC (.bl false))) sNext)
noncomputable def v2_3 : MS := sFor (iR1 (aCons (eOp L3.gSub (eVar 4) (eC (.int 2))) aNil)) (gN 7) v2_3_0
noncomputable def vA : MS := sSeq v2_0 (sSeq v2_1 (sSeq v2_2 (sSeq v2_3 (sSeq v2_4 v2_5))))
noncomputable def vB : MS := sSeq v2_6 (sSeq v2_7 (sSeq v2_8 (sSeq v2_9 (sSeq v2_10 (sSeq v2_11 (sSeq v2_12 v2_13))))))
noncomputable def vC : MS := sSeq v2_14 (sSeq v2_15 (sSeq v2_16 (sSeq v2_17 v2_18)))
theorem seq_assoc (a b c : MS) : sSeq (sSeq a b) c = sSeq a (sSeq b c) := by
  funext ρ S
  unfold sSeq
  cases a ρ S <;> rfl
noncomputable def vT : MS := sSeq vA (sSeq vB vC)
theorem law_form : ms_law = sSeq (sAsg (gN 1) (eCall 1 m_law_bag (aCons (eVar 0) aNil))) (sSeq (sAsg (gN 2) (eCall 2 m_law_words (aCons (eVar 1) (aCons (eC (.int 2)) aNil)))) (sSeq (sFor (iR1 (aCons (eC (.int 3)) aNil)) (gN 3) vT) (sRet (eC (.bl true))))) := by
  unfold vT vA vB vC
  simp only [seq_assoc]
  rfl
def ln (ns : List Int) (ws : List (List Nat)) (q3 q4 q5 q6 q7 q8 q9 q10 q11 q12 q13 q14 q15 q16 q17 : Option SV) : Rho := [some (.fz (.scr ns)), some (.fz (.ref 1)), some (.fz (.lst (ws.map encW))), q3, q4, q5, q6, q7, q8, q9, q10, q11, q12, q13, q14, q15, q16, q17]
def txtO (l : List Nat) : Option SV := some (.fz (.str (T l)))
def intO (i : Int) : Option SV := some (.fz (.int i))
theorem L1 : Str.ofString "?" = T [63] ∧ Str.ofString "()" = T [40, 41] ∧ Str.ofString "(" = T [40] ∧ Str.ofString ")" = T [41] ∧ Str.ofString "f" = T [102] ∧ Str.ofString "gg" = T [103, 103] := by
  refine ⟨?_, ?_, ?_, ?_, ?_, ?_⟩ <;> decide +kernel
theorem mayEq {x : Str} (h : PyData.strOk x = true) : pyEq (.str x) (.str x) = some true := by rw [q_str h h]; simp
section
variable {ns : List Int} {ws : List (List Nat)} {q3 q4 q5 q6 q7 q8 q9 q10 q11 q12 q13 q14 q15 q16 q17 : Option SV} {S : AS}
theorem two_words (hw : ws.length = 2) (hok : ∀ w ∈ ws, WordOk w) : ∃ w0 w1, ws = [w0, w1] ∧ WordOk w0 ∧ WordOk w1 := by
  match ws, hw with
  | [a, b], _ => exact ⟨a, b, rfl, hok a (by simp), hok b (by simp)⟩
theorem vA_spec (hb : BagS S) (hw : ws.length = 2) (hok : ∀ w ∈ ws, WordOk w) : ∃ q4' q5' q6' q7' q8' q9' S', vA (ln ns ws q3 q4 q5 q6 q7 q8 q9 q10 q11 q12 q13 q14 q15 q16 q17) S = .nx (ln ns ws q3 q4' q5' q6' q7' q8' q9' q10 q11 q12 q13 q14 q15 q16 q17) S' ∧ BagS S' := by
  obtain ⟨w0, w1, rfl, k0, k1⟩ := two_words hw hok
  obtain ⟨r, S1, e1, hb1, r0, r1⟩ := pull_spec hb (lot := 7) (by decide) (by decide)
  obtain ⟨n, hn⟩ : ∃ n : Nat, r = n := ⟨r.toNat, by omega⟩
  subst hn
  have l0 := k0.2.2
  have l1 := k1.2.2
  have lz : ∀ k : Nat, k ≤ 1000 → k ≤ sizeLine := fun k h => szl _ (by omega)
  obtain ⟨p1, p2, p3, p4, p5, p6⟩ := L1
  -- the end
  have hend : ∃ (e : Tm) (S2 : AS), Good 1 e ∧ dep e = 1 ∧ (shw e).length ≤ 8 ∧ m_law_of [.ref 1, .lst [.str (T ([63] ++ w0)), .str (T w1), .str (T (w0 ++ [40, 41]))]] S1 = .ok (.fz (.str (T (shw e)))) S2 ∧ BagS S2 := by
    obtain ⟨d, S2, hd, e2, hb2⟩ := of_lst hb1 (l := [.str (T ([63] ++ w0)), .str (T w1), .str (T (w0 ++ [40, 41]))]) (by simp) (by simp)
    simp at hd
    rcases hd with rfl | rfl | rfl
    · exact ⟨.free w0, S2, k0, by rw [dep], by rw [shw]; simp; omega, by rw [e2, shw], hb2⟩
    · exact ⟨.name w1, S2, k1, by rw [dep], by rw [shw]; omega, by rw [e2, shw], hb2⟩
    · exact ⟨.sign w0 [], S2, ⟨k0, by simp, fun _ h => nomatch h⟩, by simp [dep], by rw [shw]; simp [List.intercalate]; omega, by rw [e2, shw]; simp [List.intercalate], hb2⟩
  obtain ⟨e, S2, ge, de, le, e2, hb2⟩ := hend
  have hwf : WordOk [102] := okW_iff.mp (by decide)
  have hwg : WordOk [103, 103] := okW_iff.mp (by decide)
  obtain ⟨ρ3, S3, e3, ⟨vs, q7', rfl, hv1, hv2, hv3⟩, hb3⟩ := loopL_idx (mg := gN 7) (mb := v2_3_0) (fun j ρ S => (∃ vs q7', ρ = (ln ns [w0, w1] q3 (intO (5 + n)) (txtO (shw e)) (txtO (shw (wrp vs e))) q7' q8 q9 q10 q11 q12 q13 q14 q15 q16 q17) ∧ vs.length = j + 1 ∧ (∀ w ∈ vs, WordOk w) ∧ (shw (wrp vs e)).length ≤ 16 + 8 * j) ∧ BagS S) (rngD 0 (3 + n)) 0 (ln ns [w0, w1] q3 (intO (5 + n)) (txtO (shw e)) (txtO (shw (wrp [w0] e))) q7 q8 q9 q10 q11 q12 q13 q14 q15 q16 q17) S2 (by
    rintro k d hd ρ S ⟨⟨vs, q7', rfl, h1, h2, h3⟩, hS⟩
    obtain ⟨hk, rfl⟩ := rngD_get hd
    obtain ⟨x, S', hx, ex, hS'⟩ := of_lst hS (l := [.str (T [102]), .str (T [103, 103])]) (by decide) (by decide)
    have hx2 : ∃ w, x = .str (T w) ∧ WordOk w ∧ w.length ≤ 2 := by
      simp at hx
      rcases hx with rfl | rfl
      · exact ⟨_, rfl, hwf, by decide⟩
      · exact ⟨_, rfl, hwg, by decide⟩
    obtain ⟨w, rfl, hww, hwl⟩ := hx2
    have e5 : shw (wrp (w :: vs) e) = w ++ [40] ++ shw (wrp vs e) ++ [41] := by rw [shw_wrp]; simp
    refine ⟨_, (ln ns [w0, w1] q3 (intO (5 + n)) (txtO (shw e)) (txtO (shw (wrp (w :: vs) e))) (intO (0 + k)) q8 q9 q10 q11 q12 q13 q14 q15 q16 q17), S', rfl, ?_, ⟨w :: vs, _, rfl, by simp [h1], fun y hy => ?_, ?_⟩, hS'⟩
    · rw [e5]
      generalize hyy : shw (wrp vs e) = yy at h3
      have a1 : (T w).length + (T [40]).length ≤ sizeLine := lz _ (by rw [T_len, T_len]; simp; omega)
      have a2 : (T (w ++ [40])).length + (T yy).length ≤ sizeLine := lz _ (by rw [T_len, T_len]; simp; omega)
      have a3 : (T (w ++ [40] ++ yy)).length + (T [41]).length ≤ sizeLine := lz _ (by rw [T_len, T_len]; simp; omega)
      have a4 : 2 ≤ sizeLine := by decide
      simp [v2_3_0, ln, txtO, intO, runF, rho0, sSeq, sSet, sIf, mTest, mAnd, mOr, mNot, eOp, eUn, eVar, eC, sRet, sRetN, sNext, sBreak, sCont, sAug, sDrop, sFreeze, frzS, sAsg, gT, gsCons, gsNil, gN, aNil, aCons, eCall, eTup, eLst, eLstR, eIf, eAndV, eOrV, eNotV, sPutR, sPutV, sAppV, sAppR, sRaise, gI, gIC, gLt, gLe, gGt, gGe, L3.gSub, gFdiv, gMod, gPow, guardR, bind_ok, bind_ex, bind_bad, toS_ok, toS_ex, toS_bad, putS_fz, putS_own, retS_fz, retS_own, retS_bor, zD_fz, zD_own, d_fz, d_own, d_bor, List.map_cons, List.map_nil, List.cons_append, List.nil_append, List.append_nil, List.length_cons, List.length_nil, List.replicate, List.getElem?_cons_zero, List.getElem?_cons_succ, List.set_cons_zero, List.set_cons_succ, oNo, oSm, eSl, mYes, p3, p4, p5, p6, ex, gAdd, a1, a2, a3, a4, T_app]
      simp [T_app] at a3
      simp [a3]
    · rcases List.mem_cons.mp hy with z | z
      · rw [z]; exact hww
      · exact h2 y z
    · rw [e5]; simp; omega) ⟨⟨[w0], q7, rfl, rfl, fun w hw => by rw [List.mem_singleton.mp hw]; exact k0, by rw [shw_wrp, wrp]; simp; omega⟩, hb2⟩
  rw [rngD_len] at hv1 hv3
  have hsh : (shw (wrp vs e)).length ≤ 200 := by omega
  have gv := good_wrp hv2 ge
  have hlv : vs.length = n + 4 := by omega
  have hwhy : ∃ q8' q9', sSeq v2_4 v2_5 (ln ns [w0, w1] q3 (intO (5 + n)) (txtO (shw e)) (txtO (shw (wrp vs e))) q7' q8 q9 q10 q11 q12 q13 q14 q15 q16 q17) S3 = .nx (ln ns [w0, w1] q3 (intO (5 + n)) (txtO (shw e)) (txtO (shw (wrp vs e))) q7' q8' q9' q10 q11 q12 q13 q14 q15 q16 q17) S3 := by
    have a4 : 2 ≤ sizeLine := by decide
    have m1 := mayEq (x := Str.ofString "") (by decide +kernel)
    have m2 := mayEq (x := Str.ofString "term") (by decide +kernel)
    by_cases hd : n ≤ 3
    · have g8 : Good 8 (wrp vs e) := gv.le (by omega)
      have rd := read_ok (S := S3) g8 hsh
      have dp := deep_spec (S := S3) 10 (wrp vs e) (g8.le (by decide))
      rw [dep_wrp de] at dp
      have hdd : ((vs.length : Int) + 1) = 5 + n := by omega
      rw [hdd] at dp
      have sm := same_spec (S := S3) 18 (.int (5 + n)) (.inr (.inr (.inl ⟨_, rfl⟩)))
      have c1 : ¬ (8 : Int) < 5 + n := by omega
      have c2 : (5 + n : Int) < 9 := by omega
      refine ⟨some (.fz (enc (wrp vs e))), some (.fz (.str (Str.ofString ""))), ?_⟩
      refine go (ρ' := (ln ns [w0, w1] q3 (intO (5 + n)) (txtO (shw e)) (txtO (shw (wrp vs e))) q7' (some (.fz (enc (wrp vs e)))) (some (.fz (.str (Str.ofString "")))) q10 q11 q12 q13 q14 q15 q16 q17)) (S' := S3) (by simp [v2_4, ln, txtO, runF, rho0, sSeq, sSet, sIf, mTest, mAnd, mOr, mNot, eOp, eUn, eVar, eC, sRet, sRetN, sNext, sBreak, sCont, sAug, sDrop, sFreeze, frzS, sAsg, gT, gsCons, gsNil, gN, aNil, aCons, eCall, eTup, eLst, eLstR, eIf, eAndV, eOrV, eNotV, sPutR, sPutV, sAppV, sAppR, sRaise, gI, gIC, gLt, gLe, gGt, gGe, L3.gSub, gFdiv, gMod, gPow, guardR, bind_ok, bind_ex, bind_bad, toS_ok, toS_ex, toS_bad, putS_fz, putS_own, retS_fz, retS_own, retS_bor, zD_fz, zD_own, d_fz, d_own, d_bor, List.map_cons, List.map_nil, List.cons_append, List.nil_append, List.append_nil, List.length_cons, List.length_nil, List.replicate, List.getElem?_cons_zero, List.getElem?_cons_succ, List.set_cons_zero, List.set_cons_succ, oNo, oSm, eSl, mYes, eWhy, rd]) ?_
      generalize enc (wrp vs e) = ee at dp
      simp [v2_5, ln, txtO, intO, runF, rho0, sSeq, sSet, sIf, mTest, mAnd, mOr, mNot, eOp, eUn, eVar, eC, sRet, sRetN, sNext, sBreak, sCont, sAug, sDrop, sFreeze, frzS, sAsg, gT, gsCons, gsNil, gN, aNil, aCons, eCall, eTup, eLst, eLstR, eIf, eAndV, eOrV, eNotV, sPutR, sPutV, sAppV, sAppR, sRaise, gI, gIC, gLt, gLe, gGt, gGe, L3.gSub, gFdiv, gMod, gPow, guardR, bind_ok, bind_ex, bind_bad, toS_ok, toS_ex, toS_bad, putS_fz, putS_own, retS_fz, retS_own, retS_bor, zD_fz, zD_own, d_fz, d_own, d_bor, List.map_cons, List.map_nil, List.cons_append, List.nil_append, List.append_nil, List.length_cons, List.length_nil, List.replicate, List.getElem?_cons_zero, List.getElem?_cons_succ, List.set_cons_zero, List.set_cons_succ, oNo, oSm, eSl, mYes, a4, c1, c2, gInt1, gIx, atI0, gNe, m1, dp, sm]
    · have rg := (read_gen (S := S3) (l := shw (wrp vs e)) (shw_asc gv) (by omega)).1
      rw [read_deep hv2 ge (by omega)] at rg
      have c1 : (8 : Int) < 5 + n := by omega
      have c2 : ¬ (5 + n : Int) < 9 := by omega
      refine ⟨some (.fz .non), some (.fz (.str (Str.ofString "term"))), ?_⟩
      refine go (ρ' := (ln ns [w0, w1] q3 (intO (5 + n)) (txtO (shw e)) (txtO (shw (wrp vs e))) q7' (some (.fz .non)) (some (.fz (.str (Str.ofString "term")))) q10 q11 q12 q13 q14 q15 q16 q17)) (S' := S3) (by simp [v2_4, ln, txtO, runF, rho0, sSeq, sSet, sIf, mTest, mAnd, mOr, mNot, eOp, eUn, eVar, eC, sRet, sRetN, sNext, sBreak, sCont, sAug, sDrop, sFreeze, frzS, sAsg, gT, gsCons, gsNil, gN, aNil, aCons, eCall, eTup, eLst, eLstR, eIf, eAndV, eOrV, eNotV, sPutR, sPutV, sAppV, sAppR, sRaise, gI, gIC, gLt, gLe, gGt, gGe, L3.gSub, gFdiv, gMod, gPow, guardR, bind_ok, bind_ex, bind_bad, toS_ok, toS_ex, toS_bad, putS_fz, putS_own, retS_fz, retS_own, retS_bor, zD_fz, zD_own, d_fz, d_own, d_bor, List.map_cons, List.map_nil, List.cons_append, List.nil_append, List.append_nil, List.length_cons, List.length_nil, List.replicate, List.getElem?_cons_zero, List.getElem?_cons_succ, List.set_cons_zero, List.set_cons_succ, oNo, oSm, eSl, mYes, eWhy, rg, BadT]) ?_
      simp [v2_5, ln, txtO, intO, runF, rho0, sSeq, sSet, sIf, mTest, mAnd, mOr, mNot, eOp, eUn, eVar, eC, sRet, sRetN, sNext, sBreak, sCont, sAug, sDrop, sFreeze, frzS, sAsg, gT, gsCons, gsNil, gN, aNil, aCons, eCall, eTup, eLst, eLstR, eIf, eAndV, eOrV, eNotV, sPutR, sPutV, sAppV, sAppR, sRaise, gI, gIC, gLt, gLe, gGt, gGe, L3.gSub, gFdiv, gMod, gPow, guardR, bind_ok, bind_ex, bind_bad, toS_ok, toS_ex, toS_bad, putS_fz, putS_own, retS_fz, retS_own, retS_bor, zD_fz, zD_own, d_fz, d_own, d_bor, List.map_cons, List.map_nil, List.cons_append, List.nil_append, List.append_nil, List.length_cons, List.length_nil, List.replicate, List.getElem?_cons_zero, List.getElem?_cons_succ, List.set_cons_zero, List.set_cons_succ, oNo, oSm, eSl, mYes, a4, c1, c2, gInt1, gIx, atI1, gNe, m2]
  obtain ⟨q8', q9', e6⟩ := hwhy
  refine ⟨intO (5 + n), txtO (shw e), txtO (shw (wrp vs e)), q7', q8', q9', S3, ?_, hb3⟩
  unfold vA
  refine go (ρ' := (ln ns [w0, w1] q3 (intO (5 + n)) q5 q6 q7 q8 q9 q10 q11 q12 q13 q14 q15 q16 q17)) (S' := S1) (by simp [v2_0, ln, intO, runF, rho0, sSeq, sSet, sIf, mTest, mAnd, mOr, mNot, eOp, eUn, eVar, eC, sRet, sRetN, sNext, sBreak, sCont, sAug, sDrop, sFreeze, frzS, sAsg, gT, gsCons, gsNil, gN, aNil, aCons, eCall, eTup, eLst, eLstR, eIf, eAndV, eOrV, eNotV, sPutR, sPutV, sAppV, sAppR, sRaise, gI, gIC, gLt, gLe, gGt, gGe, L3.gSub, gFdiv, gMod, gPow, guardR, bind_ok, bind_ex, bind_bad, toS_ok, toS_ex, toS_bad, putS_fz, putS_own, retS_fz, retS_own, retS_bor, zD_fz, zD_own, d_fz, d_own, d_bor, List.map_cons, List.map_nil, List.cons_append, List.nil_append, List.append_nil, List.length_cons, List.length_nil, List.replicate, List.getElem?_cons_zero, List.getElem?_cons_succ, List.set_cons_zero, List.set_cons_succ, oNo, oSm, eSl, mYes, e1, gAdd]) ?_
  refine go (ρ' := (ln ns [w0, w1] q3 (intO (5 + n)) (txtO (shw e)) q6 q7 q8 q9 q10 q11 q12 q13 q14 q15 q16 q17)) (S' := S2) ?_ ?_
  · have a1 : (T [63]).length + (T w0).length ≤ sizeLine := lz _ (by rw [T_len, T_len]; simp; omega)
    have a2 : (T w0).length + (T [40, 41]).length ≤ sizeLine := lz _ (by rw [T_len, T_len]; simp; omega)
    have a3 : 3 ≤ sizeLine := by decide
    simp at e2
    simp [v2_1, ln, intO, txtO, runF, rho0, sSeq, sSet, sIf, mTest, mAnd, mOr, mNot, eOp, eUn, eVar, eC, sRet, sRetN, sNext, sBreak, sCont, sAug, sDrop, sFreeze, frzS, sAsg, gT, gsCons, gsNil, gN, aNil, aCons, eCall, eTup, eLst, eLstR, eIf, eAndV, eOrV, eNotV, sPutR, sPutV, sAppV, sAppR, sRaise, gI, gIC, gLt, gLe, gGt, gGe, L3.gSub, gFdiv, gMod, gPow, guardR, bind_ok, bind_ex, bind_bad, toS_ok, toS_ex, toS_bad, putS_fz, putS_own, retS_fz, retS_own, retS_bor, zD_fz, zD_own, d_fz, d_own, d_bor, List.map_cons, List.map_nil, List.cons_append, List.nil_append, List.append_nil, List.length_cons, List.length_nil, List.replicate, List.getElem?_cons_zero, List.getElem?_cons_succ, List.set_cons_zero, List.set_cons_succ, oNo, oSm, eSl, mYes, p1, p2, gIx, atI0, atI1, encW, gAdd, a1, a2, a3, T_app, e2]
  refine go (ρ' := (ln ns [w0, w1] q3 (intO (5 + n)) (txtO (shw e)) (txtO (shw (wrp [w0] e))) q7 q8 q9 q10 q11 q12 q13 q14 q15 q16 q17)) (S' := S2) ?_ ?_
  · have e5 : shw (wrp [w0] e) = w0 ++ [40] ++ shw e ++ [41] := by rw [shw_wrp, wrp]; simp
    rw [e5]
    generalize hyy : shw e = yy at le
    have a1 : (T w0).length + (T [40]).length ≤ sizeLine := lz _ (by rw [T_len, T_len]; simp; omega)
    have a2 : (T (w0 ++ [40])).length + (T yy).length ≤ sizeLine := lz _ (by rw [T_len, T_len]; simp; omega)
    have a3 : (T (w0 ++ [40] ++ yy)).length + (T [41]).length ≤ sizeLine := lz _ (by rw [T_len, T_len]; simp; omega)
    simp [T_app] at a3
    simp [v2_2, ln, intO, txtO, runF, rho0, sSeq, sSet, sIf, mTest, mAnd, mOr, mNot, eOp, eUn, eVar, eC, sRet, sRetN, sNext, sBreak, sCont, sAug, sDrop, sFreeze, frzS, sAsg, gT, gsCons, gsNil, gN, aNil, aCons, eCall, eTup, eLst, eLstR, eIf, eAndV, eOrV, eNotV, sPutR, sPutV, sAppV, sAppR, sRaise, gI, gIC, gLt, gLe, gGt, gGe, L3.gSub, gFdiv, gMod, gPow, guardR, bind_ok, bind_ex, bind_bad, toS_ok, toS_ex, toS_bad, putS_fz, putS_own, retS_fz, retS_own, retS_bor, zD_fz, zD_own, d_fz, d_own, d_bor, List.map_cons, List.map_nil, List.cons_append, List.nil_append, List.append_nil, List.length_cons, List.length_nil, List.replicate, List.getElem?_cons_zero, List.getElem?_cons_succ, List.set_cons_zero, List.set_cons_succ, oNo, oSm, eSl, mYes, p3, p4, gIx, atI0, encW, gAdd, a1, a2, a3, T_app]
  refine go (sFor_ok (S1 := S2) ?_ e3) e6
  have : (5 + (n : Int)) - 2 = ((3 + n : Nat) : Int) := by omega
  refine iR1_nat (n := 3 + n) ?_ (by omega)
  simp [ln, intO, runF, rho0, sSeq, sSet, sIf, mTest, mAnd, mOr, mNot, eOp, eUn, eVar, eC, sRet, sRetN, sNext, sBreak, sCont, sAug, sDrop, sFreeze, frzS, sAsg, gT, gsCons, gsNil, gN, aNil, aCons, eCall, eTup, eLst, eLstR, eIf, eAndV, eOrV, eNotV, sPutR, sPutV, sAppV, sAppR, sRaise, gI, gIC, gLt, gLe, gGt, gGe, L3.gSub, gFdiv, gMod, gPow, guardR, bind_ok, bind_ex, bind_bad, toS_ok, toS_ex, toS_bad, putS_fz, putS_own, retS_fz, retS_own, retS_bor, zD_fz, zD_own, d_fz, d_own, d_bor, List.map_cons, List.map_nil, List.cons_append, List.nil_append, List.append_nil, List.length_cons, List.length_nil, List.replicate, List.getElem?_cons_zero, List.getElem?_cons_succ, List.set_cons_zero, List.set_cons_succ, oNo, oSm, eSl, mYes]
  omega
end
end MK

namespace MK
open PySem PySem.Spec PyProof.Rows L2 L3 PX

theorem addT {S : AS} {a b : List Nat} (h : a.length + b.length ≤ 16777216) : gAdd (.str (T a)) (.str (T b)) S = .ok (.fz (.str (T (a ++ b)))) S := by
  unfold gAdd
  dsimp only
  rw [guardR_t (by rw [T_len, T_len]; exact szl _ h), T_app]
def inL : List Nat := wA ++ [40] ++ wA ++ [44, 32] ++ wA ++ [44, 32] ++ wA ++ [41]
def xyL : List Nat := [120, 121, 122, 120, 121, 122]
theorem L2s : Str.ofString "abcdef(abcdef, abcdef, abcdef)" = T inL ∧ Str.ofString "xyzxyz" = T xyL ∧ Str.ofString ", " = T [44, 32] ∧ Str.ofString "g(" = T [103, 40] ∧ Str.ofString ", h(" = T [44, 32, 104, 40] ∧ Str.ofString ", k(" = T [44, 32, 107, 40] ∧ Str.ofString ", m(" = T [44, 32, 109, 40] ∧ Str.ofString "), " = T [41, 44, 32] ∧ Str.ofString "w" = T [119] ∧ Str.ofString ")))" = T [41, 41, 41] := by
  refine ⟨?_, ?_, ?_, ?_, ?_, ?_, ?_, ?_, ?_, ?_⟩ <;> decide +kernel
section
variable {ns : List Int} {ws : List (List Nat)} {q3 q4 q5 q6 q7 q8 q9 q10 q11 q12 q13 q14 q15 q16 q17 : Option SV} {S : AS}
theorem mulT {k : Nat} {n : Int} (h : 0 ≤ n ∧ n ≤ 100) : gMulS (.str (T [k])) (.int n) S = .ok (.fz (.str (T (List.replicate n.toNat k)))) S := by
  unfold gMulS
  dsimp only
  have e := T_mul [k] n.toNat
  rw [show ((n.toNat : Nat) : Int) = n by omega] at e
  rw [guardR_t ⟨by rw [T_len]; simp, h.1, by omega⟩, e]
  simp
theorem asc_app {a b : List Nat} (ha : Asc a) (hb : Asc b) : Asc (a ++ b) := fun k hk => by
  rcases List.mem_append.mp hk with z | z
  · exact ha k z
  · exact hb k z
theorem vB_spec (hb : BagS S) : ∃ q6' q7' q8' q9' q10' q11' q12' q13' q14' S', vB (ln ns ws q3 q4 q5 q6 q7 q8 q9 q10 q11 q12 q13 q14 q15 q16 q17) S = .nx (ln ns ws q3 q4 q5 q6' q7' q8' q9' q10' q11' q12' q13' q14' q15 q16 q17) S' ∧ BagS S' := by
  obtain ⟨p1, p2, p3, p4, p5, p6, p7, p8, p9, p10⟩ := L2s
  obtain ⟨out, S1, e1, l1, h1, hb1⟩ := compL_inv (mg := gN 7) (me := eSl (eC (.str (Str.ofString "xyzxyz"))) oNo (oSm (eOp gAdd (eC (.int 5)) (eCall 2 m_law_pull (aCons (eVar 1) (aCons (eC (.int 2)) aNil)))))) BagS (fun x => ∃ l : List Nat, (Asc l ∧ l.length ≤ 6) ∧ x = .str (T l)) (ln ns ws q3 q4 q5 q6 none q8 q9 (txtO inL) q11 q12 q13 q14 q15 q16 q17) (rngD 0 3) S [] (fun d hd S hS => by
    obtain ⟨r, S', e, hS', r0, r1⟩ := pull_spec hS (lot := 2) (by decide) (by decide)
    obtain ⟨n, hn⟩ : ∃ n : Nat, 5 + r = n := ⟨(5 + r).toNat, by omega⟩
    have lx : (T xyL).length ≤ sizeLine := by rw [T_len]; decide
    refine ⟨_, .fz (.str (T (xyL.take n))), S', _, rfl, ?_, rfl, ⟨_, ⟨?_, ?_⟩, rfl⟩, hS'⟩
    · have := cut_to xyL n
      simp [ln, runF, rho0, sSeq, sSet, sIf, mTest, mAnd, mOr, mNot, eOp, eUn, eVar, eC, sRet, sRetN, sNext, sBreak, sCont, sAug, sDrop, sFreeze, frzS, sAsg, gT, gsCons, gsNil, gN, aNil, aCons, eCall, eTup, eLst, eLstR, eIf, eAndV, eOrV, eNotV, sPutR, sPutV, sAppV, sAppR, sRaise, gI, gIC, gLt, gLe, gGt, gGe, L3.gSub, gFdiv, gMod, gPow, guardR, bind_ok, bind_ex, bind_bad, toS_ok, toS_ex, toS_bad, putS_fz, putS_own, retS_fz, retS_own, retS_bor, zD_fz, zD_own, d_fz, d_own, d_bor, List.map_cons, List.map_nil, List.cons_append, List.nil_append, List.append_nil, List.length_cons, List.length_nil, List.replicate, List.getElem?_cons_zero, List.getElem?_cons_succ, List.set_cons_zero, List.set_cons_succ, oNo, oSm, eSl, mYes, p2, e, gAdd, hn, gSl, lx, this]
    · exact (show Asc xyL by decide).take n
    · have : xyL.length = 6 := rfl
      simp [this]
      omega) (szl _ (by rw [rngD_len]; simp)) hb
  obtain ⟨xs, rfl, hxs⟩ := map_of h1
  rw [List.length_map, rngD_len] at l1
  obtain ⟨x1, x2, x3, rfl⟩ : ∃ a b c, xs = [a, b, c] := by
    match xs, l1 with
    | [a, b, c], _ => exact ⟨a, b, c, rfl⟩
  obtain ⟨a1, b1⟩ := hxs x1 (by simp)
  obtain ⟨a2, b2⟩ := hxs x2 (by simp)
  obtain ⟨a3, b3⟩ := hxs x3 (by simp)
  clear hxs h1
  obtain ⟨r, S2, e2, hb2, r0, r1⟩ := pull_spec hb1 (lot := 6) (by decide) (by decide)
  have inl : inL.length = 30 := rfl
  have ina : Asc inL := by decide
  -- the texts
  obtain ⟨pr, hpr⟩ : ∃ l, inL ++ [44, 32] ++ inL = l := ⟨_, rfl⟩
  have prl : pr.length = 62 := by rw [← hpr]; simp [inl]
  have pra : Asc pr := by rw [← hpr]; exact asc_app (asc_app ina (by decide)) ina
  obtain ⟨t1, ht1⟩ : ∃ l, [103, 40] ++ pr ++ [44, 32, 104, 40] ++ pr ++ [44, 32, 107, 40] ++ inL = l := ⟨_, rfl⟩
  have t1l : t1.length = 164 := by rw [← ht1]; simp [inl, prl]
  have t1a : Asc t1 := by rw [← ht1]; exact asc_app (asc_app (asc_app (asc_app (asc_app (by decide) pra) (by decide)) pra) (by decide)) ina
  obtain ⟨jn, hjn⟩ : ∃ l, List.intercalate [44, 32] [x1, x2, x3] = l := ⟨_, rfl⟩
  have jnl : jn.length ≤ 22 := by rw [← hjn]; simp [List.intercalate]; omega
  have jna : Asc jn := fun k hk => by
    rw [← hjn] at hk
    rcases inter_mem hk with z | ⟨l, hl, z⟩
    · simp at z; omega
    · simp at hl
      rcases hl with rfl | rfl | rfl
      · exact a1 k z
      · exact a2 k z
      · exact a3 k z
  obtain ⟨t2, ht2⟩ : ∃ l, t1 ++ [44, 32, 109, 40] ++ jn = l := ⟨_, rfl⟩
  have t2l : t2.length ≤ 190 := by rw [← ht2]; simp; omega
  have t2a : Asc t2 := by rw [← ht2]; exact asc_app (asc_app t1a (by decide)) jna
  obtain ⟨wn, hwn⟩ : ∃ l, List.replicate (1 + r).toNat 119 = l := ⟨_, rfl⟩
  have wnl : wn.length ≤ 6 := by rw [← hwn]; simp; omega
  have wna : Asc wn := fun k hk => by rw [← hwn] at hk; rw [List.eq_of_mem_replicate hk]; decide
  obtain ⟨t3, ht3⟩ : ∃ l, t2 ++ [41, 44, 32] ++ wn ++ [41, 41, 41] = l := ⟨_, rfl⟩
  have t3l : t3.length ≤ 210 := by rw [← ht3]; simp; omega
  have t3a : Asc t3 := by rw [← ht3]; exact asc_app (asc_app (asc_app t2a (by decide)) wna) (by decide)
  have jt := join_txt (S := S1) (ls := [x1, x2, x3]) (by simp; omega)
  rw [hjn] at jt
  have mt := mulT (S := S2) (k := 119) (n := 1 + r) (by omega)
  rw [hwn] at mt
  have k2 : 2 ≤ sizeLine := by decide
  have k3 : 3 ≤ sizeLine := by decide
  -- reading
  have rd := read_due_spec (S := S2) t3a (by omega)
  obtain ⟨rg, hg⟩ := read_gen (S := S2) t3a (by omega)
  have m1 := mayEq (x := Str.ofString "") (by decide +kernel)
  have m2 := mayEq (x := Str.ofString "term") (by decide +kernel)
  have hend : ∃ q8' q9', sSeq v2_12 v2_13 (ln ns ws q3 q4 q5 (txtO t3) q7 q8 q9 (txtO inL) (txtO x1) (txtO x2) (txtO x3) (txtO pr) q15 q16 q17) S2 = .nx (ln ns ws q3 q4 q5 (txtO t3) q7 q8' q9' (txtO inL) (txtO x1) (txtO x2) (txtO x3) (txtO pr) q15 q16 q17) S2 := by
    cases e : rdT t3 with
    | some t =>
      rw [e] at rd rg
      have g := hg t e
      have sm := same_spec (S := S2) 18 (enc t) ((enc_pln g).le (by decide))
      have hnt : L3.isNon (enc t) = false := by cases t <;> simp [enc, L3.isNon]
      refine ⟨some (.fz (enc t)), some (.fz (.str (Str.ofString ""))), ?_⟩
      refine go (ρ' := (ln ns ws q3 q4 q5 (txtO t3) q7 (some (.fz (enc t))) (some (.fz (.str (Str.ofString "")))) (txtO inL) (txtO x1) (txtO x2) (txtO x3) (txtO pr) q15 q16 q17)) (S' := S2) (by simp [v2_12, ln, txtO, runF, rho0, sSeq, sSet, sIf, mTest, mAnd, mOr, mNot, eOp, eUn, eVar, eC, sRet, sRetN, sNext, sBreak, sCont, sAug, sDrop, sFreeze, frzS, sAsg, gT, gsCons, gsNil, gN, aNil, aCons, eCall, eTup, eLst, eLstR, eIf, eAndV, eOrV, eNotV, sPutR, sPutV, sAppV, sAppR, sRaise, gI, gIC, gLt, gLe, gGt, gGe, L3.gSub, gFdiv, gMod, gPow, guardR, bind_ok, bind_ex, bind_bad, toS_ok, toS_ex, toS_bad, putS_fz, putS_own, retS_fz, retS_own, retS_bor, zD_fz, zD_own, d_fz, d_own, d_bor, List.map_cons, List.map_nil, List.cons_append, List.nil_append, List.append_nil, List.length_cons, List.length_nil, List.replicate, List.getElem?_cons_zero, List.getElem?_cons_succ, List.set_cons_zero, List.set_cons_succ, oNo, oSm, eSl, mYes, eWhy, rg]) ?_
      simp [v2_13, ln, txtO, runF, rho0, sSeq, sSet, sIf, mTest, mAnd, mOr, mNot, eOp, eUn, eVar, eC, sRet, sRetN, sNext, sBreak, sCont, sAug, sDrop, sFreeze, frzS, sAsg, gT, gsCons, gsNil, gN, aNil, aCons, eCall, eTup, eLst, eLstR, eIf, eAndV, eOrV, eNotV, sPutR, sPutV, sAppV, sAppR, sRaise, gI, gIC, gLt, gLe, gGt, gGe, L3.gSub, gFdiv, gMod, gPow, guardR, bind_ok, bind_ex, bind_bad, toS_ok, toS_ex, toS_bad, putS_fz, putS_own, retS_fz, retS_own, retS_bor, zD_fz, zD_own, d_fz, d_own, d_bor, List.map_cons, List.map_nil, List.cons_append, List.nil_append, List.append_nil, List.length_cons, List.length_nil, List.replicate, List.getElem?_cons_zero, List.getElem?_cons_succ, List.set_cons_zero, List.set_cons_succ, oNo, oSm, eSl, mYes, rd, dueD, sm, k2, gIsN, hnt, gInt1, gIx, atI0, gNe, m1]
    | none =>
      rw [e] at rd rg
      have sm := same_spec (S := S2) 18 .non (.inl rfl)
      refine ⟨some (.fz .non), some (.fz (.str (Str.ofString "term"))), ?_⟩
      refine go (ρ' := (ln ns ws q3 q4 q5 (txtO t3) q7 (some (.fz .non)) (some (.fz (.str (Str.ofString "term")))) (txtO inL) (txtO x1) (txtO x2) (txtO x3) (txtO pr) q15 q16 q17)) (S' := S2) (by simp [v2_12, ln, txtO, runF, rho0, sSeq, sSet, sIf, mTest, mAnd, mOr, mNot, eOp, eUn, eVar, eC, sRet, sRetN, sNext, sBreak, sCont, sAug, sDrop, sFreeze, frzS, sAsg, gT, gsCons, gsNil, gN, aNil, aCons, eCall, eTup, eLst, eLstR, eIf, eAndV, eOrV, eNotV, sPutR, sPutV, sAppV, sAppR, sRaise, gI, gIC, gLt, gLe, gGt, gGe, L3.gSub, gFdiv, gMod, gPow, guardR, bind_ok, bind_ex, bind_bad, toS_ok, toS_ex, toS_bad, putS_fz, putS_own, retS_fz, retS_own, retS_bor, zD_fz, zD_own, d_fz, d_own, d_bor, List.map_cons, List.map_nil, List.cons_append, List.nil_append, List.append_nil, List.length_cons, List.length_nil, List.replicate, List.getElem?_cons_zero, List.getElem?_cons_succ, List.set_cons_zero, List.set_cons_succ, oNo, oSm, eSl, mYes, eWhy, rg, BadT]) ?_
      simp [v2_13, ln, txtO, runF, rho0, sSeq, sSet, sIf, mTest, mAnd, mOr, mNot, eOp, eUn, eVar, eC, sRet, sRetN, sNext, sBreak, sCont, sAug, sDrop, sFreeze, frzS, sAsg, gT, gsCons, gsNil, gN, aNil, aCons, eCall, eTup, eLst, eLstR, eIf, eAndV, eOrV, eNotV, sPutR, sPutV, sAppV, sAppR, sRaise, gI, gIC, gLt, gLe, gGt, gGe, L3.gSub, gFdiv, gMod, gPow, guardR, bind_ok, bind_ex, bind_bad, toS_ok, toS_ex, toS_bad, putS_fz, putS_own, retS_fz, retS_own, retS_bor, zD_fz, zD_own, d_fz, d_own, d_bor, List.map_cons, List.map_nil, List.cons_append, List.nil_append, List.append_nil, List.length_cons, List.length_nil, List.replicate, List.getElem?_cons_zero, List.getElem?_cons_succ, List.set_cons_zero, List.set_cons_succ, oNo, oSm, eSl, mYes, rd, dueD, sm, k2, gIsN, L3.isNon, gInt1, gIx, atI1, gNe, m2]
  obtain ⟨q8', q9', eend⟩ := hend
  refine ⟨txtO t3, q7, q8', q9', txtO inL, txtO x1, txtO x2, txtO x3, txtO pr, S2, ?_, hb2⟩
  unfold vB
  refine go (ρ' := (ln ns ws q3 q4 q5 q6 q7 q8 q9 (txtO inL) q11 q12 q13 q14 q15 q16 q17)) (S' := S) (by simp [v2_6, ln, txtO, runF, rho0, sSeq, sSet, sIf, mTest, mAnd, mOr, mNot, eOp, eUn, eVar, eC, sRet, sRetN, sNext, sBreak, sCont, sAug, sDrop, sFreeze, frzS, sAsg, gT, gsCons, gsNil, gN, aNil, aCons, eCall, eTup, eLst, eLstR, eIf, eAndV, eOrV, eNotV, sPutR, sPutV, sAppV, sAppR, sRaise, gI, gIC, gLt, gLe, gGt, gGe, L3.gSub, gFdiv, gMod, gPow, guardR, bind_ok, bind_ex, bind_bad, toS_ok, toS_ex, toS_bad, putS_fz, putS_own, retS_fz, retS_own, retS_bor, zD_fz, zD_own, d_fz, d_own, d_bor, List.map_cons, List.map_nil, List.cons_append, List.nil_append, List.append_nil, List.length_cons, List.length_nil, List.replicate, List.getElem?_cons_zero, List.getElem?_cons_succ, List.set_cons_zero, List.set_cons_succ, oNo, oSm, eSl, mYes, p1]) ?_
  refine go (ρ' := (ln ns ws q3 q4 q5 q6 q7 q8 q9 (txtO inL) (txtO x1) (txtO x2) (txtO x3) q14 q15 q16 q17)) (S' := S1) ?_ ?_
  · have ei := iR1_nat (m := aCons (eC (.int 3)) aNil) (ρ := (ln ns ws q3 q4 q5 q6 q7 q8 q9 (txtO inL) q11 q12 q13 q14 q15 q16 q17)) (S := S) (S1 := S) (n := 3) (by simp [ln, runF, rho0, sSeq, sSet, sIf, mTest, mAnd, mOr, mNot, eOp, eUn, eVar, eC, sRet, sRetN, sNext, sBreak, sCont, sAug, sDrop, sFreeze, frzS, sAsg, gT, gsCons, gsNil, gN, aNil, aCons, eCall, eTup, eLst, eLstR, eIf, eAndV, eOrV, eNotV, sPutR, sPutV, sAppV, sAppR, sRaise, gI, gIC, gLt, gLe, gGt, gGe, L3.gSub, gFdiv, gMod, gPow, guardR, bind_ok, bind_ex, bind_bad, toS_ok, toS_ex, toS_bad, putS_fz, putS_own, retS_fz, retS_own, retS_bor, zD_fz, zD_own, d_fz, d_own, d_bor, List.map_cons, List.map_nil, List.cons_append, List.nil_append, List.append_nil, List.length_cons, List.length_nil, List.replicate, List.getElem?_cons_zero, List.getElem?_cons_succ, List.set_cons_zero, List.set_cons_succ, oNo, oSm, eSl, mYes]) (by decide)
    have ew : wipeR (ln ns ws q3 q4 q5 q6 q7 q8 q9 (txtO inL) q11 q12 q13 q14 q15 q16 q17) [7] = (ln ns ws q3 q4 q5 q6 none q8 q9 (txtO inL) q11 q12 q13 q14 q15 q16 q17) := rfl
    unfold v2_7
    unfold sAsg
    rw [eLc_ok ei (by rw [ew]; exact e1), toS_ok]
    simp only [zD_own, toS_ok]
    simp [gL, gsCons, gsNil, gN, ln, txtO, rngD_len]
  refine go (ρ' := (ln ns ws q3 q4 q5 q6 q7 q8 q9 (txtO inL) (txtO x1) (txtO x2) (txtO x3) (txtO pr) q15 q16 q17)) (S' := S1) ?_ ?_
  · have c1 := addT (S := S1) (a := inL) (b := [44, 32]) (by simp [inl])
    have c2 := addT (S := S1) (a := inL ++ [44, 32]) (b := inL) (by simp [inl])
    rw [hpr] at c2
    generalize inL = ii at *
    simp [v2_8, ln, txtO, runF, rho0, sSeq, sSet, sIf, mTest, mAnd, mOr, mNot, eOp, eUn, eVar, eC, sRet, sRetN, sNext, sBreak, sCont, sAug, sDrop, sFreeze, frzS, sAsg, gT, gsCons, gsNil, gN, aNil, aCons, eCall, eTup, eLst, eLstR, eIf, eAndV, eOrV, eNotV, sPutR, sPutV, sAppV, sAppR, sRaise, gI, gIC, gLt, gLe, gGt, gGe, L3.gSub, gFdiv, gMod, gPow, guardR, bind_ok, bind_ex, bind_bad, toS_ok, toS_ex, toS_bad, putS_fz, putS_own, retS_fz, retS_own, retS_bor, zD_fz, zD_own, d_fz, d_own, d_bor, List.map_cons, List.map_nil, List.cons_append, List.nil_append, List.append_nil, List.length_cons, List.length_nil, List.replicate, List.getElem?_cons_zero, List.getElem?_cons_succ, List.set_cons_zero, List.set_cons_succ, oNo, oSm, eSl, mYes, p3, c1, c2]
  refine go (ρ' := (ln ns ws q3 q4 q5 (txtO t1) q7 q8 q9 (txtO inL) (txtO x1) (txtO x2) (txtO x3) (txtO pr) q15 q16 q17)) (S' := S1) ?_ ?_
  · have c1 := addT (S := S1) (a := [103, 40]) (b := pr) (by simp [prl])
    have c2 := addT (S := S1) (a := [103, 40] ++ pr) (b := [44, 32, 104, 40]) (by simp [prl])
    have c3 := addT (S := S1) (a := [103, 40] ++ pr ++ [44, 32, 104, 40]) (b := pr) (by simp [prl])
    have c4 := addT (S := S1) (a := [103, 40] ++ pr ++ [44, 32, 104, 40] ++ pr) (b := [44, 32, 107, 40]) (by simp [prl])
    have c5 := addT (S := S1) (a := [103, 40] ++ pr ++ [44, 32, 104, 40] ++ pr ++ [44, 32, 107, 40]) (b := inL) (by simp [prl, inl])
    rw [ht1] at c5
    generalize ([103, 40] : List Nat) = g1 at p4 c1 c2 c3 c4 c5
    generalize ([44, 32, 104, 40] : List Nat) = g2 at p5 c2 c3 c4 c5
    generalize ([44, 32, 107, 40] : List Nat) = g3 at p6 c4 c5
    simp only [v2_9, ln, txtO, runF, rho0, sSeq, sSet, sIf, mTest, mAnd, mOr, mNot, eOp, eUn, eVar, eC, sRet, sRetN, sNext, sBreak, sCont, sAug, sDrop, sFreeze, frzS, sAsg, gT, gsCons, gsNil, gN, aNil, aCons, eCall, eTup, eLst, eLstR, eIf, eAndV, eOrV, eNotV, sPutR, sPutV, sAppV, sAppR, sRaise, gI, gIC, gLt, gLe, gGt, gGe, L3.gSub, gFdiv, gMod, gPow, guardR, bind_ok, bind_ex, bind_bad, toS_ok, toS_ex, toS_bad, putS_fz, putS_own, retS_fz, retS_own, retS_bor, zD_fz, zD_own, d_fz, d_own, d_bor, List.map_cons, List.map_nil, List.cons_append, List.nil_append, List.append_nil, List.length_cons, List.length_nil, List.replicate, List.getElem?_cons_zero, List.getElem?_cons_succ, List.set_cons_zero, List.set_cons_succ, oNo, oSm, eSl, mYes, p4, p5, p6, c1, c2, c3, c4, c5]
  refine go (ρ' := (ln ns ws q3 q4 q5 (txtO t2) q7 q8 q9 (txtO inL) (txtO x1) (txtO x2) (txtO x3) (txtO pr) q15 q16 q17)) (S' := S1) ?_ ?_
  · have c1 := addT (S := S1) (a := t1) (b := [44, 32, 109, 40]) (by simp [t1l])
    have c2 := addT (S := S1) (a := t1 ++ [44, 32, 109, 40]) (b := jn) (by simp [t1l]; omega)
    rw [ht2] at c2
    simp at jt
    simp [v2_10, ln, txtO, runF, rho0, sSeq, sSet, sIf, mTest, mAnd, mOr, mNot, eOp, eUn, eVar, eC, sRet, sRetN, sNext, sBreak, sCont, sAug, sDrop, sFreeze, frzS, sAsg, gT, gsCons, gsNil, gN, aNil, aCons, eCall, eTup, eLst, eLstR, eIf, eAndV, eOrV, eNotV, sPutR, sPutV, sAppV, sAppR, sRaise, gI, gIC, gLt, gLe, gGt, gGe, L3.gSub, gFdiv, gMod, gPow, guardR, bind_ok, bind_ex, bind_bad, toS_ok, toS_ex, toS_bad, putS_fz, putS_own, retS_fz, retS_own, retS_bor, zD_fz, zD_own, d_fz, d_own, d_bor, List.map_cons, List.map_nil, List.cons_append, List.nil_append, List.append_nil, List.length_cons, List.length_nil, List.replicate, List.getElem?_cons_zero, List.getElem?_cons_succ, List.set_cons_zero, List.set_cons_succ, oNo, oSm, eSl, mYes, p7, c1, eM1, k3, jt, c2]
  refine go (ρ' := (ln ns ws q3 q4 q5 (txtO t3) q7 q8 q9 (txtO inL) (txtO x1) (txtO x2) (txtO x3) (txtO pr) q15 q16 q17)) (S' := S2) ?_ eend
  · have c1 := addT (S := S1) (a := t2) (b := [41, 44, 32]) (by simp; omega)
    have c2 := addT (S := S2) (a := t2 ++ [41, 44, 32]) (b := wn) (by simp; omega)
    have c3 := addT (S := S2) (a := t2 ++ [41, 44, 32] ++ wn) (b := [41, 41, 41]) (by simp; omega)
    rw [ht3] at c3
    generalize ([41, 44, 32] : List Nat) = g1 at p8 c1 c2 c3
    generalize ([41, 41, 41] : List Nat) = g2 at p10 c3
    have i1 : gAdd (.int 1) (.int r) S2 = .ok (.fz (.int (1 + r))) S2 := rfl
    simp only [v2_11, ln, txtO, if_true, runF, rho0, sSeq, sSet, sIf, mTest, mAnd, mOr, mNot, eOp, eUn, eVar, eC, sRet, sRetN, sNext, sBreak, sCont, sAug, sDrop, sFreeze, frzS, sAsg, gT, gsCons, gsNil, gN, aNil, aCons, eCall, eTup, eLst, eLstR, eIf, eAndV, eOrV, eNotV, sPutR, sPutV, sAppV, sAppR, sRaise, gI, gIC, gLt, gLe, gGt, gGe, L3.gSub, gFdiv, gMod, gPow, guardR, bind_ok, bind_ex, bind_bad, toS_ok, toS_ex, toS_bad, putS_fz, putS_own, retS_fz, retS_own, retS_bor, zD_fz, zD_own, d_fz, d_own, d_bor, List.map_cons, List.map_nil, List.cons_append, List.nil_append, List.append_nil, List.length_cons, List.length_nil, List.replicate, List.getElem?_cons_zero, List.getElem?_cons_succ, List.set_cons_zero, List.set_cons_succ, oNo, oSm, eSl, mYes, p8, p9, p10, c1, e2, i1, mt, c2, c3]
theorem L3s : Str.ofString "abcdef(" = T [97, 98, 99, 100, 101, 102, 40] ∧ Str.ofString "ab(abcdef, abcdef, abcdef), " = T [97, 98, 40, 97, 98, 99, 100, 101, 102, 44, 32, 97, 98, 99, 100, 101, 102, 44, 32, 97, 98, 99, 100, 101, 102, 41, 44, 32] ∧ Str.ofString "ab(abcdef, abcdef, abcdef))" = T [97, 98, 40, 97, 98, 99, 100, 101, 102, 44, 32, 97, 98, 99, 100, 101, 102, 44, 32, 97, 98, 99, 100, 101, 102, 41, 41] ∧ Str.ofString "q" = T [113] ∧ Str.ofString "r" = T [114] ∧ Str.ofString "(" = T [40] ∧ Str.ofString "))" = T [41, 41] ∧ Str.ofString "x = f(" = T [120, 32, 61, 32, 102, 40] ∧ Str.ofString ", " = T [44, 32] := by
  refine ⟨?_, ?_, ?_, ?_, ?_, ?_, ?_, ?_, ?_⟩ <;> decide +kernel
theorem vC_spec (hb : BagS S) : ∃ q8' q9' q15' q16' q17' S', vC (ln ns ws q3 q4 q5 q6 q7 q8 q9 q10 q11 q12 q13 q14 q15 q16 q17) S = .nx (ln ns ws q3 q4 q5 q6 q7 q8' q9' q10 q11 q12 q13 q14 q15' q16' q17') S' ∧ BagS S' := by
  obtain ⟨p1, p2, p3, p4, p5, p6, p7, p8, p9⟩ := L3s
  obtain ⟨r, S1, e1, hb1, r0, r1⟩ := pull_spec hb (lot := 6) (by decide) (by decide)
  obtain ⟨r', S2, e2, hb2, s0, s1⟩ := pull_spec hb1 (lot := 6) (by decide) (by decide)
  have mq := mulT (S := S1) (k := 113) (n := 1 + r) (by omega)
  have mr := mulT (S := S2) (k := 114) (n := 1 + r') (by omega)
  obtain ⟨a, ha⟩ : ∃ a, (1 + r).toNat = a := ⟨_, rfl⟩
  obtain ⟨b, hb'⟩ : ∃ a, (1 + r').toNat = a := ⟨_, rfl⟩
  rw [ha] at mq
  rw [hb'] at mr
  have ha2 : 1 ≤ a ∧ a ≤ 6 := by omega
  have hb3 : 1 ≤ b ∧ b ≤ 6 := by omega
  obtain ⟨qa, hqa⟩ : ∃ l, List.replicate a 113 = l := ⟨_, rfl⟩
  obtain ⟨rb, hrb⟩ : ∃ l, List.replicate b 114 = l := ⟨_, rfl⟩
  have qal : qa.length ≤ 6 := by rw [← hqa]; simp; omega
  have rbl : rb.length ≤ 6 := by rw [← hrb]; simp; omega
  rw [hqa] at mq
  rw [hrb] at mr
  have padl : padL.length = 90 := rfl
  obtain ⟨tl, htl⟩ : ∃ l, qa ++ [40] ++ rb ++ [41, 41] = l := ⟨_, rfl⟩
  have tll : tl.length ≤ 15 := by rw [← htl]; simp; omega
  have hrow : [120, 32, 61, 32, 102, 40] ++ padL ++ [44, 32] ++ padL ++ [44, 32] ++ tl = rowL3 a b := by rw [← htl, ← hqa, ← hrb]; rfl
  have rt := rows_told (S := S2) ha2 hb3
  obtain ⟨row, hrw⟩ : ∃ l, rowL3 a b = l := ⟨_, rfl⟩
  have rwl : row.length ≤ 300 := by rw [← hrw, ← hrow]; simp [padl]; omega
  rw [hrw] at rt hrow
  have k2 : 2 ≤ sizeLine := by decide
  have kr : (T row).length ≤ sizeLine := by rw [T_len]; exact szl _ (by omega)
  have m1 := mayEq (x := Str.ofString "") (by decide +kernel)
  have m2 := mayEq (x := Str.ofString "rows") (by decide +kernel)
  have nw : (Str.ofString "word" == Str.ofString "row") = false := by decide +kernel
  have hend : ∃ q8' q9', sSeq v2_17 v2_18 (ln ns ws q3 q4 q5 q6 q7 q8 q9 q10 q11 q12 q13 q14 (txtO padL) (txtO tl) (txtO row)) S2 = .nx (ln ns ws q3 q4 q5 q6 q7 q8' q9' q10 q11 q12 q13 q14 (txtO padL) (txtO tl) (txtO row)) S2 := by
    rcases rt with ⟨hl, d, e⟩ | ⟨hl, e⟩
    · have hl2 : ¬ (200 : Int) < row.length := by omega
      refine ⟨some (.fz (.lst d)), some (.fz (.str (Str.ofString ""))), ?_⟩
      refine go (ρ' := (ln ns ws q3 q4 q5 q6 q7 (some (.fz (.lst d))) (some (.fz (.str (Str.ofString "")))) q10 q11 q12 q13 q14 (txtO padL) (txtO tl) (txtO row))) (S' := S2) (by simp [v2_17, ln, txtO, runF, rho0, sSeq, sSet, sIf, mTest, mAnd, mOr, mNot, eOp, eUn, eVar, eC, sRet, sRetN, sNext, sBreak, sCont, sAug, sDrop, sFreeze, frzS, sAsg, gT, gsCons, gsNil, gN, aNil, aCons, eCall, eTup, eLst, eLstR, eIf, eAndV, eOrV, eNotV, sPutR, sPutV, sAppV, sAppR, sRaise, gI, gIC, gLt, gLe, gGt, gGe, L3.gSub, gFdiv, gMod, gPow, guardR, bind_ok, bind_ex, bind_bad, toS_ok, toS_ex, toS_bad, putS_fz, putS_own, retS_fz, retS_own, retS_bor, zD_fz, zD_own, d_fz, d_own, d_bor, List.map_cons, List.map_nil, List.cons_append, List.nil_append, List.append_nil, List.length_cons, List.length_nil, List.replicate, List.getElem?_cons_zero, List.getElem?_cons_succ, List.set_cons_zero, List.set_cons_succ, oNo, oSm, eSl, mYes, eWhy, e]) ?_
      simp [v2_18, ln, txtO, runF, rho0, sSeq, sSet, sIf, mTest, mAnd, mOr, mNot, eOp, eUn, eVar, eC, sRet, sRetN, sNext, sBreak, sCont, sAug, sDrop, sFreeze, frzS, sAsg, gT, gsCons, gsNil, gN, aNil, aCons, eCall, eTup, eLst, eLstR, eIf, eAndV, eOrV, eNotV, sPutR, sPutV, sAppV, sAppR, sRaise, gI, gIC, gLt, gLe, gGt, gGe, L3.gSub, gFdiv, gMod, gPow, guardR, bind_ok, bind_ex, bind_bad, toS_ok, toS_ex, toS_bad, putS_fz, putS_own, retS_fz, retS_own, retS_bor, zD_fz, zD_own, d_fz, d_own, d_bor, List.map_cons, List.map_nil, List.cons_append, List.nil_append, List.append_nil, List.length_cons, List.length_nil, List.replicate, List.getElem?_cons_zero, List.getElem?_cons_succ, List.set_cons_zero, List.set_cons_succ, oNo, oSm, eSl, mYes, gLen, T_len, kr, hl2, k2, gInt1, gIx, atI0, gNe, m1]
      simp [T_len] at kr
      simp [kr, hl2, gIx, atI0, m1]
    · have hl2 : (200 : Int) < row.length := by omega
      refine ⟨some (.fz .non), some (.fz (.str (Str.ofString "rows"))), ?_⟩
      refine go (ρ' := (ln ns ws q3 q4 q5 q6 q7 (some (.fz .non)) (some (.fz (.str (Str.ofString "rows")))) q10 q11 q12 q13 q14 (txtO padL) (txtO tl) (txtO row))) (S' := S2) (by simp [v2_17, ln, txtO, runF, rho0, sSeq, sSet, sIf, mTest, mAnd, mOr, mNot, eOp, eUn, eVar, eC, sRet, sRetN, sNext, sBreak, sCont, sAug, sDrop, sFreeze, frzS, sAsg, gT, gsCons, gsNil, gN, aNil, aCons, eCall, eTup, eLst, eLstR, eIf, eAndV, eOrV, eNotV, sPutR, sPutV, sAppV, sAppR, sRaise, gI, gIC, gLt, gLe, gGt, gGe, L3.gSub, gFdiv, gMod, gPow, guardR, bind_ok, bind_ex, bind_bad, toS_ok, toS_ex, toS_bad, putS_fz, putS_own, retS_fz, retS_own, retS_bor, zD_fz, zD_own, d_fz, d_own, d_bor, List.map_cons, List.map_nil, List.cons_append, List.nil_append, List.append_nil, List.length_cons, List.length_nil, List.replicate, List.getElem?_cons_zero, List.getElem?_cons_succ, List.set_cons_zero, List.set_cons_succ, oNo, oSm, eSl, mYes, eWhy, e, List.lookup, nw]) ?_
      simp [v2_18, ln, txtO, runF, rho0, sSeq, sSet, sIf, mTest, mAnd, mOr, mNot, eOp, eUn, eVar, eC, sRet, sRetN, sNext, sBreak, sCont, sAug, sDrop, sFreeze, frzS, sAsg, gT, gsCons, gsNil, gN, aNil, aCons, eCall, eTup, eLst, eLstR, eIf, eAndV, eOrV, eNotV, sPutR, sPutV, sAppV, sAppR, sRaise, gI, gIC, gLt, gLe, gGt, gGe, L3.gSub, gFdiv, gMod, gPow, guardR, bind_ok, bind_ex, bind_bad, toS_ok, toS_ex, toS_bad, putS_fz, putS_own, retS_fz, retS_own, retS_bor, zD_fz, zD_own, d_fz, d_own, d_bor, List.map_cons, List.map_nil, List.cons_append, List.nil_append, List.append_nil, List.length_cons, List.length_nil, List.replicate, List.getElem?_cons_zero, List.getElem?_cons_succ, List.set_cons_zero, List.set_cons_succ, oNo, oSm, eSl, mYes, gLen, T_len, kr, hl2, k2, gInt1, gIx, atI1, gNe, m2]
      simp [T_len] at kr
      simp [kr, hl2, gIx, atI1, m2]
  obtain ⟨q8', q9', eend⟩ := hend
  refine ⟨q8', q9', txtO padL, txtO tl, txtO row, S2, ?_, hb2⟩
  unfold vC
  refine go (ρ' := (ln ns ws q3 q4 q5 q6 q7 q8 q9 q10 q11 q12 q13 q14 (txtO padL) q16 q17)) (S' := S) ?_ ?_
  · have mm := T_mul [97, 98, 40, 97, 98, 99, 100, 101, 102, 44, 32, 97, 98, 99, 100, 101, 102, 44, 32, 97, 98, 99, 100, 101, 102, 41, 44, 32] 2
    have e2x : gMulS (.str (T [97, 98, 40, 97, 98, 99, 100, 101, 102, 44, 32, 97, 98, 99, 100, 101, 102, 44, 32, 97, 98, 99, 100, 101, 102, 41, 44, 32])) (.int 2) S = .ok (.fz (.str (T ([97, 98, 40, 97, 98, 99, 100, 101, 102, 44, 32, 97, 98, 99, 100, 101, 102, 44, 32, 97, 98, 99, 100, 101, 102, 41, 44, 32] ++ [97, 98, 40, 97, 98, 99, 100, 101, 102, 44, 32, 97, 98, 99, 100, 101, 102, 44, 32, 97, 98, 99, 100, 101, 102, 41, 44, 32])))) S := by
      unfold gMulS
      dsimp only
      rw [guardR_t ⟨by rw [T_len]; decide, by decide, by decide⟩, show (2 : Int) = ((2 : Nat) : Int) from rfl, mm]
      rfl
    have c1 := addT (S := S) (a := [97, 98, 99, 100, 101, 102, 40]) (b := [97, 98, 40, 97, 98, 99, 100, 101, 102, 44, 32, 97, 98, 99, 100, 101, 102, 44, 32, 97, 98, 99, 100, 101, 102, 41, 44, 32] ++ [97, 98, 40, 97, 98, 99, 100, 101, 102, 44, 32, 97, 98, 99, 100, 101, 102, 44, 32, 97, 98, 99, 100, 101, 102, 41, 44, 32]) (by decide)
    have c2 := addT (S := S) (a := [97, 98, 99, 100, 101, 102, 40] ++ ([97, 98, 40, 97, 98, 99, 100, 101, 102, 44, 32, 97, 98, 99, 100, 101, 102, 44, 32, 97, 98, 99, 100, 101, 102, 41, 44, 32] ++ [97, 98, 40, 97, 98, 99, 100, 101, 102, 44, 32, 97, 98, 99, 100, 101, 102, 44, 32, 97, 98, 99, 100, 101, 102, 41, 44, 32])) (b := [97, 98, 40, 97, 98, 99, 100, 101, 102, 44, 32, 97, 98, 99, 100, 101, 102, 44, 32, 97, 98, 99, 100, 101, 102, 41, 41]) (by decide)
    simp only [v2_14, ln, txtO, runF, rho0, sSeq, sSet, sIf, mTest, mAnd, mOr, mNot, eOp, eUn, eVar, eC, sRet, sRetN, sNext, sBreak, sCont, sAug, sDrop, sFreeze, frzS, sAsg, gT, gsCons, gsNil, gN, aNil, aCons, eCall, eTup, eLst, eLstR, eIf, eAndV, eOrV, eNotV, sPutR, sPutV, sAppV, sAppR, sRaise, gI, gIC, gLt, gLe, gGt, gGe, L3.gSub, gFdiv, gMod, gPow, guardR, bind_ok, bind_ex, bind_bad, toS_ok, toS_ex, toS_bad, putS_fz, putS_own, retS_fz, retS_own, retS_bor, zD_fz, zD_own, d_fz, d_own, d_bor, List.map_cons, List.map_nil, List.cons_append, List.nil_append, List.append_nil, List.length_cons, List.length_nil, List.replicate, List.getElem?_cons_zero, List.getElem?_cons_succ, List.set_cons_zero, List.set_cons_succ, oNo, oSm, eSl, mYes, p1, p2, p3, e2x, c1, c2]
    rfl
  refine go (ρ' := (ln ns ws q3 q4 q5 q6 q7 q8 q9 q10 q11 q12 q13 q14 (txtO padL) (txtO tl) q17)) (S' := S2) ?_ ?_
  · have c1 := addT (S := S1) (a := qa) (b := [40]) (by simp; omega)
    have c2 := addT (S := S2) (a := qa ++ [40]) (b := rb) (by simp; omega)
    have c3 := addT (S := S2) (a := qa ++ [40] ++ rb) (b := [41, 41]) (by simp; omega)
    rw [htl] at c3
    generalize ([40] : List Nat) = g1 at p6 c1 c2 c3
    generalize ([41, 41] : List Nat) = g2 at p7 c3
    have i1 : gAdd (.int 1) (.int r) S1 = .ok (.fz (.int (1 + r))) S1 := rfl
    have i2 : gAdd (.int 1) (.int r') S2 = .ok (.fz (.int (1 + r'))) S2 := rfl
    simp only [v2_15, ln, txtO, if_true, runF, rho0, sSeq, sSet, sIf, mTest, mAnd, mOr, mNot, eOp, eUn, eVar, eC, sRet, sRetN, sNext, sBreak, sCont, sAug, sDrop, sFreeze, frzS, sAsg, gT, gsCons, gsNil, gN, aNil, aCons, eCall, eTup, eLst, eLstR, eIf, eAndV, eOrV, eNotV, sPutR, sPutV, sAppV, sAppR, sRaise, gI, gIC, gLt, gLe, gGt, gGe, L3.gSub, gFdiv, gMod, gPow, guardR, bind_ok, bind_ex, bind_bad, toS_ok, toS_ex, toS_bad, putS_fz, putS_own, retS_fz, retS_own, retS_bor, zD_fz, zD_own, d_fz, d_own, d_bor, List.map_cons, List.map_nil, List.cons_append, List.nil_append, List.append_nil, List.length_cons, List.length_nil, List.replicate, List.getElem?_cons_zero, List.getElem?_cons_succ, List.set_cons_zero, List.set_cons_succ, oNo, oSm, eSl, mYes, p4, p5, p6, p7, e1, i1, mq, c1, e2, i2, mr, c2, c3]
  refine go (ρ' := (ln ns ws q3 q4 q5 q6 q7 q8 q9 q10 q11 q12 q13 q14 (txtO padL) (txtO tl) (txtO row))) (S' := S2) ?_ eend
  · have c1 := addT (S := S2) (a := [120, 32, 61, 32, 102, 40]) (b := padL) (by simp [padl])
    have c2 := addT (S := S2) (a := [120, 32, 61, 32, 102, 40] ++ padL) (b := [44, 32]) (by simp [padl])
    have c3 := addT (S := S2) (a := [120, 32, 61, 32, 102, 40] ++ padL ++ [44, 32]) (b := padL) (by simp [padl])
    have c4 := addT (S := S2) (a := [120, 32, 61, 32, 102, 40] ++ padL ++ [44, 32] ++ padL) (b := [44, 32]) (by simp [padl])
    have c5 := addT (S := S2) (a := [120, 32, 61, 32, 102, 40] ++ padL ++ [44, 32] ++ padL ++ [44, 32]) (b := tl) (by simp [padl]; omega)
    rw [hrow] at c5
    generalize padL = pp at *
    generalize ([120, 32, 61, 32, 102, 40] : List Nat) = g1 at p8 c1 c2 c3 c4 c5
    generalize ([44, 32] : List Nat) = g2 at p9 c2 c3 c4 c5
    simp only [v2_16, ln, txtO, runF, rho0, sSeq, sSet, sIf, mTest, mAnd, mOr, mNot, eOp, eUn, eVar, eC, sRet, sRetN, sNext, sBreak, sCont, sAug, sDrop, sFreeze, frzS, sAsg, gT, gsCons, gsNil, gN, aNil, aCons, eCall, eTup, eLst, eLstR, eIf, eAndV, eOrV, eNotV, sPutR, sPutV, sAppV, sAppR, sRaise, gI, gIC, gLt, gLe, gGt, gGe, L3.gSub, gFdiv, gMod, gPow, guardR, bind_ok, bind_ex, bind_bad, toS_ok, toS_ex, toS_bad, putS_fz, putS_own, retS_fz, retS_own, retS_bor, zD_fz, zD_own, d_fz, d_own, d_bor, List.map_cons, List.map_nil, List.cons_append, List.nil_append, List.append_nil, List.length_cons, List.length_nil, List.replicate, List.getElem?_cons_zero, List.getElem?_cons_succ, List.set_cons_zero, List.set_cons_succ, oNo, oSm, eSl, mYes, p8, p9, c1, c2, c3, c4, c5]
end
theorem law_true {ns : List Int} (h : ns.length ≤ 63) : ∃ S', m_law [.scr ns] [] = .ok (.fz (.bl true)) S' := by
  obtain ⟨S1, e1, hb1⟩ := bag_spec h
  obtain ⟨ws, S2, e2, hw, hw2, hb2, _⟩ := words_spec 2 (by decide) hb1
  have e2 : m_law_words [.ref 1, .int 2] S1 = .ok (.own (.lst (ws.map encW))) S2 := e2
  obtain ⟨ρ3, S3, e3, hb3, q3, q4, q5, q6, q7, q8, q9, q10, q11, q12, q13, q14, q15, q16, q17, rfl⟩ := loopL_inv (mg := gN 3) (mb := vT) (fun ρ S => BagS S ∧ ∃ q3 q4 q5 q6 q7 q8 q9 q10 q11 q12 q13 q14 q15 q16 q17, ρ = (ln ns ws q3 q4 q5 q6 q7 q8 q9 q10 q11 q12 q13 q14 q15 q16 q17)) (rngD 0 3) (ln ns ws none none none none none none none none none none none none none none none) S2 (by
    rintro x hx ρ S ⟨hS, q3, q4, q5, q6, q7, q8, q9, q10, q11, q12, q13, q14, q15, q16, q17, rfl⟩
    obtain ⟨_, _, _, _, _, _, S1, e1, hS1⟩ := vA_spec (ns := ns) (q3 := some (.fz x)) (q4 := q4) (q5 := q5) (q6 := q6) (q7 := q7) (q8 := q8) (q9 := q9) (q10 := q10) (q11 := q11) (q12 := q12) (q13 := q13) (q14 := q14) (q15 := q15) (q16 := q16) (q17 := q17) hS hw hw2
    obtain ⟨_, _, _, _, _, _, _, _, _, S2, e2, hS2⟩ := vB_spec (ns := ns) (ws := ws) (q3 := some (.fz x)) (q15 := q15) (q16 := q16) (q17 := q17) hS1
    obtain ⟨_, _, _, _, _, S3, e3, hS3⟩ := vC_spec (ns := ns) (ws := ws) (q3 := some (.fz x)) hS2
    exact ⟨_, _, S3, rfl, go e1 (go e2 e3), hS3, _, _, _, _, _, _, _, _, _, _, _, _, _, _, _, rfl⟩) ⟨hb2, _, _, _, _, _, _, _, _, _, _, _, _, _, _, _, rfl⟩
  refine ⟨S3, run_rt ?_⟩
  rw [show rho0 18 [.scr ns] = [some (.fz (.scr ns)), none, none, none, none, none, none, none, none, none, none, none, none, none, none, none, none, none] from rfl, law_form]
  refine go (ρ' := [some (.fz (.scr ns)), some (.fz (.ref 1)), none, none, none, none, none, none, none, none, none, none, none, none, none, none, none, none]) (S' := S1) (by simp [runF, rho0, sSeq, sSet, sIf, mTest, mAnd, mOr, mNot, eOp, eUn, eVar, eC, sRet, sRetN, sNext, sBreak, sCont, sAug, sDrop, sFreeze, frzS, sAsg, gT, gsCons, gsNil, gN, aNil, aCons, eCall, eTup, eLst, eLstR, eIf, eAndV, eOrV, eNotV, sPutR, sPutV, sAppV, sAppR, sRaise, gI, gIC, gLt, gLe, gGt, gGe, L3.gSub, gFdiv, gMod, gPow, guardR, bind_ok, bind_ex, bind_bad, toS_ok, toS_ex, toS_bad, putS_fz, putS_own, retS_fz, retS_own, retS_bor, zD_fz, zD_own, d_fz, d_own, d_bor, List.map_cons, List.map_nil, List.cons_append, List.nil_append, List.append_nil, List.length_cons, List.length_nil, List.replicate, List.getElem?_cons_zero, List.getElem?_cons_succ, List.set_cons_zero, List.set_cons_succ, oNo, oSm, eSl, mYes, e1]) ?_
  refine go (ρ' := ln ns ws none none none none none none none none none none none none none none none) (S' := S2) (by simp [runF, rho0, sSeq, sSet, sIf, mTest, mAnd, mOr, mNot, eOp, eUn, eVar, eC, sRet, sRetN, sNext, sBreak, sCont, sAug, sDrop, sFreeze, frzS, sAsg, gT, gsCons, gsNil, gN, aNil, aCons, eCall, eTup, eLst, eLstR, eIf, eAndV, eOrV, eNotV, sPutR, sPutV, sAppV, sAppR, sRaise, gI, gIC, gLt, gLe, gGt, gGe, L3.gSub, gFdiv, gMod, gPow, guardR, bind_ok, bind_ex, bind_bad, toS_ok, toS_ex, toS_bad, putS_fz, putS_own, retS_fz, retS_own, retS_bor, zD_fz, zD_own, d_fz, d_own, d_bor, List.map_cons, List.map_nil, List.cons_append, List.nil_append, List.append_nil, List.length_cons, List.length_nil, List.replicate, List.getElem?_cons_zero, List.getElem?_cons_succ, List.set_cons_zero, List.set_cons_succ, oNo, oSm, eSl, mYes, e2, ln]) ?_
  refine go (sFor_ok (S1 := S2) (iR1_nat (n := 3) (by simp [runF, rho0, sSeq, sSet, sIf, mTest, mAnd, mOr, mNot, eOp, eUn, eVar, eC, sRet, sRetN, sNext, sBreak, sCont, sAug, sDrop, sFreeze, frzS, sAsg, gT, gsCons, gsNil, gN, aNil, aCons, eCall, eTup, eLst, eLstR, eIf, eAndV, eOrV, eNotV, sPutR, sPutV, sAppV, sAppR, sRaise, gI, gIC, gLt, gLe, gGt, gGe, L3.gSub, gFdiv, gMod, gPow, guardR, bind_ok, bind_ex, bind_bad, toS_ok, toS_ex, toS_bad, putS_fz, putS_own, retS_fz, retS_own, retS_bor, zD_fz, zD_own, d_fz, d_own, d_bor, List.map_cons, List.map_nil, List.cons_append, List.nil_append, List.append_nil, List.length_cons, List.length_nil, List.replicate, List.getElem?_cons_zero, List.getElem?_cons_succ, List.set_cons_zero, List.set_cons_succ, oNo, oSm, eSl, mYes]) (by decide)) e3) ?_
  simp [runF, rho0, sSeq, sSet, sIf, mTest, mAnd, mOr, mNot, eOp, eUn, eVar, eC, sRet, sRetN, sNext, sBreak, sCont, sAug, sDrop, sFreeze, frzS, sAsg, gT, gsCons, gsNil, gN, aNil, aCons, eCall, eTup, eLst, eLstR, eIf, eAndV, eOrV, eNotV, sPutR, sPutV, sAppV, sAppR, sRaise, gI, gIC, gLt, gLe, gGt, gGe, L3.gSub, gFdiv, gMod, gPow, guardR, bind_ok, bind_ex, bind_bad, toS_ok, toS_ex, toS_bad, putS_fz, putS_own, retS_fz, retS_own, retS_bor, zD_fz, zD_own, d_fz, d_own, d_bor, List.map_cons, List.map_nil, List.cons_append, List.nil_append, List.append_nil, List.length_cons, List.length_nil, List.replicate, List.getElem?_cons_zero, List.getElem?_cons_succ, List.set_cons_zero, List.set_cons_succ, oNo, oSm, eSl, mYes, ln]
end MK

namespace PXE
open PySem PySem.Spec PyProof.Rows L2 L3 PX
theorem sci_BadTerm : FnScope [(Str.ofString "self")] [(Str.ofString "self")] (defScope s_BadTerm) := ⟨rfl, rfl, rfl, by decide +kernel, rfl, by decide +kernel, by decide +kernel⟩
theorem sci_BadRows : FnScope [(Str.ofString "self"), (Str.ofString "row")] [(Str.ofString "self"), (Str.ofString "row")] (defScope s_BadRows) := ⟨rfl, rfl, rfl, by decide +kernel, rfl, by decide +kernel, by decide +kernel⟩
theorem all_mk {P : Program} {w : World} {K : PySem.W.Frag} {h : Heap} {mg : Str → Option Value} {fa : Addr} (X : K.In h) (G : h.Ns mainGlobals mg) (hfa : mg (Str.ofString "law") = some (.ref fa))
    {f_is_word : Addr} (a_is_word : PySem.W.nsIn K mainGlobals (Str.ofString "is_word") = some (some (.ref f_is_word)))
    {od_is_word an_is_word : Option Addr} {sl_is_word : Array (Option Value)} {oc_is_word kV_is_word dc_is_word pm_is_word ct_is_word : Value} {cd_is_word : Value} (l_is_word : K.lookup f_is_word = some ⟨oc_is_word, od_is_word, .func (PySem.W.fnOf (Str.ofString "is_word") (Str.ofString "is_word") (defArgs s_is_word) (defBody s_is_word) (defScope s_is_word) .none kV_is_word dc_is_word pm_is_word an_is_word cd_is_word ct_is_word), sl_is_word⟩)
     (c_is_word : PySem.W.codeIn K cd_is_word (Str.ofString "is_word") = true)
     (k_is_word : PySem.W.keepIn K (.ref f_is_word) = true)
    {f_deep_of : Addr} (a_deep_of : PySem.W.nsIn K mainGlobals (Str.ofString "deep_of") = some (some (.ref f_deep_of)))
    {od_deep_of an_deep_of : Option Addr} {sl_deep_of : Array (Option Value)} {oc_deep_of kV_deep_of dc_deep_of pm_deep_of ct_deep_of : Value} {cd_deep_of : Value} (l_deep_of : K.lookup f_deep_of = some ⟨oc_deep_of, od_deep_of, .func (PySem.W.fnOf (Str.ofString "deep_of") (Str.ofString "deep_of") (defArgs s_deep_of) (defBody s_deep_of) (defScope s_deep_of) .none kV_deep_of dc_deep_of pm_deep_of an_deep_of cd_deep_of ct_deep_of), sl_deep_of⟩)
     (c_deep_of : PySem.W.codeIn K cd_deep_of (Str.ofString "deep_of") = true)
     (k_deep_of : PySem.W.keepIn K (.ref f_deep_of) = true)
    {f_word_end : Addr} (a_word_end : PySem.W.nsIn K mainGlobals (Str.ofString "word_end") = some (some (.ref f_word_end)))
    {od_word_end an_word_end : Option Addr} {sl_word_end : Array (Option Value)} {oc_word_end kV_word_end dc_word_end pm_word_end ct_word_end : Value} {cd_word_end : Value} (l_word_end : K.lookup f_word_end = some ⟨oc_word_end, od_word_end, .func (PySem.W.fnOf (Str.ofString "word_end") (Str.ofString "word_end") (defArgs s_word_end) (defBody s_word_end) (defScope s_word_end) .none kV_word_end dc_word_end pm_word_end an_word_end cd_word_end ct_word_end), sl_word_end⟩)
     (c_word_end : PySem.W.codeIn K cd_word_end (Str.ofString "word_end") = true)
     (k_word_end : PySem.W.keepIn K (.ref f_word_end) = true)
    {f_parsed : Addr} (a_parsed : PySem.W.nsIn K mainGlobals (Str.ofString "parsed") = some (some (.ref f_parsed)))
    {od_parsed an_parsed : Option Addr} {sl_parsed : Array (Option Value)} {oc_parsed kV_parsed dc_parsed pm_parsed ct_parsed : Value} {cd_parsed : Value} (l_parsed : K.lookup f_parsed = some ⟨oc_parsed, od_parsed, .func (PySem.W.fnOf (Str.ofString "parsed") (Str.ofString "parsed") (defArgs s_parsed) (defBody s_parsed) (defScope s_parsed) .none kV_parsed dc_parsed pm_parsed an_parsed cd_parsed ct_parsed), sl_parsed⟩)
     (c_parsed : PySem.W.codeIn K cd_parsed (Str.ofString "parsed") = true)
     (k_parsed : PySem.W.keepIn K (.ref f_parsed) = true)
    {f_branches_of : Addr} (a_branches_of : PySem.W.nsIn K mainGlobals (Str.ofString "branches_of") = some (some (.ref f_branches_of)))
    {od_branches_of an_branches_of : Option Addr} {sl_branches_of : Array (Option Value)} {oc_branches_of kV_branches_of dc_branches_of pm_branches_of ct_branches_of : Value} {cd_branches_of : Value} (l_branches_of : K.lookup f_branches_of = some ⟨oc_branches_of, od_branches_of, .func (PySem.W.fnOf (Str.ofString "branches_of") (Str.ofString "branches_of") (defArgs s_branches_of) (defBody s_branches_of) (defScope s_branches_of) .none kV_branches_of dc_branches_of pm_branches_of an_branches_of cd_branches_of ct_branches_of), sl_branches_of⟩)
     (c_branches_of : PySem.W.codeIn K cd_branches_of (Str.ofString "branches_of") = true)
     (k_branches_of : PySem.W.keepIn K (.ref f_branches_of) = true)
    {f_read_term : Addr} (a_read_term : PySem.W.nsIn K mainGlobals (Str.ofString "read_term") = some (some (.ref f_read_term)))
    {od_read_term an_read_term : Option Addr} {sl_read_term : Array (Option Value)} {oc_read_term kV_read_term dc_read_term pm_read_term ct_read_term : Value} {cd_read_term : Value} (l_read_term : K.lookup f_read_term = some ⟨oc_read_term, od_read_term, .func (PySem.W.fnOf (Str.ofString "read_term") (Str.ofString "read_term") (defArgs s_read_term) (defBody s_read_term) (defScope s_read_term) .none kV_read_term dc_read_term pm_read_term an_read_term cd_read_term ct_read_term), sl_read_term⟩)
     (c_read_term : PySem.W.codeIn K cd_read_term (Str.ofString "read_term") = true)
     (k_read_term : PySem.W.keepIn K (.ref f_read_term) = true)
    {f_read_row : Addr} (a_read_row : PySem.W.nsIn K mainGlobals (Str.ofString "read_row") = some (some (.ref f_read_row)))
    {od_read_row an_read_row : Option Addr} {sl_read_row : Array (Option Value)} {oc_read_row kV_read_row dc_read_row pm_read_row ct_read_row : Value} {cd_read_row : Value} (l_read_row : K.lookup f_read_row = some ⟨oc_read_row, od_read_row, .func (PySem.W.fnOf (Str.ofString "read_row") (Str.ofString "read_row") (defArgs s_read_row) (defBody s_read_row) (defScope s_read_row) .none kV_read_row dc_read_row pm_read_row an_read_row cd_read_row ct_read_row), sl_read_row⟩)
     (c_read_row : PySem.W.codeIn K cd_read_row (Str.ofString "read_row") = true)
     (k_read_row : PySem.W.keepIn K (.ref f_read_row) = true)
    {f_read_rows : Addr} (a_read_rows : PySem.W.nsIn K mainGlobals (Str.ofString "read_rows") = some (some (.ref f_read_rows)))
    {od_read_rows an_read_rows : Option Addr} {sl_read_rows : Array (Option Value)} {oc_read_rows kV_read_rows dc_read_rows pm_read_rows ct_read_rows : Value} {cd_read_rows : Value} (l_read_rows : K.lookup f_read_rows = some ⟨oc_read_rows, od_read_rows, .func (PySem.W.fnOf (Str.ofString "read_rows") (Str.ofString "read_rows") (defArgs s_read_rows) (defBody s_read_rows) (defScope s_read_rows) .none kV_read_rows dc_read_rows pm_read_rows an_read_rows cd_read_rows ct_read_rows), sl_read_rows⟩)
     (c_read_rows : PySem.W.codeIn K cd_read_rows (Str.ofString "read_rows") = true)
     (k_read_rows : PySem.W.keepIn K (.ref f_read_rows) = true)
    {f_law_bag : Addr} (a_law_bag : PySem.W.nsIn K mainGlobals (Str.ofString "_law_bag") = some (some (.ref f_law_bag)))
    {od_law_bag an_law_bag : Option Addr} {sl_law_bag : Array (Option Value)} {oc_law_bag kV_law_bag dc_law_bag pm_law_bag ct_law_bag : Value} {cd_law_bag : Value} (l_law_bag : K.lookup f_law_bag = some ⟨oc_law_bag, od_law_bag, .func (PySem.W.fnOf (Str.ofString "_law_bag") (Str.ofString "_law_bag") (defArgs s_law_bag) (defBody s_law_bag) (defScope s_law_bag) .none kV_law_bag dc_law_bag pm_law_bag an_law_bag cd_law_bag ct_law_bag), sl_law_bag⟩)
     (c_law_bag : PySem.W.codeIn K cd_law_bag (Str.ofString "_law_bag") = true)
     (k_law_bag : PySem.W.keepIn K (.ref f_law_bag) = true)
    {f_law_pull : Addr} (a_law_pull : PySem.W.nsIn K mainGlobals (Str.ofString "_law_pull") = some (some (.ref f_law_pull)))
    {od_law_pull an_law_pull : Option Addr} {sl_law_pull : Array (Option Value)} {oc_law_pull kV_law_pull dc_law_pull pm_law_pull ct_law_pull : Value} {cd_law_pull : Value} (l_law_pull : K.lookup f_law_pull = some ⟨oc_law_pull, od_law_pull, .func (PySem.W.fnOf (Str.ofString "_law_pull") (Str.ofString "_law_pull") (defArgs s_law_pull) (defBody s_law_pull) (defScope s_law_pull) .none kV_law_pull dc_law_pull pm_law_pull an_law_pull cd_law_pull ct_law_pull), sl_law_pull⟩)
     (c_law_pull : PySem.W.codeIn K cd_law_pull (Str.ofString "_law_pull") = true)
     (k_law_pull : PySem.W.keepIn K (.ref f_law_pull) = true)
    {f_law_same : Addr} (a_law_same : PySem.W.nsIn K mainGlobals (Str.ofString "_law_same") = some (some (.ref f_law_same)))
    {od_law_same an_law_same : Option Addr} {sl_law_same : Array (Option Value)} {oc_law_same kV_law_same dc_law_same pm_law_same ct_law_same : Value} {cd_law_same : Value} (l_law_same : K.lookup f_law_same = some ⟨oc_law_same, od_law_same, .func (PySem.W.fnOf (Str.ofString "_law_same") (Str.ofString "_law_same") (defArgs s_law_same) (defBody s_law_same) (defScope s_law_same) .none kV_law_same dc_law_same pm_law_same an_law_same cd_law_same ct_law_same), sl_law_same⟩)
     (c_law_same : PySem.W.codeIn K cd_law_same (Str.ofString "_law_same") = true)
     (k_law_same : PySem.W.keepIn K (.ref f_law_same) = true)
    {f_law_of : Addr} (a_law_of : PySem.W.nsIn K mainGlobals (Str.ofString "_law_of") = some (some (.ref f_law_of)))
    {od_law_of an_law_of : Option Addr} {sl_law_of : Array (Option Value)} {oc_law_of kV_law_of dc_law_of pm_law_of ct_law_of : Value} {cd_law_of : Value} (l_law_of : K.lookup f_law_of = some ⟨oc_law_of, od_law_of, .func (PySem.W.fnOf (Str.ofString "_law_of") (Str.ofString "_law_of") (defArgs s_law_of) (defBody s_law_of) (defScope s_law_of) .none kV_law_of dc_law_of pm_law_of an_law_of cd_law_of ct_law_of), sl_law_of⟩)
     (c_law_of : PySem.W.codeIn K cd_law_of (Str.ofString "_law_of") = true)
     (k_law_of : PySem.W.keepIn K (.ref f_law_of) = true)
    {f_law_words : Addr} (a_law_words : PySem.W.nsIn K mainGlobals (Str.ofString "_law_words") = some (some (.ref f_law_words)))
    {od_law_words an_law_words : Option Addr} {sl_law_words : Array (Option Value)} {oc_law_words kV_law_words dc_law_words pm_law_words ct_law_words : Value} {cd_law_words : Value} (l_law_words : K.lookup f_law_words = some ⟨oc_law_words, od_law_words, .func (PySem.W.fnOf (Str.ofString "_law_words") (Str.ofString "_law_words") (defArgs s_law_words) (defBody s_law_words) (defScope s_law_words) .none kV_law_words dc_law_words pm_law_words an_law_words cd_law_words ct_law_words), sl_law_words⟩)
     (c_law_words : PySem.W.codeIn K cd_law_words (Str.ofString "_law_words") = true)
     (k_law_words : PySem.W.keepIn K (.ref f_law_words) = true)
    {f_law_is_word : Addr} (a_law_is_word : PySem.W.nsIn K mainGlobals (Str.ofString "_law_is_word") = some (some (.ref f_law_is_word)))
    {od_law_is_word an_law_is_word : Option Addr} {sl_law_is_word : Array (Option Value)} {oc_law_is_word kV_law_is_word dc_law_is_word pm_law_is_word ct_law_is_word : Value} {cd_law_is_word : Value} (l_law_is_word : K.lookup f_law_is_word = some ⟨oc_law_is_word, od_law_is_word, .func (PySem.W.fnOf (Str.ofString "_law_is_word") (Str.ofString "_law_is_word") (defArgs s_law_is_word) (defBody s_law_is_word) (defScope s_law_is_word) .none kV_law_is_word dc_law_is_word pm_law_is_word an_law_is_word cd_law_is_word ct_law_is_word), sl_law_is_word⟩)
     (c_law_is_word : PySem.W.codeIn K cd_law_is_word (Str.ofString "_law_is_word") = true)
     (k_law_is_word : PySem.W.keepIn K (.ref f_law_is_word) = true)
    {f_law_read : Addr} (a_law_read : PySem.W.nsIn K mainGlobals (Str.ofString "_law_read") = some (some (.ref f_law_read)))
    {od_law_read an_law_read : Option Addr} {sl_law_read : Array (Option Value)} {oc_law_read kV_law_read dc_law_read pm_law_read ct_law_read : Value} {cd_law_read : Value} (l_law_read : K.lookup f_law_read = some ⟨oc_law_read, od_law_read, .func (PySem.W.fnOf (Str.ofString "_law_read") (Str.ofString "_law_read") (defArgs s_law_read) (defBody s_law_read) (defScope s_law_read) .none kV_law_read dc_law_read pm_law_read an_law_read cd_law_read ct_law_read), sl_law_read⟩)
     (c_law_read : PySem.W.codeIn K cd_law_read (Str.ofString "_law_read") = true)
     (k_law_read : PySem.W.keepIn K (.ref f_law_read) = true)
    {f_law_read_due : Addr} (a_law_read_due : PySem.W.nsIn K mainGlobals (Str.ofString "_law_read_due") = some (some (.ref f_law_read_due)))
    {od_law_read_due an_law_read_due : Option Addr} {sl_law_read_due : Array (Option Value)} {oc_law_read_due kV_law_read_due dc_law_read_due pm_law_read_due ct_law_read_due : Value} {cd_law_read_due : Value} (l_law_read_due : K.lookup f_law_read_due = some ⟨oc_law_read_due, od_law_read_due, .func (PySem.W.fnOf (Str.ofString "_law_read_due") (Str.ofString "_law_read_due") (defArgs s_law_read_due) (defBody s_law_read_due) (defScope s_law_read_due) .none kV_law_read_due dc_law_read_due pm_law_read_due an_law_read_due cd_law_read_due ct_law_read_due), sl_law_read_due⟩)
     (c_law_read_due : PySem.W.codeIn K cd_law_read_due (Str.ofString "_law_read_due") = true)
     (k_law_read_due : PySem.W.keepIn K (.ref f_law_read_due) = true)
    {f_law : Addr} (a_law : PySem.W.nsIn K mainGlobals (Str.ofString "law") = some (some (.ref f_law)))
    {od_law an_law : Option Addr} {sl_law : Array (Option Value)} {oc_law kV_law dc_law pm_law ct_law : Value} {cc_law : Addr} (l_law : K.lookup f_law = some ⟨oc_law, od_law, .func (PySem.W.fnOf (Str.ofString "law") (Str.ofString "law") (defArgs s_law) (defBody s_law) (defScope s_law) .none kV_law dc_law pm_law an_law (.ref cc_law) ct_law), sl_law⟩)
     (c_law : PySem.W.codeIn K (.ref cc_law) (Str.ofString "law") = true)
    {P_law : Addr} (mt_law : h.get? P_law = some (PySem.W.tabObj #[]))
     (ch_law : PySem.W.codeHdIn K cc_law P_law = true)
     (np_law : K.lookup P_law = none)
     (k_law : PySem.W.keepIn K (.ref f_law) = true)
    {f_law_why : Addr} (a_law_why : PySem.W.nsIn K mainGlobals (Str.ofString "_law_why") = some (some (.ref f_law_why)))
    {od_law_why an_law_why : Option Addr} {sl_law_why : Array (Option Value)} {oc_law_why kV_law_why dc_law_why pm_law_why ct_law_why : Value} {cd_law_why : Value} (l_law_why : K.lookup f_law_why = some ⟨oc_law_why, od_law_why, .func (PySem.W.fnOf (Str.ofString "_law_why") (Str.ofString "_law_why") (defArgs s_law_why) (defBody s_law_why) (defScope s_law_why) .none kV_law_why dc_law_why pm_law_why an_law_why cd_law_why ct_law_why), sl_law_why⟩)
     (c_law_why : PySem.W.codeIn K cd_law_why (Str.ofString "_law_why") = true)
     (k_law_why : PySem.W.keepIn K (.ref f_law_why) = true)
    {t_LETTERS : Tok} (gc_LETTERS : PySem.W.nsIn K mainGlobals (Str.ofString "LETTERS") = some (some (.str (Str.ofString "abcdefghijklmnopqrstuvwxyz") t_LETTERS)))
    {t_WORD : Tok} (gc_WORD : PySem.W.nsIn K mainGlobals (Str.ofString "WORD") = some (some (.int 6 t_WORD)))
    {t_BRANCHES : Tok} (gc_BRANCHES : PySem.W.nsIn K mainGlobals (Str.ofString "BRANCHES") = some (some (.int 3 t_BRANCHES)))
    {t_ROWS : Tok} (gc_ROWS : PySem.W.nsIn K mainGlobals (Str.ofString "ROWS") = some (some (.int 60 t_ROWS)))
    {t_SIGNS : Tok} (gc_SIGNS : PySem.W.nsIn K mainGlobals (Str.ofString "SIGNS") = some (some (.int 200 t_SIGNS)))
    {t_DEEP : Tok} (gc_DEEP : PySem.W.nsIn K mainGlobals (Str.ofString "DEEP") = some (some (.int 8 t_DEEP)))
     (z_abs : PySem.W.nsIn K mainGlobals (Str.ofString "abs") = some none)
     (z_all : PySem.W.nsIn K mainGlobals (Str.ofString "all") = some none)
     (z_bool : PySem.W.nsIn K mainGlobals (Str.ofString "bool") = some none)
     (z_enumerate : PySem.W.nsIn K mainGlobals (Str.ofString "enumerate") = some none)
     (z_int : PySem.W.nsIn K mainGlobals (Str.ofString "int") = some none)
     (z_isinstance : PySem.W.nsIn K mainGlobals (Str.ofString "isinstance") = some none)
     (z_len : PySem.W.nsIn K mainGlobals (Str.ofString "len") = some none)
     (z_list : PySem.W.nsIn K mainGlobals (Str.ofString "list") = some none)
     (z_max : PySem.W.nsIn K mainGlobals (Str.ofString "max") = some none)
     (z_range : PySem.W.nsIn K mainGlobals (Str.ofString "range") = some none)
     (z_set : PySem.W.nsIn K mainGlobals (Str.ofString "set") = some none)
     (z_str : PySem.W.nsIn K mainGlobals (Str.ofString "str") = some none)
     (z_tuple : PySem.W.nsIn K mainGlobals (Str.ofString "tuple") = some none)
     (z_zip : PySem.W.nsIn K mainGlobals (Str.ofString "zip") = some none)
    {f_BadTerm : Addr} (a_BadTerm : PySem.W.nsIn K mainGlobals (Str.ofString "BadTerm") = some (some (.ref f_BadTerm)))
    {nm_BadTerm q_BadTerm : Str} {N_BadTerm : Addr} {bs_BadTerm bm_BadTerm : List Value} {sn_BadTerm : List Str} {sub_BadTerm : List Value} {ab_BadTerm : Bool} {col_BadTerm : Option Bool} {dd_BadTerm : Option Addr} {m0_BadTerm m1_BadTerm m2_BadTerm m3_BadTerm m5_BadTerm : Option Value} (xl_BadTerm : K.lookup f_BadTerm = some (excClassObj nm_BadTerm q_BadTerm f_BadTerm N_BadTerm bs_BadTerm bm_BadTerm true sn_BadTerm sub_BadTerm ab_BadTerm col_BadTerm dd_BadTerm m0_BadTerm m1_BadTerm m2_BadTerm m3_BadTerm m5_BadTerm "ValueError.__new__"))
     (rv_BadTerm : PySem.HandSPX.refsVE bm_BadTerm = true)
     (sa_BadTerm : PySem.W.findIn K (.ref f_BadTerm) "__setattr__" = some (some (.builtin "object.__setattr__")))
    {fI_BadTerm : Addr} (i_BadTerm : PySem.W.findIn K (.ref f_BadTerm) "__init__" = some (some (.ref fI_BadTerm)))
     (ti_BadTerm : PySem.W.typeIn K (.ref fI_BadTerm) = some (.type "function"))
    {od_BadTerm an_BadTerm : Option Addr} {sl_BadTerm : Array (Option Value)} {oc_BadTerm kV_BadTerm dc_BadTerm pm_BadTerm cd_BadTerm ct_BadTerm : Value} (l_BadTerm : K.lookup fI_BadTerm = some ⟨oc_BadTerm, od_BadTerm, .func (PySem.W.fnOf (Str.ofString "__init__") (Str.ofString "BadTerm.__init__") (defArgs s_BadTerm) (defBody s_BadTerm) (defScope s_BadTerm) .none kV_BadTerm dc_BadTerm pm_BadTerm an_BadTerm cd_BadTerm ct_BadTerm), sl_BadTerm⟩)
     (c_BadTerm : PySem.W.codeIn K cd_BadTerm (Str.ofString "BadTerm.__init__") = true)
     (k_BadTerm : PySem.W.keepIn K (.ref fI_BadTerm) = true)
     (kC_BadTerm : PySem.W.keepIn K (.ref f_BadTerm) = true)
     (eC_BadTerm : PySem.W.subIn K (.ref f_BadTerm) (.type "BaseException") = some true)
     (tC_BadTerm : PySem.W.typeIn K (.ref f_BadTerm) = some (.type "type"))
     (w_word_BadTerm : PySem.W.findIn K (.ref f_BadTerm) (Str.ofString "word") = some none)
    {f_BadRows : Addr} (a_BadRows : PySem.W.nsIn K mainGlobals (Str.ofString "BadRows") = some (some (.ref f_BadRows)))
    {nm_BadRows q_BadRows : Str} {N_BadRows : Addr} {bs_BadRows bm_BadRows : List Value} {sn_BadRows : List Str} {sub_BadRows : List Value} {ab_BadRows : Bool} {col_BadRows : Option Bool} {dd_BadRows : Option Addr} {m0_BadRows m1_BadRows m2_BadRows m3_BadRows m5_BadRows : Option Value} (xl_BadRows : K.lookup f_BadRows = some (excClassObj nm_BadRows q_BadRows f_BadRows N_BadRows bs_BadRows bm_BadRows true sn_BadRows sub_BadRows ab_BadRows col_BadRows dd_BadRows m0_BadRows m1_BadRows m2_BadRows m3_BadRows m5_BadRows "ValueError.__new__"))
     (rv_BadRows : PySem.HandSPX.refsVE bm_BadRows = true)
     (sa_BadRows : PySem.W.findIn K (.ref f_BadRows) "__setattr__" = some (some (.builtin "object.__setattr__")))
    {fI_BadRows : Addr} (i_BadRows : PySem.W.findIn K (.ref f_BadRows) "__init__" = some (some (.ref fI_BadRows)))
     (ti_BadRows : PySem.W.typeIn K (.ref fI_BadRows) = some (.type "function"))
    {od_BadRows an_BadRows : Option Addr} {sl_BadRows : Array (Option Value)} {oc_BadRows kV_BadRows dc_BadRows pm_BadRows cd_BadRows ct_BadRows : Value} (l_BadRows : K.lookup fI_BadRows = some ⟨oc_BadRows, od_BadRows, .func (PySem.W.fnOf (Str.ofString "__init__") (Str.ofString "BadRows.__init__") (defArgs s_BadRows) (defBody s_BadRows) (defScope s_BadRows) .none kV_BadRows dc_BadRows pm_BadRows an_BadRows cd_BadRows ct_BadRows), sl_BadRows⟩)
     (c_BadRows : PySem.W.codeIn K cd_BadRows (Str.ofString "BadRows.__init__") = true)
     (k_BadRows : PySem.W.keepIn K (.ref fI_BadRows) = true)
     (kC_BadRows : PySem.W.keepIn K (.ref f_BadRows) = true)
     (eC_BadRows : PySem.W.subIn K (.ref f_BadRows) (.type "BaseException") = some true)
     (tC_BadRows : PySem.W.typeIn K (.ref f_BadRows) = some (.type "type"))
     (w_word_BadRows : PySem.W.findIn K (.ref f_BadRows) (Str.ofString "word") = some none)
     (w_row_BadRows : PySem.W.findIn K (.ref f_BadRows) (Str.ofString "row") = some none)
    {f_BoughError : Addr} (a_BoughError : PySem.W.nsIn K mainGlobals (Str.ofString "BoughError") = some (some (.ref f_BoughError)))
     (eC_BoughError : PySem.W.subIn K (.ref f_BoughError) (.type "BaseException") = some true)
     (tC_BoughError : PySem.W.typeIn K (.ref f_BoughError) = some (.type "type"))
     (ic_BadTerm : PySem.W.isClsIn K f_BadTerm = true)
     (ic_BoughError : PySem.W.isClsIn K f_BoughError = true)
     (s_BadTerm_BadTerm : PySem.W.subIn K (.ref f_BadTerm) (.ref f_BadTerm) = some true)
     (ga_BadTerm : PySem.W.findIn K (.ref f_BadTerm) "__getattribute__" = some (some (.builtin "BaseException.__getattribute__")))
     (gg_BadTerm : PySem.W.findIn K (.ref f_BadTerm) "__getattr__" = some none)
     (hd_BadTerm : PySem.W.hasDictIn K f_BadTerm = true)
     (s_BadTerm_BoughError : PySem.W.subIn K (.ref f_BadTerm) (.ref f_BoughError) = some true)
     (s_BadRows_BoughError : PySem.W.subIn K (.ref f_BadRows) (.ref f_BoughError) = some true)
     (ga_BadRows : PySem.W.findIn K (.ref f_BadRows) "__getattribute__" = some (some (.builtin "BaseException.__getattribute__")))
     (gg_BadRows : PySem.W.findIn K (.ref f_BadRows) "__getattr__" = some none)
     (hd_BadRows : PySem.W.hasDictIn K f_BadRows = true)
    (hpr : PySem.W.OpenLaw.prog PySem.Challenge.rw_everbough_k03_terms_at_their_bounds = P) : LamX.LawAtS PySem.Challenge.rw_everbough_k03_terms_at_their_bounds w K (CX0) 49 63 (Str.ofString "_law_script") mg fa h := by
  have e := hfa.symm.trans (PySem.W.mg_of X G a_law)
  cases e
  obtain ⟨ca, hca⟩ := ca_ex [(Str.ofString "is_word"), (Str.ofString "deep_of"), (Str.ofString "word_end"), (Str.ofString "parsed"), (Str.ofString "branches_of"), (Str.ofString "read_term"), (Str.ofString "read_row"), (Str.ofString "read_rows"), (Str.ofString "_law_bag"), (Str.ofString "_law_pull"), (Str.ofString "_law_same"), (Str.ofString "_law_of"), (Str.ofString "_law_words"), (Str.ofString "_law_is_word"), (Str.ofString "_law_read"), (Str.ofString "_law_read_due"), (Str.ofString "law"), (Str.ofString "_law_why"), (Str.ofString "BadTerm"), (Str.ofString "BadRows"), (Str.ofString "BoughError")] [f_is_word, f_deep_of, f_word_end, f_parsed, f_branches_of, f_read_term, f_read_row, f_read_rows, f_law_bag, f_law_pull, f_law_same, f_law_of, f_law_words, f_law_is_word, f_law_read, f_law_read_due, fa, f_law_why, f_BadTerm, f_BadRows, f_BoughError] (by decide +kernel) rfl
  simp only [List.map_cons, List.map_nil, List.cons.injEq, and_true] at hca
  obtain ⟨hf_is_word, hf_deep_of, hf_word_end, hf_parsed, hf_branches_of, hf_read_term, hf_read_row, hf_read_rows, hf_law_bag, hf_law_pull, hf_law_same, hf_law_of, hf_law_words, hf_law_is_word, hf_law_read, hf_law_read_due, hf_law, hf_law_why, hf_BadTerm, hf_BadRows, hf_BoughError⟩ := hca
  subst hf_is_word
  subst hf_deep_of
  subst hf_word_end
  subst hf_parsed
  subst hf_branches_of
  subst hf_read_term
  subst hf_read_row
  subst hf_read_rows
  subst hf_law_bag
  subst hf_law_pull
  subst hf_law_same
  subst hf_law_of
  subst hf_law_words
  subst hf_law_is_word
  subst hf_law_read
  subst hf_law_read_due
  subst hf_law
  subst hf_law_why
  subst hf_BadTerm
  subst hf_BadRows
  subst hf_BoughError
  obtain ⟨c, hc⟩ : ∃ c : Cn, c = ⟨P, w, K, ca, [(P_law, qualL (Str.ofString "law") s_law)]⟩ := ⟨_, rfl⟩
  have GG : Gx mg := {
    c_LETTERS := ⟨_, PySem.W.mg_of X G gc_LETTERS⟩, c_WORD := ⟨_, PySem.W.mg_of X G gc_WORD⟩, c_BRANCHES := ⟨_, PySem.W.mg_of X G gc_BRANCHES⟩, c_ROWS := ⟨_, PySem.W.mg_of X G gc_ROWS⟩, c_SIGNS := ⟨_, PySem.W.mg_of X G gc_SIGNS⟩, c_DEEP := ⟨_, PySem.W.mg_of X G gc_DEEP⟩, z_abs := PySem.W.mg_none_of X G z_abs, z_all := PySem.W.mg_none_of X G z_all, z_bool := PySem.W.mg_none_of X G z_bool, z_enumerate := PySem.W.mg_none_of X G z_enumerate, z_int := PySem.W.mg_none_of X G z_int, z_isinstance := PySem.W.mg_none_of X G z_isinstance, z_len := PySem.W.mg_none_of X G z_len, z_list := PySem.W.mg_none_of X G z_list, z_max := PySem.W.mg_none_of X G z_max, z_range := PySem.W.mg_none_of X G z_range, z_set := PySem.W.mg_none_of X G z_set, z_str := PySem.W.mg_none_of X G z_str, z_tuple := PySem.W.mg_none_of X G z_tuple, z_zip := PySem.W.mg_none_of X G z_zip }
  have MM : Mx ⟨P, w, K, ca, [(P_law, qualL (Str.ofString "law") s_law)]⟩ mg := { g_BadTerm := PySem.W.mg_of X G a_BadTerm, m_BadTerm_BadTerm := exm_mk eC_BadTerm ic_BadTerm tC_BadTerm s_BadTerm_BadTerm, f_BadTerm := ⟨ga_BadTerm, gg_BadTerm, eC_BadTerm, hd_BadTerm⟩, n_BadTerm_word := w_word_BadTerm, g_BoughError := PySem.W.mg_of X G a_BoughError, m_BadTerm_BoughError := exm_mk eC_BoughError ic_BoughError tC_BoughError s_BadTerm_BoughError, m_BadRows_BoughError := exm_mk eC_BoughError ic_BoughError tC_BoughError s_BadRows_BoughError, f_BadRows := ⟨ga_BadRows, gg_BadRows, eC_BadRows, hd_BadRows⟩, n_BadRows_word := w_word_BadRows, n_BadRows_row := w_row_BadRows }
  have F_is_word := fun_mk (st := s_is_word) l_is_word c_is_word k_is_word
  have D_is_word : Df ⟨P, w, K, ca, [(P_law, qualL (Str.ofString "law") s_law)]⟩ mg (Str.ofString "is_word") (Str.ofString "is_word") s_is_word [(Str.ofString "text")] _ := ⟨F_is_word, PySem.W.mg_of X G a_is_word, F_is_word.binds (ps := [(Str.ofString "text")]) fun _ _ _ _ _ _ us hl => match us, hl with | [_], _ => rfl⟩
  have F_deep_of := fun_mk (st := s_deep_of) l_deep_of c_deep_of k_deep_of
  have D_deep_of : Df ⟨P, w, K, ca, [(P_law, qualL (Str.ofString "law") s_law)]⟩ mg (Str.ofString "deep_of") (Str.ofString "deep_of") s_deep_of [(Str.ofString "term")] _ := ⟨F_deep_of, PySem.W.mg_of X G a_deep_of, F_deep_of.binds (ps := [(Str.ofString "term")]) fun _ _ _ _ _ _ us hl => match us, hl with | [_], _ => rfl⟩
  have F_word_end := fun_mk (st := s_word_end) l_word_end c_word_end k_word_end
  have D_word_end : Df ⟨P, w, K, ca, [(P_law, qualL (Str.ofString "law") s_law)]⟩ mg (Str.ofString "word_end") (Str.ofString "word_end") s_word_end [(Str.ofString "text"), (Str.ofString "at")] _ := ⟨F_word_end, PySem.W.mg_of X G a_word_end, F_word_end.binds (ps := [(Str.ofString "text"), (Str.ofString "at")]) fun _ _ _ _ _ _ us hl => match us, hl with | [_, _], _ => rfl⟩
  have F_parsed := fun_mk (st := s_parsed) l_parsed c_parsed k_parsed
  have D_parsed : Df ⟨P, w, K, ca, [(P_law, qualL (Str.ofString "law") s_law)]⟩ mg (Str.ofString "parsed") (Str.ofString "parsed") s_parsed [(Str.ofString "text"), (Str.ofString "at"), (Str.ofString "deep")] _ := ⟨F_parsed, PySem.W.mg_of X G a_parsed, F_parsed.binds (ps := [(Str.ofString "text"), (Str.ofString "at"), (Str.ofString "deep")]) fun _ _ _ _ _ _ us hl => match us, hl with | [_, _, _], _ => rfl⟩
  have F_branches_of := fun_mk (st := s_branches_of) l_branches_of c_branches_of k_branches_of
  have D_branches_of : Df ⟨P, w, K, ca, [(P_law, qualL (Str.ofString "law") s_law)]⟩ mg (Str.ofString "branches_of") (Str.ofString "branches_of") s_branches_of [(Str.ofString "word"), (Str.ofString "text"), (Str.ofString "at"), (Str.ofString "deep")] _ := ⟨F_branches_of, PySem.W.mg_of X G a_branches_of, F_branches_of.binds (ps := [(Str.ofString "word"), (Str.ofString "text"), (Str.ofString "at"), (Str.ofString "deep")]) fun _ _ _ _ _ _ us hl => match us, hl with | [_, _, _, _], _ => rfl⟩
  have F_read_term := fun_mk (st := s_read_term) l_read_term c_read_term k_read_term
  have D_read_term : Df ⟨P, w, K, ca, [(P_law, qualL (Str.ofString "law") s_law)]⟩ mg (Str.ofString "read_term") (Str.ofString "read_term") s_read_term [(Str.ofString "text")] _ := ⟨F_read_term, PySem.W.mg_of X G a_read_term, F_read_term.binds (ps := [(Str.ofString "text")]) fun _ _ _ _ _ _ us hl => match us, hl with | [_], _ => rfl⟩
  have F_read_row := fun_mk (st := s_read_row) l_read_row c_read_row k_read_row
  have D_read_row : Df ⟨P, w, K, ca, [(P_law, qualL (Str.ofString "law") s_law)]⟩ mg (Str.ofString "read_row") (Str.ofString "read_row") s_read_row [(Str.ofString "row")] _ := ⟨F_read_row, PySem.W.mg_of X G a_read_row, F_read_row.binds (ps := [(Str.ofString "row")]) fun _ _ _ _ _ _ us hl => match us, hl with | [_], _ => rfl⟩
  have F_read_rows := fun_mk (st := s_read_rows) l_read_rows c_read_rows k_read_rows
  have D_read_rows : Df ⟨P, w, K, ca, [(P_law, qualL (Str.ofString "law") s_law)]⟩ mg (Str.ofString "read_rows") (Str.ofString "read_rows") s_read_rows [(Str.ofString "text")] _ := ⟨F_read_rows, PySem.W.mg_of X G a_read_rows, F_read_rows.binds (ps := [(Str.ofString "text")]) fun _ _ _ _ _ _ us hl => match us, hl with | [_], _ => rfl⟩
  have F_law_bag := fun_mk (st := s_law_bag) l_law_bag c_law_bag k_law_bag
  have D_law_bag : Df ⟨P, w, K, ca, [(P_law, qualL (Str.ofString "law") s_law)]⟩ mg (Str.ofString "_law_bag") (Str.ofString "_law_bag") s_law_bag [(Str.ofString "_law_script")] _ := ⟨F_law_bag, PySem.W.mg_of X G a_law_bag, F_law_bag.binds (ps := [(Str.ofString "_law_script")]) fun _ _ _ _ _ _ us hl => match us, hl with | [_], _ => rfl⟩
  have F_law_pull := fun_mk (st := s_law_pull) l_law_pull c_law_pull k_law_pull
  have D_law_pull : Df ⟨P, w, K, ca, [(P_law, qualL (Str.ofString "law") s_law)]⟩ mg (Str.ofString "_law_pull") (Str.ofString "_law_pull") s_law_pull [(Str.ofString "_law_bag_here"), (Str.ofString "_law_lot")] _ := ⟨F_law_pull, PySem.W.mg_of X G a_law_pull, F_law_pull.binds (ps := [(Str.ofString "_law_bag_here"), (Str.ofString "_law_lot")]) fun _ _ _ _ _ _ us hl => match us, hl with | [_, _], _ => rfl⟩
  have F_law_same := fun_mk (st := s_law_same) l_law_same c_law_same k_law_same
  have D_law_same : Df ⟨P, w, K, ca, [(P_law, qualL (Str.ofString "law") s_law)]⟩ mg (Str.ofString "_law_same") (Str.ofString "_law_same") s_law_same [(Str.ofString "_law_found"), (Str.ofString "_law_due")] _ := ⟨F_law_same, PySem.W.mg_of X G a_law_same, F_law_same.binds (ps := [(Str.ofString "_law_found"), (Str.ofString "_law_due")]) fun _ _ _ _ _ _ us hl => match us, hl with | [_, _], _ => rfl⟩
  have F_law_of := fun_mk (st := s_law_of) l_law_of c_law_of k_law_of
  have D_law_of : Df ⟨P, w, K, ca, [(P_law, qualL (Str.ofString "law") s_law)]⟩ mg (Str.ofString "_law_of") (Str.ofString "_law_of") s_law_of [(Str.ofString "_law_bag_here"), (Str.ofString "_law_some")] _ := ⟨F_law_of, PySem.W.mg_of X G a_law_of, F_law_of.binds (ps := [(Str.ofString "_law_bag_here"), (Str.ofString "_law_some")]) fun _ _ _ _ _ _ us hl => match us, hl with | [_, _], _ => rfl⟩
  have F_law_words := fun_mk (st := s_law_words) l_law_words c_law_words k_law_words
  have D_law_words : Df ⟨P, w, K, ca, [(P_law, qualL (Str.ofString "law") s_law)]⟩ mg (Str.ofString "_law_words") (Str.ofString "_law_words") s_law_words [(Str.ofString "_law_bag_here"), (Str.ofString "_law_few")] _ := ⟨F_law_words, PySem.W.mg_of X G a_law_words, F_law_words.binds (ps := [(Str.ofString "_law_bag_here"), (Str.ofString "_law_few")]) fun _ _ _ _ _ _ us hl => match us, hl with | [_, _], _ => rfl⟩
  have F_law_is_word := fun_mk (st := s_law_is_word) l_law_is_word c_law_is_word k_law_is_word
  have D_law_is_word : Df ⟨P, w, K, ca, [(P_law, qualL (Str.ofString "law") s_law)]⟩ mg (Str.ofString "_law_is_word") (Str.ofString "_law_is_word") s_law_is_word [(Str.ofString "_law_text")] _ := ⟨F_law_is_word, PySem.W.mg_of X G a_law_is_word, F_law_is_word.binds (ps := [(Str.ofString "_law_text")]) fun _ _ _ _ _ _ us hl => match us, hl with | [_], _ => rfl⟩
  have F_law_read := fun_mk (st := s_law_read) l_law_read c_law_read k_law_read
  have D_law_read : Df ⟨P, w, K, ca, [(P_law, qualL (Str.ofString "law") s_law)]⟩ mg (Str.ofString "_law_read") (Str.ofString "_law_read") s_law_read [(Str.ofString "_law_text"), (Str.ofString "_law_at"), (Str.ofString "_law_deep")] _ := ⟨F_law_read, PySem.W.mg_of X G a_law_read, F_law_read.binds (ps := [(Str.ofString "_law_text"), (Str.ofString "_law_at"), (Str.ofString "_law_deep")]) fun _ _ _ _ _ _ us hl => match us, hl with | [_, _, _], _ => rfl⟩
  have F_law_read_due := fun_mk (st := s_law_read_due) l_law_read_due c_law_read_due k_law_read_due
  have D_law_read_due : Df ⟨P, w, K, ca, [(P_law, qualL (Str.ofString "law") s_law)]⟩ mg (Str.ofString "_law_read_due") (Str.ofString "_law_read_due") s_law_read_due [(Str.ofString "_law_text")] _ := ⟨F_law_read_due, PySem.W.mg_of X G a_law_read_due, F_law_read_due.binds (ps := [(Str.ofString "_law_text")]) fun _ _ _ _ _ _ us hl => match us, hl with | [_], _ => rfl⟩
  have F_law := fun_mk (st := s_law) l_law c_law k_law
  have D_law : Df ⟨P, w, K, ca, [(P_law, qualL (Str.ofString "law") s_law)]⟩ mg (Str.ofString "law") (Str.ofString "law") s_law [(Str.ofString "_law_script")] _ := ⟨F_law, PySem.W.mg_of X G a_law, F_law.binds (ps := [(Str.ofString "_law_script")]) fun _ _ _ _ _ _ us hl => match us, hl with | [_], _ => rfl⟩
  have F_law_why := fun_mk (st := s_law_why) l_law_why c_law_why k_law_why
  have D_law_why : Df ⟨P, w, K, ca, [(P_law, qualL (Str.ofString "law") s_law)]⟩ mg (Str.ofString "_law_why") (Str.ofString "_law_why") s_law_why [(Str.ofString "_law_ask")] _ := ⟨F_law_why, PySem.W.mg_of X G a_law_why, F_law_why.binds (ps := [(Str.ofString "_law_ask")]) fun _ _ _ _ _ _ us hl => match us, hl with | [_], _ => rfl⟩
  refine ⟨PySem.W.fnOf (Str.ofString "law") (Str.ofString "law") (defArgs s_law) (defBody s_law) (defScope s_law) .none kV_law dc_law pm_law an_law (.ref cc_law) ct_law, [(cc_law, P_law)], spLaw K [(P_law, qualL (Str.ofString "law") s_law)], ?_, ?_, ?_, fun s v => .of_eq rfl, ?_, fun base _ _ hTB => ?_⟩
  · exact (List.forall_mem_cons.mpr ⟨mt_law, (fun _ h => nomatch h)⟩)
  · exact (List.forall_mem_cons.mpr ⟨np_law, (fun _ h => nomatch h)⟩)
  · exact (List.forall_mem_cons.mpr ⟨(PySem.W.codeHd_of_K X ch_law), (fun _ h => nomatch h)⟩)
  · intro H a ns hl _ hH hS
    have hH_law := hH (cc_law, P_law) (by simp)
    exact ⟨a, ns, rfl, hS, hl, (List.forall_mem_cons.mpr ⟨hH_law, (fun _ h => nomatch h)⟩), fun _ => rfl⟩
  rw [hpr]
  have M_law : Mk ⟨P, w, K, ca, [(P_law, qualL (Str.ofString "law") s_law)]⟩ mg base (Str.ofString "law") (Str.ofString "law") s_law _ cc_law P_law := ⟨⟨_, _, _, _, _, _, _, _, rfl, l_law, c_law⟩, hTB (cc_law, P_law) (by simp), by simp, by simp⟩
  have FI_BadTerm := fun_mk (st := s_BadTerm) l_BadTerm c_BadTerm k_BadTerm
  have T_BadTerm : OexC K (ca (Str.ofString "BadTerm")) := ⟨⟨_, _, _, _, _, _, _, _, _, _, _, _, _, _, _, xl_BadTerm, rv_BadTerm⟩, sa_BadTerm, eC_BadTerm, tC_BadTerm, kC_BadTerm⟩
  have X_BadTerm : Xc ⟨P, w, K, ca, [(P_law, qualL (Str.ofString "law") s_law)]⟩ mg base (Str.ofString "BadTerm") [(Str.ofString "self")] 0 (fun ws => [(Str.ofString "word")].zip [.str (Str.ofString "term")]) _ _ := ⟨T_BadTerm, PySem.W.mg_of X G a_BadTerm, i_BadTerm, ti_BadTerm, init1 (mg := mg) (base := base) FI_BadTerm sci_BadTerm rfl rfl T_BadTerm w_word_BadTerm (fun _ _ => rfl), FI_BadTerm.binds (ps := [(Str.ofString "self")]) fun _ _ _ _ _ _ us hl => match us, hl with | [_], _ => rfl⟩
  have FI_BadRows := fun_mk (st := s_BadRows) l_BadRows c_BadRows k_BadRows
  have T_BadRows : OexC K (ca (Str.ofString "BadRows")) := ⟨⟨_, _, _, _, _, _, _, _, _, _, _, _, _, _, _, xl_BadRows, rv_BadRows⟩, sa_BadRows, eC_BadRows, tC_BadRows, kC_BadRows⟩
  have X_BadRows : Xc ⟨P, w, K, ca, [(P_law, qualL (Str.ofString "law") s_law)]⟩ mg base (Str.ofString "BadRows") [(Str.ofString "self"), (Str.ofString "row")] 1 (fun ws => [(Str.ofString "row"), (Str.ofString "word")].zip (ws ++ [.str (Str.ofString "rows")])) _ _ := ⟨T_BadRows, PySem.W.mg_of X G a_BadRows, i_BadRows, ti_BadRows, init2 (mg := mg) (base := base) FI_BadRows sci_BadRows rfl rfl rfl T_BadRows w_word_BadRows w_row_BadRows (fun _ _ => rfl) (fun _ _ => rfl), FI_BadRows.binds (ps := [(Str.ofString "self"), (Str.ofString "row")]) fun _ _ _ _ _ _ us hl => match us, hl with | [_, _], _ => rfl⟩
  have H_is_word := ok_is_word (base := base) GG MM D_is_word
  have H_deep_of := okr_deep_of (base := base) GG MM D_deep_of 10
  have H_word_end := ok_word_end (base := base) GG MM D_word_end
  obtain ⟨H_parsed, H_branches_of⟩ := okr_parsed (base := base) GG MM H_word_end H_is_word X_BadTerm D_parsed D_branches_of 40
  have H_read_term := ok_read_term (base := base) GG MM H_parsed X_BadTerm D_read_term
  have H_read_row := ok_read_row (base := base) GG MM H_is_word H_read_term D_read_row
  have H_read_rows := ok_read_rows (base := base) GG MM H_read_row X_BadRows D_read_rows
  have H_law_bag := ok_law_bag (base := base) GG MM D_law_bag
  have H_law_pull := ok_law_pull (base := base) GG MM D_law_pull
  have H_law_same := okr_law_same (base := base) GG MM D_law_same 18
  have H_law_of := ok_law_of (base := base) GG MM H_law_pull D_law_of
  have H_law_words := ok_law_words (base := base) GG MM H_law_pull H_law_of D_law_words
  have H_law_is_word := ok_law_is_word (base := base) GG MM D_law_is_word
  have H_law_read := okr_law_read (base := base) GG MM H_law_is_word D_law_read 20
  have H_law_read_due := ok_law_read_due (base := base) GG MM H_law_read D_law_read_due
  have H_law := ok_law (base := base) GG MM H_law_bag H_law_words H_law_of H_law_pull H_read_term H_law_same H_read_rows H_law_read_due H_deep_of D_law D_law_why M_law
  exact H_law.F.imp (law_imp (c := ⟨P, w, K, ca, [(P_law, qualL (Str.ofString "law") s_law)]⟩) (fun ns hl => MK.law_true hl))
end PXE
open PySem PySem.W PyProof.Rows
set_option maxHeartbeats 0 in
theorem PySem.Challenge.cw_everbough_k03_terms_at_their_bounds_holds : PySem.Challenge.rw_everbough_k03_terms_at_their_bounds.Holds := by
  w_on; o_law; k_head; (case hw => w_witness2)
  k_fill
  refine LamX.walk_ofTs (l := PySem.Challenge.rw_everbough_k03_terms_at_their_bounds) (n := 63) (k := 49) (x := (Str.ofString "_law_script")) (CX := (fun _ => L2.CX0)) rfl (by decide) rfl ⟨rfl, by decide, by decide⟩ (fun w h Y => PySem.W.km_in_of Y) ?F (fun _ _ _ _ _ h => h)
  case F =>
    intro w mg fa h Y KX G hmg
    refine' PXE.all_mk KX G hmg ?a_is_word ?l_is_word ?c_is_word ?k_is_word ?a_deep_of ?l_deep_of ?c_deep_of ?k_deep_of ?a_word_end ?l_word_end ?c_word_end ?k_word_end ?a_parsed ?l_parsed ?c_parsed ?k_parsed ?a_branches_of ?l_branches_of ?c_branches_of ?k_branches_of ?a_read_term ?l_read_term ?c_read_term ?k_read_term ?a_read_row ?l_read_row ?c_read_row ?k_read_row ?a_read_rows ?l_read_rows ?c_read_rows ?k_read_rows ?a_law_bag ?l_law_bag ?c_law_bag ?k_law_bag ?a_law_pull ?l_law_pull ?c_law_pull ?k_law_pull ?a_law_same ?l_law_same ?c_law_same ?k_law_same ?a_law_of ?l_law_of ?c_law_of ?k_law_of ?a_law_words ?l_law_words ?c_law_words ?k_law_words ?a_law_is_word ?l_law_is_word ?c_law_is_word ?k_law_is_word ?a_law_read ?l_law_read ?c_law_read ?k_law_read ?a_law_read_due ?l_law_read_due ?c_law_read_due ?k_law_read_due ?a_law ?l_law ?c_law ?mt_law ?ch_law ?np_law ?k_law ?a_law_why ?l_law_why ?c_law_why ?k_law_why ?gc_LETTERS ?gc_WORD ?gc_BRANCHES ?gc_ROWS ?gc_SIGNS ?gc_DEEP ?z_abs ?z_all ?z_bool ?z_enumerate ?z_int ?z_isinstance ?z_len ?z_list ?z_max ?z_range ?z_set ?z_str ?z_tuple ?z_zip ?a_BadTerm ?xl_BadTerm ?rv_BadTerm ?sa_BadTerm ?i_BadTerm ?ti_BadTerm ?l_BadTerm ?c_BadTerm ?k_BadTerm ?kC_BadTerm ?eC_BadTerm ?tC_BadTerm ?w_word_BadTerm ?a_BadRows ?xl_BadRows ?rv_BadRows ?sa_BadRows ?i_BadRows ?ti_BadRows ?l_BadRows ?c_BadRows ?k_BadRows ?kC_BadRows ?eC_BadRows ?tC_BadRows ?w_word_BadRows ?w_row_BadRows ?a_BoughError ?eC_BoughError ?tC_BoughError ?ic_BadTerm ?ic_BoughError ?s_BadTerm_BadTerm ?ga_BadTerm ?gg_BadTerm ?hd_BadTerm ?s_BadTerm_BoughError ?s_BadRows_BoughError ?ga_BadRows ?gg_BadRows ?hd_BadRows rfl
    (case a_is_word => k_is)
    (case l_is_word => k_is)
    (case c_is_word => k_is)
    (case k_is_word => k_is)
    (case a_deep_of => k_is)
    (case l_deep_of => k_is)
    (case c_deep_of => k_is)
    (case k_deep_of => k_is)
    (case a_word_end => k_is)
    (case l_word_end => k_is)
    (case c_word_end => k_is)
    (case k_word_end => k_is)
    (case a_parsed => k_is)
    (case l_parsed => k_is)
    (case c_parsed => k_is)
    (case k_parsed => k_is)
    (case a_branches_of => k_is)
    (case l_branches_of => k_is)
    (case c_branches_of => k_is)
    (case k_branches_of => k_is)
    (case a_read_term => k_is)
    (case l_read_term => k_is)
    (case c_read_term => k_is)
    (case k_read_term => k_is)
    (case a_read_row => k_is)
    (case l_read_row => k_is)
    (case c_read_row => k_is)
    (case k_read_row => k_is)
    (case a_read_rows => k_is)
    (case l_read_rows => k_is)
    (case c_read_rows => k_is)
    (case k_read_rows => k_is)
    (case a_law_bag => k_is)
    (case l_law_bag => k_is)
    (case c_law_bag => k_is)
    (case k_law_bag => k_is)
    (case a_law_pull => k_is)
    (case l_law_pull => k_is)
    (case c_law_pull => k_is)
    (case k_law_pull => k_is)
    (case a_law_same => k_is)
    (case l_law_same => k_is)
    (case c_law_same => k_is)
    (case k_law_same => k_is)
    (case a_law_of => k_is)
    (case l_law_of => k_is)
    (case c_law_of => k_is)
    (case k_law_of => k_is)
    (case a_law_words => k_is)
    (case l_law_words => k_is)
    (case c_law_words => k_is)
    (case k_law_words => k_is)
    (case a_law_is_word => k_is)
    (case l_law_is_word => k_is)
    (case c_law_is_word => k_is)
    (case k_law_is_word => k_is)
    (case a_law_read => k_is)
    (case l_law_read => k_is)
    (case c_law_read => k_is)
    (case k_law_read => k_is)
    (case a_law_read_due => k_is)
    (case l_law_read_due => k_is)
    (case c_law_read_due => k_is)
    (case k_law_read_due => k_is)
    (case a_law => k_is)
    (case l_law => k_is)
    (case c_law => k_is)
    (case mt_law => exact PySem.W.km_tabs_of Y _ (.head _))
    (case ch_law => kernel_rfl)
    (case np_law => kernel_rfl)
    (case k_law => k_is)
    (case a_law_why => k_is)
    (case l_law_why => k_is)
    (case c_law_why => k_is)
    (case k_law_why => k_is)
    (case gc_LETTERS => k_is)
    (case gc_WORD => k_is)
    (case gc_BRANCHES => k_is)
    (case gc_ROWS => k_is)
    (case gc_SIGNS => k_is)
    (case gc_DEEP => k_is)
    (case z_abs => k_is)
    (case z_all => k_is)
    (case z_bool => k_is)
    (case z_enumerate => k_is)
    (case z_int => k_is)
    (case z_isinstance => k_is)
    (case z_len => k_is)
    (case z_list => k_is)
    (case z_max => k_is)
    (case z_range => k_is)
    (case z_set => k_is)
    (case z_str => k_is)
    (case z_tuple => k_is)
    (case z_zip => k_is)
    (case a_BadTerm => k_is)
    (case xl_BadTerm => k_is)
    (case rv_BadTerm => decide +kernel)
    (case sa_BadTerm => k_is)
    (case i_BadTerm => k_is)
    (case ti_BadTerm => k_is)
    (case l_BadTerm => k_is)
    (case c_BadTerm => k_is)
    (case k_BadTerm => k_is)
    (case kC_BadTerm => k_is)
    (case eC_BadTerm => k_is)
    (case tC_BadTerm => k_is)
    (case w_word_BadTerm => k_is)
    (case a_BadRows => k_is)
    (case xl_BadRows => k_is)
    (case rv_BadRows => decide +kernel)
    (case sa_BadRows => k_is)
    (case i_BadRows => k_is)
    (case ti_BadRows => k_is)
    (case l_BadRows => k_is)
    (case c_BadRows => k_is)
    (case k_BadRows => k_is)
    (case kC_BadRows => k_is)
    (case eC_BadRows => k_is)
    (case tC_BadRows => k_is)
    (case w_word_BadRows => k_is)
    (case w_row_BadRows => k_is)
    (case a_BoughError => k_is)
    (case eC_BoughError => k_is)
    (case tC_BoughError => k_is)
    (case ic_BadTerm => k_is)
    (case ic_BoughError => k_is)
    (case s_BadTerm_BadTerm => k_is)
    (case ga_BadTerm => k_is)
    (case gg_BadTerm => k_is)
    (case hd_BadTerm => k_is)
    (case s_BadTerm_BoughError => k_is)
    (case s_BadRows_BoughError => k_is)
    (case ga_BadRows => k_is)
    (case gg_BadRows => k_is)
    (case hd_BadRows => k_is)

