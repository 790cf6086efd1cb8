import PyProof.Rows.All
import Wide.All
import OpenK.AllK
import Wide.FinOn
import KE.KStateDown
import Lean
import HandS.ForMost
import HandS.Defaults
import HandS.More
import HandS.IsInst
import HandS.TupAny
import HandS.TupMul
import HandS.TupLe
import HandS.Deep
import HandS.Zip
import HandS.Wide
import HandS.DictComp
import HandS.DictTup
import HandS.SortRule
import HandS.Flow
import HandS.Head0
import HandS.Head1
import HandS.Head2
import HandS.HeadEnd
import HandS.HeadHook1
import HandS.HeadHook2
import HandS.TupLen
import HandS.Conv
import KE.KDictZip
import KE.DatumOrd
import KE.KRevSl
import KE.GoesMore
import KE.GoesEnum
import PyProof.EnumMake
import HandS.Dict
import PyProof.WalksMore
import PyProof.TupleIter
import PyProof.StrOps2
import HandS.NoneIn
import PySem.Challenge.RW_hungstage_k59_whole_bound_joints_and_mor
set_option Elab.async false
set_option linter.all false
set_option maxRecDepth 100000
set_option autoImplicit false
set_option maxHeartbeats 0
/-! DL: tuple * int for a count of one or less. -/
namespace DL
open PySem PySem.Spec PyProof.Rows L2
theorem tuple_mul1 (l : Addr) (items : Array Value) (n : Nat) (dd : Option Addr) (sl : Array (Option Value)) (x : Int) (u : Tok) (c0 : (decide (x < -(2 ^ 63)) || decide (x ≥ 2 ^ 63)) = false) (c1 : (items.isEmpty || x == 1) = true) :
    Meets (Builtin.«tuple.__mul__» ⟨[.ref l, .int x u], []⟩) (fun _ R s => s.heap.get? l = some { cls := .type "tuple", dict := dd, data := .seq items n, slots := sl } ∧ R (.ok (.ret (Value.ref l))) s) :=
  .of_wp fun prog w A R s h => by
    obtain ⟨hp, g, d, tk, os⟩ := s
    obtain ⟨hl, h⟩ := h
    have f1 := AutoSeq1.idx_int
    wp_walk using wpAny_loadPart' hl
    repeat (first
      | (refine wpAny_ite_false (decide_eq_false (by rw [c0]; exact Bool.false_ne_true)) ?_; wp_walk using wpAny_loadPart' hl)
      | (refine wpAny_ite_true (decide_eq_true (by rw [c1])) ?_; wp_walk using wpAny_loadPart' hl))
    exact ⟨_, rfl, h⟩
theorem tuple_mul0 (l : Addr) (items : Array Value) (n : Nat) (dd : Option Addr) (sl : Array (Option Value)) (x : Int) (u : Tok) (c0 : (decide (x < -(2 ^ 63)) || decide (x ≥ 2 ^ 63)) = false) (c1 : (items.isEmpty || x == 1) = false) (c2 : (decide (x ≤ 0) || items.isEmpty) = true) :
    Meets (Builtin.«tuple.__mul__» ⟨[.ref l, .int x u], []⟩) (fun _ R s => s.heap.get? l = some { cls := .type "tuple", dict := dd, data := .seq items n, slots := sl } ∧
      R (.ok (.ret (Value.ref s.heap.objs.size))) { s with heap := s.heap.push { cls := Value.type "tuple", data := Data.seq #[] }, toks := s.toks }) :=
  .of_wp fun prog w A R s h => by
    obtain ⟨hp, g, d, tk, os⟩ := s
    obtain ⟨hl, h⟩ := h
    have f1 := AutoSeq1.idx_int
    wp_walk using wpAny_loadPart' hl
    repeat (first
      | (refine wpAny_ite_false (decide_eq_false (by rw [c0]; exact Bool.false_ne_true)) ?_; wp_walk using wpAny_loadPart' hl)
      | (refine wpAny_ite_false (decide_eq_false (by rw [c1]; exact Bool.false_ne_true)) ?_; wp_walk using wpAny_loadPart' hl)
      | (refine wpAny_ite_true (decide_eq_true (by rw [c2])) ?_; wp_walk using wpAny_loadPart' hl))
    exact ⟨_, rfl, h⟩
/-- tuple * 1, () * k: the tuple itself; * 0 and less: a new empty one -/
def rRepS (K : PySem.W.Frag) : R2 := fun x y H Q => ∃ l k xs, x = .ref l ∧ y = .int k ∧ SqT K H l xs ∧ k < 2 ^ 62 ∧ -(2 ^ 62) < k ∧
  (((xs = [] ∨ k = 1) ∧ Q (.ref l) H) ∨ (xs ≠ [] ∧ k ≤ 0 ∧ ∀ p, H p = none → Q (.ref p) (upd H p (.tup []))))
section
variable {X : Cx}
theorem op_repS : OpR X (binaryOp .Mult) (rRepS X.K) := by
  intro pins s σ H x y v u Q I rx ry h
  obtain ⟨l, k, xs, rfl, rfl, hT, h1, h2, h⟩ := h
  cases rx
  obtain ⟨t, rfl⟩ := ry
  obtain ⟨its, r, ⟨⟨cls, dd, data, sl⟩, ho, hc, n, hd⟩, hs⟩ := I.tuple hT
  simp only at hc hd
  subst hc hd
  have hle : its.length = xs.length := r.length.symm
  have c0 : (decide (k < -(2 ^ 63)) || decide (k ≥ 2 ^ 63)) = false := by
    rw [decide_eq_false (by omega), decide_eq_false (by omega)] <;> rfl
  rcases h with ⟨he, q⟩ | ⟨hne, hk, q⟩
  · have c1 : (its.toArray.isEmpty || k == 1) = true := by
      rcases he with he | he
      · have : its = [] := List.eq_nil_of_length_eq_zero (by rw [hle, he]; rfl)
        rw [this]; rfl
      · rw [he]; simp
    refine wpAny_binaryOp_repeat_ref (T := "tuple") (U := "int") (by decide) ⟨_, ho, rfl⟩ (fun s' => typeIs_int s' k t) noFill_tuple_mul F.fills_int_mul F.slot_int_rmul repeat_tuple F.slot_int_index.lookup
      (call_meets F.slot_int_rmul (typeIs_int s k t) F.entry_int_rmul (F.args_int_rmul_2 _ _) (int_rmul_tuple k t l its.toArray n dd sl)
        ⟨ho, rfl, ⟨_, ho, rfl⟩, call_meets F.slot_tuple_mul ⟨_, ho, rfl⟩ F.entry_tuple_mul (F.args_tuple_mul_2 _ _) (tuple_mul1 l its.toArray n dd sl k t c0 c1) ⟨ho, ?_⟩⟩)
    exact ⟨.ref l, H, I, rfl, q⟩
  · have hn : its ≠ [] := fun e => hne (by
      rw [e] at hle
      exact List.eq_nil_of_length_eq_zero hle.symm)
    have hi : its.toArray.isEmpty = false := by
      cases its with
      | nil => exact absurd rfl hn
      | cons a b => rfl
    have c1 : (its.toArray.isEmpty || k == 1) = false := by
      rw [hi, Bool.false_or]
      exact beq_eq_false_iff_ne.mpr (by omega)
    have c2 : (decide (k ≤ 0) || its.toArray.isEmpty) = true := by
      rw [decide_eq_true hk]; rfl
    refine wpAny_binaryOp_repeat_ref (T := "tuple") (U := "int") (by decide) ⟨_, ho, rfl⟩ (fun s' => typeIs_int s' k t) noFill_tuple_mul F.fills_int_mul F.slot_int_rmul repeat_tuple F.slot_int_index.lookup
      (call_meets F.slot_int_rmul (typeIs_int s k t) F.entry_int_rmul (F.args_int_rmul_2 _ _) (int_rmul_tuple k t l its.toArray n dd sl)
        ⟨ho, rfl, ⟨_, ho, rfl⟩, call_meets F.slot_tuple_mul ⟨_, ho, rfl⟩ F.entry_tuple_mul (F.args_tuple_mul_2 _ _) (tuple_mul0 l its.toArray n dd sl k t c0 c1 c2) ⟨ho, ?_⟩⟩)
    refine ⟨.ref s.heap.objs.size, _, I.laid (t' := s.toks) (o := .tup []) (fun b ob q => Heap.get?_push_of_some _ q) (Nat.le_refl _) ?_, rfl, q _ (I.hok.fresh (Nat.le_refl _))⟩
    exact ⟨Nat.zero_le _, [], .nil, IsTup.new _ _⟩
end
end DL

/-! DL: plain data over the layer HandS. -/
namespace DL
open PySem PySem.Spec PyProof.Rows L2

/-- plain data; scr: the script; hnd n: the n-th shared list; dk, dt: dicts with plain keys, with tuples of such -/
inductive D where
  | non | bl (b : Bool) | int (i : Int) | str (x : Str) | tup (xs : List D) | lst (xs : List D) | scr (ns : List Int) | hnd (n : Nat)
  | dk (kvs : List (Key × D)) | dt (kvs : List (List Key × D))

/-- whose a written object is: ext: a caller's, or one that is being made; slot i: the name's; shr n: shared -/
inductive Lb where
  | ext | slot (i : Nat) | shr (n : Nat)
abbrev Ow := Addr → Option Lb
def own (O : Ow) (a : Addr) (l : Option Lb) : Ow := fun b => if b = a then l else O b
theorem own_same {O : Ow} {a : Addr} {l : Option Lb} : own O a l a = l := by unfold own; rw [if_pos rfl]
theorem own_ne {O : Ow} {a b : Addr} {l : Option Lb} (h : b ≠ a) : own O a l b = O b := by unfold own; rw [if_neg h]

/-- a list that is never written: the script -/
def Scr (K : PySem.W.Frag) (H : Hp) (a : Addr) (xs : List V) : Prop := SqL K H a xs ∧ ((∃ o u, H a = some (.frz o u)) ∨ ∃ (o : Obj) (its : Array Value) (n : Nat), K.lookup a = some o ∧ o.cls = .type "list" ∧ o.dict = none ∧ o.data = .seq its n ∧ its.size ≤ sizeLine ∧ Vals xs its.toList)
section
variable (K : PySem.W.Frag) (O : Ow) (H : Hp)
mutual
/-- the value v stands for the data d; lists and dicts within are nobody's (they never change again) -/
def Rep (v : V) : D → Prop
  | .non => v = .non
  | .bl b => v = .bl b
  | .int i => v = .int i
  | .str x => v = .str x
  | .tup ds => ∃ a vs, v = .ref a ∧ H a = some (.tup vs) ∧ RepL vs ds
  | .lst ds => ∃ a vs, v = .ref a ∧ O a = none ∧ H a = some (.lst vs) ∧ RepL vs ds
  | .scr ns => ∃ a, v = .ref a ∧ Scr K H a (ns.map V.int)
  | .hnd n => ∃ a, v = .ref a ∧ O a = some (.shr n)
  | .dk kvs => ∃ a ks, v = .ref a ∧ O a = none ∧ Rd H a (.dK ks) ∧ RepK ks kvs
  | .dt kvs => ∃ a ks, v = .ref a ∧ O a = none ∧ Rd H a (.dT ks) ∧ RepT ks kvs
def RepL (vs : List V) : List D → Prop
  | [] => vs = []
  | d :: ds => ∃ v r, vs = v :: r ∧ Rep v d ∧ RepL r ds
def RepK (ks : List (Key × V)) : List (Key × D) → Prop
  | [] => ks = []
  | (k, d) :: ds => ∃ v r, ks = (k, v) :: r ∧ Rep v d ∧ RepK r ds
def RepT (ks : List (List Key × V)) : List (List Key × D) → Prop
  | [] => ks = []
  | (k, d) :: ds => ∃ v r, ks = (k, v) :: r ∧ Rep v d ∧ RepT r ds
end
end

/-- what data may lean on stays -/
structure Rx (O : Ow) (H : Hp) (O' : Ow) (H' : Hp) : Prop where
  keep : ∀ a o, H a = some o → O a = none → H' a = some o
  non : ∀ a, H a ≠ none → O a = none → O' a = none
  shr : ∀ a n, O a = some (.shr n) → O' a = some (.shr n)
  tup : ∀ a xs, H a = some (.tup xs) → H' a = some (.tup xs)
  frz : ∀ a o u, H a = some (.frz o u) → H' a = some (.frz o u)
/-- what stays from one state to a later one -/
structure Nx (O : Ow) (H : Hp) (O' : Ow) (H' : Hp) : Prop extends Rx O H O' H' where
  ext : ∀ a o, H a = some o → O a = some .ext → H' a = some o ∧ O' a = some .ext
  live : ∀ a, H a ≠ none → H' a ≠ none
/-- .. while an expression is reckoned: nor is a name's own object written -/
structure Ne (O : Ow) (H : Hp) (O' : Ow) (H' : Hp) : Prop extends Nx O H O' H' where
  slt : ∀ a i o, H a = some o → O a = some (.slot i) → H' a = some o ∧ (O' a = some (.slot i) ∨ O' a = none)
theorem Rx.refl {O : Ow} {H : Hp} : Rx O H O H := ⟨fun _ _ h _ => h, fun _ _ h => h, fun _ _ h => h, fun _ _ h => h, fun _ _ _ h => h⟩
theorem Nx.refl {O : Ow} {H : Hp} : Nx O H O H := ⟨Rx.refl, fun _ _ h n => ⟨h, n⟩, fun _ h => h⟩
theorem nn {H : Hp} {a : Addr} {o : HO} (h : H a = some o) : H a ≠ none := fun z => by rw [h] at z; cases z
theorem Nx.trans {O O1 O2 : Ow} {H H1 H2 : Hp} (a : Nx O H O1 H1) (b : Nx O1 H1 O2 H2) : Nx O H O2 H2 where
  keep := fun c o h n => b.keep c o (a.keep c o h n) (a.non c (nn h) n)
  non := fun c h n => b.non c (a.live c h) (a.non c h n)
  ext := fun c o h n => let ⟨h1, n1⟩ := a.ext c o h n; b.ext c o h1 n1
  shr := fun c n h => b.shr c n (a.shr c n h)
  live := fun c h => b.live c (a.live c h)
  tup := fun c xs h => b.tup c xs (a.tup c xs h)
  frz := fun c o u h => b.frz c o u (a.frz c o u h)
theorem Ne.refl {O : Ow} {H : Hp} : Ne O H O H := ⟨Nx.refl, fun _ _ _ h n => ⟨h, .inl n⟩⟩
theorem Ne.trans {O O1 O2 : Ow} {H H1 H2 : Hp} (a : Ne O H O1 H1) (b : Ne O1 H1 O2 H2) : Ne O H O2 H2 := ⟨a.toNx.trans b.toNx, fun c i o h n => by
  obtain ⟨h1, n1⟩ := a.slt c i o h n
  rcases n1 with n1 | n1
  · exact b.slt c i o h1 n1
  · exact ⟨b.keep c o h1 n1, .inr (b.non c (nn h1) n1)⟩⟩
theorem Rx.sqt {K : PySem.W.Frag} {O O' : Ow} {H H' : Hp} (x : Rx O H O' H') {a : Addr} {vs : List V} (h : SqT K H a vs) : SqT K H' a vs := by
  rcases h with (h | ⟨o, h⟩) | h
  · exact .inl (.inl (x.tup _ _ h))
  · exact .inl (.inr ⟨o, x.frz _ _ _ h⟩)
  · exact .inr h
theorem Rx.rd {O O' : Ow} {H H' : Hp} (x : Rx O H O' H') {a : Addr} {u : HO} (n : O a = none) (h : Rd H a u) : Rd H' a u ∧ O' a = none := by
  rcases h with h | ⟨o, h⟩
  · exact ⟨.inl (x.keep _ _ h n), x.non _ (nn h) n⟩
  · exact ⟨.inr ⟨o, x.keep _ _ h n⟩, x.non _ (nn h) n⟩
theorem Rx.scr {K : PySem.W.Frag} {O O' : Ow} {H H' : Hp} (x : Rx O H O' H') {a : Addr} {xs : List V} (h : Scr K H a xs) : Scr K H' a xs := by
  obtain ⟨h, g⟩ := h
  rcases g with ⟨o, u, g⟩ | g
  · refine ⟨?_, .inl ⟨o, u, x.frz _ _ _ g⟩⟩
    rcases h with (h | ⟨o2, h⟩) | h
    · rw [g] at h; cases h
    · exact .inl (.inr ⟨o2, x.frz _ _ _ h⟩)
    · exact .inr h
  · exact ⟨.inr g, .inr g⟩
section
variable {K : PySem.W.Frag} {O O' : Ow} {H H' : Hp}
mutual
theorem Rep.nx (x : Rx O H O' H') {v : V} : ∀ {d : D}, Rep K O H v d → Rep K O' H' v d
  | .non, h => h
  | .bl _, h => h
  | .int _, h => h
  | .str _, h => h
  | .tup ds, ⟨a, vs, e, h, r⟩ => ⟨a, vs, e, x.tup _ _ h, RepL.nx x r⟩
  | .lst ds, ⟨a, vs, e, n, h, r⟩ => ⟨a, vs, e, x.non _ (nn h) n, x.keep _ _ h n, RepL.nx x r⟩
  | .scr ns, ⟨a, e, h⟩ => ⟨a, e, x.scr h⟩
  | .hnd n, ⟨a, e, h⟩ => ⟨a, e, x.shr _ _ h⟩
  | .dk kvs, ⟨a, ks, e, n, h, r⟩ => ⟨a, ks, e, (x.rd n h).2, (x.rd n h).1, RepK.nx x r⟩
  | .dt kvs, ⟨a, ks, e, n, h, r⟩ => ⟨a, ks, e, (x.rd n h).2, (x.rd n h).1, RepT.nx x r⟩
theorem RepL.nx (x : Rx O H O' H') {vs : List V} : ∀ {ds : List D}, RepL K O H vs ds → RepL K O' H' vs ds
  | [], h => h
  | d :: ds, ⟨v, r, e, h, t⟩ => ⟨v, r, e, Rep.nx x h, RepL.nx x t⟩
theorem RepK.nx (x : Rx O H O' H') {ks : List (Key × V)} : ∀ {ds : List (Key × D)}, RepK K O H ks ds → RepK K O' H' ks ds
  | [], h => h
  | (k, d) :: ds, ⟨v, r, e, h, t⟩ => ⟨v, r, e, Rep.nx x h, RepK.nx x t⟩
theorem RepT.nx (x : Rx O H O' H') {ks : List (List Key × V)} : ∀ {ds : List (List Key × D)}, RepT K O H ks ds → RepT K O' H' ks ds
  | [], h => h
  | (k, d) :: ds, ⟨v, r, e, h, t⟩ => ⟨v, r, e, Rep.nx x h, RepT.nx x t⟩
end
theorem RepL.length : ∀ {ds : List D} {vs : List V}, RepL K O H vs ds → vs.length = ds.length
  | [], _, h => by rw [show _ = [] from h]; rfl
  | d :: ds, _, ⟨v, r, e, _, t⟩ => by rw [e, List.length_cons, List.length_cons, RepL.length t]
theorem RepL.get : ∀ {ds : List D} {vs : List V} {i : Nat} {d : D}, RepL K O H vs ds → ds[i]? = some d → ∃ v, vs[i]? = some v ∧ Rep K O H v d
  | [], _, _, _, _, q => by simp at q
  | d :: ds, _, 0, _, ⟨v, r, e, h, t⟩, q => by simp at q; subst q; exact ⟨v, by rw [e]; rfl, h⟩
  | d :: ds, _, i + 1, _, ⟨v, r, e, h, t⟩, q => by
    obtain ⟨u, h1, h2⟩ := RepL.get (i := i) t (by simpa using q)
    exact ⟨u, by rw [e]; simpa using h1, h2⟩
theorem RepL.append : ∀ {ds es : List D} {vs us : List V}, RepL K O H vs ds → RepL K O H us es → RepL K O H (vs ++ us) (ds ++ es)
  | [], _, _, _, h, g => by rw [show _ = [] from h]; exact g
  | d :: ds, _, _, _, ⟨v, r, e, h, t⟩, g => ⟨v, r ++ _, by rw [e]; rfl, h, RepL.append t g⟩
theorem RepL.drop : ∀ {ds : List D} {vs : List V} (n : Nat), RepL K O H vs ds → RepL K O H (vs.drop n) (ds.drop n)
  | _, _, 0, h => h
  | [], _, n + 1, h => by rw [show _ = [] from h]; rfl
  | d :: ds, _, n + 1, ⟨v, r, e, h, t⟩ => by rw [e]; exact RepL.drop n t
theorem RepL.take : ∀ {ds : List D} {vs : List V} (n : Nat), RepL K O H vs ds → RepL K O H (vs.take n) (ds.take n)
  | _, _, 0, h => rfl
  | [], _, n + 1, h => by rw [show _ = [] from h]; rfl
  | d :: ds, _, n + 1, ⟨v, r, e, h, t⟩ => by rw [e]; exact ⟨v, _, rfl, h, RepL.take n t⟩
theorem RepL.set {v : V} {d : D} (g : Rep K O H v d) : ∀ {ds : List D} {vs : List V} (i : Nat), RepL K O H vs ds → RepL K O H (vs.set i v) (ds.set i d)
  | [], _, _, h => by rw [show _ = [] from h]; rfl
  | d' :: ds, _, 0, ⟨u, r, e, h, t⟩ => by rw [e]; exact ⟨v, r, rfl, g, t⟩
  | d' :: ds, _, i + 1, ⟨u, r, e, h, t⟩ => by rw [e]; exact ⟨u, _, rfl, h, RepL.set g i t⟩
theorem RepL.ints : ∀ {ns : List Int} {vs : List V}, RepL K O H vs (ns.map D.int) → vs = ns.map V.int
  | [], _, h => h
  | n :: ns, _, ⟨v, r, e, h, t⟩ => by rw [e, show v = V.int n from h, RepL.ints t]; rfl
theorem RepL.of_ints : ∀ {ns : List Int}, RepL K O H (ns.map V.int) (ns.map D.int)
  | [] => rfl
  | n :: ns => ⟨_, _, rfl, rfl, RepL.of_ints⟩
theorem RepL.bls : ∀ {ns : List Bool} {vs : List V}, RepL K O H vs (ns.map D.bl) → vs = ns.map V.bl
  | [], _, h => h
  | n :: ns, _, ⟨v, r, e, h, t⟩ => by rw [e, show v = V.bl n from h, RepL.bls t]; rfl
end

/-- what a name holds: nothing that is known; data; a written list of its own; a written list of written lists of its own; a written dict of its own -/
inductive Sl where
  | un | im (d : D) | m1 (ds : List D) | m2 (dss : List (List D)) | mk (kvs : List (Key × D)) | mt (kvs : List (List Key × D))
abbrev Gs := List (List D)

section
variable (K : PySem.W.Frag) (O : Ow) (H : Hp)
/-- the written object at a, all that is written of it told by P -/
def Own (P : Addr → Prop) (a : Addr) : Sl → Prop
  | .un => False
  | .im _ => False
  | .m1 ds => P a ∧ ∃ vs, H a = some (.lst vs) ∧ RepL K O H vs ds
  | .m2 dss => P a ∧ ∃ as : List Addr, H a = some (.lst (as.map V.ref)) ∧ as.Nodup ∧ ¬ a ∈ as ∧ Paired (fun b ds => P b ∧ ∃ vs, H b = some (.lst vs) ∧ RepL K O H vs ds) as dss
  | .mk kvs => P a ∧ ∃ ks, H a = some (.dK ks) ∧ RepK K O H ks kvs
  | .mt kvs => P a ∧ ∃ ks, H a = some (.dT ks) ∧ RepT K O H ks kvs
abbrev Is (l : Lb) (b : Addr) : Prop := O b = some l
def SlOk (i : Nat) (v : Option (Option V)) : Sl → Prop
  | .un => True
  | .im d => ∃ x, v = some (some x) ∧ Rep K O H x d
  | s => ∃ a, v = some (some (.ref a)) ∧ Own K O H (Is O (.slot i)) a s
/-- the shared lists; owned objects are there -/
structure GR (G : Gs) : Prop where
  shr : ∀ n ds, G[n]? = some ds → ∃ a vs, O a = some (.shr n) ∧ H a = some (.lst vs) ∧ RepL K O H vs ds
  inj : ∀ n a b, O a = some (.shr n) → O b = some (.shr n) → a = b
  up : ∀ a n, O a = some (.shr n) → n < G.length
  live : ∀ a l, O a = some l → Mut (H a)
structure SR (σ : L2.St) (ρ : List Sl) (G : Gs) : Prop extends GR K O H G where
  len : σ.length = ρ.length
  slot : ∀ i s, ρ[i]? = some s → SlOk K O H i σ[i]? s
end
section
variable {K : PySem.W.Frag} {O O' : Ow} {H H' : Hp} {G : Gs} {σ : L2.St} {ρ : List Sl} {a p : Addr} {o : HO}
theorem mut_not {o : HO} (m : Mut (some o)) : (∀ xs, o ≠ .tup xs) ∧ (∀ ob u, o ≠ .frz ob u) := by
  constructor
  · intro xs e; subst e; exact m
  · intro ob u e; subst e; exact m
theorem GR.free (g : GR K O H G) (h : H p = none) : O p = none := by
  cases e : O p with
  | none => rfl
  | some l => have := g.live p l e; rw [h] at this; exact this.elim
/-- a new object, nobody's -/
theorem nx_new (h : H p = none) : Ne O H O (upd H p o) := by
  have ne : ∀ b u, H b = some u → b ≠ p := fun b u e z => by rw [z, h] at e; cases e
  refine ⟨⟨⟨fun a u e n => by rw [upd_ne (ne a u e)]; exact e, fun _ _ n => n, fun _ _ n => n, fun a xs e => by rw [upd_ne (ne a _ e)]; exact e, fun a _ _ e => by rw [upd_ne (ne a _ e)]; exact e⟩, fun a u e n => ⟨by rw [upd_ne (ne a u e)]; exact e, n⟩, fun a e => ?_⟩, fun a i u e n => ⟨by rw [upd_ne (ne a u e)]; exact e, .inl n⟩⟩
  by_cases z : a = p
  · rw [z, upd_same]; exact fun q => nomatch q
  · rw [upd_ne z]; exact e
/-- a new object, someone's -/
theorem nx_newO {l : Lb} (h : H p = none) (f : O p = none) : Ne O H (own O p (some l)) (upd H p o) := by
  have ne : ∀ b u, H b = some u → b ≠ p := fun b u e z => by rw [z, h] at e; cases e
  refine ⟨⟨⟨fun a u e n => by rw [upd_ne (ne a u e)]; exact e, fun a e n => ?_, fun a n e => ?_, fun a xs e => by rw [upd_ne (ne a _ e)]; exact e, fun a _ _ e => by rw [upd_ne (ne a _ e)]; exact e⟩, fun a u e n => ⟨by rw [upd_ne (ne a u e)]; exact e, by rw [own_ne (ne a u e)]; exact n⟩, fun a e => ?_⟩, fun a i u e n => ⟨by rw [upd_ne (ne a u e)]; exact e, .inl (by rw [own_ne (ne a u e)]; exact n)⟩⟩
  · rw [own_ne (fun z => e (by rw [z]; exact h))]; exact n
  · rw [own_ne (fun z => by rw [z, f] at e; cases e)]; exact e
  · by_cases z : a = p
    · rw [z, upd_same]; exact fun q => nomatch q
    · rw [upd_ne z]; exact e
/-- an owned object is written -/
theorem rx_wr {l : Lb} (m : Mut (H a)) (f : O a = some l) : Rx O H O (upd H a o) := by
  have ne : ∀ b u, H b = some u → ¬ Mut (some u) → b ≠ a := fun b u e nm z => by rw [z] at e; rw [e] at m; exact nm m
  refine ⟨fun b u e n => ?_, fun _ _ n => n, fun _ _ n => n, fun b xs e => by rw [upd_ne (ne b _ e fun z => z)]; exact e, fun b _ _ e => by rw [upd_ne (ne b _ e fun z => z)]; exact e⟩
  rw [upd_ne (fun z => by rw [z, f] at n; cases n)]; exact e
theorem nx_wr {l : Lb} (m : Mut (H a)) (f : O a = some l) (hl : l ≠ .ext) : Nx O H O (upd H a o) := by
  refine ⟨rx_wr m f, fun b u e n => ⟨?_, n⟩, fun b e => ?_⟩
  · rw [upd_ne (fun z => by rw [z, f] at n; exact hl (Option.some.inj n))]; exact e
  · by_cases z : b = a
    · rw [z, upd_same]; exact fun q => nomatch q
    · rw [upd_ne z]; exact e
open Classical in
/-- all of P come to be l's -/
noncomputable def rel (O : Ow) (P : Addr → Prop) (l : Option Lb) : Ow := fun b => if P b then l else O b
theorem rel_in {P : Addr → Prop} {l : Option Lb} (h : P a) : rel O P l a = l := by unfold rel; rw [if_pos h]
theorem rel_out {P : Addr → Prop} {l : Option Lb} (h : ¬ P a) : rel O P l a = O a := by unfold rel; rw [if_neg h]
/-- owned objects come to be nobody's, or another's (not shared ones) -/
theorem rx_rel {P : Addr → Prop} {l : Option Lb} (hp : ∀ b, P b → O b ≠ none ∧ ∀ n, O b ≠ some (.shr n)) : Rx O H (rel O P l) H := by
  refine ⟨fun _ _ e _ => e, fun b e n => ?_, fun b n e => ?_, fun _ _ e => e, fun _ _ _ e => e⟩
  · rw [rel_out (fun z => (hp b z).1 n)]; exact n
  · rw [rel_out (fun z => (hp b z).2 n e)]; exact e
theorem nx_rel {i : Nat} : Ne O H (rel O (Is O (.slot i)) none) H := by
  refine ⟨⟨rx_rel fun b h => ⟨fun z => (by rw [show O b = _ from h] at z; cases z), fun n z => (by rw [show O b = _ from h] at z; cases z)⟩, fun b u e n => ⟨e, ?_⟩, fun _ e => e⟩, fun b j u e n => ⟨e, ?_⟩⟩
  · rw [rel_out (fun z => by rw [show O b = _ from z] at n; cases n)]; exact n
  · by_cases z : Is O (.slot i) b
    · exact .inr (rel_in z)
    · exact .inl (by rw [rel_out z]; exact n)
theorem Own.mono {P P' : Addr → Prop} {s : Sl} (x : Rx O H O' H') (h : ∀ b, P b → P' b ∧ H' b = H b) (w : Own K O H P a s) : Own K O' H' P' a s := by
  cases s with
  | un => exact w
  | im d => exact w
  | m1 ds =>
    obtain ⟨p, vs, e, r⟩ := w
    exact ⟨(h a p).1, vs, by rw [(h a p).2]; exact e, RepL.nx x r⟩
  | m2 dss =>
    obtain ⟨p, as, e, nd, na, r⟩ := w
    refine ⟨(h a p).1, as, by rw [(h a p).2]; exact e, nd, na, Paired.mapP r fun b ds z => ?_⟩
    obtain ⟨q, vs, e, r⟩ := z
    exact ⟨(h b q).1, vs, by rw [(h b q).2]; exact e, RepL.nx x r⟩
  | mk kvs =>
    obtain ⟨p, ks, e, r⟩ := w
    exact ⟨(h a p).1, ks, by rw [(h a p).2]; exact e, RepK.nx x r⟩
  | mt kvs =>
    obtain ⟨p, ks, e, r⟩ := w
    exact ⟨(h a p).1, ks, by rw [(h a p).2]; exact e, RepT.nx x r⟩
theorem SlOk.mono {i : Nat} {v : Option (Option V)} {s : Sl} (x : Rx O H O' H') (h : ∀ b, O b = some (.slot i) → O' b = some (.slot i) ∧ H' b = H b) (w : SlOk K O H i v s) : SlOk K O' H' i v s := by
  cases s with
  | un => exact w
  | im d => obtain ⟨y, e, r⟩ := w; exact ⟨y, e, Rep.nx x r⟩
  | m1 ds => obtain ⟨b, e, r⟩ := w; exact ⟨b, e, Own.mono x h r⟩
  | m2 ds => obtain ⟨b, e, r⟩ := w; exact ⟨b, e, Own.mono x h r⟩
  | mk ds => obtain ⟨b, e, r⟩ := w; exact ⟨b, e, Own.mono x h r⟩
  | mt ds => obtain ⟨b, e, r⟩ := w; exact ⟨b, e, Own.mono x h r⟩
/-- the written object as plain data -/
def Sl.d : Sl → D
  | .un => .non
  | .im d => d
  | .m1 ds => .lst ds
  | .m2 dss => .lst (dss.map D.lst)
  | .mk kvs => .dk kvs
  | .mt kvs => .dt kvs
/-- let go of: it is never written again -/
theorem Own.rep {P : Addr → Prop} {s : Sl} (x : Rx O H O' H') (h : ∀ b, P b → O' b = none ∧ H' b = H b) (w : Own K O H P a s) : Rep K O' H' (.ref a) s.d := by
  cases s with
  | un => exact w.elim
  | im d => exact w.elim
  | m1 ds =>
    obtain ⟨p, vs, e, r⟩ := w
    exact ⟨a, vs, rfl, (h a p).1, by rw [(h a p).2]; exact e, RepL.nx x r⟩
  | m2 dss =>
    obtain ⟨p, as, e, nd, na, r⟩ := w
    refine ⟨a, as.map V.ref, rfl, (h a p).1, by rw [(h a p).2]; exact e, ?_⟩
    clear nd na e
    induction r with
    | nil => exact rfl
    | cons z t ih =>
      obtain ⟨q, vs, e, r⟩ := z
      exact ⟨_, _, rfl, ⟨_, vs, rfl, (h _ q).1, by rw [(h _ q).2]; exact e, RepL.nx x r⟩, ih⟩
  | mk kvs =>
    obtain ⟨p, ks, e, r⟩ := w
    exact ⟨a, ks, rfl, (h a p).1, .inl (by rw [(h a p).2]; exact e), RepK.nx x r⟩
  | mt kvs =>
    obtain ⟨p, ks, e, r⟩ := w
    exact ⟨a, ks, rfl, (h a p).1, .inl (by rw [(h a p).2]; exact e), RepT.nx x r⟩
theorem GR.mono (g : GR K O H G) (x : Rx O H O' H') (hg : ∀ b n, O b = some (.shr n) → H' b = H b) (hb : ∀ b n, O' b = some (.shr n) → O b = some (.shr n)) (hl : ∀ b l, O' b = some l → Mut (H' b)) : GR K O' H' G :=
  ⟨fun n ds e => let ⟨a, vs, h1, h2, h3⟩ := g.shr n ds e; ⟨a, vs, x.shr _ _ h1, by rw [hg _ _ h1]; exact h2, RepL.nx x h3⟩, fun n a b h1 h2 => g.inj n a b (hb _ _ h1) (hb _ _ h2), fun a n h => g.up a n (hb _ _ h), hl⟩
/-- all slots as they were -/
theorem SR.keep (s : SR K O H σ ρ G) (x : Rx O H O' H') (hs : ∀ b j, O b = some (.slot j) → O' b = some (.slot j) ∧ H' b = H b) (hg : ∀ b n, O b = some (.shr n) → H' b = H b)
    (hb : ∀ b n, O' b = some (.shr n) → O b = some (.shr n)) (hl : ∀ b l, O' b = some l → Mut (H' b)) : SR K O' H' σ ρ G :=
  ⟨s.toGR.mono x hg hb hl, s.len, fun i sl e => (s.slot i sl e).mono x fun b => hs b i⟩
/-- one slot turned -/
theorem SR.chg (s : SR K O H σ ρ G) (x : Rx O H O' H') {i : Nat} (hs : ∀ b j, j ≠ i → O b = some (.slot j) → O' b = some (.slot j) ∧ H' b = H b) (hg : ∀ b n, O b = some (.shr n) → H' b = H b)
    (hb : ∀ b n, O' b = some (.shr n) → O b = some (.shr n)) (hl : ∀ b l, O' b = some l → Mut (H' b)) {σ' : L2.St} (hσ : σ'.length = σ.length) (hne : ∀ j, j ≠ i → σ'[j]? = σ[j]?) {s' : Sl} (ok : SlOk K O' H' i σ'[i]? s') : SR K O' H' σ' (ρ.set i s') G := by
  refine ⟨s.toGR.mono x hg hb hl, by rw [hσ, s.len, List.length_set], fun j sl e => ?_⟩
  by_cases hj : j = i
  · subst hj
    by_cases hlt : j < ρ.length
    · rw [List.getElem?_set_self hlt] at e
      cases e
      exact ok
    · rw [List.getElem?_eq_none_iff.mpr (by rw [List.length_set]; omega)] at e
      cases e
  · rw [List.getElem?_set_ne (Ne.symm hj)] at e
    rw [hne j hj]
    exact (s.slot j sl e).mono x fun b => hs b j hj
theorem SR.new (s : SR K O H σ ρ G) (h : H p = none) : SR K O (upd H p o) σ ρ G := by
  have ne : ∀ b l, O b = some l → b ≠ p := fun b l e z => by rw [z, s.toGR.free h] at e; cases e
  refine s.keep (nx_new h).toRx (fun b j e => ⟨e, upd_ne (ne b _ e)⟩) (fun b n e => upd_ne (ne b _ e)) (fun _ _ e => e) fun b l e => ?_
  rw [upd_ne (ne b _ e)]; exact s.live b l e
theorem SR.newO (s : SR K O H σ ρ G) (h : H p = none) (m : Mut (some o)) : SR K (own O p (some .ext)) (upd H p o) σ ρ G := by
  have ne : ∀ b l, O b = some l → b ≠ p := fun b l e z => by rw [z, s.toGR.free h] at e; cases e
  refine s.keep (nx_newO h (s.toGR.free h)).toRx (fun b j e => ⟨by rw [own_ne (ne b _ e)]; exact e, upd_ne (ne b _ e)⟩) (fun b n e => upd_ne (ne b _ e)) (fun b n e => ?_) fun b l e => ?_
  · by_cases z : b = p
    · rw [z, own_same] at e; cases e
    · rw [own_ne z] at e; exact e
  · by_cases z : b = p
    · rw [z, upd_same]; exact m
    · rw [own_ne z] at e; rw [upd_ne z]; exact s.live b l e
/-- a name holds other data -/
theorem SR.put (s : SR K O H σ ρ G) {i : Nat} {v : V} {d : D} (r : Rep K O H v d) (hi : i < σ.length) : SR K O H (σ.set i (some v)) (ρ.set i (.im d)) G :=
  s.chg Rx.refl (fun _ _ _ e => ⟨e, rfl⟩) (fun _ _ _ => rfl) (fun _ _ e => e) (fun b l e => s.live b l e) (by rw [List.length_set]) (fun j hj => List.getElem?_set_ne (Ne.symm hj)) ⟨v, by rw [List.getElem?_set_self hi], r⟩
/-- a name is given what is new -/
theorem SR.give (s : SR K O H σ ρ G) {i : Nat} {P : Addr → Prop} {sl : Sl} (hP : ∀ b, P b → O b = some .ext) (w : Own K O H P a sl) (hi : i < σ.length) :
    SR K (rel O P (some (.slot i))) H (σ.set i (some (.ref a))) (ρ.set i sl) G := by
  have x : Rx O H (rel O P (some (.slot i))) H := rx_rel fun b h => ⟨fun z => (by rw [hP b h] at z; cases z), fun n z => (by rw [hP b h] at z; cases z)⟩
  refine s.chg x (fun b j _ e => ⟨by rw [rel_out (fun z => by rw [hP b z] at e; cases e)]; exact e, rfl⟩) (fun _ _ _ => rfl) (fun b n e => ?_) (fun b l e => ?_) (by rw [List.length_set]) (fun j hj => List.getElem?_set_ne (Ne.symm hj)) ?_
  · by_cases z : P b
    · rw [rel_in z] at e; cases e
    · rw [rel_out z] at e; exact e
  · by_cases z : P b
    · exact s.live b _ (hP b z)
    · rw [rel_out z] at e; exact s.live b l e
  · have w' := Own.mono (P' := Is (rel O P (some (.slot i))) (.slot i)) x (fun b h => ⟨rel_in h, rfl⟩) w
    cases sl with
    | un => exact w.elim
    | im d => exact w.elim
    | _ => exact ⟨a, by rw [List.getElem?_set_self hi], w'⟩
/-- a name's own object is let go of -/
theorem SR.let_go (s : SR K O H σ ρ G) {i : Nat} {sl : Sl} (e : ρ[i]? = some sl) (ne : ∃ a, σ[i]? = some (some (.ref a)) ∧ Own K O H (Is O (.slot i)) a sl) :
    SR K (rel O (Is O (.slot i)) none) H σ (ρ.set i (.im sl.d)) G ∧ ∃ a, σ[i]? = some (some (.ref a)) ∧ Rep K (rel O (Is O (.slot i)) none) H (.ref a) sl.d := by
  obtain ⟨a, ea, w⟩ := ne
  have x : Rx O H (rel O (Is O (.slot i)) none) H := (nx_rel (H := H)).toRx
  have r := Own.rep x (fun b h => ⟨rel_in h, rfl⟩) w
  refine ⟨s.chg x (fun b j hj e => ⟨by rw [rel_out (fun z => by rw [show O b = _ from z] at e; cases e; exact hj rfl)]; exact e, rfl⟩) (fun _ _ _ => rfl) (fun b n e => ?_) (fun b l e => ?_) rfl (fun _ _ => rfl) ⟨_, ea, r⟩, a, ea, r⟩
  · by_cases z : Is O (.slot i) b
    · rw [rel_in z] at e; cases e
    · rw [rel_out z] at e; exact e
  · by_cases z : Is O (.slot i) b
    · rw [rel_in z] at e; cases e
    · rw [rel_out z] at e; exact s.live b l e
/-- a name's own object is written -/
theorem SR.wr (s : SR K O H σ ρ G) {i : Nat} {sl : Sl} {o : HO} {b : Addr} (hb : O b = some (.slot i)) (mo : Mut (some o)) (ok : SlOk K O (upd H b o) i σ[i]? sl) : SR K O (upd H b o) σ (ρ.set i sl) G := by
  have m := s.live _ _ hb
  refine s.chg (rx_wr m hb) (fun c j hj e => ⟨e, upd_ne (fun z => by rw [z, hb] at e; cases e; exact hj rfl)⟩) (fun c n e => upd_ne (fun z => by rw [z, hb] at e; cases e)) (fun _ _ e => e) (fun c l e => ?_) rfl (fun _ _ => rfl) ok
  by_cases z : c = b
  · rw [z, upd_same]; exact mo
  · rw [upd_ne z]; exact s.live c l e
/-- a shared list is written -/
theorem SR.wrG (s : SR K O H σ ρ G) {n : Nat} {vs : List V} {ds : List D} {b : Addr} (hb : O b = some (.shr n)) (r : RepL K O H vs ds) : SR K O (upd H b (.lst vs)) σ ρ (G.set n ds) := by
  have m := s.live _ _ hb
  have x : Rx O H O (upd H b (.lst vs)) := rx_wr m hb
  have hn := s.up b n hb
  refine ⟨⟨fun k es e => ?_, s.inj, fun a k h => by rw [List.length_set]; exact s.up a k h, fun c l e => ?_⟩, s.len, fun i sl e => (s.slot i sl e).mono x fun c h => ⟨h, upd_ne (fun z => by rw [z, hb] at h; cases h)⟩⟩
  · by_cases hk : k = n
    · subst hk
      rw [List.getElem?_set_self hn] at e
      cases e
      exact ⟨b, vs, hb, upd_same, RepL.nx x r⟩
    · rw [List.getElem?_set_ne (Ne.symm hk)] at e
      obtain ⟨a, ws, h1, h2, h3⟩ := s.shr k es e
      exact ⟨a, ws, h1, by rw [upd_ne (fun z => by rw [z, hb] at h1; cases h1; exact hk rfl)]; exact h2, RepL.nx x h3⟩
  · by_cases z : c = b
    · rw [z, upd_same]; exact trivial
    · rw [upd_ne z]; exact s.live c l e
end
end DL

/-! DL: readings by an evaluator over plain data. -/
namespace DL
open PySem PySem.Spec PyProof.Rows L2

abbrev Sm (α : Type) := List Sl → Gs → Option (α × List Sl × Gs)
abbrev SE := Sm D
abbrev SB := Sm Bool
abbrev SA := Sm (List D)
abbrev SF := Sm Sl
def bnd {α β : Type} (a : Sm α) (f : α → Sm β) : Sm β := fun ρ G => match a ρ G with
  | none => none
  | some (d, ρ1, G1) => f d ρ1 G1
def ret {α : Type} (d : α) : Sm α := fun ρ G => some (d, ρ, G)
def lft {α : Type} (o : Option α) : Sm α := fun ρ G => match o with
  | none => none
  | some d => some (d, ρ, G)
theorem lft_eq {α : Type} {o : Option α} {ρ ρ' : List Sl} {G G' : Gs} {d : α} (h : lft o ρ G = some (d, ρ', G')) : o = some d ∧ ρ' = ρ ∧ G' = G := by
  unfold lft at h
  cases o with
  | none => cases h
  | some x => cases h; exact ⟨rfl, rfl, rfl⟩
theorem bnd_eq {α β : Type} {a : Sm α} {f : α → Sm β} {ρ : List Sl} {G : Gs} {r : β × List Sl × Gs} (h : bnd a f ρ G = some r) : ∃ d ρ1 G1, a ρ G = some (d, ρ1, G1) ∧ f d ρ1 G1 = some r := by
  unfold bnd at h
  cases q : a ρ G with
  | none => rw [q] at h; cases h
  | some p => obtain ⟨d, ρ1, G1⟩ := p; rw [q] at h; exact ⟨d, ρ1, G1, rfl, h⟩

section
variable (K : PySem.W.Frag)
def tD (m : SE) : TE := fun σ H Q => ∃ O ρ G d ρ' G', SR K O H σ ρ G ∧ m ρ G = some (d, ρ', G') ∧ ∀ v O' H', Ne O H O' H' → SR K O' H' σ ρ' G' → Rep K O' H' v d → Q v H'
def tQ (m : SB) : TT := fun σ H Q => ∃ O ρ G b ρ' G', SR K O H σ ρ G ∧ m ρ G = some (b, ρ', G') ∧ ∀ O' H', Ne O H O' H' → SR K O' H' σ ρ' G' → Q b H'
def tL (m : SA) : TA := fun σ H Q => ∃ O ρ G ds ρ' G', SR K O H σ ρ G ∧ m ρ G = some (ds, ρ', G') ∧ ∀ vs O' H', Ne O H O' H' → SR K O' H' σ ρ' G' → RepL K O' H' vs ds → Q vs H'
/-- what is new since H -/
abbrev New (O' : Ow) (H : Hp) (b : Addr) : Prop := O' b = some .ext ∧ H b = none
def tN (m : SF) : TE := fun σ H Q => ∃ O ρ G sl ρ' G', SR K O H σ ρ G ∧ m ρ G = some (sl, ρ', G') ∧ ∀ a O' H', Ne O H O' H' → SR K O' H' σ ρ' G' → Own K O' H' (New O' H) a sl → Q (.ref a) H'
/-- what a walk gives, turn by turn -/
def ItOk (J : It) (ds : List D) (O1 : Ow) (H1 : Hp) : Prop := ∀ O H, Nx O1 H1 O H →
  (∀ i d, ds[i]? = some d → J.go i H ∧ ∀ x H', J.yld i H x H' → Ne O H O H' ∧ (∀ σ ρ G, SR K O H σ ρ G → SR K O H' σ ρ G) ∧ Rep K O H' x d) ∧ J.stop ds.length H
def tI (m : SA) : TI := fun σ H R => ∃ O ρ G ds ρ' G', SR K O H σ ρ G ∧ m ρ G = some (ds, ρ', G') ∧ ∀ J O' H', Ne O H O' H' → SR K O' H' σ ρ' G' → ItOk K J ds O' H' → R J H'
abbrev SG := D → List Sl → Option (List Sl)
def tG (ts : List Nat) (m : SG) : TG := fun v σ H Q => ∃ O ρ G d ρ', SR K O H σ ρ G ∧ Rep K O H v d ∧ m d ρ = some ρ' ∧ ∀ σ' O' H', Ne O H O' H' → SR K O' H' σ' ρ' G → (σ'.length = σ.length ∧ ∀ j, ¬ j ∈ ts → σ'[j]? = σ[j]?) → Q σ' H'
inductive Fl where
  | nx (ρ : List Sl) | rt (d : D) | bk (ρ : List Sl) | ct (ρ : List Sl)
abbrev SS := List Sl → Gs → Option (Fl × Gs)
def Reach (D : Ends) (O : Ow) (H : Hp) : Fl → Gs → Prop
  | .nx ρ', G' => ∀ σ' O' H', Nx O H O' H' → SR K O' H' σ' ρ' G' → D.nx σ' H'
  | .rt d, G' => ∀ v O' H', Nx O H O' H' → GR K O' H' G' → Rep K O' H' v d → D.rt v H'
  | .bk ρ', G' => ∀ σ' O' H', Nx O H O' H' → SR K O' H' σ' ρ' G' → D.bk σ' H'
  | .ct ρ', G' => ∀ σ' O' H', Nx O H O' H' → SR K O' H' σ' ρ' G' → D.ct σ' H'
def tS (m : SS) : TS := fun D σ H => ∃ O ρ G r G', SR K O H σ ρ G ∧ m ρ G = some (r, G') ∧ Reach K D O H r G'
end
abbrev DE (X : Cx) (e : Expr) (m : SE) : Prop := PE X e (tD X.K m)
abbrev DT (X : Cx) (e : Expr) (m : SB) : Prop := PT X e (tQ X.K m)
abbrev DW (X : Cx) (e : Expr) (m : SB) : Prop := PW X e (tQ X.K m)
abbrev DA (X : Cx) (es : List Expr) (m : SA) : Prop := PA X es (tL X.K m)
abbrev DN (X : Cx) (e : Expr) (m : SF) : Prop := PE X e (tN X.K m)
abbrev DI (X : Cx) (tg e : Expr) (m : SA) : Prop := PI X tg e (tI X.K m)
abbrev DG (X : Cx) (tg : Expr) (ts : List Nat) (m : SG) : Prop := PG X tg (tG X.K ts m)
abbrev DS (X : Cx) (st : Stmt) (m : SS) : Prop := PS X st (tS X.K m)
abbrev DB (X : Cx) (st : List Stmt) (m : SS) : Prop := PSs X st (tS X.K m)

section
variable {X : Cx}
theorem _root_.L2.PE.imp {e : Expr} {t t' : TE} (h : PE X e t) (w : ∀ σ H Q, t' σ H Q → t σ H Q) : PE X e t' := ⟨fun pins s σ H Q I q => h.run pins s σ H Q I (w σ H Q q)⟩
theorem _root_.L2.PT.imp {e : Expr} {t t' : TT} (h : PT X e t) (w : ∀ σ H Q, t' σ H Q → t σ H Q) : PT X e t' := ⟨fun pins s σ H Q I q => h.run pins s σ H Q I (w σ H Q q)⟩
theorem _root_.L2.PW.imp {e : Expr} {t t' : TT} (h : PW X e t) (w : ∀ σ H Q, t' σ H Q → t σ H Q) : PW X e t' := ⟨fun wh pins s σ H Q I q => h.run wh pins s σ H Q I (w σ H Q q)⟩
theorem _root_.L2.PA.imp {e : List Expr} {t t' : TA} (h : PA X e t) (w : ∀ σ H Q, t' σ H Q → t σ H Q) : PA X e t' := ⟨fun pos pins s σ H Q I q => h.run pos pins s σ H Q I (w σ H Q q)⟩
theorem _root_.L2.PI.imp {tg e : Expr} {t t' : TI} (h : PI X tg e t) (w : ∀ σ H Q, t' σ H Q → t σ H Q) : PI X tg e t' := ⟨fun pins s σ H Q I q => h.run pins s σ H Q I (w σ H Q q)⟩
theorem _root_.L2.PS.imp {e : Stmt} {t t' : TS} (h : PS X e t) (w : ∀ D σ H, t' D σ H → t D σ H) : PS X e t' := ⟨fun pins s σ H D I q => h.run pins s σ H D I (w D σ H q)⟩
theorem _root_.L2.PSs.imp {e : List Stmt} {t t' : TS} (h : PSs X e t) (w : ∀ D σ H, t' D σ H → t D σ H) : PSs X e t' := ⟨fun pins s σ H D I q => h.run pins s σ H D I (w D σ H q)⟩
theorem _root_.L2.PG.imp {e : Expr} {t t' : TG} (h : PG X e t) (w : ∀ v σ H Q, t' v σ H Q → t v σ H Q) : PG X e t' := ⟨fun pins s σ H v u Q I r q => h.run pins s σ H v u Q I r (w v σ H Q q)⟩
end
section
variable {K : PySem.W.Frag} {O : Ow} {H : Hp} {σ : L2.St} {ρ : List Sl} {G : Gs} {β : Type} {r : β × List Sl × Gs}
theorem tD.go {a : SE} {f : D → Sm β} {R : VK} (s : SR K O H σ ρ G) (e : bnd a f ρ G = some r) (h : ∀ v O1 H1 d ρ1 G1, Ne O H O1 H1 → SR K O1 H1 σ ρ1 G1 → Rep K O1 H1 v d → f d ρ1 G1 = some r → R v H1) : tD K a σ H R := by
  obtain ⟨d, ρ1, G1, q, e⟩ := bnd_eq e
  exact ⟨O, ρ, G, d, ρ1, G1, s, q, fun v O' H' x s' r' => h v O' H' d ρ1 G1 x s' r' e⟩
theorem tQ.go {a : SB} {f : Bool → Sm β} {R : Bool → Hp → Prop} (s : SR K O H σ ρ G) (e : bnd a f ρ G = some r) (h : ∀ b O1 H1 ρ1 G1, Ne O H O1 H1 → SR K O1 H1 σ ρ1 G1 → f b ρ1 G1 = some r → R b H1) : tQ K a σ H R := by
  obtain ⟨d, ρ1, G1, q, e⟩ := bnd_eq e
  exact ⟨O, ρ, G, d, ρ1, G1, s, q, fun O' H' x s' => h d O' H' ρ1 G1 x s' e⟩
theorem tL.go {a : SA} {f : List D → Sm β} {R : List V → Hp → Prop} (s : SR K O H σ ρ G) (e : bnd a f ρ G = some r) (h : ∀ vs O1 H1 ds ρ1 G1, Ne O H O1 H1 → SR K O1 H1 σ ρ1 G1 → RepL K O1 H1 vs ds → f ds ρ1 G1 = some r → R vs H1) : tL K a σ H R := by
  obtain ⟨d, ρ1, G1, q, e⟩ := bnd_eq e
  exact ⟨O, ρ, G, d, ρ1, G1, s, q, fun v O' H' x s' r' => h v O' H' d ρ1 G1 x s' r' e⟩
theorem tN.go {a : SF} {f : Sl → Sm β} {R : VK} (s : SR K O H σ ρ G) (e : bnd a f ρ G = some r) (h : ∀ v O1 H1 d ρ1 G1, Ne O H O1 H1 → SR K O1 H1 σ ρ1 G1 → Own K O1 H1 (New O1 H) v d → f d ρ1 G1 = some r → R (.ref v) H1) : tN K a σ H R := by
  obtain ⟨d, ρ1, G1, q, e⟩ := bnd_eq e
  exact ⟨O, ρ, G, d, ρ1, G1, s, q, fun v O' H' x s' r' => h v O' H' d ρ1 G1 x s' r' e⟩
end

/-! ### operations by values -/
section
variable (K : PySem.W.Frag)
/-- a two-place operation of data -/
def Op2 (r : R2) (f : D → D → Option D) : Prop := ∀ O H σ ρ G x y d1 d2 d Q, SR K O H σ ρ G → Rep K O H x d1 → Rep K O H y d2 → f d1 d2 = some d →
  (∀ v O' H', Ne O H O' H' → SR K O' H' σ ρ G → Rep K O' H' v d → Q v H') → r x y H Q
def Op1 (r : V → Hp → VK → Prop) (f : D → Option D) : Prop := ∀ O H σ ρ G x d1 d Q, SR K O H σ ρ G → Rep K O H x d1 → f d1 = some d →
  (∀ v O' H', Ne O H O' H' → SR K O' H' σ ρ G → Rep K O' H' v d → Q v H') → r x H Q
def OpL (r : List V → Hp → VK → Prop) (f : List D → Option D) : Prop := ∀ O H σ ρ G xs ds d Q, SR K O H σ ρ G → RepL K O H xs ds → f ds = some d →
  (∀ v O' H', Ne O H O' H' → SR K O' H' σ ρ G → Rep K O' H' v d → Q v H') → r xs H Q
/-- .. whose end is a new list or dict -/
def OpLN (r : List V → Hp → VK → Prop) (f : List D → Option Sl) : Prop := ∀ O H σ ρ G xs ds sl Q, SR K O H σ ρ G → RepL K O H xs ds → f ds = some sl →
  (∀ a O' H', Ne O H O' H' → SR K O' H' σ ρ G → Own K O' H' (New O' H) a sl → Q (.ref a) H') → r xs H Q
def Op2N (r : R2) (f : D → D → Option Sl) : Prop := ∀ O H σ ρ G x y d1 d2 sl Q, SR K O H σ ρ G → Rep K O H x d1 → Rep K O H y d2 → f d1 d2 = some sl →
  (∀ a O' H', Ne O H O' H' → SR K O' H' σ ρ G → Own K O' H' (New O' H) a sl → Q (.ref a) H') → r x y H Q
end
section
variable {K : PySem.W.Frag} {O : Ow} {H : Hp} {σ : L2.St} {ρ : List Sl} {G : Gs}
/-- an answer without a new object -/
theorem fin0 {Q : VK} {v : V} {d : D} (s : SR K O H σ ρ G) (q : ∀ v O' H', Ne O H O' H' → SR K O' H' σ ρ G → Rep K O' H' v d → Q v H') (r : Rep K O H v d) : Q v H := q v O H Ne.refl s r
/-- a new list, nobody's -/
theorem fin_lst {Q : VK} {vs : List V} {ds : List D} {p : Addr} (s : SR K O H σ ρ G) (r : RepL K O H vs ds) (hp : H p = none) (q : ∀ v O' H', Ne O H O' H' → SR K O' H' σ ρ G → Rep K O' H' v (.lst ds) → Q v H') : Q (.ref p) (upd H p (.lst vs)) :=
  q _ O _ (nx_new hp) (s.new hp) ⟨p, vs, rfl, s.toGR.free hp, upd_same, RepL.nx (nx_new hp).toRx r⟩
theorem fin_tup {Q : VK} {vs : List V} {ds : List D} {p : Addr} (s : SR K O H σ ρ G) (r : RepL K O H vs ds) (hp : H p = none) (q : ∀ v O' H', Ne O H O' H' → SR K O' H' σ ρ G → Rep K O' H' v (.tup ds) → Q v H') : Q (.ref p) (upd H p (.tup vs)) :=
  q _ O _ (nx_new hp) (s.new hp) ⟨p, vs, rfl, upd_same, RepL.nx (nx_new hp).toRx r⟩
/-- a new list of one's own -/
theorem fin_m1 {Q : VK} {vs : List V} {ds : List D} {p : Addr} (s : SR K O H σ ρ G) (r : RepL K O H vs ds) (hp : H p = none) (q : ∀ a O' H', Ne O H O' H' → SR K O' H' σ ρ G → Own K O' H' (New O' H) a (.m1 ds) → Q (.ref a) H') : Q (.ref p) (upd H p (.lst vs)) :=
  q _ _ _ (nx_newO hp (s.toGR.free hp)) (s.newO hp trivial) ⟨⟨own_same, hp⟩, vs, upd_same, RepL.nx (nx_newO hp (s.toGR.free hp)).toRx r⟩
end
section
variable {X : Cx} {a b : Expr} {ma mb : SE} {pos : Pos}
def mBin (f : D → D → Option D) (a b : SE) : SE := bnd a fun x => bnd b fun y => lft (f x y)
def mUn (f : D → Option D) (a : SE) : SE := bnd a fun x => lft (f x)
theorem op2 {r : R2} {f : D → D → Option D} (hr : Op2 X.K r f) {σ : L2.St} {H : Hp} {Q : VK} (h : tD X.K (mBin f ma mb) σ H Q) : tOp r (tD X.K ma) (tD X.K mb) σ H Q := by
  obtain ⟨O, ρ, G, d, ρ', G', s, e, q⟩ := h
  refine tD.go s e fun v1 O1 H1 d1 ρ1 G1 x1 s1 r1 e1 => tD.go s1 e1 fun v2 O2 H2 d2 ρ2 G2 x2 s2 r2 e2 => ?_
  obtain ⟨ef, rfl, rfl⟩ := lft_eq e2
  exact hr O2 H2 σ ρ' G' v1 v2 d1 d2 d Q s2 (Rep.nx x2.toRx r1) r2 ef fun v O3 H3 x3 s3 r3 => q v O3 H3 ((x1.trans x2).trans x3) s3 r3
theorem de_op {op : Operator} {r : R2} {f : D → D → Option D} (ho : OpR X (binaryOp op) r) (hr : Op2 X.K r f) (ha : DE X a ma) (hb : DE X b mb) : DE X (.BinOp a op b pos) (mBin f ma mb) :=
  (pe_op ho ha hb).imp fun _ _ _ h => op2 hr h
theorem de_cmp {op : CmpOp} {r : R2} {f : D → D → Option D} (ho : OpR X (compareOp op) r) (hr : Op2 X.K r f) (ha : DE X a ma) (hb : DE X b mb) (hm : behindInMarks op b = false) : DE X (.Compare a [op] [b] pos) (mBin f ma mb) :=
  (pe_cmpR ho ha hb hm).imp fun _ _ _ h => op2 hr h
theorem de_un {op : UnaryOp} {r : V → Hp → VK → Prop} {f : D → Option D} (ho : UnR X (unaryOp op) r) (hr : Op1 X.K r f) (ha : DE X a ma) : DE X (.UnaryOp op a pos) (mUn f ma) :=
  (pe_un ho ha).imp fun σ H Q ⟨O, ρ, G, d, ρ', G', s, e, q⟩ => tD.go s e fun v1 O1 H1 d1 ρ1 G1 x1 s1 r1 e1 => by
    obtain ⟨ef, rfl, rfl⟩ := lft_eq e1
    exact hr O1 H1 σ ρ' G' v1 d1 d Q s1 r1 ef fun v O3 H3 x3 s3 r3 => q v O3 H3 (x1.trans x3) s3 r3
/-- a new list by + or * -/
def mBinN (f : D → D → Option Sl) (a b : SE) : SF := bnd a fun x => bnd b fun y => lft (f x y)
theorem dn_op {op : Operator} {r : R2} {f : D → D → Option Sl} (ho : OpR X (binaryOp op) r) (hr : Op2N X.K r f) (ha : DE X a ma) (hb : DE X b mb) : DN X (.BinOp a op b pos) (mBinN f ma mb) :=
  (pe_op ho ha hb).imp fun σ H Q ⟨O, ρ, G, d, ρ', G', s, e, q⟩ => by
    refine tD.go s e fun v1 O1 H1 d1 ρ1 G1 x1 s1 r1 e1 => tD.go s1 e1 fun v2 O2 H2 d2 ρ2 G2 x2 s2 r2 e2 => ?_
    obtain ⟨ef, rfl, rfl⟩ := lft_eq e2
    refine hr O2 H2 σ ρ' G' v1 v2 d1 d2 d Q s2 (Rep.nx x2.toRx r1) r2 ef fun v O3 H3 x3 s3 w => q v O3 H3 ((x1.trans x2).trans x3) s3 ?_
    have hh : ∀ b, H2 b = none → H b = none := fun b n => Classical.byContradiction fun z => (x1.trans x2).live b z n
    exact Own.mono Rx.refl (fun b hb => ⟨⟨hb.1, hh b hb.2⟩, rfl⟩) w

/-! ### names, constants -/
/-- a name's data; a written object of its own is let go of -/
def mVar (i : Nat) : SE := fun ρ G => match ρ[i]? with
  | some (.im d) => some (d, ρ, G)
  | some (.m1 ds) => some (.lst ds, ρ.set i (.im (.lst ds)), G)
  | some (.m2 dss) => some (.lst (dss.map D.lst), ρ.set i (.im (.lst (dss.map D.lst))), G)
  | some (.mk kvs) => some (.dk kvs, ρ.set i (.im (.dk kvs)), G)
  | some (.mt kvs) => some (.dt kvs, ρ.set i (.im (.dt kvs)), G)
  | _ => none
theorem de_var (i : Nat) {x : Str} (hN : X.N[i]? = some x := by rfl) (hv : Vis X.env.scope x := by first | exact Or.inl rfl | exact Or.inr (Or.inl rfl) | exact Or.inr (Or.inr rfl)) (hd : (x == ("__debug__" : Str)) = false := by decide)
    (hcd : (x == ("__classdict__" : Str)) = false := by decide) : DE X (.Name x pos) (mVar i) :=
  (pe_var hN hv hd hcd).imp fun σ H Q ⟨O, ρ, G, d, ρ', G', s, e, q⟩ => by
    unfold mVar at e
    cases q1 : ρ[i]? with
    | none => rw [q1] at e; cases e
    | some sl =>
      rw [q1] at e
      cases sl with
      | un => cases e
      | im d => cases e; obtain ⟨v, e, r⟩ := s.slot i _ q1; exact ⟨v, e, q v O H Ne.refl s r⟩
      | m1 ds => cases e; obtain ⟨s', a, ea, r⟩ := s.let_go q1 (s.slot i _ q1); exact ⟨_, ea, q _ _ _ nx_rel s' r⟩
      | m2 ds => cases e; obtain ⟨s', a, ea, r⟩ := s.let_go q1 (s.slot i _ q1); exact ⟨_, ea, q _ _ _ nx_rel s' r⟩
      | mk ds => cases e; obtain ⟨s', a, ea, r⟩ := s.let_go q1 (s.slot i _ q1); exact ⟨_, ea, q _ _ _ nx_rel s' r⟩
      | mt ds => cases e; obtain ⟨s', a, ea, r⟩ := s.let_go q1 (s.slot i _ q1); exact ⟨_, ea, q _ _ _ nx_rel s' r⟩
theorem de_c {e : Expr} {v : V} {d : D} (h : PE X e (tC v)) (r : ∀ O H, Rep X.K O H v d) : DE X e (ret d) :=
  h.imp fun σ H Q ⟨O, ρ, G, d', ρ', G', s, e, q⟩ => by cases e; exact q v O H Ne.refl s (r O H)
theorem de_int {i : Int} {j} : DE X (.Constant (.int i) j pos) (ret (.int i)) := de_c pe_int fun _ _ => rfl
theorem de_bl {b : Bool} {j} : DE X (.Constant (.bool b) j pos) (ret (.bl b)) := de_c pe_bl fun _ _ => rfl
theorem de_non {j} : DE X (.Constant .none j pos) (ret .non) := de_c pe_non fun _ _ => rfl
theorem de_str {x : Str} {j} : DE X (.Constant (.str x) j pos) (ret (.str x)) := de_c pe_str fun _ _ => rfl
theorem de_gint {x : Str} {i : Int} (h : ∃ t, X.mg x = some (.int i t)) (hg : Gl X x := by rfl) (hd : (x == ("__debug__" : Str)) = false := by decide) : DE X (.Name x pos) (ret (.int i)) := by
  obtain ⟨t, h⟩ := h
  exact de_c (pe_glob hg h (v := .int i) ⟨t, rfl⟩ hd) fun _ _ => rfl
theorem de_gstr {x z : Str} (h : ∃ t, X.mg x = some (.str z t)) (hg : Gl X x := by rfl) (hd : (x == ("__debug__" : Str)) = false := by decide) : DE X (.Name x pos) (ret (.str z)) := by
  obtain ⟨t, h⟩ := h
  exact de_c (pe_glob hg h (v := .str z) ⟨t, rfl⟩ hd) fun _ _ => rfl

/-! ### arguments, displays, calls -/
def mNil : SA := ret []
def mCons (a : SE) (r : SA) : SA := bnd a fun d => bnd r fun ds => ret (d :: ds)
theorem da_nil : DA X [] mNil := pa_nil.imp fun σ H Q ⟨O, ρ, G, d, ρ', G', s, e, q⟩ => by cases e; exact q [] O H Ne.refl s rfl
theorem da_cons {e : Expr} {es : List Expr} {m : SE} {r : SA} (ha : DE X e m) (hr : DA X es r) (hs : starEach (e :: es) X.env = (false, eval e X.env) :: starEach es X.env := by rfl) : DA X (e :: es) (mCons m r) :=
  (pa_cons ha hr hs).imp fun σ H Q ⟨O, ρ, G, d, ρ', G', s, e, q⟩ => tD.go s e fun v1 O1 H1 d1 ρ1 G1 x1 s1 r1 e1 => tL.go s1 e1 fun v2 O2 H2 d2 ρ2 G2 x2 s2 r2 e2 => by
    cases e2
    exact q _ O2 H2 (x1.trans x2) s2 ⟨v1, v2, rfl, Rep.nx x2.toRx r1, r2⟩
def szOk (n : Nat) : Bool := decide (n ≤ 1000000)
theorem szOk_ok {n : Nat} (h : szOk n = true) : n ≤ sizeLine := by
  have h := of_decide_eq_true h
  have e := sizeLine_eq
  omega
theorem szOk_lt {n : Nat} (h : szOk n = true) : n < sizeLine := by
  have h := of_decide_eq_true h
  have e := sizeLine_eq
  omega
def dTup (ds : List D) : Option D := if szOk ds.length then some (.tup ds) else none
def mTup (a : SA) : SE := bnd a fun ds => lft (dTup ds)
theorem de_tup {es : List Expr} {m : SA} {x1} (h : DA X es m) : DE X (.Tuple es x1 pos) (mTup m) :=
  (pe_tup h).imp fun σ H Q ⟨O, ρ, G, d, ρ', G', s, e, q⟩ => tL.go s e fun v1 O1 H1 d1 ρ1 G1 x1 s1 r1 e1 => by
    obtain ⟨ef, rfl, rfl⟩ := lft_eq e1
    unfold dTup at ef
    split at ef
    · cases ef
      rename_i hz
      exact ⟨by rw [r1.length]; exact szOk_ok hz, fun p hp => fin_tup s1 r1 hp fun v O3 H3 x3 s3 r3 => q v O3 H3 (x1.trans x3) s3 r3⟩
    · cases ef
def dLst (ds : List D) : Option D := if szOk ds.length then some (.lst ds) else none
def mLst (a : SA) : SE := bnd a fun ds => lft (dLst ds)
theorem de_lst {es : List Expr} {m : SA} (h : DA X es m) : DE X (.List es pos) (mLst m) :=
  (pe_lst h).imp fun σ H Q ⟨O, ρ, G, d, ρ', G', s, e, q⟩ => tL.go s e fun v1 O1 H1 d1 ρ1 G1 x1 s1 r1 e1 => by
    obtain ⟨ef, rfl, rfl⟩ := lft_eq e1
    unfold dLst at ef
    split at ef
    · cases ef
      rename_i hz
      exact ⟨by rw [r1.length]; exact szOk_ok hz, fun p hp => fin_lst s1 r1 hp fun v O3 H3 x3 s3 r3 => q v O3 H3 (x1.trans x3) s3 r3⟩
    · cases ef
def dLstN (ds : List D) : Option Sl := if szOk ds.length then some (.m1 ds) else none
def mLstN (a : SA) : SF := bnd a fun ds => lft (dLstN ds)
theorem hh_of {O O' : Ow} {H H' : Hp} (x : Ne O H O' H') : ∀ b, H' b = none → H b = none := fun b n => Classical.byContradiction fun z => x.live b z n
theorem Own.back {K : PySem.W.Frag} {O O' O2 : Ow} {H H' H2 : Hp} {a : Addr} {sl : Sl} (x : Ne O H O2 H2) (w : Own K O' H' (New O' H2) a sl) : Own K O' H' (New O' H) a sl :=
  Own.mono Rx.refl (fun b hb => ⟨⟨hb.1, hh_of x b hb.2⟩, rfl⟩) w
theorem dn_lst {es : List Expr} {m : SA} (h : DA X es m) : DN X (.List es pos) (mLstN m) :=
  (pe_lst h).imp fun σ H Q ⟨O, ρ, G, d, ρ', G', s, e, q⟩ => tL.go s e fun v1 O1 H1 d1 ρ1 G1 x1 s1 r1 e1 => by
    obtain ⟨ef, rfl, rfl⟩ := lft_eq e1
    unfold dLstN at ef
    split at ef
    · cases ef
      rename_i hz
      exact ⟨by rw [r1.length]; exact szOk_ok hz, fun p hp => fin_m1 s1 r1 hp fun v O3 H3 x3 s3 w => q v O3 H3 (x1.trans x3) s3 (w.back x1)⟩
    · cases ef
def mCall (f : List D → Option D) (a : SA) : SE := bnd a fun ds => lft (f ds)
def mCallN (f : List D → Option Sl) (a : SA) : SF := bnd a fun ds => lft (f ds)
theorem opL {r : List V → Hp → VK → Prop} {f : List D → Option D} {m : SA} (hr : OpL X.K r f) {σ : L2.St} {H : Hp} {Q : VK} (h : tD X.K (mCall f m) σ H Q) : tCB r (tL X.K m) σ H Q := by
  obtain ⟨O, ρ, G, d, ρ', G', s, e, q⟩ := h
  refine tL.go s e fun v1 O1 H1 d1 ρ1 G1 x1 s1 r1 e1 => ?_
  obtain ⟨ef, rfl, rfl⟩ := lft_eq e1
  exact hr O1 H1 σ ρ' G' v1 d1 d Q s1 r1 ef fun v O3 H3 x3 s3 r3 => q v O3 H3 (x1.trans x3) s3 r3
theorem opLN {r : List V → Hp → VK → Prop} {f : List D → Option Sl} {m : SA} (hr : OpLN X.K r f) {σ : L2.St} {H : Hp} {Q : VK} (h : tN X.K (mCallN f m) σ H Q) : tCB r (tL X.K m) σ H Q := by
  obtain ⟨O, ρ, G, d, ρ', G', s, e, q⟩ := h
  refine tL.go s e fun v1 O1 H1 d1 ρ1 G1 x1 s1 r1 e1 => ?_
  obtain ⟨ef, rfl, rfl⟩ := lft_eq e1
  exact hr O1 H1 σ ρ' G' v1 d1 d Q s1 r1 ef fun v O3 H3 x3 s3 w => q v O3 H3 (x1.trans x3) s3 (w.back x1)
section
variable {x : Str} {p : Pos} {e : Expr} {es : List Expr} {m : SA} {id T : String} {r : List V → Hp → VK → Prop} {f : List D → Option D} {fN : List D → Option Sl}
theorem de_callB (hc : CallR X (.builtin id) r) (hr : OpL X.K r f) (hm : X.mg x = none) (hv : bootBuiltins x = some (.builtin id)) (ha : DA X (e :: es) m) (hg : Gl X x := by rfl) (hn : x ≠ "__name__" := by decide) (hdb : (x == ("__debug__" : Str)) = false := by decide)
    (he : starEach (e :: es) X.env = (false, eval e X.env) :: starEach es X.env := by rfl) (hpl : (backTo pos (starEach es X.env)).any (·.1) = false := by rfl) : DE X (.Call (.Name x p) (e :: es) [] pos) (mCall f m) :=
  (pe_callB hc hg hm hv ha hn hdb he hpl).imp fun _ _ _ h => opL hr h
theorem de_callTy (hc : CallR X (.type T) r) (hr : OpL X.K r f) (hm : X.mg x = none) (hv : bootBuiltins x = some (.type T)) (ha : DA X (e :: es) m) (hg : Gl X x := by rfl) (hn : x ≠ "__name__" := by decide) (hdb : (x == ("__debug__" : Str)) = false := by decide)
    (he : starEach (e :: es) X.env = (false, eval e X.env) :: starEach es X.env := by rfl) (hpl : (backTo pos (starEach es X.env)).any (·.1) = false := by rfl) : DE X (.Call (.Name x p) (e :: es) [] pos) (mCall f m) :=
  (pe_callTy hc hg hm hv ha hn hdb he hpl).imp fun _ _ _ h => opL hr h
theorem dn_callTy (hc : CallR X (.type T) r) (hr : OpLN X.K r fN) (hm : X.mg x = none) (hv : bootBuiltins x = some (.type T)) (ha : DA X (e :: es) m) (hg : Gl X x := by rfl) (hn : x ≠ "__name__" := by decide) (hdb : (x == ("__debug__" : Str)) = false := by decide)
    (he : starEach (e :: es) X.env = (false, eval e X.env) :: starEach es X.env := by rfl) (hpl : (backTo pos (starEach es X.env)).any (·.1) = false := by rfl) : DN X (.Call (.Name x p) (e :: es) [] pos) (mCallN fN m) :=
  (pe_callTy hc hg hm hv ha hn hdb he hpl).imp fun _ _ _ h => opLN hr h
theorem dn_callB (hc : CallR X (.builtin id) r) (hr : OpLN X.K r fN) (hm : X.mg x = none) (hv : bootBuiltins x = some (.builtin id)) (ha : DA X (e :: es) m) (hg : Gl X x := by rfl) (hn : x ≠ "__name__" := by decide) (hdb : (x == ("__debug__" : Str)) = false := by decide)
    (he : starEach (e :: es) X.env = (false, eval e X.env) :: starEach es X.env := by rfl) (hpl : (backTo pos (starEach es X.env)).any (·.1) = false := by rfl) : DN X (.Call (.Name x p) (e :: es) [] pos) (mCallN fN m) :=
  (pe_callB hc hg hm hv ha hn hdb he hpl).imp fun _ _ _ h => opLN hr h
end
end
end DL

/-! DL: the operations. -/
namespace DL
open PySem PySem.Spec PyProof.Rows L2

/-! ### ints -/
def small (i : Int) : Bool := decide (-(2 ^ 64) < i) && decide (i < 2 ^ 64)
theorem small_ok {i : Int} (h : small i = true) : -(2 ^ 64) < i ∧ i < 2 ^ 64 := by
  obtain ⟨a, b⟩ := Bool.and_eq_true_iff.mp h
  exact ⟨of_decide_eq_true a, of_decide_eq_true b⟩
def dAdd : D → D → Option D
  | .int i, .int j => some (.int (i + j))
  | .tup xs, .tup ys => if szOk (xs.length + ys.length) then some (.tup (xs ++ ys)) else none
  | .lst xs, .lst ys => if szOk (xs.length + ys.length) then some (.lst (xs ++ ys)) else none
  | .str x, .str y => if szOk (x.length + y.length) then some (.str (x ++ y)) else none
  | _, _ => none
def dAddN : D → D → Option Sl
  | .lst xs, .lst ys => if szOk (xs.length + ys.length) then some (.m1 (xs ++ ys)) else none
  | _, _ => none
def dSub : D → D → Option D
  | .int i, .int j => some (.int (i - j))
  | _, _ => none
def dMul : D → D → Option D
  | .int i, .int j => if small i || small j then some (.int (i * j)) else none
  | .lst xs, .int k => if small k && szOk (xs.length * k.toNat) && decide (k < 2 ^ 62) && decide (-(2 ^ 62) < k) then some (.lst (List.replicate k.toNat xs).flatten) else none
  | .tup xs, .int k => if decide (-(2 ^ 62) < k) && decide (k ≤ 1000) && decide (xs.length ≤ 1000) then some (.tup (List.replicate k.toNat xs).flatten) else none
  | _, _ => none
def dMulN : D → D → Option Sl
  | .lst xs, .int k => if szOk (xs.length * k.toNat) && decide (k < 2 ^ 62) && decide (-(2 ^ 62) < k) then some (.m1 (List.replicate k.toNat xs).flatten) else none
  | _, _ => none
def dFdiv : D → D → Option D
  | .int i, .int j => if decide (0 < j) && decide (j.natAbs.log2 < 9000) then some (.int (i / j)) else none
  | _, _ => none
def dMod : D → D → Option D
  | .int i, .int j => if decide (0 < j) then some (.int (i % j)) else none
  | _, _ => none
def dPow : D → D → Option D
  | .int i, .int j => if decide (0 ≤ j) && decide (j ≤ 1000000) && decide (i.natAbs < 2 ^ 64) then some (.int (i ^ j.toNat)) else none
  | _, _ => none
def dNeg : D → Option D
  | .int i => some (.int (-i))
  | _ => none
def dNot : D → Option D
  | .bl b => some (.bl (!b))
  | _ => none

/-! ### comparisons -/
mutual
def D.py : D → Option PyData
  | .non => some .none
  | .bl b => some (.bool b)
  | .int i => some (.int i)
  | .str x => some (.str x)
  | .tup xs => (pyL xs).map .tuple
  | .lst xs => (pyL xs).map .list
  | _ => none
def pyL : List D → Option (List PyData)
  | [] => some []
  | d :: ds => (d.py).bind fun p => (pyL ds).map fun r => p :: r
end
def dEqB (x y : D) : Option Bool := match x.py, y.py with
  | some a, some b => if SeqAt.shaped a && SeqAt.shaped b then some (PyData.eqv a b) else none
  | _, _ => none
def dEq (x y : D) : Option D := (dEqB x y).map .bl
def dNe (x y : D) : Option D := (dEqB x y).map fun b => .bl (!b)
def intsOf : List D → Option (List Int)
  | [] => some []
  | .int i :: ds => (intsOf ds).map fun r => i :: r
  | _ => none
theorem intsOf_eq : ∀ {ds : List D} {ns : List Int}, intsOf ds = some ns → ds = ns.map D.int
  | [], _, h => by cases h; rfl
  | d :: ds, ns, h => by
    unfold intsOf at h
    split at h
    · cases h; rename_i e; cases e
    · rename_i e
      cases e
      cases q : intsOf ds with
      | none => rw [q] at h; cases h
      | some r => rw [q] at h; cases h; rw [intsOf_eq q]; rfl
    · cases h
theorem intsOf_map : ∀ ns : List Int, intsOf (ns.map D.int) = some ns
  | [] => rfl
  | n :: ns => by show (intsOf (ns.map D.int)).map _ = _; rw [intsOf_map ns]; rfl
def blsOf : List D → Option (List Bool)
  | [] => some []
  | .bl i :: ds => (blsOf ds).map fun r => i :: r
  | _ => none
theorem blsOf_eq : ∀ {ds : List D} {ns : List Bool}, blsOf ds = some ns → ds = ns.map D.bl
  | [], _, h => by cases h; rfl
  | d :: ds, ns, h => by
    unfold blsOf at h
    split at h
    · cases h; rename_i e; cases e
    · rename_i e
      cases e
      cases q : blsOf ds with
      | none => rw [q] at h; cases h
      | some r => rw [q] at h; cases h; rw [blsOf_eq q]; rfl
    · cases h
theorem blsOf_map : ∀ ns : List Bool, blsOf (ns.map D.bl) = some ns
  | [] => rfl
  | n :: ns => by show (blsOf (ns.map D.bl)).map _ = _; rw [blsOf_map ns]; rfl
def dLt : D → D → Option D
  | .int i, .int j => some (.bl (decide (i < j)))
  | .tup xs, .tup ys => match intsOf xs, intsOf ys with
    | some ns, some ms => some (.bl (HT.lexLt ns ms))
    | _, _ => none
  | .str x, .str y => some (.bl (decide (x.cps.toList < y.cps.toList)))
  | _, _ => none
def dLe : D → D → Option D
  | .int i, .int j => some (.bl (decide (i ≤ j)))
  | _, _ => none
def dGt : D → D → Option D
  | .int i, .int j => some (.bl (decide (j < i)))
  | _, _ => none
def dGe : D → D → Option D
  | .int i, .int j => some (.bl (decide (j ≤ i)))
  | _, _ => none
/-- is True, is False; of None: dIsN -/
def dIs : D → D → Option D
  | .bl a, .bl b => some (.bl (decide (a = b)))
  | _, _ => none
def dIsNot : D → D → Option D
  | .bl a, .bl b => some (.bl (!decide (a = b)))
  | _, _ => none
def D.isN : D → Bool
  | .non => true
  | _ => false

/-! ### that they are so -/
section
variable {K : PySem.W.Frag} {O : Ow} {H : Hp}
mutual
theorem Rep.dp : ∀ {d : D} {v : V} {p : PyData}, Rep K O H v d → d.py = some p → Dp K H v p
  | .non, _, _, h, e => by unfold D.py at e; cases e; rw [show _ = V.non from h]; exact .non
  | .bl b, _, _, h, e => by unfold D.py at e; cases e; rw [show _ = V.bl b from h]; exact .bl b
  | .int b, _, _, h, e => by unfold D.py at e; cases e; rw [show _ = V.int b from h]; exact .int b
  | .str b, _, _, h, e => by unfold D.py at e; cases e; rw [show _ = V.str b from h]; exact .str b
  | .tup ds, _, _, ⟨a, vs, e1, h, r⟩, e => by
    unfold D.py at e
    cases q : pyL ds with
    | none => rw [q] at e; cases e
    | some ps => rw [q] at e; cases e; rw [e1]; exact .tup (SqT.of h) (RepL.dp r q)
  | .lst ds, _, _, ⟨a, vs, e1, _, h, r⟩, e => by
    unfold D.py at e
    cases q : pyL ds with
    | none => rw [q] at e; cases e
    | some ps => rw [q] at e; cases e; rw [e1]; exact .lst (SqL.of h) (RepL.dp r q)
  | .scr _, _, _, _, e => by unfold D.py at e; cases e
  | .hnd _, _, _, _, e => by unfold D.py at e; cases e
  | .dk _, _, _, _, e => by unfold D.py at e; cases e
  | .dt _, _, _, _, e => by unfold D.py at e; cases e
theorem RepL.dp : ∀ {ds : List D} {vs : List V} {ps : List PyData}, RepL K O H vs ds → pyL ds = some ps → DpAll K H vs ps
  | [], _, _, h, e => by unfold pyL at e; cases e; rw [show _ = [] from h]; exact .nil
  | d :: ds, _, _, ⟨v, r, e1, h, t⟩, e => by
    unfold pyL at e
    cases q : d.py with
    | none => rw [q] at e; cases e
    | some p =>
      rw [q] at e
      cases q2 : pyL ds with
      | none => rw [q2] at e; cases e
      | some ps => rw [q2] at e; cases e; rw [e1]; exact .cons (Rep.dp h q) (RepL.dp t q2)
end
end
theorem dEqB_inv {x y : D} {b : Bool} (h : dEqB x y = some b) : ∃ p q, x.py = some p ∧ y.py = some q ∧ SeqAt.shaped p = true ∧ SeqAt.shaped q = true ∧ b = PyData.eqv p q := by
  unfold dEqB at h
  cases q1 : x.py with
  | none => rw [q1] at h; cases h
  | some p =>
    cases q2 : y.py with
    | none => rw [q1, q2] at h; cases h
    | some q =>
      rw [q1, q2] at h
      have h : (if (SeqAt.shaped p && SeqAt.shaped q) = true then some (PyData.eqv p q) else none) = some b := h
      by_cases hz : (SeqAt.shaped p && SeqAt.shaped q) = true
      · rw [if_pos hz] at h
        obtain ⟨a, c⟩ := Bool.and_eq_true_iff.mp hz
        exact ⟨p, q, rfl, rfl, a, c, (Option.some.inj h).symm⟩
      · rw [if_neg hz] at h; cases h
section
variable {K : PySem.W.Frag}
theorem o_eq : Op2 K (rEqD K) dEq := by
  intro O H σ ρ G x y d1 d2 d Q s r1 r2 e q
  unfold dEq at e
  cases h : dEqB d1 d2 with
  | none => rw [h] at e; cases e
  | some b =>
    rw [h] at e; cases e
    obtain ⟨p1, p2, e1, e2, s1, s2, rfl⟩ := dEqB_inv h
    exact ⟨p1, p2, r1.dp e1, r2.dp e2, s1, s2, fin0 s q rfl⟩
theorem o_ne : Op2 K (rNeD K) dNe := by
  intro O H σ ρ G x y d1 d2 d Q s r1 r2 e q
  unfold dNe at e
  cases h : dEqB d1 d2 with
  | none => rw [h] at e; cases e
  | some b =>
    rw [h] at e; cases e
    obtain ⟨p1, p2, e1, e2, s1, s2, rfl⟩ := dEqB_inv h
    exact ⟨p1, p2, r1.dp e1, r2.dp e2, s1, s2, fin0 s q rfl⟩
abbrev rAddA (K : PySem.W.Frag) : R2 := fun x y H Q => rI0 (fun i j => .int (i + j)) x y H Q ∨ (rCatA K x y H Q ∨ (rCat x y H Q ∨ ∃ i j, x = .str i ∧ y = .str j ∧ i.length + j.length ≤ sizeLine ∧ Q (.str (i ++ j)) H))
theorem o_add : Op2 K (rAddA K) dAdd := by
  intro O H σ ρ G x y d1 d2 d Q s r1 r2 e q
  cases d1 <;> cases d2 <;> unfold dAdd at e <;> dsimp only at e <;> try (cases e; done)
  case int.int i j => cases e; exact .inl ⟨i, j, r1, r2, fin0 s q rfl⟩
  case str.str i j =>
    split at e
    · rename_i hz; cases e; exact .inr (.inr (.inr ⟨i, j, r1, r2, szOk_ok hz, fin0 s q rfl⟩))
    · cases e
  case tup.tup xs ys =>
    split at e
    · rename_i hz
      cases e
      obtain ⟨a, vs, rfl, ha, la⟩ := r1
      obtain ⟨b, us, rfl, hb, lb⟩ := r2
      refine .inr (.inl ⟨a, b, vs, us, rfl, rfl, SqT.of ha, SqT.of hb, by rw [la.length, lb.length]; exact szOk_ok hz, fun z => ?_, fun _ z => ?_, fun _ _ p hp => fin_tup s (la.append lb) hp q⟩)
      · have : xs = [] := List.eq_nil_of_length_eq_zero (by rw [← la.length, z]; rfl)
        subst this
        exact fin0 s q ⟨b, us, rfl, hb, lb⟩
      · have : ys = [] := List.eq_nil_of_length_eq_zero (by rw [← lb.length, z]; rfl)
        subst this
        rw [List.append_nil] at q
        exact fin0 s q ⟨a, vs, rfl, ha, la⟩
    · cases e
  case lst.lst xs ys =>
    split at e
    · rename_i hz
      cases e
      obtain ⟨a, vs, rfl, _, ha, la⟩ := r1
      obtain ⟨b, us, rfl, _, hb, lb⟩ := r2
      exact .inr (.inr (.inl ⟨a, b, vs, us, rfl, rfl, ha, hb, by rw [la.length, lb.length]; exact szOk_ok hz, fun p hp => fin_lst s (la.append lb) hp q⟩))
    · cases e
theorem o_addN : Op2N K rCat dAddN := by
  intro O H σ ρ G x y d1 d2 d Q s r1 r2 e q
  cases d1 <;> cases d2 <;> unfold dAddN at e <;> dsimp only at e <;> try (cases e; done)
  case lst.lst xs ys =>
    split at e
    · rename_i hz
      cases e
      obtain ⟨a, vs, rfl, _, ha, la⟩ := r1
      obtain ⟨b, us, rfl, _, hb, lb⟩ := r2
      exact ⟨a, b, vs, us, rfl, rfl, ha, hb, by rw [la.length, lb.length]; exact szOk_ok hz, fun p hp => fin_m1 s (la.append lb) hp q⟩
    · cases e
theorem o_sub : Op2 K (rI0 fun i j => .int (i - j)) dSub := by
  intro O H σ ρ G x y d1 d2 d Q s r1 r2 e q
  cases d1 <;> cases d2 <;> unfold dSub at e <;> dsimp only at e <;> try (cases e; done)
  case int.int i j => cases e; exact ⟨i, j, r1, r2, fin0 s q rfl⟩
theorem repl {O : Ow} {H : Hp} {vs : List V} {ds : List D} (r : RepL K O H vs ds) : ∀ n : Nat, RepL K O H (List.replicate n vs).flatten (List.replicate n ds).flatten
  | 0 => rfl
  | n + 1 => by
    rw [List.replicate_succ, List.replicate_succ, List.flatten_cons, List.flatten_cons]
    exact r.append (repl r n)
abbrev rMulA (K : PySem.W.Frag) : R2 := fun x y H Q => rI CMul (fun i j => .int (i * j)) x y H Q ∨ (rRep x y H Q ∨ (rRepT K x y H Q ∨ rRepS K x y H Q))
theorem o_mul : Op2 K (rMulA K) dMul := by
  intro O H σ ρ G x y d1 d2 d Q s r1 r2 e q
  cases d1 <;> cases d2 <;> unfold dMul at e <;> dsimp only at e <;> try (cases e; done)
  case int.int i j =>
    split at e
    · rename_i hz
      cases e
      refine .inl ⟨i, j, r1, r2, ?_, fin0 s q rfl⟩
      rcases Bool.or_eq_true_iff.mp hz with h | h
      · exact .inl (small_ok h)
      · exact .inr (small_ok h)
    · cases e
  case lst.int xs k =>
    split at e
    · rename_i hz
      cases e
      obtain ⟨a, vs, rfl, _, ha, la⟩ := r1
      simp only [Bool.and_eq_true, decide_eq_true_eq] at hz
      obtain ⟨⟨⟨_, h1⟩, h2⟩, h3⟩ := hz
      exact .inr (.inl ⟨a, k, vs, rfl, r2, ha, by omega, by omega, by rw [la.length]; exact szOk_ok h1, fun p hp => fin_lst s (repl la _) hp q⟩)
    · cases e
  case tup.int xs k =>
    split at e
    · rename_i hz
      cases e
      obtain ⟨a, vs, rfl, ha, la⟩ := r1
      simp only [Bool.and_eq_true, decide_eq_true_eq] at hz
      obtain ⟨⟨h1, h2⟩, h3⟩ := hz
      by_cases h4 : 2 ≤ k ∧ xs ≠ []
      · refine .inr (.inr (.inl ⟨a, k, vs, rfl, r2, SqT.of ha, fun z => h4.2 ?_, h4.1, h2, by rw [la.length]; exact h3, fun p hp => fin_tup s (repl la _) hp q⟩))
        exact List.eq_nil_of_length_eq_zero (by rw [← la.length, z]; rfl)
      · refine .inr (.inr (.inr ⟨a, k, vs, rfl, r2, SqT.of ha, by omega, h1, ?_⟩))
        by_cases hx : xs = []
        · subst hx
          have ev : vs = [] := List.eq_nil_of_length_eq_zero la.length
          have e0 : (List.replicate k.toNat ([] : List D)).flatten = [] := by simp
          rw [e0] at q
          exact .inl ⟨.inl ev, fin0 s q ⟨a, vs, rfl, ha, la⟩⟩
        · by_cases hk : k = 1
          · subst hk
            have e0 : (List.replicate (1 : Int).toNat xs).flatten = xs := by simp
            rw [e0] at q
            exact .inl ⟨.inr rfl, fin0 s q ⟨a, vs, rfl, ha, la⟩⟩
          · have hk0 : k ≤ 0 := by
              have : ¬ 2 ≤ k := fun z => h4 ⟨z, hx⟩
              omega
            have e0 : (List.replicate k.toNat xs).flatten = [] := by rw [show k.toNat = 0 from by omega]; rfl
            rw [e0] at q
            refine .inr ⟨fun z => hx (List.eq_nil_of_length_eq_zero (by rw [← la.length, z]; rfl)), hk0, fun p hp => fin_tup s (show RepL K O H [] [] from rfl) hp q⟩
    · cases e
theorem o_mulN : Op2N K rRep dMulN := by
  intro O H σ ρ G x y d1 d2 d Q s r1 r2 e q
  cases d1 <;> cases d2 <;> unfold dMulN at e <;> dsimp only at e <;> try (cases e; done)
  case lst.int xs k =>
    split at e
    · rename_i hz
      cases e
      obtain ⟨a, vs, rfl, _, ha, la⟩ := r1
      simp only [Bool.and_eq_true, decide_eq_true_eq] at hz
      obtain ⟨⟨h1, h2⟩, h3⟩ := hz
      exact ⟨a, k, vs, rfl, r2, ha, by omega, by omega, by rw [la.length]; exact szOk_ok h1, fun p hp => fin_m1 s (repl la _) hp q⟩
    · cases e
theorem o_fdiv : Op2 K (rI CDivW fun i j => .int (i / j)) dFdiv := by
  intro O H σ ρ G x y d1 d2 d Q s r1 r2 e q
  cases d1 <;> cases d2 <;> unfold dFdiv at e <;> dsimp only at e <;> try (cases e; done)
  case int.int i j =>
    split at e
    · rename_i hz
      cases e
      simp only [Bool.and_eq_true, decide_eq_true_eq] at hz
      exact ⟨i, j, r1, r2, hz, fin0 s q rfl⟩
    · cases e
theorem o_mod : Op2 K (rI (fun _ j => 0 < j) fun i j => .int (i % j)) dMod := by
  intro O H σ ρ G x y d1 d2 d Q s r1 r2 e q
  cases d1 <;> cases d2 <;> unfold dMod at e <;> dsimp only at e <;> try (cases e; done)
  case int.int i j =>
    split at e
    · rename_i hz
      cases e
      exact ⟨i, j, r1, r2, of_decide_eq_true hz, fin0 s q rfl⟩
    · cases e
theorem o_pow : Op2 K (rI CPow fun i j => .int (i ^ j.toNat)) dPow := by
  intro O H σ ρ G x y d1 d2 d Q s r1 r2 e q
  cases d1 <;> cases d2 <;> unfold dPow at e <;> dsimp only at e <;> try (cases e; done)
  case int.int i j =>
    split at e
    · rename_i hz
      cases e
      simp only [Bool.and_eq_true, decide_eq_true_eq] at hz
      exact ⟨i, j, r1, r2, ⟨hz.1.1, hz.1.2, hz.2⟩, fin0 s q rfl⟩
    · cases e
theorem o_neg : Op1 K (rU fun i => .int (-i)) dNeg := by
  intro O H σ ρ G x d1 d Q s r1 e q
  cases d1 <;> unfold dNeg at e <;> dsimp only at e <;> try (cases e; done)
  case int i => cases e; exact ⟨i, r1, fin0 s q rfl⟩
abbrev rLtA (K : PySem.W.Frag) : R2 := fun x y H Q => rI0 (fun i j => .bl (decide (i < j))) x y H Q ∨ (rLtT K x y H Q ∨ ∃ i j, x = .str i ∧ y = .str j ∧ Q (.bl (decide (i.cps.toList < j.cps.toList))) H)
theorem o_lt : Op2 K (rLtA K) dLt := by
  intro O H σ ρ G x y d1 d2 d Q s r1 r2 e q
  cases d1 <;> cases d2 <;> unfold dLt at e <;> dsimp only at e <;> try (cases e; done)
  case int.int i j => cases e; exact .inl ⟨i, j, r1, r2, fin0 s q rfl⟩
  case str.str i j => cases e; exact .inr (.inr ⟨i, j, r1, r2, fin0 s q rfl⟩)
  case tup.tup xs ys =>
    split at e
    · rename_i ns ms e1 e2
      cases e
      obtain ⟨a, vs, rfl, ha, la⟩ := r1
      obtain ⟨b, us, rfl, hb, lb⟩ := r2
      rw [intsOf_eq e1] at la
      rw [intsOf_eq e2] at lb
      exact .inr (.inl ⟨a, b, ns, ms, rfl, rfl, by rw [← la.ints]; exact SqT.of ha, by rw [← lb.ints]; exact SqT.of hb, fin0 s q rfl⟩)
    · cases e
theorem o_le : Op2 K (rI0 fun i j => .bl (decide (i ≤ j))) dLe := by
  intro O H σ ρ G x y d1 d2 d Q s r1 r2 e q
  cases d1 <;> cases d2 <;> unfold dLe at e <;> dsimp only at e <;> try (cases e; done)
  case int.int i j => cases e; exact ⟨i, j, r1, r2, fin0 s q rfl⟩
theorem o_gt : Op2 K (rI0 fun i j => .bl (decide (j < i))) dGt := by
  intro O H σ ρ G x y d1 d2 d Q s r1 r2 e q
  cases d1 <;> cases d2 <;> unfold dGt at e <;> dsimp only at e <;> try (cases e; done)
  case int.int i j => cases e; exact ⟨i, j, r1, r2, fin0 s q rfl⟩
theorem o_ge : Op2 K (rI0 fun i j => .bl (decide (j ≤ i))) dGe := by
  intro O H σ ρ G x y d1 d2 d Q s r1 r2 e q
  cases d1 <;> cases d2 <;> unfold dGe at e <;> dsimp only at e <;> try (cases e; done)
  case int.int i j => cases e; exact ⟨i, j, r1, r2, fin0 s q rfl⟩
theorem o_is : Op2 K (fun x y H Q => ∃ a b, x = .bl a ∧ y = .bl b ∧ Q (.bl (decide (a = b))) H) dIs := by
  intro O H σ ρ G x y d1 d2 d Q s r1 r2 e q
  cases d1 <;> cases d2 <;> unfold dIs at e <;> dsimp only at e <;> try (cases e; done)
  case bl.bl i j => cases e; exact ⟨i, j, r1, r2, fin0 s q rfl⟩
theorem o_isnot : Op2 K (fun x y H Q => ∃ a b, x = .bl a ∧ y = .bl b ∧ Q (.bl (!decide (a = b))) H) dIsNot := by
  intro O H σ ρ G x y d1 d2 d Q s r1 r2 e q
  cases d1 <;> cases d2 <;> unfold dIsNot at e <;> dsimp only at e <;> try (cases e; done)
  case bl.bl i j => cases e; exact ⟨i, j, r1, r2, fin0 s q rfl⟩
end
section
variable {X : Cx} {a b c : Expr} {ma mb mc : SE} {pos : Pos}
theorem de_add (ha : DE X a ma) (hb : DE X b mb) : DE X (.BinOp a .Add b pos) (mBin dAdd ma mb) := de_op (op_add.or (op_catA.or (op_cat.or op_add_str))) o_add ha hb
theorem dn_add (ha : DE X a ma) (hb : DE X b mb) : DN X (.BinOp a .Add b pos) (mBinN dAddN ma mb) := dn_op op_cat o_addN ha hb
theorem de_sub (ha : DE X a ma) (hb : DE X b mb) : DE X (.BinOp a .Sub b pos) (mBin dSub ma mb) := de_op op_sub o_sub ha hb
theorem de_mul (ha : DE X a ma) (hb : DE X b mb) : DE X (.BinOp a .Mult b pos) (mBin dMul ma mb) := de_op (op_mul.or (op_rep.or (op_repT.or op_repS))) o_mul ha hb
theorem dn_mul (ha : DE X a ma) (hb : DE X b mb) : DN X (.BinOp a .Mult b pos) (mBinN dMulN ma mb) := dn_op op_rep o_mulN ha hb
theorem de_fdiv (ha : DE X a ma) (hb : DE X b mb) : DE X (.BinOp a .FloorDiv b pos) (mBin dFdiv ma mb) := de_op op_fdivW o_fdiv ha hb
theorem de_mod (ha : DE X a ma) (hb : DE X b mb) : DE X (.BinOp a .Mod b pos) (mBin dMod ma mb) := de_op op_mod o_mod ha hb
theorem de_pow (ha : DE X a ma) (hb : DE X b mb) : DE X (.BinOp a .Pow b pos) (mBin dPow ma mb) := de_op op_pow o_pow ha hb
theorem de_neg (ha : DE X a ma) : DE X (.UnaryOp .USub a pos) (mUn dNeg ma) := de_un un_neg o_neg ha
theorem de_eq (hu : X.A.units + 64 < cLine) (ha : DE X a ma) (hb : DE X b mb) : DE X (.Compare a [.Eq] [b] pos) (mBin dEq ma mb) := de_cmp (op_eqD hu) o_eq ha hb (nomark _)
theorem de_ne (hu : X.A.units + 64 < cLine) (ha : DE X a ma) (hb : DE X b mb) : DE X (.Compare a [.NotEq] [b] pos) (mBin dNe ma mb) := de_cmp (op_neD hu) o_ne ha hb (nomark _)
theorem de_lt (hu : X.A.units + 64 < cLine) (ha : DE X a ma) (hb : DE X b mb) : DE X (.Compare a [.Lt] [b] pos) (mBin dLt ma mb) := de_cmp (op_lt.or ((op_ltT (by omega)).or op_lt_str)) o_lt ha hb (nomark _)
theorem de_le (ha : DE X a ma) (hb : DE X b mb) : DE X (.Compare a [.LtE] [b] pos) (mBin dLe ma mb) := de_cmp op_le o_le ha hb (nomark _)
theorem de_gt (ha : DE X a ma) (hb : DE X b mb) : DE X (.Compare a [.Gt] [b] pos) (mBin dGt ma mb) := de_cmp op_gt o_gt ha hb (nomark _)
theorem de_ge (ha : DE X a ma) (hb : DE X b mb) : DE X (.Compare a [.GtE] [b] pos) (mBin dGe ma mb) := de_cmp op_ge o_ge ha hb (nomark _)
theorem de_is (ha : DE X a ma) (hb : DE X b mb) : DE X (.Compare a [.Is] [b] pos) (mBin dIs ma mb) := de_cmp op_is_bl o_is ha hb (nomark _)
theorem de_isnot (ha : DE X a ma) (hb : DE X b mb) : DE X (.Compare a [.IsNot] [b] pos) (mBin dIsNot ma mb) := de_cmp op_isnot_bl o_isnot ha hb (nomark _)
theorem Rep.isN {K : PySem.W.Frag} {O : Ow} {H : Hp} {v : V} {d : D} (r : Rep K O H v d) : decide (v = .non) = d.isN := by
  cases d <;> first
    | (rw [show v = _ from r]; rfl)
    | (obtain ⟨a, _, e, _⟩ := r; rw [e]; rfl)
    | (obtain ⟨a, e, _⟩ := r; rw [e]; rfl)
theorem de_isN {j p2} (ha : DE X a ma) : DE X (.Compare a [.Is] [.Constant .none j p2] pos) (mUn (fun d => some (.bl d.isN)) ma) :=
  (pe_cmp (pc_isN ha) (nomark _)).imp fun σ H Q ⟨O, ρ, G, d, ρ', G', s, e, q⟩ => tD.go s e fun v1 O1 H1 d1 ρ1 G1 x1 s1 r1 e1 => by
    obtain ⟨ef, rfl, rfl⟩ := lft_eq e1
    cases ef
    rw [r1.isN]
    exact q _ O1 H1 x1 s1 rfl
theorem de_notN {j p2} (ha : DE X a ma) : DE X (.Compare a [.IsNot] [.Constant .none j p2] pos) (mUn (fun d => some (.bl (!d.isN))) ma) :=
  (pe_cmp (pc_notN ha) (nomark _)).imp fun σ H Q ⟨O, ρ, G, d, ρ', G', s, e, q⟩ => tD.go s e fun v1 O1 H1 d1 ρ1 G1 x1 s1 r1 e1 => by
    obtain ⟨ef, rfl, rfl⟩ := lft_eq e1
    cases ef
    rw [r1.isN]
    exact q _ O1 H1 x1 s1 rfl

/-! ### tests, and, or, not, if -/
def mTest (a : SE) : SB := bnd a fun d => lft (match d with | .bl b => some b | _ => none)
theorem test_go {m : SE} {K : PySem.W.Frag} {σ : L2.St} {H : Hp} {Q : Bool → Hp → Prop} (h : tQ K (mTest m) σ H Q) : tB (tD K m) σ H Q := by
  obtain ⟨O, ρ, G, b, ρ', G', s, e, q⟩ := h
  refine tD.go s e fun v1 O1 H1 d1 ρ1 G1 x1 s1 r1 e1 => ?_
  obtain ⟨ef, rfl, rfl⟩ := lft_eq e1
  cases d1 <;> try (cases ef; done)
  case bl k => cases ef; exact ⟨b, r1, q O1 H1 x1 s1⟩
theorem dt_val (ha : DE X a ma) (he : ∀ whole, isTrue a X.env whole = (do let v ← whole; standAt a.pos; holding [v] (truthy v)) := by intro _; rfl) : DT X a (mTest ma) :=
  (pt_val ha he).imp fun _ _ _ h => test_go h
/-- a comparison as a test, by its form as a value -/
theorem dt_cmp {op : CmpOp} {r : R2} {f : D → D → Option D} (ho : OpR X (compareOp op) r) (hr : Op2 X.K r f) (ha : DE X a ma) (hb : DE X b mb) (hm : behindInMarks op b = false) : DT X (.Compare a [op] [b] pos) (mTest (mBin f ma mb)) :=
  (pt_cmpR ho ha hb hm).imp fun σ H Q ⟨O, ρ, G, b, ρ', G', s, e, q⟩ => by
    obtain ⟨d, ρ1, G1, e1, e2⟩ := bnd_eq e
    have h := op2 (X := X) hr (ma := ma) (mb := mb) (σ := σ) (H := H) (Q := fun x H' => ∃ k, x = .bl k ∧ Q k H') ⟨O, ρ, G, d, ρ1, G1, s, e1, fun v O' H' x s' r' => by
      obtain ⟨ef, rfl, rfl⟩ := lft_eq e2
      cases d <;> try (cases ef; done)
      case bl k => cases ef; exact ⟨b, r', q O' H' x s'⟩⟩
    exact h
theorem dt_eq (hu : X.A.units + 64 < cLine) (ha : DE X a ma) (hb : DE X b mb) : DT X (.Compare a [.Eq] [b] pos) (mTest (mBin dEq ma mb)) := dt_cmp (op_eqD hu) o_eq ha hb (nomark _)
theorem dt_ne (hu : X.A.units + 64 < cLine) (ha : DE X a ma) (hb : DE X b mb) : DT X (.Compare a [.NotEq] [b] pos) (mTest (mBin dNe ma mb)) := dt_cmp (op_neD hu) o_ne ha hb (nomark _)
theorem dt_lt (hu : X.A.units + 64 < cLine) (ha : DE X a ma) (hb : DE X b mb) : DT X (.Compare a [.Lt] [b] pos) (mTest (mBin dLt ma mb)) := dt_cmp (op_lt.or ((op_ltT (by omega)).or op_lt_str)) o_lt ha hb (nomark _)
theorem dt_le (ha : DE X a ma) (hb : DE X b mb) : DT X (.Compare a [.LtE] [b] pos) (mTest (mBin dLe ma mb)) := dt_cmp op_le o_le ha hb (nomark _)
theorem dt_gt (ha : DE X a ma) (hb : DE X b mb) : DT X (.Compare a [.Gt] [b] pos) (mTest (mBin dGt ma mb)) := dt_cmp op_gt o_gt ha hb (nomark _)
theorem dt_ge (ha : DE X a ma) (hb : DE X b mb) : DT X (.Compare a [.GtE] [b] pos) (mTest (mBin dGe ma mb)) := dt_cmp op_ge o_ge ha hb (nomark _)
theorem dt_is (ha : DE X a ma) (hb : DE X b mb) : DT X (.Compare a [.Is] [b] pos) (mTest (mBin dIs ma mb)) := dt_cmp op_is_bl o_is ha hb (nomark _)
theorem dt_isnot (ha : DE X a ma) (hb : DE X b mb) : DT X (.Compare a [.IsNot] [b] pos) (mTest (mBin dIsNot ma mb)) := dt_cmp op_isnot_bl o_isnot ha hb (nomark _)
def mTestN (g : D → Bool) (a : SE) : SB := bnd a fun d => ret (g d)
theorem dt_isN {j p2} (ha : DE X a ma) : DT X (.Compare a [.Is] [.Constant .none j p2] pos) (mTestN D.isN ma) :=
  (pt_cmp (pc_isN ha) (nomark _)).imp fun σ H Q ⟨O, ρ, G, d, ρ', G', s, e, q⟩ => tD.go s e fun v1 O1 H1 d1 ρ1 G1 x1 s1 r1 e1 => by
    cases e1
    exact ⟨_, rfl, by rw [r1.isN]; exact q O1 H1 x1 s1⟩
theorem dt_notN {j p2} (ha : DE X a ma) : DT X (.Compare a [.IsNot] [.Constant .none j p2] pos) (mTestN (fun d => !d.isN) ma) :=
  (pt_cmp (pc_notN ha) (nomark _)).imp fun σ H Q ⟨O, ρ, G, d, ρ', G', s, e, q⟩ => tD.go s e fun v1 O1 H1 d1 ρ1 G1 x1 s1 r1 e1 => by
    cases e1
    exact ⟨_, rfl, by rw [r1.isN]; exact q O1 H1 x1 s1⟩
def mAnd (a b : SB) : SB := bnd a fun k => if k = true then b else ret false
def mOr (a b : SB) : SB := bnd a fun k => if k = true then ret true else b
def mNot (a : SB) : SB := bnd a fun k => ret (!k)
variable {pa pb : SB} {rest : List Expr}
theorem dw_and1 (h : DT X a pa) : DW X (.BoolOp .And [a] pos) pa := pw_and1 h
theorem dw_or1 (h : DT X a pa) : DW X (.BoolOp .Or [a] pos) pa := pw_or1 h
theorem dw_and (h : DT X a pa) (g : DW X (.BoolOp .And (b :: rest) pos) pb) : DW X (.BoolOp .And (a :: b :: rest) pos) (mAnd pa pb) :=
  (pw_and h g).imp fun σ H Q ⟨O, ρ, G, d, ρ', G', s, e, q⟩ => tQ.go s e fun k O1 H1 ρ1 G1 x1 s1 e1 => by
    cases k with
    | true => exact ⟨O1, ρ1, G1, d, ρ', G', s1, e1, fun O2 H2 x2 s2 => q O2 H2 (x1.trans x2) s2⟩
    | false => cases e1; exact q O1 H1 x1 s1
theorem dw_or (h : DT X a pa) (g : DW X (.BoolOp .Or (b :: rest) pos) pb) : DW X (.BoolOp .Or (a :: b :: rest) pos) (mOr pa pb) :=
  (pw_or h g).imp fun σ H Q ⟨O, ρ, G, d, ρ', G', s, e, q⟩ => tQ.go s e fun k O1 H1 ρ1 G1 x1 s1 e1 => by
    cases k with
    | false => exact ⟨O1, ρ1, G1, d, ρ', G', s1, e1, fun O2 H2 x2 s2 => q O2 H2 (x1.trans x2) s2⟩
    | true => cases e1; exact q O1 H1 x1 s1
theorem dt_w {e : Expr} {m : SB} (h : DW X e m) : DT X e m := PW.pt h
theorem dt_not (h : DT X a pa) : DT X (.UnaryOp .Not a pos) (mNot pa) :=
  (pt_not h).imp fun σ H Q ⟨O, ρ, G, d, ρ', G', s, e, q⟩ => tQ.go s e fun k O1 H1 ρ1 G1 x1 s1 e1 => by
    cases e1
    exact q O1 H1 x1 s1
/-- as values (bools) -/
def mAndV (a b : SE) : SE := bnd a fun d => match d with
  | .bl true => b
  | .bl false => ret (.bl false)
  | _ => fun _ _ => none
def mOrV (a b : SE) : SE := bnd a fun d => match d with
  | .bl true => ret (.bl true)
  | .bl false => b
  | _ => fun _ _ => none
theorem de_one {op} (h : DE X a ma) : DE X (.BoolOp op [a] pos) ma := pe_one h
theorem de_and (h : DE X a ma) (g : DE X (.BoolOp .And (b :: rest) pos) mb) : DE X (.BoolOp .And (a :: b :: rest) pos) (mAndV ma mb) :=
  (pe_and h g).imp fun σ H Q ⟨O, ρ, G, d, ρ', G', s, e, q⟩ => tD.go s e fun v1 O1 H1 d1 ρ1 G1 x1 s1 r1 e1 => by
    cases d1 <;> try (cases e1; done)
    case bl k =>
      refine ⟨k, r1, ?_⟩
      cases k with
      | true => exact ⟨O1, ρ1, G1, d, ρ', G', s1, e1, fun v O2 H2 x2 s2 => q v O2 H2 (x1.trans x2) s2⟩
      | false => cases e1; exact q _ O1 H1 x1 s1 rfl
theorem de_or (h : DE X a ma) (g : DE X (.BoolOp .Or (b :: rest) pos) mb) : DE X (.BoolOp .Or (a :: b :: rest) pos) (mOrV ma mb) :=
  (pe_or h g).imp fun σ H Q ⟨O, ρ, G, d, ρ', G', s, e, q⟩ => tD.go s e fun v1 O1 H1 d1 ρ1 G1 x1 s1 r1 e1 => by
    cases d1 <;> try (cases e1; done)
    case bl k =>
      refine ⟨k, r1, ?_⟩
      cases k with
      | false => exact ⟨O1, ρ1, G1, d, ρ', G', s1, e1, fun v O2 H2 x2 s2 => q v O2 H2 (x1.trans x2) s2⟩
      | true => cases e1; exact q _ O1 H1 x1 s1 rfl
theorem de_not (h : DE X a ma) : DE X (.UnaryOp .Not a pos) (mUn dNot ma) :=
  (pe_not h).imp fun σ H Q ⟨O, ρ, G, d, ρ', G', s, e, q⟩ => tD.go s e fun v1 O1 H1 d1 ρ1 G1 x1 s1 r1 e1 => by
    obtain ⟨ef, rfl, rfl⟩ := lft_eq e1
    cases d1 <;> try (cases ef; done)
    case bl k => cases ef; exact ⟨k, r1, q _ O1 H1 x1 s1 rfl⟩
def mIf (p : SB) (a b : SE) : SE := bnd p fun k => if k = true then a else b
theorem de_if (h : DT X c pa) (ha : DE X a ma) (hb : DE X b mb) : DE X (.IfExp c a b pos) (mIf pa ma mb) :=
  (pe_ifExp h ha hb).imp fun σ H Q ⟨O, ρ, G, d, ρ', G', s, e, q⟩ => tQ.go s e fun k O1 H1 ρ1 G1 x1 s1 e1 => by
    cases k with
    | true => exact ⟨O1, ρ1, G1, d, ρ', G', s1, e1, fun v O2 H2 x2 s2 => q v O2 H2 (x1.trans x2) s2⟩
    | false => exact ⟨O1, ρ1, G1, d, ρ', G', s1, e1, fun v O2 H2 x2 s2 => q v O2 H2 (x1.trans x2) s2⟩
/-- a <= b <= c -/
def mChain (f g : D → D → Option D) (a b c : SE) : SE := bnd a fun x => bnd b fun y => bnd (lft (f x y)) fun z => match z with
  | .bl true => bnd c fun w => lft (g y w)
  | .bl false => ret (.bl false)
  | _ => fun _ _ => none
end
end DL

/-! DL: subscripts, slices, built-ins. -/
namespace DL
open PySem PySem.Spec PyProof.Rows L2

/-! ### what is read and not kept -/
abbrev Pn (O : Ow) (a : Addr) : Prop := O a = none ∨ ∃ i, O a = some (.slot i)
section
variable (K : PySem.W.Frag) (O : Ow) (H : Hp)
mutual
def Pk (v : V) : D → Prop
  | .non => v = .non
  | .bl b => v = .bl b
  | .int i => v = .int i
  | .str x => v = .str x
  | .tup ds => ∃ a vs, v = .ref a ∧ H a = some (.tup vs) ∧ PkL vs ds
  | .lst ds => ∃ a vs, v = .ref a ∧ Pn O a ∧ H a = some (.lst vs) ∧ PkL vs ds
  | .scr ns => ∃ a, v = .ref a ∧ Scr K H a (ns.map V.int)
  | .hnd n => ∃ a, v = .ref a ∧ O a = some (.shr n)
  | .dk kvs => ∃ a ks, v = .ref a ∧ Pn O a ∧ Rd H a (.dK ks) ∧ PkK ks kvs
  | .dt kvs => ∃ a ks, v = .ref a ∧ Pn O a ∧ Rd H a (.dT ks) ∧ PkT ks kvs
def PkL (vs : List V) : List D → Prop
  | [] => vs = []
  | d :: ds => ∃ v r, vs = v :: r ∧ Pk v d ∧ PkL r ds
def PkK (ks : List (Key × V)) : List (Key × D) → Prop
  | [] => ks = []
  | (k, d) :: ds => ∃ v r, ks = (k, v) :: r ∧ Pk v d ∧ PkK r ds
def PkT (ks : List (List Key × V)) : List (List Key × D) → Prop
  | [] => ks = []
  | (k, d) :: ds => ∃ v r, ks = (k, v) :: r ∧ Pk v d ∧ PkT r ds
end
end
mutual
/-- nothing written within -/
def D.solid : D → Bool
  | .tup ds => solidL ds
  | .lst _ => false
  | .dk _ => false
  | .dt _ => false
  | _ => true
def solidL : List D → Bool
  | [] => true
  | d :: ds => d.solid && solidL ds
end
section
variable {K : PySem.W.Frag} {O O' : Ow} {H H' : Hp}
mutual
theorem Rep.pk : ∀ {d : D} {v : V}, Rep K O H v d → Pk K O H v d
  | .non, _, h => h
  | .bl _, _, h => h
  | .int _, _, h => h
  | .str _, _, h => h
  | .tup ds, _, ⟨a, vs, e, h, r⟩ => ⟨a, vs, e, h, RepL.pk r⟩
  | .lst ds, _, ⟨a, vs, e, n, h, r⟩ => ⟨a, vs, e, .inl n, h, RepL.pk r⟩
  | .scr ns, _, h => h
  | .hnd n, _, h => h
  | .dk kvs, _, ⟨a, ks, e, n, h, r⟩ => ⟨a, ks, e, .inl n, h, RepK.pk r⟩
  | .dt kvs, _, ⟨a, ks, e, n, h, r⟩ => ⟨a, ks, e, .inl n, h, RepT.pk r⟩
theorem RepL.pk : ∀ {ds : List D} {vs : List V}, RepL K O H vs ds → PkL K O H vs ds
  | [], _, h => h
  | d :: ds, _, ⟨v, r, e, h, t⟩ => ⟨v, r, e, h.pk, RepL.pk t⟩
theorem RepK.pk : ∀ {ds : List (Key × D)} {ks : List (Key × V)}, RepK K O H ks ds → PkK K O H ks ds
  | [], _, h => h
  | (k, d) :: ds, _, ⟨v, r, e, h, t⟩ => ⟨v, r, e, h.pk, RepK.pk t⟩
theorem RepT.pk : ∀ {ds : List (List Key × D)} {ks : List (List Key × V)}, RepT K O H ks ds → PkT K O H ks ds
  | [], _, h => h
  | (k, d) :: ds, _, ⟨v, r, e, h, t⟩ => ⟨v, r, e, h.pk, RepT.pk t⟩
end
theorem Pn.ne (x : Ne O H O' H') {a : Addr} {u : HO} (p : Pn O a) (h : Rd H a u) : Pn O' a ∧ Rd H' a u := by
  have k : ∀ o, H a = some o → Pn O' a ∧ H' a = some o := fun o e => by
    rcases p with p | ⟨i, p⟩
    · exact ⟨.inl (x.non _ (nn e) p), x.keep _ _ e p⟩
    · obtain ⟨h1, h2⟩ := x.slt _ _ _ e p
      exact ⟨h2.elim (fun z => .inr ⟨i, z⟩) .inl, h1⟩
  rcases h with h | ⟨o, h⟩
  · exact ⟨(k _ h).1, .inl (k _ h).2⟩
  · exact ⟨(k _ h).1, .inr ⟨o, (k _ h).2⟩⟩
theorem Pn.nel (x : Ne O H O' H') {a : Addr} {u : HO} (p : Pn O a) (h : H a = some u) : Pn O' a ∧ H' a = some u := by
  rcases p with p | ⟨i, p⟩
  · exact ⟨.inl (x.non _ (nn h) p), x.keep _ _ h p⟩
  · obtain ⟨h1, h2⟩ := x.slt _ _ _ h p
    exact ⟨h2.elim (fun z => .inr ⟨i, z⟩) .inl, h1⟩
mutual
theorem Pk.ne (x : Ne O H O' H') : ∀ {d : D} {v : V}, Pk K O H v d → Pk K O' H' v d
  | .non, _, h => h
  | .bl _, _, h => h
  | .int _, _, h => h
  | .str _, _, h => h
  | .tup ds, _, ⟨a, vs, e, h, r⟩ => ⟨a, vs, e, x.tup _ _ h, PkL.ne x r⟩
  | .lst ds, _, ⟨a, vs, e, n, h, r⟩ => ⟨a, vs, e, (n.nel x h).1, (n.nel x h).2, PkL.ne x r⟩
  | .scr ns, _, ⟨a, e, h⟩ => ⟨a, e, x.scr h⟩
  | .hnd n, _, ⟨a, e, h⟩ => ⟨a, e, x.shr _ _ h⟩
  | .dk kvs, _, ⟨a, ks, e, n, h, r⟩ => ⟨a, ks, e, (n.ne x h).1, (n.ne x h).2, PkK.ne x r⟩
  | .dt kvs, _, ⟨a, ks, e, n, h, r⟩ => ⟨a, ks, e, (n.ne x h).1, (n.ne x h).2, PkT.ne x r⟩
theorem PkL.ne (x : Ne O H O' H') : ∀ {ds : List D} {vs : List V}, PkL K O H vs ds → PkL K O' H' vs ds
  | [], _, h => h
  | d :: ds, _, ⟨v, r, e, h, t⟩ => ⟨v, r, e, Pk.ne x h, PkL.ne x t⟩
theorem PkK.ne (x : Ne O H O' H') : ∀ {ds : List (Key × D)} {ks : List (Key × V)}, PkK K O H ks ds → PkK K O' H' ks ds
  | [], _, h => h
  | (k, d) :: ds, _, ⟨v, r, e, h, t⟩ => ⟨v, r, e, Pk.ne x h, PkK.ne x t⟩
theorem PkT.ne (x : Ne O H O' H') : ∀ {ds : List (List Key × D)} {ks : List (List Key × V)}, PkT K O H ks ds → PkT K O' H' ks ds
  | [], _, h => h
  | (k, d) :: ds, _, ⟨v, r, e, h, t⟩ => ⟨v, r, e, Pk.ne x h, PkT.ne x t⟩
end
mutual
theorem Pk.rep : ∀ {d : D} {v : V}, Pk K O H v d → d.solid = true → Rep K O H v d
  | .non, _, h, _ => h
  | .bl _, _, h, _ => h
  | .int _, _, h, _ => h
  | .str _, _, h, _ => h
  | .tup ds, _, ⟨a, vs, e, h, r⟩, s => ⟨a, vs, e, h, PkL.rep r (by unfold D.solid at s; exact s)⟩
  | .scr ns, _, h, _ => h
  | .hnd n, _, h, _ => h
  | .lst _, _, _, s => by unfold D.solid at s; cases s
  | .dk _, _, _, s => by unfold D.solid at s; cases s
  | .dt _, _, _, s => by unfold D.solid at s; cases s
theorem PkL.rep : ∀ {ds : List D} {vs : List V}, PkL K O H vs ds → solidL ds = true → RepL K O H vs ds
  | [], _, h, _ => h
  | d :: ds, _, ⟨v, r, e, h, t⟩, s => by
    unfold solidL at s
    obtain ⟨s1, s2⟩ := Bool.and_eq_true_iff.mp s
    exact ⟨v, r, e, h.rep s1, PkL.rep t s2⟩
end
theorem PkL.length : ∀ {ds : List D} {vs : List V}, PkL K O H vs ds → vs.length = ds.length
  | [], _, h => by rw [show _ = [] from h]; rfl
  | d :: ds, _, ⟨v, r, e, _, t⟩ => by rw [e, List.length_cons, List.length_cons, PkL.length t]
theorem PkL.get : ∀ {ds : List D} {vs : List V} {i : Nat} {d : D}, PkL K O H vs ds → ds[i]? = some d → ∃ v, vs[i]? = some v ∧ Pk K O H v d
  | [], _, _, _, _, q => by simp at q
  | d :: ds, _, 0, _, ⟨v, r, e, h, t⟩, q => by simp at q; subst q; exact ⟨v, by rw [e]; rfl, h⟩
  | d :: ds, _, i + 1, _, ⟨v, r, e, h, t⟩, q => by
    obtain ⟨u, h1, h2⟩ := PkL.get (i := i) t (by simpa using q)
    exact ⟨u, by rw [e]; simpa using h1, h2⟩
mutual
theorem Pk.dp : ∀ {d : D} {v : V} {p : PyData}, Pk K O H v d → d.py = some p → Dp K H v p
  | .non, _, _, h, e => by unfold D.py at e; cases e; rw [show _ = V.non from h]; exact .non
  | .bl b, _, _, h, e => by unfold D.py at e; cases e; rw [show _ = V.bl b from h]; exact .bl b
  | .int b, _, _, h, e => by unfold D.py at e; cases e; rw [show _ = V.int b from h]; exact .int b
  | .str b, _, _, h, e => by unfold D.py at e; cases e; rw [show _ = V.str b from h]; exact .str b
  | .tup ds, _, _, ⟨a, vs, e1, h, r⟩, e => by
    unfold D.py at e
    cases q : pyL ds with
    | none => rw [q] at e; cases e
    | some ps => rw [q] at e; cases e; rw [e1]; exact .tup (SqT.of h) (PkL.dp r q)
  | .lst ds, _, _, ⟨a, vs, e1, _, h, r⟩, e => by
    unfold D.py at e
    cases q : pyL ds with
    | none => rw [q] at e; cases e
    | some ps => rw [q] at e; cases e; rw [e1]; exact .lst (SqL.of h) (PkL.dp r q)
  | .scr _, _, _, _, e => by unfold D.py at e; cases e
  | .hnd _, _, _, _, e => by unfold D.py at e; cases e
  | .dk _, _, _, _, e => by unfold D.py at e; cases e
  | .dt _, _, _, _, e => by unfold D.py at e; cases e
theorem PkL.dp : ∀ {ds : List D} {vs : List V} {ps : List PyData}, PkL K O H vs ds → pyL ds = some ps → DpAll K H vs ps
  | [], _, _, h, e => by unfold pyL at e; cases e; rw [show _ = [] from h]; exact .nil
  | d :: ds, _, _, ⟨v, r, e1, h, t⟩, e => by
    unfold pyL at e
    cases q : d.py with
    | none => rw [q] at e; cases e
    | some p =>
      rw [q] at e
      cases q2 : pyL ds with
      | none => rw [q2] at e; cases e
      | some ps => rw [q2] at e; cases e; rw [e1]; exact .cons (Pk.dp h q) (PkL.dp t q2)
end
theorem SlOk.pk {i : Nat} {v : Option (Option V)} {s : Sl} (h : SlOk K O H i v s) (ne : s ≠ .un) : ∃ x, v = some (some x) ∧ Pk K O H x s.d := by
  cases s with
  | un => exact absurd rfl ne
  | im d => obtain ⟨x, e, r⟩ := h; exact ⟨x, e, r.pk⟩
  | m1 ds => obtain ⟨a, e, p, vs, h, r⟩ := h; exact ⟨_, e, a, vs, rfl, .inr ⟨i, p⟩, h, r.pk⟩
  | m2 dss =>
    obtain ⟨a, e, p, as, h, n1, n2, r⟩ := h
    refine ⟨_, e, a, _, rfl, .inr ⟨i, p⟩, h, ?_⟩
    clear h n1 n2 ne
    induction r with
    | nil => exact rfl
    | cons z t ih =>
      obtain ⟨q, vs, h, r⟩ := z
      exact ⟨_, _, rfl, ⟨_, vs, rfl, .inr ⟨i, q⟩, h, r.pk⟩, ih⟩
  | mk kvs => obtain ⟨a, e, p, ks, h, r⟩ := h; exact ⟨_, e, a, ks, rfl, .inr ⟨i, p⟩, .inl h, r.pk⟩
  | mt kvs => obtain ⟨a, e, p, ks, h, r⟩ := h; exact ⟨_, e, a, ks, rfl, .inr ⟨i, p⟩, .inl h, r.pk⟩
end
/-- an expression that is read only -/
def tP (K : PySem.W.Frag) (m : SE) : TE := fun σ H Q => ∃ O ρ G d ρ' G', SR K O H σ ρ G ∧ m ρ G = some (d, ρ', G') ∧ ∀ v O' H', Ne O H O' H' → SR K O' H' σ ρ' G' → Pk K O' H' v d → Q v H'
abbrev DP (X : Cx) (e : Expr) (m : SE) : Prop := PE X e (tP X.K m)
theorem tP.go {K : PySem.W.Frag} {O : Ow} {H : Hp} {σ : L2.St} {ρ : List Sl} {G : Gs} {β : Type} {r : β × List Sl × Gs} {a : SE} {f : D → Sm β} {R : VK} (s : SR K O H σ ρ G) (e : bnd a f ρ G = some r) (h : ∀ v O1 H1 d ρ1 G1, Ne O H O1 H1 → SR K O1 H1 σ ρ1 G1 → Pk K O1 H1 v d → f d ρ1 G1 = some r → R v H1) : tP K a σ H R := by
  obtain ⟨d, ρ1, G1, q, e⟩ := bnd_eq e
  exact ⟨O, ρ, G, d, ρ1, G1, s, q, fun v O' H' x s' r' => h v O' H' d ρ1 G1 x s' r' e⟩

/-! ### operations that only read: op1, op2 over what is read -/
section
variable (K : PySem.W.Frag)
/-- a value is read off what is read -/
def Pk2 (r : R2) (f : D → D → Option D) : Prop := ∀ O H σ ρ G x y d1 d2 d Q, SR K O H σ ρ G → Pk K O H x d1 → Pk K O H y d2 → f d1 d2 = some d →
  (∀ v, Pk K O H v d → Q v H) → r x y H Q
end
def mPeek (i : Nat) : SE := fun ρ G => match ρ[i]? with
  | none => none
  | some .un => none
  | some s => some (s.d, ρ, G)
section
variable {X : Cx} {a b c : Expr} {ma mb mc : SE} {pos : Pos}
theorem dp_var (i : Nat) {x : Str} (hN : X.N[i]? = some x := by rfl) (hv : Vis X.env.scope x := by first | exact Or.inl rfl | exact Or.inr (Or.inl rfl) | exact Or.inr (Or.inr rfl)) (hd : (x == ("__debug__" : Str)) = false := by decide)
    (hcd : (x == ("__classdict__" : Str)) = false := by decide) : DP X (.Name x pos) (mPeek i) :=
  (pe_var hN hv hd hcd).imp fun σ H Q ⟨O, ρ, G, d, ρ', G', s, e, q⟩ => by
    unfold mPeek at e
    cases q1 : ρ[i]? with
    | none => rw [q1] at e; cases e
    | some sl =>
      rw [q1] at e
      have ne : sl ≠ .un := fun z => by subst z; cases e
      have e' : some (sl.d, ρ, G) = some (d, ρ', G') := by
        cases sl with
        | un => exact absurd rfl ne
        | _ => exact e
      cases e'
      obtain ⟨x, e1, r⟩ := (s.slot i _ q1).pk ne
      exact ⟨x, e1, q x O H Ne.refl s r⟩
theorem dp_of (h : DE X a ma) : DP X a ma := h.imp fun σ H Q ⟨O, ρ, G, d, ρ', G', s, e, q⟩ => ⟨O, ρ, G, d, ρ', G', s, e, fun v O' H' x s' r' => q v O' H' x s' r'.pk⟩
/-- what is read has nothing written within: it may be kept -/
def mSolid (a : SE) : SE := bnd a fun d => lft (if d.solid then some d else none)
theorem de_solid (h : DP X a ma) : DE X a (mSolid ma) := h.imp fun σ H Q ⟨O, ρ, G, d, ρ', G', s, e, q⟩ => tP.go s e fun v1 O1 H1 d1 ρ1 G1 x1 s1 r1 e1 => by
  obtain ⟨ef, rfl, rfl⟩ := lft_eq e1
  split at ef
  · rename_i hs
    cases ef
    exact q v1 O1 H1 x1 s1 (r1.rep hs)
  · cases ef
theorem pk2 {r : R2} {f : D → D → Option D} (hr : Pk2 X.K r f) {σ : L2.St} {H : Hp} {Q : VK} (h : tP X.K (mBin f ma mb) σ H Q) : tOp r (tP X.K ma) (tP X.K mb) σ H Q := by
  obtain ⟨O, ρ, G, d, ρ', G', s, e, q⟩ := h
  refine tP.go s e fun v1 O1 H1 d1 ρ1 G1 x1 s1 r1 e1 => tP.go s1 e1 fun v2 O2 H2 d2 ρ2 G2 x2 s2 r2 e2 => ?_
  obtain ⟨ef, rfl, rfl⟩ := lft_eq e2
  exact hr O2 H2 σ ρ' G' v1 v2 d1 d2 d Q s2 (Pk.ne x2 r1) r2 ef fun v r3 => q v O2 H2 (x1.trans x2) s2 r3

/-! ### subscripts -/
def dIx : D → D → Option D
  | .tup ds, .int i => atI ds i
  | .lst ds, .int i => atI ds i
  | .str x, .int i => if szOk x.length then (atI x.cps.toList i).map fun c => .str ⟨#[c]⟩ else none
  | _, _ => none
theorem atI_rel {α β : Type} {xs : List α} {ys : List β} (hl : xs.length = ys.length) {i : Int} {y : β} (h : atI ys i = some y) : ∃ j, ixN ys.length i = some j ∧ ys[j]? = some y ∧ ∀ x, xs[j]? = some x → atI xs i = some x := by
  unfold atI at h
  cases e : ixN ys.length i with
  | none => rw [e] at h; cases h
  | some j =>
    rw [e] at h
    refine ⟨j, rfl, h, fun x hx => ?_⟩
    unfold atI
    rw [hl, e]
    exact hx
end
end DL

/-! DL: subscripts, slices, dicts that are read, built-ins. -/
namespace DL
open PySem PySem.Spec PyProof.Rows L2

section
variable {K : PySem.W.Frag} {O : Ow} {H : Hp}
theorem o_ix : Pk2 K (rIx K) dIx := by
  intro O H σ ρ G x y d1 d2 d Q s r1 r2 e q
  cases d1 <;> cases d2 <;> unfold dIx at e <;> dsimp only at e <;> try (cases e; done)
  case tup.int ds i =>
    obtain ⟨a, vs, rfl, ha, la⟩ := r1
    obtain ⟨j, hj, hd, hx⟩ := atI_rel la.length e
    obtain ⟨v, hv, rv⟩ := la.get hd
    exact .inr (.inl ⟨a, vs, i, v, rfl, r2, SqT.of ha, hx v hv, q v rv⟩)
  case lst.int ds i =>
    obtain ⟨a, vs, rfl, _, ha, la⟩ := r1
    obtain ⟨j, hj, hd, hx⟩ := atI_rel la.length e
    obtain ⟨v, hv, rv⟩ := la.get hd
    exact .inl ⟨a, vs, i, v, rfl, r2, SqL.of ha, hx v hv, q v rv⟩
  case str.int z i =>
    split at e
    · rename_i hz
      cases h : atI z.cps.toList i with
      | none => rw [h] at e; cases e
      | some c => rw [h] at e; cases e; exact .inr (.inr ⟨z, i, c, r1, r2, szOk_ok hz, h, q _ rfl⟩)
    · cases e

/-! ### dicts -/
def toKey : D → Option Key
  | .int i => some (.inl i)
  | .str x => some (.inr x)
  | _ => none
def toKeys : List D → Option (List Key)
  | [] => some []
  | d :: ds => (toKey d).bind fun k => (toKeys ds).map fun r => k :: r
def valD {κ : Type} [DecidableEq κ] (kvs : List (κ × D)) (k : κ) : Option D := (kvs.find? fun kv => decide (kv.1 = k)).map (·.2)
def putD {κ : Type} [DecidableEq κ] (kvs : List (κ × D)) (k : κ) (v : D) : List (κ × D) :=
  if (kvs.any fun kv => decide (kv.1 = k)) = true then kvs.map (fun kv => if kv.1 = k then (kv.1, v) else kv) else kvs ++ [(k, v)]
theorem toKey_rep {d : D} {k : Key} {v : V} (e : toKey d = some k) (r : Rep K O H v d) : v = kV k := by
  cases d <;> unfold toKey at e <;> dsimp only at e <;> try (cases e; done)
  case int i => cases e; exact r
  case str i => cases e; exact r
theorem toKeys_rep : ∀ {ds : List D} {ks : List Key} {vs : List V}, toKeys ds = some ks → RepL K O H vs ds → vs = ks.map kV
  | [], ks, vs, e, r => by unfold toKeys at e; cases e; exact r
  | d :: ds, ks, vs, e, ⟨v, r, e1, h, t⟩ => by
    unfold toKeys at e
    cases q : toKey d with
    | none => rw [q] at e; cases e
    | some k =>
      rw [q] at e
      cases q2 : toKeys ds with
      | none => rw [q2] at e; cases e
      | some ks' => rw [q2] at e; cases e; rw [e1, toKey_rep q h, toKeys_rep q2 t]; rfl
theorem PkK.val {k : Key} : ∀ {kvs : List (Key × D)} {ks : List (Key × V)}, PkK K O H ks kvs → (∀ d, valD kvs k = some d → ∃ v, valV ks k = some v ∧ Pk K O H v d) ∧ (valD kvs k = none → valV ks k = none)
  | [], _, r => by rw [show _ = [] from r]; exact ⟨fun d e => (by cases e), fun _ => rfl⟩
  | (k', d') :: kvs, _, ⟨v, r, e1, h, t⟩ => by
    obtain ⟨i1, i2⟩ := PkK.val (k := k) t
    subst e1
    by_cases hk : k' = k
    · refine ⟨fun d e => ⟨v, valV_pos hk, ?_⟩, fun e => ?_⟩
      · have : valD ((k', d') :: kvs) k = some d' := by simp [valD, List.find?_cons, hk]
        rw [this] at e; cases e; exact h
      · have : valD ((k', d') :: kvs) k = some d' := by simp [valD, List.find?_cons, hk]
        rw [this] at e; cases e
    · have : valD ((k', d') :: kvs) k = valD kvs k := by simp [valD, List.find?_cons, hk]
      rw [this, valV_neg (p := (k', v)) hk]
      exact ⟨i1, i2⟩
theorem PkT.val {k : List Key} : ∀ {kvs : List (List Key × D)} {ks : List (List Key × V)}, PkT K O H ks kvs → (∀ d, valD kvs k = some d → ∃ v, valV ks k = some v ∧ Pk K O H v d) ∧ (valD kvs k = none → valV ks k = none)
  | [], _, r => by rw [show _ = [] from r]; exact ⟨fun d e => (by cases e), fun _ => rfl⟩
  | (k', d') :: kvs, _, ⟨v, r, e1, h, t⟩ => by
    obtain ⟨i1, i2⟩ := PkT.val (k := k) t
    subst e1
    by_cases hk : k' = k
    · refine ⟨fun d e => ⟨v, valV_pos hk, ?_⟩, fun e => ?_⟩
      · have : valD ((k', d') :: kvs) k = some d' := by simp [valD, List.find?_cons, hk]
        rw [this] at e; cases e; exact h
      · have : valD ((k', d') :: kvs) k = some d' := by simp [valD, List.find?_cons, hk]
        rw [this] at e; cases e
    · have : valD ((k', d') :: kvs) k = valD kvs k := by simp [valD, List.find?_cons, hk]
      rw [this, valV_neg (p := (k', v)) hk]
      exact ⟨i1, i2⟩
theorem RepK.put {k : Key} {v : V} {d : D} (g : Rep K O H v d) : ∀ {kvs : List (Key × D)} {ks : List (Key × V)}, RepK K O H ks kvs →
    ((ks.any fun kv => decide (kv.1 = k)) = (kvs.any fun kv => decide (kv.1 = k))) ∧ RepK K O H (ks.map fun kv => if kv.1 = k then (kv.1, v) else kv) (kvs.map fun kv => if kv.1 = k then (kv.1, d) else kv) ∧ RepK K O H (ks ++ [(k, v)]) (kvs ++ [(k, d)])
  | [], _, r => by rw [show _ = [] from r]; exact ⟨rfl, rfl, v, [], rfl, g, rfl⟩
  | (k', d') :: kvs, _, ⟨u, r, e1, h, t⟩ => by
    obtain ⟨i1, i2, i3⟩ := RepK.put (k := k) g t
    subst e1
    refine ⟨by rw [List.any_cons, List.any_cons, i1], ?_, ⟨u, _, rfl, h, i3⟩⟩
    by_cases hk : k' = k
    · rw [List.map_cons, List.map_cons, if_pos hk, if_pos hk]; exact ⟨v, _, rfl, g, i2⟩
    · rw [List.map_cons, List.map_cons, if_neg hk, if_neg hk]; exact ⟨u, _, rfl, h, i2⟩
theorem RepT.put {k : List Key} {v : V} {d : D} (g : Rep K O H v d) : ∀ {kvs : List (List Key × D)} {ks : List (List Key × V)}, RepT K O H ks kvs →
    ((ks.any fun kv => decide (kv.1 = k)) = (kvs.any fun kv => decide (kv.1 = k))) ∧ RepT K O H (ks.map fun kv => if kv.1 = k then (kv.1, v) else kv) (kvs.map fun kv => if kv.1 = k then (kv.1, d) else kv) ∧ RepT K O H (ks ++ [(k, v)]) (kvs ++ [(k, d)])
  | [], _, r => by rw [show _ = [] from r]; exact ⟨rfl, rfl, v, [], rfl, g, rfl⟩
  | (k', d') :: kvs, _, ⟨u, r, e1, h, t⟩ => by
    obtain ⟨i1, i2, i3⟩ := RepT.put (k := k) g t
    subst e1
    refine ⟨by rw [List.any_cons, List.any_cons, i1], ?_, ⟨u, _, rfl, h, i3⟩⟩
    by_cases hk : k' = k
    · rw [List.map_cons, List.map_cons, if_pos hk, if_pos hk]; exact ⟨v, _, rfl, g, i2⟩
    · rw [List.map_cons, List.map_cons, if_neg hk, if_neg hk]; exact ⟨u, _, rfl, h, i2⟩
theorem RepK.putK {k : Key} {v : V} {d : D} {kvs : List (Key × D)} {ks : List (Key × V)} (g : Rep K O H v d) (r : RepK K O H ks kvs) : RepK K O H (putK ks k v) (putD kvs k d) := by
  obtain ⟨i1, i2, i3⟩ := RepK.put (k := k) g r
  unfold L2.putK putD
  rw [i1]
  split
  · exact i2
  · exact i3
theorem RepT.putK {k : List Key} {v : V} {d : D} {kvs : List (List Key × D)} {ks : List (List Key × V)} (g : Rep K O H v d) (r : RepT K O H ks kvs) : RepT K O H (putK ks k v) (putD kvs k d) := by
  obtain ⟨i1, i2, i3⟩ := RepT.put (k := k) g r
  unfold L2.putK putD
  rw [i1]
  split
  · exact i2
  · exact i3
theorem PkK.length : ∀ {ds : List (Key × D)} {vs : List (Key × V)}, PkK K O H vs ds → vs.length = ds.length
  | [], _, h => by rw [show _ = [] from h]; rfl
  | (k, d) :: ds, _, ⟨v, r, e, _, t⟩ => by rw [e, List.length_cons, List.length_cons, PkK.length t]
theorem PkT.length : ∀ {ds : List (List Key × D)} {vs : List (List Key × V)}, PkT K O H vs ds → vs.length = ds.length
  | [], _, h => by rw [show _ = [] from h]; rfl
  | (k, d) :: ds, _, ⟨v, r, e, _, t⟩ => by rw [e, List.length_cons, List.length_cons, PkT.length t]
/-- what a dict holds at a key: none: no such dict or key's kind -/
def dGet : D → D → Option (Option D)
  | .dk kvs, k => (toKey k).map fun k => valD kvs k
  | .dt kvs, .tup ks => (toKeys ks).map fun k => valD kvs k
  | _, _ => none
theorem dGet_ok {x y : V} {d1 d2 : D} {o : Option D} (r1 : Pk K O H x d1) (r2 : Rep K O H y d2) (e : dGet d1 d2 = some o) : ∃ a, x = .ref a ∧ IsD H a ∧ ∃ ov, DGet H a y ov ∧ (∀ d, o = some d → ∃ v, ov = some v ∧ Pk K O H v d) ∧ (o = none → ov = none) := by
  cases d1 <;> unfold dGet at e <;> (try dsimp only at e) <;> try (cases e; done)
  case dk kvs =>
    obtain ⟨a, ks, rfl, _, ha, la⟩ := r1
    cases q : toKey d2 with
    | none => rw [q] at e; cases e
    | some k =>
      rw [q] at e
      cases e
      obtain ⟨h1, h2⟩ := la.val (k := k)
      exact ⟨a, rfl, .inl ⟨ks, ha⟩, _, .inl ⟨ks, k, ha, toKey_rep q r2, rfl⟩, h1, h2⟩
  case dt kvs =>
    obtain ⟨a, ks, rfl, _, ha, la⟩ := r1
    cases d2 <;> try (cases e; done)
    case tup ds =>
      dsimp only at e
      cases q : toKeys ds with
      | none => rw [q] at e; cases e
      | some k =>
        rw [q] at e
        cases e
        obtain ⟨h1, h2⟩ := la.val (k := k)
        obtain ⟨b, vs, rfl, hb, lb⟩ := r2
        rw [toKeys_rep q lb] at hb
        exact ⟨a, rfl, .inr ⟨ks, ha⟩, _, .inr ⟨ks, k, b, ha, rfl, hb, rfl⟩, h1, h2⟩
def dIxD (d k : D) : Option D := (dGet d k).bind id
def dInD (k d : D) : Option D := (dGet d k).map fun o => .bl o.isSome
def dNotInD (k d : D) : Option D := (dGet d k).map fun o => .bl (!o.isSome)
def dGet1 (d k : D) : Option D := (dGet d k).map fun o => o.getD .non
end
section
variable {X : Cx} {a b c : Expr} {ma mb mc : SE} {pos : Pos}
/-- a[i] of a list, tuple, text -/
theorem dp_ix (ha : DP X a ma) (hb : DP X b mb) (hs : PlainIx b := by exact fun _ _ => rfl) : DP X (.Subscript a b pos) (mBin dIx ma mb) := (pe_ix ix_seq ha hb hs).imp fun _ _ _ h => pk2 o_ix h
/-- .. all of which may be kept -/
def mIx (a b : SE) : SE := bnd a fun x => bnd b fun y => lft (dIx x y)
theorem Pk.rep_el {K : PySem.W.Frag} {O : Ow} {H : Hp} {d1 d2 d : D} {x : V} (r : Rep K O H x d1) (e : dIx d1 d2 = some d) : ∀ v, (∀ Q : VK, (∀ v, Rep K O H v d → Q v H) → Q v H) → Rep K O H v d := fun v h => h (fun v _ => Rep K O H v d) fun v r => r
theorem o_ixR {K : PySem.W.Frag} : Op2 K (rIx K) dIx := by
  intro O H σ ρ G x y d1 d2 d Q s r1 r2 e q
  cases d1 <;> cases d2 <;> unfold dIx at e <;> dsimp only at e <;> try (cases e; done)
  case tup.int ds i =>
    obtain ⟨a, vs, rfl, ha, la⟩ := r1
    obtain ⟨j, hj, hd, hx⟩ := atI_rel la.length e
    obtain ⟨v, hv, rv⟩ := la.get hd
    exact .inr (.inl ⟨a, vs, i, v, rfl, r2, SqT.of ha, hx v hv, fin0 s q rv⟩)
  case lst.int ds i =>
    obtain ⟨a, vs, rfl, _, ha, la⟩ := r1
    obtain ⟨j, hj, hd, hx⟩ := atI_rel la.length e
    obtain ⟨v, hv, rv⟩ := la.get hd
    exact .inl ⟨a, vs, i, v, rfl, r2, SqL.of ha, hx v hv, fin0 s q rv⟩
  case str.int z i =>
    split at e
    · rename_i hz
      cases h : atI z.cps.toList i with
      | none => rw [h] at e; cases e
      | some c => rw [h] at e; cases e; exact .inr (.inr ⟨z, i, c, r1, r2, szOk_ok hz, h, fin0 s q rfl⟩)
    · cases e
theorem de_ix (ha : DE X a ma) (hb : DE X b mb) (hs : PlainIx b := by exact fun _ _ => rfl) : DE X (.Subscript a b pos) (mBin dIx ma mb) := (pe_ix ix_seq ha hb hs).imp fun _ _ _ h => op2 o_ixR h
/-- x[k] of a shared list -/
def mIxH (i : Nat) (b : SE) : SE := fun ρ G => match ρ[i]? with
  | some (.im (.hnd n)) => (match b ρ G with
    | some (.int k, ρ1, G1) => (G1[n]?).bind fun ds => (atI ds k).map fun d => (d, ρ1, G1)
    | _ => none)
  | _ => none
theorem de_ixh (i : Nat) {x : Str} {p : Pos} (hb : DE X b mb) (hN : X.N[i]? = some x := by rfl) (hv : Vis X.env.scope x := by first | exact Or.inl rfl | exact Or.inr (Or.inl rfl) | exact Or.inr (Or.inr rfl)) (hd : (x == ("__debug__" : Str)) = false := by decide)
    (hcd : (x == ("__classdict__" : Str)) = false := by decide) (hs : PlainIx b := by exact fun _ _ => rfl) : DE X (.Subscript (.Name x p) b pos) (mIxH i mb) :=
  (pe_ix ix_list (pe_var hN hv hd hcd) hb hs).imp fun σ H Q ⟨O, ρ, G, d, ρ', G', s, e, q⟩ => by
    unfold mIxH at e
    split at e <;> try (cases e; done)
    rename_i n hn
    obtain ⟨v, ev, a, rfl, ha⟩ := s.slot i _ hn
    refine ⟨_, ev, ?_⟩
    split at e <;> try (cases e; done)
    rename_i k ρ1 G1 q1
    obtain ⟨ds, e2, e3⟩ := Option.bind_eq_some_iff.mp e
    obtain ⟨d', e4, e5⟩ := Option.map_eq_some_iff.mp e3
    cases e5
    refine ⟨O, ρ, G, .int k, _, _, s, q1, fun kv O1 H1 x1 s1 r1 => ?_⟩
    obtain ⟨a', vs, hO, hH, la⟩ := s1.shr n ds e2
    cases s1.inj n _ _ (x1.shr _ _ ha) hO
    obtain ⟨j, hj, hd, hx⟩ := atI_rel la.length e4
    obtain ⟨u, hu, ru⟩ := la.get hd
    exact ⟨a, vs, k, u, rfl, r1, SqL.of hH, hx u hu, q u O1 H1 x1 s1 ru⟩
/-- d[k], k in d, d.get(k) of a dict that is read -/
theorem dp_ixD (hu : X.A.units + 64 < cLine) (ha : DP X a ma) (hb : DE X b mb) (hs : NoSl b := by exact fun _ _ => rfl) : DP X (.Subscript a b pos) (mBin dIxD ma mb) :=
  (pe_dget (by omega) ha hb hs).imp fun σ H Q ⟨O, ρ, G, d, ρ', G', s, e, q⟩ => tP.go s e fun v1 O1 H1 d1 ρ1 G1 x1 s1 r1 e1 => tD.go s1 e1 fun v2 O2 H2 d2 ρ2 G2 x2 s2 r2 e2 => by
    obtain ⟨ef, rfl, rfl⟩ := lft_eq e2
    unfold dIxD at ef
    cases h : dGet d1 d2 with
    | none => rw [h] at ef; cases ef
    | some o =>
      rw [h] at ef
      have ef : o = some d := ef
      obtain ⟨a, ea, _, ov, g, h1, _⟩ := dGet_ok (Pk.ne x2 r1) r2 h
      obtain ⟨v, ev, rv⟩ := h1 d ef
      exact ⟨a, v, ea, ev ▸ g, q v O2 H2 (x1.trans x2) s2 rv⟩
theorem inD_go {K : PySem.W.Frag} {f : Bool → Bool} {σ : L2.St} {H : Hp} {Q : VK} (h : tD K (bnd ma fun k => bnd mb fun d => lft ((dGet d k).map fun o => .bl (f o.isSome))) σ H Q) :
    tD K ma σ H fun y H1 => tP K mb σ H1 fun x H2 => ∃ a o, x = .ref a ∧ DGet H2 a y o ∧ Q (.bl (f o.isSome)) H2 := by
  obtain ⟨O, ρ, G, d, ρ', G', s, e, q⟩ := h
  refine tD.go s e fun v1 O1 H1 d1 ρ1 G1 x1 s1 r1 e1 => tP.go s1 e1 fun v2 O2 H2 d2 ρ2 G2 x2 s2 r2 e2 => ?_
  obtain ⟨ef, rfl, rfl⟩ := lft_eq e2
  cases h : dGet d2 d1 with
  | none => rw [h] at ef; cases ef
  | some o =>
    rw [h] at ef
    obtain ⟨a, ea, _, ov, g, h1, h2⟩ := dGet_ok r2 (Rep.nx x2.toRx r1) h
    refine ⟨a, ov, ea, g, ?_⟩
    have e3 : ov.isSome = o.isSome := by
      cases o with
      | none => rw [h2 rfl]; rfl
      | some d' => obtain ⟨v, ev, _⟩ := h1 d' rfl; rw [ev]; rfl
    cases ef
    rw [e3]
    exact q _ O2 H2 (x1.trans x2) s2 rfl
def mInD (f : Bool → Bool) (a b : SE) : SE := bnd a fun k => bnd b fun d => lft ((dGet d k).map fun o => .bl (f o.isSome))
theorem de_inD (hu : X.A.units + 64 < cLine) (ha : DE X a ma) (hb : DP X b mb) (hm : behindInMarks .In b = false := by rfl) : DE X (.Compare a [.In] [b] pos) (mInD (fun z => z) ma mb) :=
  (pe_cmp (pc_din (by omega) ha hb) hm).imp fun σ H Q h => inD_go (f := fun z => z) h
theorem de_notInD (hu : X.A.units + 64 < cLine) (ha : DE X a ma) (hb : DP X b mb) (hm : behindInMarks .NotIn b = false := by rfl) : DE X (.Compare a [.NotIn] [b] pos) (mInD (fun z => !z) ma mb) :=
  (pe_cmp (pc_dnotin (by omega) ha hb) hm).imp fun σ H Q h => inD_go (f := fun z => !z) h
theorem tB_of {m : SE} {K : PySem.W.Frag} {t : TE} (w : ∀ σ H Q, tD K m σ H Q → t σ H Q) {σ : L2.St} {H : Hp} {Q : Bool → Hp → Prop} (h : tQ K (mTest m) σ H Q) : tB t σ H Q := by
  have h' := test_go h
  exact w σ H _ h'
theorem dt_inD (hu : X.A.units + 64 < cLine) (ha : DE X a ma) (hb : DP X b mb) (hm : behindInMarks .In b = false := by rfl) : DT X (.Compare a [.In] [b] pos) (mTest (mInD (fun z => z) ma mb)) :=
  (pt_cmp (pc_din (by omega) ha hb) hm).imp fun σ H Q h => tB_of (fun _ _ _ h => inD_go (f := fun z => z) h) h
theorem dt_notInD (hu : X.A.units + 64 < cLine) (ha : DE X a ma) (hb : DP X b mb) (hm : behindInMarks .NotIn b = false := by rfl) : DT X (.Compare a [.NotIn] [b] pos) (mTest (mInD (fun z => !z) ma mb)) :=
  (pt_cmp (pc_dnotin (by omega) ha hb) hm).imp fun σ H Q h => tB_of (fun _ _ _ h => inD_go (f := fun z => !z) h) h
/-- d.get(k), d.get(k, x) -/
theorem dp_get1 {apos cpos : Pos} (hu : X.A.units + 64 < cLine) (ha : DP X a ma) (hb : DE X b mb) (m : M1 X a "get" apos b cpos := by exact ⟨rfl, rfl, rfl, rfl⟩) : DP X (.Call (.Attribute a "get" apos) [b] [] cpos) (mBin dGet1 ma mb) :=
  (pe_dget1 (by omega) ha hb m).imp fun σ H Q ⟨O, ρ, G, d, ρ', G', s, e, q⟩ => tP.go s e fun v1 O1 H1 d1 ρ1 G1 x1 s1 r1 e1 => by
    obtain ⟨d2, ρ2, G2, e2, e3⟩ := bnd_eq e1
    obtain ⟨ef, e4, e5⟩ := lft_eq e3
    unfold dGet1 at ef
    cases h : dGet d1 d2 with
    | none => rw [h] at ef; cases ef
    | some o =>
      rw [h] at ef
      have isd : ∃ a, v1 = .ref a ∧ IsD H1 a := by
        cases d1 <;> unfold dGet at h <;> (try dsimp only at h) <;> try (cases h; done)
        case dk kvs => obtain ⟨a, ks, e, _, ha, _⟩ := r1; exact ⟨a, e, .inl ⟨ks, ha⟩⟩
        case dt kvs => obtain ⟨a, ks, e, _, ha, _⟩ := r1; exact ⟨a, e, .inr ⟨ks, ha⟩⟩
      obtain ⟨a, ea, hd⟩ := isd
      refine ⟨a, ea, hd, tD.go s1 e1 fun v2 O2 H2 d2' ρ2' G2' x2 s2 r2 e2' => ?_⟩
      obtain ⟨ef', e4', e5'⟩ := lft_eq e2'
      subst e4' e5'
      unfold dGet1 at ef'
      cases h' : dGet d1 d2' with
      | none => rw [h'] at ef'; cases ef'
      | some o' =>
        rw [h'] at ef'
        obtain ⟨b, eb, _, ov, g, h1, h2⟩ := dGet_ok (Pk.ne x2 r1) r2 h'
        rw [ea] at eb
        cases eb
        refine ⟨ov, g, q _ O2 H2 (x1.trans x2) s2 ?_⟩
        cases ef'
        cases o' with
        | none => rw [h2 rfl]; exact rfl
        | some d' => obtain ⟨v, ev, rv⟩ := h1 d' rfl; rw [ev]; exact rv
def mGet2 (a b c : SE) : SE := bnd a fun d => bnd b fun k => bnd c fun x => lft ((dGet d k).map fun o => o.getD x)
theorem dp_get2 {apos cpos : Pos} (hu : X.A.units + 64 < cLine) (ha : DP X a ma) (hb : DE X b mb) (hc : DE X c mc) (m : M2 X a "get" apos b c cpos := by exact ⟨rfl, rfl, rfl, rfl⟩) : DP X (.Call (.Attribute a "get" apos) [b, c] [] cpos) (mGet2 ma mb mc) :=
  (pe_dget2 (by omega) ha hb hc m).imp fun σ H Q ⟨O, ρ, G, d, ρ', G', s, e, q⟩ => by
    refine tP.go s e fun v1 O1 H1 d1 ρ1 G1 x1 s1 r1 e1 => ?_
    obtain ⟨d2, ρ2, G2, q1, q2⟩ := bnd_eq e1
    obtain ⟨d3, ρ3, G3, q3, q4⟩ := bnd_eq q2
    obtain ⟨ef, _, _⟩ := lft_eq q4
    cases h : dGet d1 d2 with
    | none => rw [h] at ef; cases ef
    | some o =>
      have isd : ∃ a, v1 = .ref a ∧ IsD H1 a := by
        cases d1 <;> unfold dGet at h <;> (try dsimp only at h) <;> try (cases h; done)
        case dk kvs => obtain ⟨a, ks, e, _, ha, _⟩ := r1; exact ⟨a, e, .inl ⟨ks, ha⟩⟩
        case dt kvs => obtain ⟨a, ks, e, _, ha, _⟩ := r1; exact ⟨a, e, .inr ⟨ks, ha⟩⟩
      obtain ⟨a, ea, hd⟩ := isd
      refine ⟨a, ea, hd, tD.go s1 e1 fun v2 O2 H2 d2' ρ2' G2' x2 s2 r2 e2' => tD.go s2 e2' fun v3 O3 H3 d3' ρ3' G3' x3 s3 r3 e3' => ?_⟩
      obtain ⟨ef', e4', e5'⟩ := lft_eq e3'
      subst e4' e5'
      cases h' : dGet d1 d2' with
      | none => rw [h'] at ef'; cases ef'
      | some o' =>
        rw [h'] at ef'
        obtain ⟨b, eb, _, ov, g, h1, h2⟩ := dGet_ok (Pk.ne (x2.trans x3) r1) (Rep.nx x3.toRx r2) h'
        rw [ea] at eb
        cases eb
        refine ⟨ov, g, q _ O3 H3 (x1.trans (x2.trans x3)) s3 ?_⟩
        cases ef'
        cases o' with
        | none => rw [h2 rfl]; exact r3.pk
        | some d' => obtain ⟨v, ev, rv⟩ := h1 d' rfl; rw [ev]; exact rv

/-! ### slices -/
def cutD (xs : List D) (lo hi : Option Int) : List D := (xs.drop (HT.sIx xs.length 0 lo)).take (HT.sIx xs.length xs.length hi - HT.sIx xs.length 0 lo)
def cutS (z : Str) (lo hi : Option Int) : Option Str := none
abbrev SO := Sm (Option Int)
def tO (K : PySem.W.Frag) (m : SO) : TO := fun σ H Q => ∃ O ρ G d ρ' G', SR K O H σ ρ G ∧ m ρ G = some (d, ρ', G') ∧ ∀ O' H', Ne O H O' H' → SR K O' H' σ ρ' G' → Q d H'
abbrev DO (X : Cx) (e : Option Expr) (m : SO) : Prop := PO X e (tO X.K m)
theorem do_none : DO X none (ret none) := ⟨fun pins s σ H Q I ⟨O, ρ, G, d, ρ', G', s', e, q⟩ => by cases e; exact po_none.run pins s σ H Q I (q O H Ne.refl s')⟩
def mPart (a : SE) : SO := bnd a fun d => lft (match d with | .int i => some (some i) | _ => none)
theorem do_some (h : DE X a ma) : DO X (some a) (mPart ma) := ⟨fun pins s σ H Q I ⟨O, ρ, G, d, ρ', G', s', e, q⟩ => (po_some h).run pins s σ H Q I (tD.go s' e fun v1 O1 H1 d1 ρ1 G1 x1 s1 r1 e1 => by
  obtain ⟨ef, rfl, rfl⟩ := lft_eq e1
  cases d1 <;> try (cases ef; done)
  case int i => cases ef; exact ⟨i, r1, q O1 H1 x1 s1⟩)⟩
def dSl (d : D) (lo hi : Option Int) : Option D := match d with
  | .tup xs => some (.tup (cutD xs lo hi))
  | .lst xs => some (.lst (cutD xs lo hi))
  | _ => none
def mSl (a : SE) (l h : SO) : SE := bnd a fun x => bnd l fun lo => bnd h fun hi => lft (dSl x lo hi)
theorem cut_rep {K : PySem.W.Frag} {O : Ow} {H : Hp} {vs : List V} {ds : List D} (r : RepL K O H vs ds) (lo hi : Option Int) : RepL K O H (cutV vs lo hi) (cutD ds lo hi) := by
  unfold cutV cutD
  rw [r.length]
  exact (r.drop _).take _
theorem de_sl {lo hi : Option Expr} {ml mh : SO} {p2 : Pos} (ha : DE X a ma) (hl : DO X lo ml) (hh : DO X hi mh) : DE X (.Subscript a (.Slice lo hi none p2) pos) (mSl ma ml mh) :=
  (pe_slice (sl_tupA.or sl_list) ha hl hh).imp fun σ H Q ⟨O, ρ, G, d, ρ', G', s, e, q⟩ => tD.go s e fun v1 O1 H1 d1 ρ1 G1 x1 s1 r1 e1 => by
    obtain ⟨lo, ρ2, G2, e2, e3⟩ := bnd_eq e1
    refine ⟨O1, ρ1, G1, lo, ρ2, G2, s1, e2, fun O2 H2 x2 s2 => ?_⟩
    obtain ⟨hi, ρ3, G3, e4, e5⟩ := bnd_eq e3
    refine ⟨O2, ρ2, G2, hi, ρ3, G3, s2, e4, fun O3 H3 x3 s3 => ?_⟩
    obtain ⟨ef, rfl, rfl⟩ := lft_eq e5
    have r3 : Rep X.K O3 H3 v1 d1 := Rep.nx (x2.trans x3).toRx r1
    have qq : ∀ v O' H', Ne O3 H3 O' H' → SR X.K O' H' σ ρ' G' → Rep X.K O' H' v d → Q v H' := fun v O' H' x s r => q v O' H' ((x1.trans (x2.trans x3)).trans x) s r
    cases d1 <;> unfold dSl at ef <;> dsimp only at ef <;> try (cases ef; done)
    case tup xs =>
      cases ef
      obtain ⟨a, vs, rfl, ha, la⟩ := r3
      refine .inl ⟨a, vs, rfl, SqT.of ha, fun z => ?_, fun _ p hp => fin_tup s3 (cut_rep la _ _) hp qq⟩
      have e6 : cutD xs lo hi = xs := by
        unfold cutD
        rw [la.length] at z
        rw [z.1, z.2, List.drop_zero, Nat.sub_zero, List.take_length]
      rw [e6] at qq
      exact fin0 s3 qq ⟨a, vs, rfl, ha, la⟩
    case lst xs =>
      cases ef
      obtain ⟨a, vs, rfl, _, ha, la⟩ := r3
      exact .inr ⟨a, vs, rfl, SqL.of ha, fun p hp => fin_lst s3 (cut_rep la _ _) hp qq⟩

/-! ### built-ins -/
def dLen1 : D → Option D
  | .tup xs => some (.int xs.length)
  | .lst xs => some (.int xs.length)
  | .scr ns => some (.int ns.length)
  | .str x => if szOk x.length then some (.int x.length) else none
  | .dk kvs => some (.int kvs.length)
  | .dt kvs => some (.int kvs.length)
  | _ => none
def lenR (K : PySem.W.Frag) : List V → Hp → VK → Prop := fun xs H Q => (∃ x n, xs = [x] ∧ LenV K x H n ∧ Q (.int n) H) ∨ ((∃ a kvs, xs = [.ref a] ∧ Rd H a (.dK kvs) ∧ Q (.int kvs.length) H) ∨ ∃ a kvs, xs = [.ref a] ∧ Rd H a (.dT kvs) ∧ Q (.int kvs.length) H)
theorem call_lenR : CallR X (.builtin "len") (lenR X.K) := by
  intro pins s σ H xs us Q I r h
  rcases h with h | ⟨a, kvs, rfl, ha, q⟩ | ⟨a, kvs, rfl, ha, q⟩
  · exact call_len pins s σ H xs us Q I r h
  · obtain ⟨u, rfl, ru⟩ := vals1 r
    cases ru
    exact d_len I ha fun t s' I' => ⟨.int kvs.length, H, I', ⟨t, rfl⟩, q⟩
  · obtain ⟨u, rfl, ru⟩ := vals1 r
    cases ru
    obtain ⟨z, hd, ys, rel, dd⟩ := dt_rd I.hok ha
    have hl : kvs.length = ys.length := Paired.length rel
    refine call_len_dictH hd dd (by rw [← hl]; rw [sizeLine_eq] at z; omega) ?_
    rw [← hl]
    exact ⟨.int ((kvs.length : Nat) : Int), H, I.tok _, ⟨_, rfl⟩, q⟩
def mLen (a : SE) : SE := bnd a fun d => lft (dLen1 d)
theorem de_len {p : Pos} (hm : X.mg "len" = none) (ha : DP X a ma) (hg : Gl X "len" := by rfl) (he : starEach [a] X.env = (false, eval a X.env) :: starEach [] X.env := by rfl) : DE X (.Call (.Name "len" p) [a] [] pos) (mLen ma) :=
  (pe_callB call_lenR hg hm boot_len (pa_cons ha pa_nil he) (by decide) (by decide) he rfl).imp fun σ H Q ⟨O, ρ, G, d, ρ', G', s, e, q⟩ => tP.go s e fun v1 O1 H1 d1 ρ1 G1 x1 s1 r1 e1 => by
    obtain ⟨ef, rfl, rfl⟩ := lft_eq e1
    cases d1 <;> unfold dLen1 at ef <;> dsimp only at ef <;> try (cases ef; done)
    case tup xs => cases ef; obtain ⟨a, vs, rfl, ha, la⟩ := r1; exact .inl ⟨_, _, rfl, .inr ⟨vs, SqT.of ha, rfl⟩, by rw [la.length]; exact q _ O1 H1 x1 s1 rfl⟩
    case lst xs => cases ef; obtain ⟨a, vs, rfl, _, ha, la⟩ := r1; exact .inl ⟨_, _, rfl, .inl ⟨vs, SqL.of ha, rfl⟩, by rw [la.length]; exact q _ O1 H1 x1 s1 rfl⟩
    case scr ns => cases ef; obtain ⟨a, rfl, ha⟩ := r1; exact .inl ⟨_, _, rfl, .inl ⟨_, ha.1, rfl⟩, by rw [List.length_map]; exact q _ O1 H1 x1 s1 rfl⟩
    case str z =>
      split at ef
      · rename_i hz; cases ef; exact .inl ⟨_, z.length, rfl, by rw [show v1 = V.str z from r1]; exact ⟨szOk_ok hz, rfl⟩, q _ O1 H1 x1 s1 rfl⟩
      · cases ef
    case dk kvs => cases ef; obtain ⟨a, ks, rfl, _, ha, la⟩ := r1; exact .inr (.inl ⟨a, ks, rfl, ha, by rw [la.length]; exact q _ O1 H1 x1 s1 rfl⟩)
    case dt kvs => cases ef; obtain ⟨a, ks, rfl, _, ha, la⟩ := r1; exact .inr (.inr ⟨a, ks, rfl, ha, by rw [la.length]; exact q _ O1 H1 x1 s1 rfl⟩)
end
/-- built-in functions of all-known arguments -/
def dAbs : List D → Option D
  | [.int i] => some (.int (if i < 0 then -i else i))
  | _ => none
def dMax2 : List D → Option D
  | [.int i, .int j] => some (.int (if j > i then j else i))
  | _ => none
def dMin2 : List D → Option D
  | [.int i, .int j] => some (.int (if j < i then j else i))
  | _ => none
def dInt : List D → Option D
  | [.int i] => some (.int i)
  | [.bl k] => some (.int (if k then 1 else 0))
  | _ => none
def dStr : List D → Option D
  | [.int i] => if decide (i.natAbs.log2 < 1920) then some (.str (toString i)) else none
  | _ => none
def lmin : List Int → Option Int
  | [] => none
  | x :: r => some (r.foldl min x)
def lmax : List Int → Option Int
  | [] => none
  | x :: r => some (r.foldl max x)
def dMinL : List D → Option D
  | [.lst ds] => (intsOf ds).bind fun ns => (lmin ns).map .int
  | _ => none
def dMaxL : List D → Option D
  | [.lst ds] => (intsOf ds).bind fun ns => (lmax ns).map .int
  | _ => none
def dSum : List D → Option D
  | [.lst ds] => (intsOf ds).map fun ns => .int ns.sum
  | _ => none
def dAll : List D → Option D
  | [.lst ds] => (blsOf ds).map fun bs => .bl (bs.all id)
  | _ => none
def dAny : List D → Option D
  | [.lst ds] => (blsOf ds).map fun bs => .bl (bs.any id)
  | _ => none
def dTuple : List D → Option D
  | [.lst ds] => some (.tup ds)
  | [.tup ds] => some (.tup ds)
  | _ => none
def dList : List D → Option D
  | [.lst ds] => some (.lst ds)
  | [.tup ds] => some (.lst ds)
  | [.scr ns] => some (.lst (ns.map D.int))
  | _ => none
def dListN : List D → Option Sl
  | [.lst ds] => some (.m1 ds)
  | [.tup ds] => some (.m1 ds)
  | [.scr ns] => some (.m1 (ns.map D.int))
  | _ => none
theorem foldl_min : ∀ (r : List Int) (x : Int), (r.foldl min x = x ∨ r.foldl min x ∈ r) ∧ r.foldl min x ≤ x ∧ ∀ y ∈ r, r.foldl min x ≤ y
  | [], x => ⟨.inl rfl, Int.le_refl _, fun _ h => by cases h⟩
  | a :: r, x => by
    obtain ⟨h1, h2, h3⟩ := foldl_min r (min x a)
    rw [List.foldl_cons]
    refine ⟨?_, by omega, fun y hy => ?_⟩
    · rcases h1 with h1 | h1
      · rw [h1]
        by_cases h : x ≤ a
        · exact .inl (by omega)
        · exact .inr (by rw [show min x a = a by omega]; exact List.mem_cons_self)
      · exact .inr (List.mem_cons_of_mem _ h1)
    · rcases List.mem_cons.mp hy with e | hy
      · subst e; omega
      · exact h3 y hy
theorem foldl_max : ∀ (r : List Int) (x : Int), (r.foldl max x = x ∨ r.foldl max x ∈ r) ∧ x ≤ r.foldl max x ∧ ∀ y ∈ r, y ≤ r.foldl max x
  | [], x => ⟨.inl rfl, Int.le_refl _, fun _ h => by cases h⟩
  | a :: r, x => by
    obtain ⟨h1, h2, h3⟩ := foldl_max r (max x a)
    rw [List.foldl_cons]
    refine ⟨?_, by omega, fun y hy => ?_⟩
    · rcases h1 with h1 | h1
      · rw [h1]
        by_cases h : a ≤ x
        · exact .inl (by omega)
        · exact .inr (by rw [show max x a = a by omega]; exact List.mem_cons_self)
      · exact .inr (List.mem_cons_of_mem _ h1)
    · rcases List.mem_cons.mp hy with e | hy
      · subst e; omega
      · exact h3 y hy
theorem lmin_is {ns : List Int} {m : Int} (h : lmin ns = some m) : m ∈ ns ∧ ∀ y ∈ ns, m ≤ y := by
  cases ns with
  | nil => cases h
  | cons x r =>
    cases h
    obtain ⟨h1, h2, h3⟩ := foldl_min r x
    refine ⟨?_, fun y hy => ?_⟩
    · rcases h1 with h1 | h1
      · rw [h1]; exact List.mem_cons_self
      · exact List.mem_cons_of_mem _ h1
    · rcases List.mem_cons.mp hy with e | hy
      · subst e; exact h2
      · exact h3 y hy
theorem lmax_is {ns : List Int} {m : Int} (h : lmax ns = some m) : m ∈ ns ∧ ∀ y ∈ ns, y ≤ m := by
  cases ns with
  | nil => cases h
  | cons x r =>
    cases h
    obtain ⟨h1, h2, h3⟩ := foldl_max r x
    refine ⟨?_, fun y hy => ?_⟩
    · rcases h1 with h1 | h1
      · rw [h1]; exact List.mem_cons_self
      · exact List.mem_cons_of_mem _ h1
    · rcases List.mem_cons.mp hy with e | hy
      · subst e; exact h2
      · exact h3 y hy
section
variable {K : PySem.W.Frag} {O : Ow} {H : Hp} {xs : List V}
theorem repl1 {d : D} (r : RepL K O H xs [d]) : ∃ v, xs = [v] ∧ Rep K O H v d := by
  obtain ⟨v, r1, e, h, t⟩ := r
  rw [show r1 = [] from t] at e
  exact ⟨v, e, h⟩
theorem repl2 {d d' : D} (r : RepL K O H xs [d, d']) : ∃ v v', xs = [v, v'] ∧ Rep K O H v d ∧ Rep K O H v' d' := by
  obtain ⟨v, r1, e, h, t⟩ := r
  obtain ⟨v', rfl, h'⟩ := repl1 t
  exact ⟨v, v', e, h, h'⟩
theorem l_abs : OpL K (fun xs H Q => ∃ i, xs = [.int i] ∧ Q (.int (if i < 0 then -i else i)) H) dAbs := by
  intro O H σ ρ G xs ds d Q s r e q
  unfold dAbs at e
  split at e <;> try (cases e; done)
  obtain ⟨v, rfl, h⟩ := repl1 r
  cases e
  exact ⟨_, by rw [show v = _ from h], fin0 s q rfl⟩
theorem l_max2 : OpL K (fun xs H Q => ∃ i j, xs = [.int i, .int j] ∧ Q (.int (if j > i then j else i)) H) dMax2 := by
  intro O H σ ρ G xs ds d Q s r e q
  unfold dMax2 at e
  split at e <;> try (cases e; done)
  obtain ⟨v, v', rfl, h, h'⟩ := repl2 r
  cases e
  exact ⟨_, _, by rw [show v = _ from h, show v' = _ from h'], fin0 s q rfl⟩
theorem l_min2 : OpL K (fun xs H Q => ∃ i j, xs = [.int i, .int j] ∧ Q (.int (if j < i then j else i)) H) dMin2 := by
  intro O H σ ρ G xs ds d Q s r e q
  unfold dMin2 at e
  split at e <;> try (cases e; done)
  obtain ⟨v, v', rfl, h, h'⟩ := repl2 r
  cases e
  exact ⟨_, _, by rw [show v = _ from h, show v' = _ from h'], fin0 s q rfl⟩
theorem l_int : OpL K (fun xs H Q => (∃ i, xs = [.int i] ∧ Q (.int i) H) ∨ ∃ k, xs = [.bl k] ∧ Q (.int (if k then 1 else 0)) H) dInt := by
  intro O H σ ρ G xs ds d Q s r e q
  unfold dInt at e
  split at e <;> try (cases e; done)
  · obtain ⟨v, rfl, h⟩ := repl1 r
    cases e
    exact .inl ⟨_, by rw [show v = _ from h], fin0 s q rfl⟩
  · obtain ⟨v, rfl, h⟩ := repl1 r
    cases e
    exact .inr ⟨_, by rw [show v = _ from h], fin0 s q rfl⟩
theorem l_str : OpL K (fun xs H Q => ∃ i, xs = [.int i] ∧ i.natAbs.log2 < 1920 ∧ Q (.str (toString i)) H) dStr := by
  intro O H σ ρ G xs ds d Q s r e q
  unfold dStr at e
  split at e <;> try (cases e; done)
  split at e <;> try (cases e; done)
  rename_i hz
  obtain ⟨v, rfl, h⟩ := repl1 r
  cases e
  exact ⟨_, by rw [show v = _ from h], of_decide_eq_true hz, fin0 s q rfl⟩
theorem lst_ints {v : V} {ds : List D} {ns : List Int} (h : Rep K O H v (.lst ds)) (e : intsOf ds = some ns) : ∃ a, v = .ref a ∧ SqL K H a (ns.map V.int) := by
  obtain ⟨a, vs, rfl, _, ha, la⟩ := h
  rw [intsOf_eq e] at la
  exact ⟨a, rfl, by rw [← la.ints]; exact SqL.of ha⟩
theorem lst_bls {v : V} {ds : List D} {ns : List Bool} (h : Rep K O H v (.lst ds)) (e : blsOf ds = some ns) : ∃ a, v = .ref a ∧ SqL K H a (ns.map V.bl) := by
  obtain ⟨a, vs, rfl, _, ha, la⟩ := h
  rw [blsOf_eq e] at la
  exact ⟨a, rfl, by rw [← la.bls]; exact SqL.of ha⟩
theorem l_minL : OpL K (rMin K) dMinL := by
  intro O H σ ρ G xs ds d Q s r e q
  unfold dMinL at e
  split at e <;> try (cases e; done)
  rename_i es
  cases h : intsOf es with
  | none => rw [h] at e; cases e
  | some ns =>
    rw [h] at e
    obtain ⟨v, rfl, hv⟩ := repl1 r
    obtain ⟨a, rfl, hs⟩ := lst_ints hv h
    have e : (lmin ns).map D.int = some d := e
    cases h2 : lmin ns with
    | none => rw [h2] at e; cases e
    | some m =>
      rw [h2] at e
      cases e
      obtain ⟨m1, m2⟩ := lmin_is h2
      refine ⟨a, ns, rfl, hs, ?_, fun m' a1 a2 => ?_⟩
      · cases ns with
        | nil => cases h2
        | cons x r => simp
      · have : m' = m := Int.le_antisymm (a2 m m1) (m2 m' a1)
        rw [this]
        exact fin0 s q rfl
theorem l_maxL : OpL K (rMax K) dMaxL := by
  intro O H σ ρ G xs ds d Q s r e q
  unfold dMaxL at e
  split at e <;> try (cases e; done)
  rename_i es
  cases h : intsOf es with
  | none => rw [h] at e; cases e
  | some ns =>
    rw [h] at e
    obtain ⟨v, rfl, hv⟩ := repl1 r
    obtain ⟨a, rfl, hs⟩ := lst_ints hv h
    have e : (lmax ns).map D.int = some d := e
    cases h2 : lmax ns with
    | none => rw [h2] at e; cases e
    | some m =>
      rw [h2] at e
      cases e
      obtain ⟨m1, m2⟩ := lmax_is h2
      refine ⟨a, ns, rfl, hs, ?_, fun m' a1 a2 => ?_⟩
      · cases ns with
        | nil => cases h2
        | cons x r => simp
      · have : m' = m := Int.le_antisymm (m2 m' a1) (a2 m m1)
        rw [this]
        exact fin0 s q rfl
theorem l_sum : OpL K (rSum K) dSum := by
  intro O H σ ρ G xs ds d Q s r e q
  unfold dSum at e
  split at e <;> try (cases e; done)
  rename_i es
  cases h : intsOf es with
  | none => rw [h] at e; cases e
  | some ns =>
    rw [h] at e
    cases e
    obtain ⟨v, rfl, hv⟩ := repl1 r
    obtain ⟨a, rfl, hs⟩ := lst_ints hv h
    exact ⟨a, ns, rfl, hs, fin0 s q rfl⟩
theorem l_all : OpL K (rAll K) dAll := by
  intro O H σ ρ G xs ds d Q s r e q
  unfold dAll at e
  split at e <;> try (cases e; done)
  rename_i es
  cases h : blsOf es with
  | none => rw [h] at e; cases e
  | some ns =>
    rw [h] at e
    cases e
    obtain ⟨v, rfl, hv⟩ := repl1 r
    obtain ⟨a, rfl, hs⟩ := lst_bls hv h
    exact ⟨a, ns, rfl, hs, fin0 s q rfl⟩
theorem l_any : OpL K (rAny K) dAny := by
  intro O H σ ρ G xs ds d Q s r e q
  unfold dAny at e
  split at e <;> try (cases e; done)
  rename_i es
  cases h : blsOf es with
  | none => rw [h] at e; cases e
  | some ns =>
    rw [h] at e
    cases e
    obtain ⟨v, rfl, hv⟩ := repl1 r
    obtain ⟨a, rfl, hs⟩ := lst_bls hv h
    exact ⟨a, ns, rfl, hs, fin0 s q rfl⟩
theorem l_tuple : OpL K (fun xs H Q => ∃ p ys, xs = [.ref p] ∧ ((SqL K H p ys ∧ ∀ l, H l = none → Q (.ref l) (upd H l (.tup ys))) ∨ (SqT K H p ys ∧ Q (.ref p) H))) dTuple := by
  intro O H σ ρ G xs ds d Q s r e q
  unfold dTuple at e
  split at e <;> try (cases e; done)
  · obtain ⟨v, rfl, a, vs, rfl, n, ha, la⟩ := repl1 r
    cases e
    exact ⟨a, vs, rfl, .inl ⟨SqL.of ha, fun l hl => fin_tup s la hl q⟩⟩
  · obtain ⟨v, rfl, a, vs, rfl, ha, la⟩ := repl1 r
    cases e
    exact ⟨a, vs, rfl, .inr ⟨SqT.of ha, fin0 s q ⟨a, vs, rfl, ha, la⟩⟩⟩
theorem l_list : OpL K (fun xs H Q => ∃ p ys, xs = [.ref p] ∧ (SqL K H p ys ∨ SqT K H p ys) ∧ ∀ l, H l = none → Q (.ref l) (upd H l (.lst ys))) dList := by
  intro O H σ ρ G xs ds d Q s r e q
  unfold dList at e
  split at e <;> try (cases e; done)
  · obtain ⟨v, rfl, a, vs, rfl, n, ha, la⟩ := repl1 r
    cases e
    exact ⟨a, vs, rfl, .inl (SqL.of ha), fun l hl => fin_lst s la hl q⟩
  · obtain ⟨v, rfl, a, vs, rfl, ha, la⟩ := repl1 r
    cases e
    exact ⟨a, vs, rfl, .inr (SqT.of ha), fun l hl => fin_lst s la hl q⟩
  · obtain ⟨v, rfl, a, rfl, ha⟩ := repl1 r
    cases e
    exact ⟨a, _, rfl, .inl ha.1, fun l hl => fin_lst s RepL.of_ints hl q⟩
theorem l_listN : OpLN K (fun xs H Q => ∃ p ys, xs = [.ref p] ∧ (SqL K H p ys ∨ SqT K H p ys) ∧ ∀ l, H l = none → Q (.ref l) (upd H l (.lst ys))) dListN := by
  intro O H σ ρ G xs ds d Q s r e q
  unfold dListN at e
  split at e <;> try (cases e; done)
  · obtain ⟨v, rfl, a, vs, rfl, n, ha, la⟩ := repl1 r
    cases e
    exact ⟨a, vs, rfl, .inl (SqL.of ha), fun l hl => fin_m1 s la hl q⟩
  · obtain ⟨v, rfl, a, vs, rfl, ha, la⟩ := repl1 r
    cases e
    exact ⟨a, vs, rfl, .inr (SqT.of ha), fun l hl => fin_m1 s la hl q⟩
  · obtain ⟨v, rfl, a, rfl, ha⟩ := repl1 r
    cases e
    exact ⟨a, _, rfl, .inl ha.1, fun l hl => fin_m1 s RepL.of_ints hl q⟩
end
end DL

/-! DL: isinstance, chains, what is walked, comprehensions. -/
namespace DL
open PySem PySem.Spec PyProof.Rows L2

/-! ### isinstance -/
inductive Ty where
  | int | bool | tuple | str | list | dict
  deriving DecidableEq
def Ty.name : Ty → String
  | .int => "int" | .bool => "bool" | .tuple => "tuple" | .str => "str" | .list => "list" | .dict => "dict"
def D.isTy : D → Ty → Option Bool
  | .non, _ => some false
  | .bl _, t => some (decide (t = .bool) || decide (t = .int))
  | .int _, t => some (decide (t = .int))
  | .str _, t => some (decide (t = .str))
  | .tup _, t => some (decide (t = .tuple))
  | .lst _, t => some (decide (t = .list))
  | _, _ => none
theorem kit_all : ∀ T : Ty, kitB "NoneType" T.name = some false ∧ kitB "bool" T.name = some (decide (T = .bool) || decide (T = .int)) ∧ kitB "int" T.name = some (decide (T = .int)) ∧ kitB "str" T.name = some (decide (T = .str)) ∧
    kitB "tuple" T.name = some (decide (T = .tuple)) ∧ kitB "list" T.name = some (decide (T = .list)) := by
  intro T
  cases T <;> decide +kernel
section
variable {X : Cx} {a b c : Expr} {ma mb mc : SE} {pos : Pos}
def mIsi (t : Ty) (a : SE) : SE := bnd a fun d => lft ((d.isTy t).map .bl)
theorem de_isi {p p2 : Pos} {n : Str} (T : Ty) (hm : X.mg "isinstance" = none) (hT : X.mg n = none) (ha : DE X a ma) (hv : bootBuiltins n = some (.type T.name) := by first | exact boot_int | exact boot_bool | exact boot_tuple | exact boot_str | exact boot_list | exact boot_dict) (hg : Gl X "isinstance" := by rfl) (hgT : Gl X n := by rfl) (hn : n ≠ "__name__" := by decide) (hd : (n == ("__debug__" : Str)) = false := by decide)
    (he : starEach [a, .Name n p2] X.env = (false, eval a X.env) :: starEach [.Name n p2] X.env := by rfl) (he2 : starEach [.Name n p2] X.env = (false, eval (.Name n p2) X.env) :: starEach [] X.env := by rfl) (hpl : (backTo pos (starEach [.Name n p2] X.env)).any (·.1) = false := by rfl) :
    DE X (.Call (.Name "isinstance" p) [a, .Name n p2] [] pos) (mIsi T ma) :=
  (pe_callB call_isi hg hm boot_isinstance (pa_cons ha (pa_cons (pe_bltn (v := .ty T.name) hgT hT hv rfl hn hd) pa_nil he2) he) (by decide) (by decide) he hpl).imp fun σ H Q ⟨O, ρ, G, d, ρ', G', s, e, q⟩ => tD.go s e fun v1 O1 H1 d1 ρ1 G1 x1 s1 r1 e1 => by
    obtain ⟨ef, rfl, rfl⟩ := lft_eq e1
    obtain ⟨k1, k2, k3, k4, k5, k6⟩ := kit_all T
    have fin : ∀ {t : String} {bb : Bool}, TyX X.K H1 v1 (.type t) → kitB t T.name = some bb → d = .bl bb → rIsi X.K [v1, .ty T.name] H1 Q := fun {t bb} ty k ed =>
      ⟨v1, .ty T.name, _, _, bb, rfl, .ty _, ty, kit_ty k, by subst ed; exact q _ O1 H1 x1 s1 rfl⟩
    cases d1 <;> unfold D.isTy at ef <;> dsimp only at ef <;> try (cases ef; done)
    case non => cases ef; exact fin (by rw [show v1 = V.non from r1]; exact .base .non) k1 rfl
    case bl k => cases ef; exact fin (by rw [show v1 = V.bl k from r1]; exact .base (.bl k)) k2 rfl
    case int k => cases ef; exact fin (by rw [show v1 = V.int k from r1]; exact .base (.int k)) k3 rfl
    case str k => cases ef; exact fin (by rw [show v1 = V.str k from r1]; exact .base (.str k)) k4 rfl
    case tup k => cases ef; obtain ⟨a, vs, rfl, ha, _⟩ := r1; exact fin (.base (.tup ha)) k5 rfl
    case lst k => cases ef; obtain ⟨a, vs, rfl, _, ha, _⟩ := r1; exact fin (.base (.lst ha)) k6 rfl

/-! ### chains -/
theorem de_chain {op op' : CmpOp} {r r' : R2} {f g : D → D → Option D} (ho : OpR X (compareOp op) r) (ho' : OpR X (compareOp op') r') (hf : Op2 X.K r f) (hg : Op2 X.K r' g) (ha : DE X a ma) (hb : DE X b mb) (hc : DE X c mc)
    (hm : lastMarks [op, op'] [b, c] = false := by with_unfolding_all rfl) : DE X (.Compare a [op, op'] [b, c] pos) (mChain f g ma mb mc) :=
  (pe_chain ho ho' ha hb hc hm).imp fun σ H Q ⟨O, ρ, G, d, ρ', G', s, e, q⟩ => tD.go s e fun v1 O1 H1 d1 ρ1 G1 x1 s1 r1 e1 => tD.go s1 e1 fun v2 O2 H2 d2 ρ2 G2 x2 s2 r2 e2 => by
    obtain ⟨z, ρ3, G3, e3, e4⟩ := bnd_eq e2
    obtain ⟨ef, rfl, rfl⟩ := lft_eq e3
    refine hf O2 H2 σ _ _ v1 v2 d1 d2 z _ s2 (Rep.nx x2.toRx r1) r2 ef fun v O3 H3 x3 s3 r3 => ?_
    cases z <;> try (cases e4; done)
    case bl k =>
      refine ⟨k, r3, ?_⟩
      cases k with
      | false => cases e4; exact q _ O3 H3 (x1.trans (x2.trans x3)) s3 rfl
      | true =>
        refine tD.go s3 e4 fun v4 O4 H4 d4 ρ4 G4 x4 s4 r4 e5 => ?_
        obtain ⟨eg, rfl, rfl⟩ := lft_eq e5
        exact hg O4 H4 σ _ _ v2 v4 d2 d4 d Q s4 (Rep.nx (x3.trans x4).toRx r2) r4 eg fun v5 O5 H5 x5 s5 r5 => q v5 O5 H5 (x1.trans (x2.trans (x3.trans (x4.trans x5)))) s5 r5
def dLtI : D → D → Option D
  | .int i, .int j => some (.bl (decide (i < j)))
  | _, _ => none
theorem o_ltI {K : PySem.W.Frag} : Op2 K (rI0 fun i j => .bl (decide (i < j))) dLtI := by
  intro O H σ ρ G x y d1 d2 d Q s r1 r2 e q
  cases d1 <;> cases d2 <;> unfold dLtI at e <;> dsimp only at e <;> try (cases e; done)
  case int.int i j => cases e; exact ⟨i, j, r1, r2, fin0 s q rfl⟩
theorem de_lele (ha : DE X a ma) (hb : DE X b mb) (hc : DE X c mc) (hm : lastMarks [.LtE, .LtE] [b, c] = false := by with_unfolding_all rfl) : DE X (.Compare a [.LtE, .LtE] [b, c] pos) (mChain dLe dLe ma mb mc) := de_chain op_le op_le o_le o_le ha hb hc hm
theorem de_lelt (ha : DE X a ma) (hb : DE X b mb) (hc : DE X c mc) (hm : lastMarks [.LtE, .Lt] [b, c] = false := by with_unfolding_all rfl) : DE X (.Compare a [.LtE, .Lt] [b, c] pos) (mChain dLe dLtI ma mb mc) := de_chain op_le op_lt o_le o_ltI ha hb hc hm

theorem dt_chain {op op' : CmpOp} {r r' : R2} {f g : D → D → Option D} (ho : OpR X (compareOp op) r) (ho' : OpR X (compareOp op') r') (hf : Op2 X.K r f) (hg : Op2 X.K r' g) (ha : DE X a ma) (hb : DE X b mb) (hc : DE X c mc)
    (hm : lastMarks [op, op'] [b, c] = false := by with_unfolding_all rfl) : DT X (.Compare a [op, op'] [b, c] pos) (mTest (mChain f g ma mb mc)) :=
  (pt_chain ho ho' ha hb hc hm).imp fun σ H Q ⟨O, ρ, G, bb, ρ', G', s, e, q⟩ => by
    obtain ⟨d, ρ1, G1, e1, e2⟩ := bnd_eq e
    obtain ⟨ef2, rfl, rfl⟩ := lft_eq e2
    refine tD.go s e1 fun v1 O1 H1 d1 ρ1 G1 x1 s1 r1 e1 => tD.go s1 e1 fun v2 O2 H2 d2 ρ2 G2 x2 s2 r2 e2 => ?_
    obtain ⟨z, ρ3, G3, e3, e4⟩ := bnd_eq e2
    obtain ⟨ef, rfl, rfl⟩ := lft_eq e3
    refine hf O2 H2 σ _ _ v1 v2 d1 d2 z _ s2 (Rep.nx x2.toRx r1) r2 ef fun v O3 H3 x3 s3 r3 => ?_
    cases z <;> try (cases e4; done)
    case bl k =>
      refine ⟨k, r3, ?_⟩
      cases k with
      | false =>
        cases e4
        cases ef2
        exact ⟨_, rfl, q O3 H3 (x1.trans (x2.trans x3)) s3⟩
      | true =>
        refine tD.go s3 e4 fun v4 O4 H4 d4 ρ4 G4 x4 s4 r4 e5 => ?_
        obtain ⟨eg, rfl, rfl⟩ := lft_eq e5
        refine hg O4 H4 σ _ _ v2 v4 d2 d4 d _ s4 (Rep.nx (x3.trans x4).toRx r2) r4 eg fun v5 O5 H5 x5 s5 r5 => ?_
        cases d <;> try (cases ef2; done)
        case bl k2 => cases ef2; exact ⟨_, r5, q O5 H5 (x1.trans (x2.trans (x3.trans (x4.trans x5)))) s5⟩
theorem dt_lele (ha : DE X a ma) (hb : DE X b mb) (hc : DE X c mc) (hm : lastMarks [.LtE, .LtE] [b, c] = false := by with_unfolding_all rfl) : DT X (.Compare a [.LtE, .LtE] [b, c] pos) (mTest (mChain dLe dLe ma mb mc)) := dt_chain op_le op_le o_le o_le ha hb hc hm

/-! ### what is walked -/
theorem pi_seq {tg l : Expr} {tl : TE} (hl : PE X l tl) : PI X tg l (fun σ H R => tl σ H fun x H1 => ∃ a, x = .ref a ∧ (((∃ xs, SqL X.K H1 a xs) ∧ R (Itl X.K a) H1) ∨ ((∃ xs, SqT X.K H1 a xs) ∧ R (Itt X.K a) H1))) := by
  refine ⟨fun pins s σ H R I h => ?_⟩
  refine thn (hl.run pins s σ H _ I h) fun v s1 ⟨x, H1, I1, r1, q1⟩ => ?_
  obtain ⟨a, e, q⟩ := q1
  subst e
  cases r1
  rcases q with ⟨⟨xs, hq⟩, q⟩ | ⟨⟨xs, hq⟩, q⟩
  · obtain ⟨its, rv, p, hz⟩ := I1.list hq
    refine wpAny_pyIter_list p.isList ?_
    refine ⟨s1.heap.objs.size, [s1.heap.objs.size], _, _, H1, rfl, I1.kept (t' := s1.toks) fun b o e => Heap.get?_push_of_some _ e, turn_list a _, ⟨_, Heap.get?_push_size _ rfl, rfl, rfl⟩, fun b hb => ?_, q⟩
    have e : b = s1.heap.objs.size := by simpa using hb
    subst e
    exact I1.fpOk (Nat.le_refl _) (I1.hok.fresh (Nat.le_refl _))
  · obtain ⟨its, rv, p, hz⟩ := I1.tuple hq
    refine wpAny_pyIter_tuple (show s1.heap.IsTuple a its.toArray from p) ?_
    refine ⟨s1.heap.objs.size, [s1.heap.objs.size], _, _, H1, rfl, I1.kept (t' := s1.toks) fun b o e => Heap.get?_push_of_some _ e, turn_tuple a _, ⟨_, Heap.get?_push_size _ rfl, rfl, rfl⟩, fun b hb => ?_, q⟩
    have e : b = s1.heap.objs.size := by simpa using hb
    subst e
    exact I1.fpOk (Nat.le_refl _) (I1.hok.fresh (Nat.le_refl _))
def D.items : D → Option (List D)
  | .lst ds => some ds
  | .tup ds => some ds
  | _ => none
def mItems (a : SE) : SA := bnd a fun d => lft d.items
theorem it_list {K : PySem.W.Frag} {O : Ow} {H : Hp} {a : Addr} {vs : List V} {ds : List D} (n : O a = none) (h : H a = some (.lst vs)) (r : RepL K O H vs ds) : ItOk K (Itl K a) ds O H := by
  intro O' H' x
  have h' : SqL K H' a vs := SqL.of (x.keep _ _ h n)
  refine ⟨fun i d e => ?_, ⟨vs, h', by rw [r.length]; exact Nat.le_refl _⟩⟩
  obtain ⟨v, hv, rv⟩ := r.get e
  refine ⟨⟨vs, v, h', hv⟩, fun y H'' hy => ?_⟩
  obtain ⟨rfl, hy⟩ := hy
  have := hy vs h'
  rw [hv] at this
  cases this
  exact ⟨Ne.refl, fun _ _ _ s => s, Rep.nx x.toRx rv⟩
theorem it_tup {K : PySem.W.Frag} {O : Ow} {H : Hp} {a : Addr} {vs : List V} {ds : List D} (h : H a = some (.tup vs)) (r : RepL K O H vs ds) : ItOk K (Itt K a) ds O H := by
  intro O' H' x
  have h' : SqT K H' a vs := SqT.of (x.tup _ _ h)
  refine ⟨fun i d e => ?_, ⟨vs, h', by rw [r.length]; exact Nat.le_refl _⟩⟩
  obtain ⟨v, hv, rv⟩ := r.get e
  refine ⟨⟨vs, v, h', hv⟩, fun y H'' hy => ?_⟩
  obtain ⟨rfl, hy⟩ := hy
  have := hy vs h'
  rw [hv] at this
  cases this
  exact ⟨Ne.refl, fun _ _ _ s => s, Rep.nx x.toRx rv⟩
theorem di_seq {tg : Expr} (ha : DE X a ma) : DI X tg a (mItems ma) :=
  (pi_seq ha).imp fun σ H R ⟨O, ρ, G, ds, ρ', G', s, e, q⟩ => tD.go s e fun v1 O1 H1 d1 ρ1 G1 x1 s1 r1 e1 => by
    obtain ⟨ef, rfl, rfl⟩ := lft_eq e1
    cases d1 <;> try (cases ef; done)
    case lst ds' => cases ef; obtain ⟨a, vs, rfl, n, ha, la⟩ := r1; exact ⟨a, rfl, .inl ⟨⟨vs, SqL.of ha⟩, q _ O1 H1 x1 s1 (it_list n ha la)⟩⟩
    case tup ds' => cases ef; obtain ⟨a, vs, rfl, ha, la⟩ := r1; exact ⟨a, rfl, .inr ⟨⟨vs, SqT.of ha⟩, q _ O1 H1 x1 s1 (it_tup ha la)⟩⟩
def rng (lo hi : Int) : List D := (List.range (hi - lo).toNat).map fun i => .int (lo + (i : Nat))
theorem it_rng {K : PySem.W.Frag} {O : Ow} {H : Hp} (lo hi : Int) : ItOk K (Itr lo (hi - lo).toNat) (rng lo hi) O H := by
  intro O' H' x
  refine ⟨fun i d e => ?_, by unfold rng; rw [List.length_map, List.length_range]; exact Nat.le_refl _⟩
  unfold rng at e
  rw [List.getElem?_map] at e
  have hi' : i < (hi - lo).toNat := by
    refine Classical.byContradiction fun z => ?_
    rw [List.getElem?_eq_none_iff.mpr (by rw [List.length_range]; omega)] at e
    cases e
  rw [List.getElem?_eq_getElem (by rw [List.length_range]; exact hi'), List.getElem_range] at e
  cases e
  exact ⟨hi', fun y H'' hy => by obtain ⟨rfl, rfl⟩ := hy; exact ⟨Ne.refl, fun _ _ _ s => s, rfl⟩⟩
def dRng1 : D → Option (List D)
  | .int j => if decide (-(2 ^ 62) ≤ j) && decide (j < 2 ^ 62) then some (rng 0 j) else none
  | _ => none
def dRng2 : D → D → Option (List D)
  | .int i, .int j => if decide (-(2 ^ 62) ≤ i) && decide (i < 2 ^ 62) && decide (-(2 ^ 62) ≤ j) && decide (j < 2 ^ 62) then some (rng i j) else none
  | _, _ => none
def mRng1 (a : SE) : SA := bnd a fun d => lft (dRng1 d)
def mRng2 (a b : SE) : SA := bnd a fun d => bnd b fun e => lft (dRng2 d e)
theorem di_range1 {tg : Expr} {p : Pos} (hm : X.mg "range" = none) (ha : DE X a ma) (hg : Gl X "range" := by rfl) (he : starEach [a] X.env = (false, eval a X.env) :: starEach [] X.env := by rfl) (hs : starEach [a] X.env = [(false, eval a X.env)] := by rfl) : DI X tg (.Call (.Name "range" p) [a] [] pos) (mRng1 ma) :=
  (pi_range1 hg hm (pa_cons ha pa_nil he) hs).imp fun σ H R ⟨O, ρ, G, ds, ρ', G', s, e, q⟩ => tD.go s e fun v1 O1 H1 d1 ρ1 G1 x1 s1 r1 e1 => by
    obtain ⟨ef, rfl, rfl⟩ := lft_eq e1
    cases d1 <;> unfold dRng1 at ef <;> dsimp only at ef <;> try (cases ef; done)
    case int j =>
      split at ef
      · rename_i hz
        cases ef
        simp only [Bool.and_eq_true, decide_eq_true_eq] at hz
        refine ⟨j, by rw [show v1 = _ from r1], hz.1, hz.2, ?_⟩
        have := it_rng (K := X.K) (O := O1) (H := H1) 0 j
        rw [Int.sub_zero] at this
        exact q _ O1 H1 x1 s1 this
      · cases ef
theorem di_range2 {tg : Expr} {p : Pos} (hm : X.mg "range" = none) (ha : DE X a ma) (hb : DE X b mb) (hg : Gl X "range" := by rfl) (he : starEach [a, b] X.env = (false, eval a X.env) :: starEach [b] X.env := by rfl) (he2 : starEach [b] X.env = (false, eval b X.env) :: starEach [] X.env := by rfl)
    (hs : starEach [a, b] X.env = [(false, eval a X.env), (false, eval b X.env)] := by rfl) (hs2 : starEach [b] X.env = [(false, eval b X.env)] := by rfl) : DI X tg (.Call (.Name "range" p) [a, b] [] pos) (mRng2 ma mb) :=
  (pi_range2 hg hm (pa_cons ha (pa_cons hb pa_nil he2) he) hs hs2).imp fun σ H R ⟨O, ρ, G, ds, ρ', G', s, e, q⟩ => tD.go s e fun v1 O1 H1 d1 ρ1 G1 x1 s1 r1 e1 => tD.go s1 e1 fun v2 O2 H2 d2 ρ2 G2 x2 s2 r2 e2 => by
    obtain ⟨ef, rfl, rfl⟩ := lft_eq e2
    cases d1 <;> cases d2 <;> unfold dRng2 at ef <;> dsimp only at ef <;> try (cases ef; done)
    case int.int i j =>
      split at ef
      · rename_i hz
        cases ef
        simp only [Bool.and_eq_true, decide_eq_true_eq] at hz
        exact ⟨i, j, by rw [show v1 = _ from r1, show v2 = _ from r2], ⟨hz.1.1.1, hz.1.1.2, hz.1.2, hz.2⟩, q _ O2 H2 (x1.trans x2) s2 (it_rng i j)⟩
      · cases ef
/-- zip of two lists, of two tuples -/
def zipD (xs ys : List D) : List D := (xs.zip ys).map fun p => .tup [p.1, p.2]
def dZip : D → D → Option (List D)
  | .lst xs, .lst ys => some (zipD xs ys)
  | .tup xs, .tup ys => some (zipD xs ys)
  | _, _ => none
def mZip (a b : SE) : SA := bnd a fun d => bnd b fun e => lft (dZip d e)
theorem zipD_get {xs ys : List D} {i : Nat} {d : D} (h : (zipD xs ys)[i]? = some d) : ∃ x y, xs[i]? = some x ∧ ys[i]? = some y ∧ d = .tup [x, y] := by
  unfold zipD at h
  rw [List.getElem?_map] at h
  cases e : (xs.zip ys)[i]? with
  | none => rw [e] at h; cases h
  | some p =>
    rw [e] at h
    cases h
    obtain ⟨x, y⟩ := p
    rw [List.getElem?_zip_eq_some] at e
    exact ⟨x, y, e.1, e.2, rfl⟩
theorem zipD_len {xs ys : List D} : (zipD xs ys).length = min xs.length ys.length := by
  unfold zipD
  rw [List.length_map, List.length_zip]
theorem pair_new {K : PySem.W.Frag} {O : Ow} {H : Hp} {T : Addr} {v u : V} {x y : D} (h : H T = none) (r1 : Rep K O H v x) (r2 : Rep K O H u y) :
    Ne O H O (upd H T (.tup [v, u])) ∧ (∀ σ ρ G, SR K O H σ ρ G → SR K O (upd H T (.tup [v, u])) σ ρ G) ∧ Rep K O (upd H T (.tup [v, u])) (.ref T) (.tup [x, y]) :=
  ⟨nx_new h, fun σ ρ G s => s.new h, T, [v, u], rfl, upd_same, v, [u], rfl, Rep.nx (nx_new h).toRx r1, u, [], rfl, Rep.nx (nx_new h).toRx r2, rfl⟩
theorem it_zip {K : PySem.W.Frag} {O : Ow} {H : Hp} {a b : Addr} {vs us : List V} {xs ys : List D} (n : O a = none) (n2 : O b = none) (h : H a = some (.lst vs)) (h2 : H b = some (.lst us)) (r : RepL K O H vs xs) (r2 : RepL K O H us ys) : ItOk K (Itz K a b) (zipD xs ys) O H := by
  intro O' H' x
  have g1 : SqL K H' a vs := SqL.of (x.keep _ _ h n)
  have g2 : SqL K H' b us := SqL.of (x.keep _ _ h2 n2)
  refine ⟨fun i d e => ?_, ⟨vs, us, g1, g2, by rw [zipD_len, r.length, r2.length]; omega⟩⟩
  obtain ⟨dx, dy, e1, e2, rfl⟩ := zipD_get e
  obtain ⟨v, hv, rv⟩ := r.get e1
  obtain ⟨u, hu, ru⟩ := r2.get e2
  refine ⟨⟨vs, us, v, u, g1, g2, hv, hu⟩, fun y H'' hy => ?_⟩
  obtain ⟨T, v', u', rfl, hT, rfl, f1, f2⟩ := hy
  have := f1 vs g1
  rw [hv] at this; cases this
  have := f2 us g2
  rw [hu] at this; cases this
  exact pair_new hT (Rep.nx x.toRx rv) (Rep.nx x.toRx ru)
theorem it_zipT {K : PySem.W.Frag} {O : Ow} {H : Hp} {a b : Addr} {vs us : List V} {xs ys : List D} (h : H a = some (.tup vs)) (h2 : H b = some (.tup us)) (r : RepL K O H vs xs) (r2 : RepL K O H us ys) : ItOk K (RZ.ItzT K a b) (zipD xs ys) O H := by
  intro O' H' x
  have g1 : SqT K H' a vs := SqT.of (x.tup _ _ h)
  have g2 : SqT K H' b us := SqT.of (x.tup _ _ h2)
  refine ⟨fun i d e => ?_, ⟨vs, us, g1, g2, by rw [zipD_len, r.length, r2.length]; omega⟩⟩
  obtain ⟨dx, dy, e1, e2, rfl⟩ := zipD_get e
  obtain ⟨v, hv, rv⟩ := r.get e1
  obtain ⟨u, hu, ru⟩ := r2.get e2
  refine ⟨⟨vs, us, v, u, g1, g2, hv, hu⟩, fun y H'' hy => ?_⟩
  obtain ⟨T, v', u', rfl, hT, rfl, f1, f2⟩ := hy
  have := f1 vs g1
  rw [hv] at this; cases this
  have := f2 us g2
  rw [hu] at this; cases this
  exact pair_new hT (Rep.nx x.toRx rv) (Rep.nx x.toRx ru)
theorem di_zip {elts : List Expr} {kk : Nat} {tpos p : Pos} (hm : X.mg "zip" = none) (ha : DE X a ma) (hb : DE X b mb) (hg : Gl X "zip" := by rfl) (he2 : starEach [b] X.env = (false, eval b X.env) :: starEach [] X.env := by rfl)
    (hs : starEach [a, b] X.env = (false, eval a X.env) :: starEach [b] X.env := by rfl) (hpl : (backTo pos (starEach [b] X.env)).any (·.1) = false := by rfl) : DI X (.Tuple elts kk tpos) (.Call (.Name "zip" p) [a, b] [] pos) (mZip ma mb) :=
  (RZ.pi_zipA hg hm (pa_cons ha (pa_cons hb pa_nil he2) hs) hs hpl).imp fun σ H R ⟨O, ρ, G, ds, ρ', G', s, e, q⟩ => tD.go s e fun v1 O1 H1 d1 ρ1 G1 x1 s1 r1 e1 => tD.go s1 e1 fun v2 O2 H2 d2 ρ2 G2 x2 s2 r2 e2 => by
    obtain ⟨ef, rfl, rfl⟩ := lft_eq e2
    have r1 := Rep.nx x2.toRx r1
    cases d1 <;> cases d2 <;> unfold dZip at ef <;> dsimp only at ef <;> try (cases ef; done)
    case lst.lst xs ys =>
      cases ef
      obtain ⟨a, vs, rfl, n, ha, la⟩ := r1
      obtain ⟨b, us, rfl, n2, hb, lb⟩ := r2
      exact ⟨a, b, vs, us, rfl, .inl ⟨SqL.of ha, SqL.of hb, q _ O2 H2 (x1.trans x2) s2 (it_zip n n2 ha hb la lb)⟩⟩
    case tup.tup xs ys =>
      cases ef
      obtain ⟨a, vs, rfl, ha, la⟩ := r1
      obtain ⟨b, us, rfl, hb, lb⟩ := r2
      exact ⟨a, b, vs, us, rfl, .inr ⟨SqT.of ha, SqT.of hb, q _ O2 H2 (x1.trans x2) s2 (it_zipT ha hb la lb)⟩⟩
/-- enumerate of a list -/
def enumD (k : Nat) : List D → List D
  | [] => []
  | d :: ds => .tup [.int k, d] :: enumD (k + 1) ds
theorem enumD_get : ∀ {ds : List D} {k i : Nat} {d : D}, (enumD k ds)[i]? = some d → ∃ x, ds[i]? = some x ∧ d = .tup [.int ((k + i : Nat) : Int), x]
  | [], k, i, d, h => by simp [enumD] at h
  | x :: ds, k, 0, d, h => by simp [enumD] at h; exact ⟨x, rfl, h.symm⟩
  | x :: ds, k, i + 1, d, h => by
    have h : (enumD (k + 1) ds)[i]? = some d := by simpa [enumD] using h
    obtain ⟨y, h1, h2⟩ := enumD_get h
    exact ⟨y, by simpa using h1, by rw [h2]; simp [Nat.add_assoc, Nat.add_comm 1 i]⟩
theorem enumD_len : ∀ (ds : List D) (k : Nat), (enumD k ds).length = ds.length
  | [], _ => rfl
  | d :: ds, k => by show (enumD (k + 1) ds).length + 1 = ds.length + 1; rw [enumD_len ds]
def dEnum : D → Option (List D)
  | .lst xs => some (enumD 0 xs)
  | _ => none
def mEnum (a : SE) : SA := bnd a fun d => lft (dEnum d)
theorem it_enum {K : PySem.W.Frag} {O : Ow} {H : Hp} {a : Addr} {vs : List V} {xs : List D} (n : O a = none) (h : H a = some (.lst vs)) (r : RepL K O H vs xs) : ItOk K (Ite K a) (enumD 0 xs) O H := by
  intro O' H' x
  have g1 : SqL K H' a vs := SqL.of (x.keep _ _ h n)
  refine ⟨fun i d e => ?_, ⟨vs, g1, by rw [enumD_len, r.length]; exact Nat.le_refl _⟩⟩
  obtain ⟨dx, e1, rfl⟩ := enumD_get e
  obtain ⟨v, hv, rv⟩ := r.get e1
  refine ⟨⟨vs, v, g1, hv⟩, fun y H'' hy => ?_⟩
  obtain ⟨T, v', rfl, hT, rfl, f1⟩ := hy
  have := f1 vs g1
  rw [hv] at this; cases this
  have := pair_new (x := .int ((i : Nat) : Int)) hT (show Rep K O' H' (.int (i : Nat)) (.int ((i : Nat) : Int)) from rfl) (Rep.nx x.toRx rv)
  rw [Nat.zero_add]
  exact this
theorem di_enum {elts : List Expr} {kk : Nat} {tpos p : Pos} (hm : X.mg "enumerate" = none) (ha : DE X a ma) (hg : Gl X "enumerate" := by rfl) (he : starEach [a] X.env = (false, eval a X.env) :: starEach [] X.env := by rfl) (hs : starEach [a] X.env = [(false, eval a X.env)] := by rfl) :
    DI X (.Tuple elts kk tpos) (.Call (.Name "enumerate" p) [a] [] pos) (mEnum ma) :=
  (pi_enum hg hm (pa_cons ha pa_nil he) hs).imp fun σ H R ⟨O, ρ, G, ds, ρ', G', s, e, q⟩ => tD.go s e fun v1 O1 H1 d1 ρ1 G1 x1 s1 r1 e1 => by
    obtain ⟨ef, rfl, rfl⟩ := lft_eq e1
    cases d1 <;> try (cases ef; done)
    case lst ds' => cases ef; obtain ⟨a, vs, rfl, n, ha, la⟩ := r1; exact ⟨a, vs, rfl, SqL.of ha, q _ O1 H1 x1 s1 (it_enum n ha la)⟩

/-! ### targets -/
def gSet (i : Nat) : SG := fun d ρ => if i < ρ.length then some (ρ.set i (.im d)) else none
theorem dg_name {i : Nat} {x : Str} (hN : X.N.Nodup) (hx : Loc X.env.scope x := by first | exact Or.inl rfl | exact Or.inr rfl) (hi : X.N[i]? = some x := by rfl) (hf : X.fn x = true ∨ X.env.scope.names.lookup x = some .local := by first | exact .inl rfl | exact .inr rfl) : DG X (.Name x pos) [i] (gSet i) :=
  (pg_name hN hi hx hf).imp fun v σ H Q ⟨O, ρ, G, d, ρ', s, r, e, q⟩ => by
    unfold gSet at e
    split at e
    · rename_i hi
      cases e
      exact q _ O H Ne.refl (s.put r (by rw [s.len]; exact hi)) ⟨by rw [List.length_set], fun j hj => List.getElem?_set_ne fun z => hj (by simp [z])⟩
    · cases e
abbrev SGs := List D → List Sl → Option (List Sl)
def tGs (K : PySem.W.Frag) (ts : List Nat) (m : SGs) : TGs := fun vs σ H Q => ∃ O ρ G ds ρ', SR K O H σ ρ G ∧ RepL K O H vs ds ∧ m ds ρ = some ρ' ∧ ∀ σ' O' H', Ne O H O' H' → SR K O' H' σ' ρ' G → (σ'.length = σ.length ∧ ∀ j, ¬ j ∈ ts → σ'[j]? = σ[j]?) → Q σ' H'
abbrev DGs (X : Cx) (tgs : List Expr) (ts : List Nat) (m : SGs) : Prop := PGs X tgs (tGs X.K ts m)
def gsNil : SGs := fun ds ρ => match ds with
  | [] => some ρ
  | _ => none
def gsCons (g : SG) (r : SGs) : SGs := fun ds ρ => match ds with
  | d :: ds => (g d ρ).bind fun ρ1 => r ds ρ1
  | [] => none
theorem dgs_nil : DGs X [] [] gsNil := ⟨fun pins s σ H vs us Q I r ⟨O, ρ, G, ds, ρ', s', rl, e, q⟩ => pgs_nil.run pins s σ H vs us Q I r (by
  cases ds with
  | nil => cases e; exact ⟨rl, q σ O H Ne.refl s' ⟨rfl, fun _ _ => rfl⟩⟩
  | cons d ds => cases e)⟩
theorem dgs_cons {e : Expr} {es : List Expr} {t1 t2 : List Nat} {g : SG} {m : SGs} (h1 : DG X e t1 g) (h2 : DGs X es t2 m) (hs : (assignEach (e :: es) X.env).map (·.2) = assign e X.env :: (assignEach es X.env).map (·.2) := by rfl) : DGs X (e :: es) (t1 ++ t2) (gsCons g m) :=
  ⟨fun pins s σ H vs us Q I r ⟨O, ρ, G, ds, ρ', s', rl, e, q⟩ => (pgs_cons h1 h2 hs).run pins s σ H vs us Q I r (by
    cases ds with
    | nil => cases e
    | cons d ds =>
      obtain ⟨v, vr, rfl, hv, hr⟩ := rl
      have e : (g d ρ).bind (fun ρ1 => m ds ρ1) = some ρ' := e
      cases q1 : g d ρ with
      | none => rw [q1] at e; cases e
      | some ρ1 =>
        rw [q1] at e
        refine ⟨v, vr, rfl, O, ρ, G, d, ρ1, s', hv, q1, fun σ1 O1 H1 x1 s1 k1 => ⟨O1, ρ1, G, ds, ρ', s1, RepL.nx x1.toRx hr, e, fun σ2 O2 H2 x2 s2 k2 => q σ2 O2 H2 (x1.trans x2) s2 ⟨k2.1.trans k1.1, fun j hj => ?_⟩⟩⟩
        rw [k2.2 j fun z => hj (List.mem_append_right _ z), k1.2 j fun z => hj (List.mem_append_left _ z)])⟩
def gTupS (n : Nat) (m : SGs) : SG := fun d ρ => match d with
  | .tup ds => if ds.length = n then m ds ρ else none
  | _ => none
theorem dg_tup {es : List Expr} {k : Nat} {ts : List Nat} {m : SGs} {n : Nat} (hc : X.calm = true) (h : DGs X es ts m) (hn : (assignEach es X.env).length = n := by rfl) (hst : (assignEach es X.env).findIdx? (·.1) = none := by rfl) : DG X (.Tuple es k pos) ts (gTupS n m) :=
  (pg_tup hc h hn hst).imp fun v σ H Q ⟨O, ρ, G, d, ρ', s, r, e, q⟩ => by
    unfold gTupS at e
    cases d <;> try (cases e; done)
    case tup ds =>
      dsimp only at e
      split at e
      · rename_i hl
        obtain ⟨a, vs, rfl, ha, la⟩ := r
        exact ⟨a, vs, rfl, SqT.of ha, by rw [la.length]; exact hl, O, ρ, G, ds, ρ', s, la, e, q⟩
      · cases e

/-! ### comprehensions -/
def wipeS (ρ : List Sl) : List Nat → List Sl
  | [] => ρ
  | v :: vs => (wipeS ρ vs).set v .un
def backS (ρ1 ρ : List Sl) : List Nat → List Sl
  | [] => ρ
  | v :: vs => (backS ρ1 ρ vs).set v (ρ1[v]?.getD .un)
def okW (ρ : List Sl) (vs : List Nat) : Bool := vs.all fun i => match ρ[i]? with
  | some (.im _) => true
  | some .un => true
  | _ => false
theorem wipe_out {σ : L2.St} {i : Nat} : ∀ {vs : List Nat}, ¬ i ∈ vs → (wipe σ vs)[i]? = σ[i]?
  | [], _ => rfl
  | v :: vs, h => by
    unfold wipe
    rw [List.getElem?_set_ne (fun z => h (by simp [z])), wipe_out fun z => h (List.mem_cons_of_mem _ z)]
theorem wipeS_out {ρ : List Sl} {i : Nat} : ∀ {vs : List Nat}, ¬ i ∈ vs → (wipeS ρ vs)[i]? = ρ[i]?
  | [], _ => rfl
  | v :: vs, h => by
    unfold wipeS
    rw [List.getElem?_set_ne (fun z => h (by simp [z])), wipeS_out fun z => h (List.mem_cons_of_mem _ z)]
theorem wipeS_len {ρ : List Sl} : ∀ {vs : List Nat}, (wipeS ρ vs).length = ρ.length
  | [] => rfl
  | v :: vs => by unfold wipeS; rw [List.length_set, wipeS_len]
theorem backS_len {ρ1 ρ : List Sl} : ∀ {vs : List Nat}, (backS ρ1 ρ vs).length = ρ.length
  | [] => rfl
  | v :: vs => by unfold backS; rw [List.length_set, backS_len]
theorem backS_out {ρ1 ρ : List Sl} {i : Nat} : ∀ {vs : List Nat}, ¬ i ∈ vs → (backS ρ1 ρ vs)[i]? = ρ[i]?
  | [], _ => rfl
  | v :: vs, h => by
    unfold backS
    rw [List.getElem?_set_ne (fun z => h (by simp [z])), backS_out fun z => h (List.mem_cons_of_mem _ z)]
theorem backS_in {ρ1 ρ : List Sl} {i : Nat} (hi : i < ρ.length) : ∀ {vs : List Nat}, i ∈ vs → (backS ρ1 ρ vs)[i]? = some (ρ1[i]?.getD .un)
  | [], h => by cases h
  | v :: vs, h => by
    unfold backS
    by_cases hv : v = i
    · subst hv
      rw [List.getElem?_set_self (by rw [backS_len]; exact hi)]
    · rw [List.getElem?_set_ne hv, backS_in hi]
      rcases List.mem_cons.mp h with e | e
      · exact absurd e.symm hv
      · exact e
theorem wipeS_in {ρ : List Sl} {i : Nat} (hi : i < ρ.length) : ∀ {vs : List Nat}, i ∈ vs → (wipeS ρ vs)[i]? = some .un
  | [], h => by cases h
  | v :: vs, h => by
    unfold wipeS
    by_cases hv : v = i
    · subst hv
      rw [List.getElem?_set_self (by rw [wipeS_len]; exact hi)]
    · rw [List.getElem?_set_ne hv, wipeS_in hi]
      rcases List.mem_cons.mp h with e | e
      · exact absurd e.symm hv
      · exact e
theorem wipe_ext {σ σ' : L2.St} {vs : List Nat} (hl : σ'.length = σ.length) (h : ∀ j, ¬ j ∈ vs → σ'[j]? = σ[j]?) : wipe σ' vs = wipe σ vs := by
  have inn : ∀ (τ : L2.St) (us : List Nat) (i : Nat), i < τ.length → i ∈ us → (wipe τ us)[i]? = some none := by
    intro τ us
    induction us with
    | nil => intro i _ h; cases h
    | cons v us ih =>
      intro i hi h
      unfold wipe
      by_cases hv : v = i
      · subst hv
        rw [List.getElem?_set_self (by rw [wipe_length]; exact hi)]
      · rw [List.getElem?_set_ne hv]
        rcases List.mem_cons.mp h with e | e
        · exact absurd e.symm hv
        · exact ih i hi e
  refine List.ext_getElem? fun i => ?_
  by_cases hi : i < σ.length
  · by_cases hv : i ∈ vs
    · rw [inn σ vs i hi hv, inn σ' vs i (by rw [hl]; exact hi) hv]
    · rw [wipe_out hv, wipe_out hv, h i hv]
  · rw [List.getElem?_eq_none (by rw [wipe_length]; omega), List.getElem?_eq_none (by rw [wipe_length]; omega)]
section
variable {K : PySem.W.Frag} {O O' O1 : Ow} {H H' H1 : Hp} {σ : L2.St} {ρ ρ1 : List Sl} {G G1 : Gs} {D0 : Addr}
theorem SR.wipe (s : SR K O H σ ρ G) (vs : List Nat) : SR K O H (wipe σ vs) (wipeS ρ vs) G := by
  refine ⟨s.toGR, by rw [wipe_length, wipeS_len, s.len], fun i sl e => ?_⟩
  by_cases hv : i ∈ vs
  · have hi : i < ρ.length := by
      have := (List.getElem?_eq_some_iff.mp e).1
      rw [wipeS_len] at this
      exact this
    rw [wipeS_in hi hv] at e
    cases e
    trivial
  · rw [wipeS_out hv] at e
    rw [wipe_out hv]
    exact s.slot i sl e
theorem SR.back (s1 : SR K O1 H1 σ ρ1 G1) {vs : List Nat} (ok : okW ρ1 vs = true) (x : Rx O1 H1 O H) (s : SR K O H (L2.wipe σ vs) (wipeS ρ vs) G) : SR K O H σ (backS ρ1 ρ vs) G := by
  have hl := s.len
  rw [wipe_length, wipeS_len] at hl
  refine ⟨s.toGR, by rw [backS_len, hl], fun i sl e => ?_⟩
  have hi : i < ρ.length := by
    have := (List.getElem?_eq_some_iff.mp e).1
    rw [backS_len] at this
    exact this
  by_cases hv : i ∈ vs
  · rw [backS_in hi hv] at e
    have ok := List.all_eq_true.mp ok i hv
    cases q : ρ1[i]? with
    | none => rw [q] at e; cases e; trivial
    | some t =>
      rw [q] at e ok
      cases e
      cases t with
      | un => trivial
      | im d => obtain ⟨v, e, r⟩ := s1.slot i _ q; exact ⟨v, e, Rep.nx x r⟩
      | m1 _ => cases ok
      | m2 _ => cases ok
      | mk _ => cases ok
      | mt _ => cases ok
  · rw [backS_out hv] at e
    have := s.slot i sl (by rw [wipeS_out hv]; exact e)
    rw [wipe_out hv] at this
    exact this
/-- an object that is being made is not there before -/
theorem Ne.lab (x : Ne O H O1 H1) (h : H D0 = none) {l : Option Lb} (hs : O D0 = none) : Ne O H (own O1 D0 l) H1 := by
  have ne : ∀ b u, H b = some u → b ≠ D0 := fun b u e z => by rw [z, h] at e; cases e
  refine ⟨⟨⟨x.keep, fun b e n => ?_, fun b n e => ?_, x.tup, x.frz⟩, fun b u e n => ?_, x.live⟩, fun b i u e n => ?_⟩
  · rw [own_ne (fun z => e (by rw [z]; exact h))]; exact x.non b e n
  · rw [own_ne (fun z => by rw [z, hs] at e; cases e)]; exact x.shr b n e
  · rw [own_ne (ne b u e)]; exact x.ext b u e n
  · rw [own_ne (ne b u e)]; exact x.slt b i u e n
theorem Ne.upE (x : Ne O H O1 H1) (h : H D0 = none) {o : HO} : Ne O H O1 (upd H1 D0 o) := by
  have ne : ∀ b u, H b = some u → b ≠ D0 := fun b u e z => by rw [z, h] at e; cases e
  refine ⟨⟨⟨fun b u e n => ?_, x.non, x.shr, fun b u e => ?_, fun b u w e => ?_⟩, fun b u e n => ?_, fun b e => ?_⟩, fun b i u e n => ?_⟩
  · rw [upd_ne (ne b u e)]; exact x.keep b u e n
  · rw [upd_ne (ne b _ e)]; exact x.tup b u e
  · rw [upd_ne (ne b _ e)]; exact x.frz b u w e
  · rw [upd_ne (ne b u e)]; exact x.ext b u e n
  · by_cases z : b = D0
    · rw [z, upd_same]; exact fun q => nomatch q
    · rw [upd_ne z]; exact x.live b e
  · rw [upd_ne (ne b u e)]; exact x.slt b i u e n
theorem SR.wrE (s : SR K O H σ ρ G) {o : HO} (h : O D0 = some .ext) (m : Mut (some o)) : SR K O (upd H D0 o) σ ρ G := by
  have ml := s.live _ _ h
  refine s.keep (rx_wr ml h) (fun b j e => ⟨e, upd_ne fun z => by rw [z, h] at e; cases e⟩) (fun b n e => upd_ne fun z => by rw [z, h] at e; cases e) (fun _ _ e => e) fun b l e => ?_
  by_cases z : b = D0
  · rw [z, upd_same]; exact m
  · rw [upd_ne z]; exact s.live b l e
theorem rx_let (h : O D0 = some .ext) : Rx O H (own O D0 none) H := by
  refine ⟨fun _ _ e _ => e, fun b e n => ?_, fun b n e => ?_, fun _ _ e => e, fun _ _ _ e => e⟩
  · by_cases z : b = D0
    · rw [z, own_same]
    · rw [own_ne z]; exact n
  · rw [own_ne (fun z => by rw [z, h] at e; cases e)]; exact e
theorem SR.letE (s : SR K O H σ ρ G) (h : O D0 = some .ext) : SR K (own O D0 none) H σ ρ G := by
  refine s.keep (rx_let h) (fun b j e => ⟨by rw [own_ne (fun z => by rw [z, h] at e; cases e)]; exact e, rfl⟩) (fun _ _ _ => rfl) (fun b n e => ?_) fun b l e => ?_
  · by_cases z : b = D0
    · rw [z, own_same] at e; cases e
    · rw [own_ne z] at e; exact e
  · by_cases z : b = D0
    · rw [z, own_same] at e; cases e
    · rw [own_ne z] at e; exact s.live b l e
end
end
end DL

/-! DL: list comprehensions. -/
namespace DL
open PySem PySem.Spec PyProof.Rows L2

def lcLoop (vs : List Nat) (tg : SG) (tt : SB) (te : SE) : List D → List D → Sm (List D)
  | [], acc => ret acc
  | d :: ds, acc => fun ρ G => match tg d (wipeS ρ vs) with
    | none => none
    | some ρ1 => bnd tt (fun k => if k = true then bnd te fun y => lcLoop vs tg tt te ds (acc ++ [y]) else lcLoop vs tg tt te ds acc) ρ1 G
def mLcN (vs : List Nat) (it : SA) (tg : SG) (tt : SB) (te : SE) : SF := bnd it fun ds => fun ρ G =>
  if okW ρ vs && szOk ds.length then match lcLoop vs tg tt te ds [] ρ G with
    | none => none
    | some (acc, ρ', G') => some (.m1 acc, backS ρ ρ' vs, G')
  else none
def mLc (vs : List Nat) (it : SA) (tg : SG) (tt : SB) (te : SE) : SE := bnd it fun ds => fun ρ G =>
  if okW ρ vs && szOk ds.length then match lcLoop vs tg tt te ds [] ρ G with
    | none => none
    | some (acc, ρ', G') => some (.lst acc, backS ρ ρ' vs, G')
  else none
abbrev DTs (X : Cx) (ifs : List Expr) (m : SB) : Prop := PTs X ifs (tQ X.K m)
theorem dts_nil {X : Cx} : DTs X [] (ret true) := ⟨fun pins s σ H Q I ⟨O, ρ, G, b, ρ', G', s', e, q⟩ => pts_nil.run pins s σ H Q I (by cases e; exact q O H Ne.refl s')⟩
theorem dts_one {X : Cx} {c : Expr} {m : SB} (h : DT X c m) : DTs X [c] m := pts_one h

section
variable {K : PySem.W.Frag}
/-- the loop of a list comprehension -/
theorem lc_go {vs ts : List Nat} {tg : SG} {tt : SB} {te : SE} {σ : L2.St} {O1 : Ow} {H1 : Hp} {ρ1 ρ' : List Sl} {G1 G' : Gs} {J : It} {ds acc : List D} {D0 : Addr} {Q : Hp → Prop}
    (s1 : SR K O1 H1 σ ρ1 G1) (hJ : ItOk K J ds O1 H1) (hw : okW ρ1 vs = true) (hz : szOk ds.length = true) (hts : ∀ j ∈ ts, j ∈ vs) (e : lcLoop vs tg tt te ds [] ρ1 G1 = some (acc, ρ', G')) (hD : H1 D0 = none)
    (fin : ∀ O H avs, Ne O1 H1 O H → SR K O H σ (backS ρ1 ρ' vs) G' → O D0 = some .ext → H D0 = some (.lst avs) → RepL K O H avs acc → Q H) :
    ∃ W : Nat → Nat → Hp → Prop, (∃ m, W 0 m (upd H1 D0 (.lst []))) ∧ ∀ i m H, W i m H →
      (J.stop i H ∧ Q H) ∨ (J.go i H ∧ ∃ Nn : Hp → Prop, (∀ H', Nn H' → ∃ m', m' < m ∧ W (i + 1) m' H') ∧ ∀ x H', J.yld i H x H' → tG K ts tg x (wipe σ vs) H' fun σ2 H2 => wipe σ2 vs = wipe σ vs ∧ tQ K tt σ2 H2 fun b H3 =>
        if b = true then tD K te σ2 H3 fun y H4 => ∃ acc, H4 D0 = some (.lst acc) ∧ acc.length < sizeLine ∧ Nn (upd H4 D0 (.lst (acc ++ [y]))) else Nn H3) := by
  have fO : O1 D0 = none := s1.toGR.free hD
  have mut_l : ∀ xs : List V, Mut (some (.lst xs)) := fun _ => trivial
  refine ⟨fun i m H => ∃ O ρ G ac avs, m = ds.length - i ∧ i ≤ ds.length ∧ Ne O1 H1 O H ∧ SR K O H (wipe σ vs) (wipeS ρ vs) G ∧ O D0 = some .ext ∧ H D0 = some (.lst avs) ∧ RepL K O H avs ac ∧ ac.length ≤ i ∧ lcLoop vs tg tt te (ds.drop i) ac ρ G = some (acc, ρ', G'),
    ⟨ds.length, own O1 D0 (some .ext), ρ1, G1, [], [], rfl, Nat.zero_le _, nx_newO hD fO, (s1.newO hD (mut_l _)).wipe vs, own_same, upd_same, rfl, Nat.le_refl _, e⟩, ?_⟩
  rintro i m H ⟨O, ρ, G, ac, avs, rfl, hi, x, s, hO, hH, ra, hl, e⟩
  by_cases hlt : i < ds.length
  · have hd : ds.drop i = ds[i] :: ds.drop (i + 1) := List.drop_eq_getElem_cons hlt
    rw [hd] at e
    obtain ⟨go, yl⟩ := (hJ O H x.toNx).1 i ds[i] (List.getElem?_eq_getElem hlt)
    refine .inr ⟨go, fun H' => ∃ O ρ G ac avs, Ne O1 H1 O H' ∧ SR K O H' (wipe σ vs) (wipeS ρ vs) G ∧ O D0 = some .ext ∧ H' D0 = some (.lst avs) ∧ RepL K O H' avs ac ∧ ac.length ≤ i + 1 ∧ lcLoop vs tg tt te (ds.drop (i + 1)) ac ρ G = some (acc, ρ', G'), fun H' ⟨O', ρ2, G2, ac2, avs2, h1, h2, h3, h4, h5, h6, h7⟩ => ⟨ds.length - (i + 1), by omega, O', ρ2, G2, ac2, avs2, rfl, hlt, h1, h2, h3, h4, h5, h6, h7⟩, fun y H' hy => ?_⟩
    obtain ⟨xy, sy, ry⟩ := yl y H' hy
    have s' := sy _ _ _ s
    have e : (match tg ds[i] (wipeS ρ vs) with
      | none => none
      | some ρ1 => bnd tt (fun k => if k = true then bnd te fun y => lcLoop vs tg tt te (ds.drop (i + 1)) (ac ++ [y]) else lcLoop vs tg tt te (ds.drop (i + 1)) ac) ρ1 G) = some (acc, ρ', G') := e
    cases q1 : tg ds[i] (wipeS ρ vs) with
    | none => rw [q1] at e; cases e
    | some ρ2 =>
      rw [q1] at e
      dsimp only at e
      refine ⟨O, _, G, ds[i], ρ2, s', ry, q1, fun σ2 O2 H2 x2 s2 k2 => ?_⟩
      have ew : wipe σ2 vs = wipe σ vs := wipe_ext (by rw [k2.1, wipe_length]) fun j hj => by rw [k2.2 j fun z => hj (hts j z), wipe_out hj]
      refine ⟨ew, ?_⟩
      have x3 := x.trans (xy.trans x2)
      have hO2 : O2 D0 = some .ext := (x2.ext D0 (.lst avs) ((xy.ext D0 _ hH hO).1) hO).2
      have hH2 : H2 D0 = some (.lst avs) := (x2.ext D0 (.lst avs) ((xy.ext D0 _ hH hO).1) hO).1
      have ra2 : RepL K O2 H2 avs ac := RepL.nx (xy.trans x2).toRx ra
      refine tQ.go s2 e fun b O3 H3 ρ3 G3 x4 s3 e3 => ?_
      obtain ⟨hH3, hO3⟩ := x4.ext D0 _ hH2 hO2
      have ra3 : RepL K O3 H3 avs ac := RepL.nx x4.toRx ra2
      cases b with
      | false =>
        have s4 := s3.wipe vs
        rw [ew] at s4
        exact ⟨O3, ρ3, G3, ac, avs, x3.trans x4, s4, hO3, hH3, ra3, by omega, e3⟩
      | true =>
        rw [if_pos rfl] at e3 ⊢
        refine tD.go s3 e3 fun yv O4 H4 dy ρ4 G4 x5 s4 ry4 e4 => ?_
        obtain ⟨hH4, hO4⟩ := x5.ext D0 _ hH3 hO3
        have ra4 : RepL K O4 H4 avs ac := RepL.nx x5.toRx ra3
        have rx : Rx O4 H4 O4 (upd H4 D0 (.lst (avs ++ [yv]))) := rx_wr (s4.live _ _ hO4) hO4
        have s5 := (s4.wrE (o := .lst (avs ++ [yv])) hO4 (mut_l _)).wipe vs
        rw [ew] at s5
        refine ⟨avs, hH4, by rw [ra4.length]; have := szOk_lt hz; omega, O4, ρ4, G4, ac ++ [dy], avs ++ [yv], (x3.trans (x4.trans x5)).upE hD, s5, hO4, upd_same, ?_, by rw [List.length_append]; show ac.length + 1 ≤ _; omega, e4⟩
        exact RepL.nx rx (ra4.append ⟨yv, [], rfl, ry4, rfl⟩)
  · have e1 : i = ds.length := by omega
    subst e1
    rw [List.drop_length] at e
    cases e
    exact .inl ⟨(hJ O H x.toNx).2, fin O H avs x (s1.back hw x.toRx s) hO hH ra⟩
end
section
variable {X : Cx} {elt tg iter : Expr} {ifs : List Expr} {scope : Scope} {own' : List (Str × Nat)} {pos : Pos} {ts : List Nat} {mi : SA} {g : SG} {tt : SB} {te : SE}
theorem lc_read {K : PySem.W.Frag} {vs : List Nat} {σ : L2.St} {H : Hp} {Q : VK} (hts : ∀ j ∈ ts, j ∈ vs) (h : tD K (mLc vs mi g tt te) σ H Q) : tLc (tI K mi) (tG K ts g) (tQ K tt) (tD K te) vs σ H Q := by
  obtain ⟨O, ρ, G, d, ρ', G', s, e, q⟩ := h
  obtain ⟨ds, ρ1, G1, e1, e2⟩ := bnd_eq e
  refine ⟨O, ρ, G, ds, ρ1, G1, s, e1, fun J O1 H1 x1 s1 hJ D0 hD => ?_⟩
  split at e2 <;> try (cases e2; done)
  rename_i hz
  obtain ⟨hw, hz⟩ := Bool.and_eq_true_iff.mp hz
  cases q1 : lcLoop vs g tt te ds [] ρ1 G1 with
  | none => rw [q1] at e2; cases e2
  | some p =>
    obtain ⟨acc, ρ2, G2⟩ := p
    rw [q1] at e2
    cases e2
    refine lc_go s1 hJ hw hz hts q1 hD fun O2 H2 avs x2 s2 hO hH ra => ?_
    refine q _ (own O2 D0 none) H2 ((x1.trans x2).lab (hh_of x1 _ hD) (s.toGR.free (hh_of x1 _ hD))) (s2.letE hO) ⟨D0, avs, rfl, own_same, hH, RepL.nx (rx_let hO) ra⟩
theorem lc_readN {K : PySem.W.Frag} {vs : List Nat} {σ : L2.St} {H : Hp} {Q : VK} (hts : ∀ j ∈ ts, j ∈ vs) (h : tN K (mLcN vs mi g tt te) σ H Q) : tLc (tI K mi) (tG K ts g) (tQ K tt) (tD K te) vs σ H Q := by
  obtain ⟨O, ρ, G, d, ρ', G', s, e, q⟩ := h
  obtain ⟨ds, ρ1, G1, e1, e2⟩ := bnd_eq e
  refine ⟨O, ρ, G, ds, ρ1, G1, s, e1, fun J O1 H1 x1 s1 hJ D0 hD => ?_⟩
  split at e2 <;> try (cases e2; done)
  rename_i hz
  obtain ⟨hw, hz⟩ := Bool.and_eq_true_iff.mp hz
  cases q1 : lcLoop vs g tt te ds [] ρ1 G1 with
  | none => rw [q1] at e2; cases e2
  | some p =>
    obtain ⟨acc, ρ2, G2⟩ := p
    rw [q1] at e2
    cases e2
    exact lc_go s1 hJ hw hz hts q1 hD fun O2 H2 avs x2 s2 hO hH ra => q _ O2 H2 (x1.trans x2) s2 ⟨⟨hO, hh_of x1 _ hD⟩, avs, hH, ra⟩
theorem de_lc (own' : List (Str × Nat)) (hc : X.calm = true) (hN : X.N.Nodup) (hi : DI X tg iter mi) (ok : BlkOk X.N X.env.scope scope own')
    (hg : ∀ (s : Shared) (H : Hp) (C : Addr) (cl : List (Str × Addr)) (fp : List Addr), DG (X.blk s H scope (compEnvC scope cl C X.env) fp) tg ts g) (ht : ∀ (s : Shared) (H : Hp) (C : Addr) (cl : List (Str × Addr)) (fp : List Addr), DTs (X.blk s H scope (compEnvC scope cl C X.env) fp) ifs tt)
    (he : ∀ (s : Shared) (H : Hp) (C : Addr) (cl : List (Str × Addr)) (fp : List Addr), DE (X.blk s H scope (compEnvC scope cl C X.env) fp) elt te) (hts : ∀ j ∈ ts, j ∈ own'.map (·.2) := by decide) (hs : ∀ x, foldedSetIterable iter X.env x = pure x := by intro _; rfl) :
    DE X (.ListComp elt [⟨tg, iter, ifs, 0⟩] scope pos) (mLc (own'.map (·.2)) mi g tt te) :=
  (pe_lc hc hN hi ok hg ht he hs).imp fun _ _ _ h => lc_read hts h
theorem dn_lc (own' : List (Str × Nat)) (hc : X.calm = true) (hN : X.N.Nodup) (hi : DI X tg iter mi) (ok : BlkOk X.N X.env.scope scope own')
    (hg : ∀ (s : Shared) (H : Hp) (C : Addr) (cl : List (Str × Addr)) (fp : List Addr), DG (X.blk s H scope (compEnvC scope cl C X.env) fp) tg ts g) (ht : ∀ (s : Shared) (H : Hp) (C : Addr) (cl : List (Str × Addr)) (fp : List Addr), DTs (X.blk s H scope (compEnvC scope cl C X.env) fp) ifs tt)
    (he : ∀ (s : Shared) (H : Hp) (C : Addr) (cl : List (Str × Addr)) (fp : List Addr), DE (X.blk s H scope (compEnvC scope cl C X.env) fp) elt te) (hts : ∀ j ∈ ts, j ∈ own'.map (·.2) := by decide) (hs : ∀ x, foldedSetIterable iter X.env x = pure x := by intro _; rfl) :
    DN X (.ListComp elt [⟨tg, iter, ifs, 0⟩] scope pos) (mLcN (own'.map (·.2)) mi g tt te) :=
  (pe_lc hc hN hi ok hg ht he hs).imp fun _ _ _ h => lc_readN hts h
end
end DL

/-! DL: statements. -/
namespace DL
open PySem PySem.Spec PyProof.Rows L2

/-! ### what is stored: data, or what is new -/
def VOk (K : PySem.W.Frag) (O' : Ow) (H' H : Hp) (v : V) : Sl → Prop
  | .un => False
  | .im d => Rep K O' H' v d
  | s => ∃ a, v = .ref a ∧ Own K O' H' (New O' H) a s
def tV (K : PySem.W.Frag) (m : SF) : TE := fun σ H Q => ∃ O ρ G sl ρ' G', SR K O H σ ρ G ∧ m ρ G = some (sl, ρ', G') ∧ ∀ v O' H', Ne O H O' H' → SR K O' H' σ ρ' G' → VOk K O' H' H v sl → Q v H'
abbrev DV (X : Cx) (e : Expr) (m : SF) : Prop := PE X e (tV X.K m)
def mIm (a : SE) : SF := bnd a fun d => ret (.im d)
section
variable {X : Cx} {e : Expr}
theorem dv_e {m : SE} (h : DE X e m) : DV X e (mIm m) := h.imp fun σ H Q ⟨O, ρ, G, sl, ρ', G', s, e, q⟩ => tD.go s e fun v O1 H1 d ρ1 G1 x1 s1 r1 e1 => by
  cases e1
  exact q v O1 H1 x1 s1 r1
theorem dv_n {m : SF} (h : DN X e m) : DV X e m := h.imp fun σ H Q ⟨O, ρ, G, sl, ρ', G', s, e, q⟩ => ⟨O, ρ, G, sl, ρ', G', s, e, fun a O' H' x s' w => q _ O' H' x s' (by
  cases sl with
  | un => exact w
  | im d => exact w.elim
  | _ => exact ⟨a, rfl, w⟩)⟩
end
section
variable {K : PySem.W.Frag} {O O' : Ow} {H H' : Hp} {σ : L2.St} {ρ : List Sl} {G : Gs}
theorem nx_give {P : Addr → Prop} {l : Option Lb} (x : Nx O H O' H') (hP : ∀ b, P b → H b = none) (hs : ∀ b n, P b → O b ≠ some (.shr n)) : Nx O H (rel O' P l) H' := by
  refine ⟨⟨x.keep, fun b e n => ?_, fun b n e => ?_, x.tup, x.frz⟩, fun b u e n => ?_, x.live⟩
  · rw [rel_out (fun z => e (hP b z))]; exact x.non b e n
  · rw [rel_out (fun z => hs b n z e)]; exact x.shr b n e
  · rw [rel_out (fun z => nn e (hP b z))]; exact x.ext b u e n
theorem no_shr (g : GR K O H G) {b : Addr} {n : Nat} (h : H b = none) : O b ≠ some (.shr n) := fun z => by rw [g.free h] at z; cases z
/-- a name is given what was reckoned -/
theorem put_v {O0 : Ow} {H0 : Hp} {v : V} {sl : Sl} {i : Nat} (g : GR K O0 H0 G) (x : Nx O0 H0 O H) {G' : Gs} (s : SR K O H σ ρ G') (w : VOk K O H H0 v sl) (hi : i < ρ.length) {Q : L2.St → Hp → Prop}
    (q : ∀ O', Nx O0 H0 O' H → SR K O' H (σ.set i (some v)) (ρ.set i sl) G' → Q (σ.set i (some v)) H) : Q (σ.set i (some v)) H := by
  have hi' : i < σ.length := by rw [s.len]; exact hi
  have fresh : ∀ {a : Addr}, Own K O H (New O H0) a sl → v = .ref a → (∀ O', Nx O0 H0 O' H → SR K O' H (σ.set i (some v)) (ρ.set i sl) G' → Q (σ.set i (some v)) H) → Q (σ.set i (some v)) H := fun {a} w1 e q => by
    clear w
    subst e
    exact q _ (nx_give x (fun b hb => hb.2) fun b n hb => no_shr g hb.2) (s.give (fun b hb => hb.1) w1 hi')
  cases sl with
  | un => exact w.elim
  | im d => exact q O x (s.put w hi')
  | m1 ds => obtain ⟨a, e, w⟩ := w; exact fresh w e q
  | m2 ds => obtain ⟨a, e, w⟩ := w; exact fresh w e q
  | mk ds => obtain ⟨a, e, w⟩ := w; exact fresh w e q
  | mt ds => obtain ⟨a, e, w⟩ := w; exact fresh w e q
end

/-! ### blocks -/
def sSeq (a b : SS) : SS := fun ρ G => match a ρ G with
  | none => none
  | some (.nx ρ1, G1) => b ρ1 G1
  | some (.rt d, G1) => some (.rt d, G1)
  | some (.bk ρ1, G1) => some (.bk ρ1, G1)
  | some (.ct ρ1, G1) => some (.ct ρ1, G1)
def sNext : SS := fun ρ G => some (.nx ρ, G)
section
variable {K : PySem.W.Frag} {D : Ends} {O : Ow} {H : Hp} {r : Fl} {G' : Gs}
theorem Reach.back {O1 : Ow} {H1 : Hp} (h : Reach K D O H r G') (x : Nx O H O1 H1) : Reach K D O1 H1 r G' := by
  cases r with
  | nx ρ' => exact fun σ' O' H' x' s' => h σ' O' H' (x.trans x') s'
  | rt d => exact fun v O' H' x' s' r => h v O' H' (x.trans x') s' r
  | bk ρ' => exact fun σ' O' H' x' s' => h σ' O' H' (x.trans x') s'
  | ct ρ' => exact fun σ' O' H' x' s' => h σ' O' H' (x.trans x') s'
theorem Reach.ends {D' : Ends} (h : Reach K D O H r G') (h1 : r ≠ .nx [] → True) (nx : ∀ σ H, D.nx σ H → D'.nx σ H) (rt : ∀ σ H, D.rt σ H → D'.rt σ H) (bk : ∀ σ H, D.bk σ H → D'.bk σ H) (ct : ∀ σ H, D.ct σ H → D'.ct σ H) : Reach K D' O H r G' := by
  cases r with
  | nx ρ' => exact fun σ' O' H' x' s' => nx _ _ (h σ' O' H' x' s')
  | rt d => exact fun v O' H' x' s' r => rt _ _ (h v O' H' x' s' r)
  | bk ρ' => exact fun σ' O' H' x' s' => bk _ _ (h σ' O' H' x' s')
  | ct ρ' => exact fun σ' O' H' x' s' => ct _ _ (h σ' O' H' x' s')
end
section
variable {X : Cx} {st : Stmt} {rest : List Stmt} {a b : SS} {e : Expr} {m : SE} {pos : Pos}
theorem db_nil : DB X [] sNext := pss_nil.imp fun D σ H ⟨O, ρ, G, r, G', s, e, q⟩ => by cases e; exact q σ O H Nx.refl s
theorem db_cons (h1 : DS X st a) (h2 : DB X rest b) : DB X (st :: rest) (sSeq a b) :=
  (pss_cons h1 h2).imp fun D σ H ⟨O, ρ, G, r, G', s, e, q⟩ => by
    unfold sSeq at e
    cases q1 : a ρ G with
    | none => rw [q1] at e; cases e
    | some p =>
      obtain ⟨f, G1⟩ := p
      rw [q1] at e
      refine ⟨O, ρ, G, f, G1, s, q1, ?_⟩
      cases f with
      | nx ρ1 => exact fun σ' O' H' x' s' => ⟨O', ρ1, G1, r, G', s', e, q.back x'⟩
      | rt d => cases e; exact q
      | bk ρ1 => cases e; exact q
      | ct ρ1 => cases e; exact q
theorem db_one (h1 : DS X st a) : DB X [st] a := pss_one h1
theorem ds_pass : DS X (.Pass pos) sNext := ps_pass.imp fun D σ H ⟨O, ρ, G, r, G', s, e, q⟩ => by cases e; exact q σ O H Nx.refl s
def sBreak : SS := fun ρ G => some (.bk ρ, G)
def sCont : SS := fun ρ G => some (.ct ρ, G)
theorem ds_break : DS X (.Break pos) sBreak := ps_break.imp fun D σ H ⟨O, ρ, G, r, G', s, e, q⟩ => by cases e; exact q σ O H Nx.refl s
theorem ds_cont : DS X (.Continue pos) sCont := ps_continue.imp fun D σ H ⟨O, ρ, G, r, G', s, e, q⟩ => by cases e; exact q σ O H Nx.refl s
/-- what is never reached -/
def sNever : SS := fun _ _ => none
theorem ds_never : DS X st sNever := ps_never.imp fun D σ H ⟨O, ρ, G, r, G', s, e, q⟩ => by cases e
def sRet (a : SE) : SS := fun ρ G => match a ρ G with
  | none => none
  | some (d, _, G1) => some (.rt d, G1)
theorem ds_ret (h : DE X e m) : DS X (.Return (some e) pos) (sRet m) :=
  (ps_ret h).imp fun D σ H ⟨O, ρ, G, r, G', s, e, q⟩ => by
    unfold sRet at e
    cases q1 : m ρ G with
    | none => rw [q1] at e; cases e
    | some p =>
      obtain ⟨d, ρ1, G1⟩ := p
      rw [q1] at e
      cases e
      exact ⟨O, ρ, G, d, ρ1, _, s, q1, fun v O' H' x s' r' => q v O' H' x.toNx s'.toGR r'⟩
def sRetN : SS := fun ρ G => some (.rt .non, G)
theorem ds_retN : DS X (.Return none pos) sRetN := ps_retN.imp fun D σ H ⟨O, ρ, G, r, G', s, e, q⟩ => by cases e; exact q .non O H Nx.refl s.toGR rfl
/-- a new list is handed out to be shared -/
def sShare (a : SF) : SS := fun ρ G => match a ρ G with
  | some (.m1 ds, _, G1) => some (.rt (.hnd G1.length), G1 ++ [ds])
  | _ => none
theorem ds_share {m : SF} (h : DN X e m) : DS X (.Return (some e) pos) (sShare m) :=
  (ps_ret h).imp fun D σ H ⟨O, ρ, G, r, G', s, e, q⟩ => by
    unfold sShare at e
    cases q1 : m ρ G with
    | none => rw [q1] at e; cases e
    | some p =>
      obtain ⟨d, ρ1, G1⟩ := p
      rw [q1] at e
      cases d <;> try (cases e; done)
      case m1 ds =>
        cases e
        refine ⟨O, ρ, G, .m1 ds, ρ1, G1, s, q1, fun a O' H' x s' w => ?_⟩
        obtain ⟨⟨hO, hn⟩, vs, hH, rv⟩ := w
        have ne : ∀ b l, O' b = some l → l ≠ .ext → b ≠ a := fun b l e nl z => by rw [z, hO] at e; exact nl (Option.some.inj e).symm
        have rx : Rx O' H' (own O' a (some (.shr G1.length))) H' := by
          refine ⟨fun _ _ e _ => e, fun b e n => ?_, fun b n e => ?_, fun _ _ e => e, fun _ _ _ e => e⟩
          · rw [own_ne (fun z => by rw [z, hO] at n; cases n)]; exact n
          · rw [own_ne (ne b _ e (fun z => nomatch z))]; exact e
        refine q _ (own O' a (some (.shr G1.length))) H' (x.lab hn (s.toGR.free hn)).toNx ⟨fun n es e => ?_, fun n b c h1 h2 => ?_, fun b n h1 => ?_, fun b l h1 => ?_⟩ ⟨a, rfl, own_same⟩
        · by_cases hk : n < G1.length
          · rw [List.getElem?_append_left hk] at e
            obtain ⟨b, us, h1, h2, h3⟩ := s'.shr n es e
            exact ⟨b, us, by rw [own_ne (ne b _ h1 (fun z => nomatch z))]; exact h1, h2, RepL.nx rx h3⟩
          · rw [List.getElem?_append_right (by omega)] at e
            have : n = G1.length := by
              refine Classical.byContradiction fun z => ?_
              rw [List.getElem?_eq_none_iff.mpr (by simp; omega)] at e
              cases e
            subst this
            rw [Nat.sub_self] at e
            cases e
            exact ⟨a, vs, own_same, hH, RepL.nx rx rv⟩
        · by_cases zb : b = a
          · by_cases zc : c = a
            · rw [zb, zc]
            · subst zb
              rw [own_same] at h1
              cases h1
              rw [own_ne zc] at h2
              exact absurd (s'.up _ _ h2) (Nat.lt_irrefl _)
          · rw [own_ne zb] at h1
            by_cases zc : c = a
            · subst zc
              rw [own_same] at h2
              cases h2
              exact absurd (s'.up _ _ h1) (Nat.lt_irrefl _)
            · rw [own_ne zc] at h2
              exact s'.inj n b c h1 h2
        · rw [List.length_append]
          by_cases zb : b = a
          · subst zb
            rw [own_same] at h1
            cases h1
            exact Nat.lt_succ_self _
          · rw [own_ne zb] at h1
            exact Nat.lt_succ_of_lt (s'.up b n h1)
        · by_cases zb : b = a
          · subst zb
            rw [hH]
            trivial
          · rw [own_ne zb] at h1
            exact s'.live b l h1
def sExpr (a : SE) : SS := fun ρ G => match a ρ G with
  | none => none
  | some (_, ρ1, G1) => some (.nx ρ1, G1)
theorem ds_expr (h : DE X e m) (hs : swapsWith e none pos.line X.env = pure false := by rfl) : DS X (.Expr e pos) (sExpr m) :=
  (ps_expr h hs).imp fun D σ H ⟨O, ρ, G, r, G', s, e, q⟩ => by
    unfold sExpr at e
    cases q1 : m ρ G with
    | none => rw [q1] at e; cases e
    | some p =>
      obtain ⟨d, ρ1, G1⟩ := p
      rw [q1] at e
      cases e
      exact ⟨O, ρ, G, d, ρ1, _, s, q1, fun v O' H' x s' r' => q σ O' H' x.toNx s'⟩
def sIf (c : SB) (a b : SS) : SS := fun ρ G => match c ρ G with
  | none => none
  | some (true, ρ1, G1) => a ρ1 G1
  | some (false, ρ1, G1) => b ρ1 G1
theorem ds_if {c : Expr} {p q : List Stmt} {mc : SB} (hc : DT X c mc) (ha : DB X p a) (hb : DB X q b) : DS X (.If c p q pos) (sIf mc a b) :=
  (ps_if hc ha hb).imp fun D σ H ⟨O, ρ, G, r, G', s, e, q⟩ => by
    unfold sIf at e
    cases q1 : mc ρ G with
    | none => rw [q1] at e; cases e
    | some p =>
      obtain ⟨k, ρ1, G1⟩ := p
      rw [q1] at e
      refine ⟨O, ρ, G, k, ρ1, G1, s, q1, fun O' H' x s' => ?_⟩
      cases k with
      | true => exact ⟨O', ρ1, G1, r, G', s', e, q.back x.toNx⟩
      | false => exact ⟨O', ρ1, G1, r, G', s', e, q.back x.toNx⟩

/-! ### assignments -/
def sSet (i : Nat) (a : SF) : SS := fun ρ G => match a ρ G with
  | none => none
  | some (sl, ρ1, G1) => if i < ρ1.length then some (.nx (ρ1.set i sl), G1) else none
theorem set_read {K : PySem.W.Frag} {i : Nat} {m : SF} {D : Ends} {σ : L2.St} {H : Hp} (h : tS K (sSet i m) D σ H) : tAsg (tV K m) (gName i) D σ H := by
  obtain ⟨O, ρ, G, r, G', s, e, q⟩ := h
  unfold sSet at e
  cases q1 : m ρ G with
  | none => rw [q1] at e; cases e
  | some p =>
    obtain ⟨sl, ρ1, G1⟩ := p
    rw [q1] at e
    dsimp only at e
    split at e
    · rename_i hi
      cases e
      exact ⟨O, ρ, G, sl, ρ1, _, s, q1, fun v O' H' x s' w => put_v s.toGR x.toNx s' w hi fun O2 x2 s2 => q _ O2 H' x2 s2⟩
    · cases e
theorem ds_set {i : Nat} {x : Str} {pos' : Pos} {m : SF} (hN : X.N.Nodup) (h : DV X e m) (hx : Loc X.env.scope x := by first | exact Or.inl rfl | exact Or.inr rfl) (hi : X.N[i]? = some x := by rfl) (hs : swapsWith e (some (.Name x pos')) pos.line X.env = pure false := by rfl) (hf : X.fn x = true ∨ X.env.scope.names.lookup x = some .local := by first | exact .inl rfl | exact .inr rfl) :
    DS X (.Assign [.Name x pos'] e pos) (sSet i m) :=
  (ps_set hN hi hx h hs hf).imp fun D σ H h => set_read h
/-- x = [.. for ..] on one line, x a plain local -/
theorem ds_setLc {i : Nat} {y : Str} {py spos : Pos} {elt tg iter : Expr} {ifs : List Expr} {scope : Scope} {own' : List (Str × Nat)} {ts : List Nat} {mi : SA} {g : SG} {tt : SB} {te : SE} (hc : X.calm = true) (hN : X.N.Nodup) (hi : DI X tg iter mi) (ok : BlkOk X.N X.env.scope scope own')
    (hg : ∀ (s : Shared) (H : Hp) (C : Addr) (cl : List (Str × Addr)) (fp : List Addr), DG (X.blk s H scope (compEnvC scope cl C X.env) fp) tg ts g) (ht : ∀ (s : Shared) (H : Hp) (C : Addr) (cl : List (Str × Addr)) (fp : List Addr), DTs (X.blk s H scope (compEnvC scope cl C X.env) fp) ifs tt)
    (he : ∀ (s : Shared) (H : Hp) (C : Addr) (cl : List (Str × Addr)) (fp : List Addr), DE (X.blk s H scope (compEnvC scope cl C X.env) fp) elt te) (hsw : swapsWith (.ListComp elt [⟨tg, iter, ifs, 0⟩] scope pos) (some (.Name y py)) spos.line X.env = pure true)
    (hyl : X.env.scope.names.lookup y = some .local := by rfl) (hy : X.N[i]? = some y := by rfl) (hts : ∀ j ∈ ts, j ∈ own'.map (·.2) := by decide) (hs : ∀ x, foldedSetIterable iter X.env x = pure x := by intro _; rfl) :
    DS X (.Assign [.Name y py] (.ListComp elt [⟨tg, iter, ifs, 0⟩] scope pos) spos) (sSet i (mIm (mLc (own'.map (·.2)) mi g tt te))) :=
  (ps_setLc hc hN hy hyl hsw hi ok hg ht he hs).imp fun D σ H h => by
    have h' : tV X.K (mIm (mLc (own'.map (·.2)) mi g tt te)) σ H (fun x H1 => gName i x σ H1 D.nx) := set_read h
    obtain ⟨O, ρ, G, sl, ρ', G', s, e, q⟩ := h'
    obtain ⟨d, ρ1, G1, e1, e2⟩ := bnd_eq e
    cases e2
    exact lc_read hts ⟨O, ρ, G, d, _, _, s, e1, fun v O' H' x s' r => q v O' H' x s' r⟩
theorem ds_setLcN {i : Nat} {y : Str} {py spos : Pos} {elt tg iter : Expr} {ifs : List Expr} {scope : Scope} {own' : List (Str × Nat)} {ts : List Nat} {mi : SA} {g : SG} {tt : SB} {te : SE} (hc : X.calm = true) (hN : X.N.Nodup) (hi : DI X tg iter mi) (ok : BlkOk X.N X.env.scope scope own')
    (hg : ∀ (s : Shared) (H : Hp) (C : Addr) (cl : List (Str × Addr)) (fp : List Addr), DG (X.blk s H scope (compEnvC scope cl C X.env) fp) tg ts g) (ht : ∀ (s : Shared) (H : Hp) (C : Addr) (cl : List (Str × Addr)) (fp : List Addr), DTs (X.blk s H scope (compEnvC scope cl C X.env) fp) ifs tt)
    (he : ∀ (s : Shared) (H : Hp) (C : Addr) (cl : List (Str × Addr)) (fp : List Addr), DE (X.blk s H scope (compEnvC scope cl C X.env) fp) elt te) (hsw : swapsWith (.ListComp elt [⟨tg, iter, ifs, 0⟩] scope pos) (some (.Name y py)) spos.line X.env = pure true)
    (hyl : X.env.scope.names.lookup y = some .local := by rfl) (hy : X.N[i]? = some y := by rfl) (hts : ∀ j ∈ ts, j ∈ own'.map (·.2) := by decide) (hs : ∀ x, foldedSetIterable iter X.env x = pure x := by intro _; rfl) :
    DS X (.Assign [.Name y py] (.ListComp elt [⟨tg, iter, ifs, 0⟩] scope pos) spos) (sSet i (mLcN (own'.map (·.2)) mi g tt te)) :=
  (ps_setLc hc hN hy hyl hsw hi ok hg ht he hs).imp fun D σ H h => by
    have h' : tV X.K (mLcN (own'.map (·.2)) mi g tt te) σ H (fun x H1 => gName i x σ H1 D.nx) := set_read h
    obtain ⟨O, ρ, G, sl, ρ', G', s, e, q⟩ := h'
    refine lc_readN hts ⟨O, ρ, G, sl, ρ', G', s, e, fun a O' H' x s' w => q _ O' H' x s' ?_⟩
    cases sl with
    | un => exact w
    | im d => exact w.elim
    | _ => exact ⟨a, rfl, w⟩

/-! ### any target -/
abbrev SX := D → List Sl → Gs → Option (List Sl × Gs)
def tX (K : PySem.W.Frag) (m : SX) : TG := fun v σ H Q => ∃ O ρ G d ρ' G', SR K O H σ ρ G ∧ Rep K O H v d ∧ m d ρ G = some (ρ', G') ∧ ∀ σ' O' H', Nx O H O' H' → SR K O' H' σ' ρ' G' → Q σ' H'
abbrev DX (X : Cx) (tg : Expr) (m : SX) : Prop := PG X tg (tX X.K m)
abbrev SXs := List D → List Sl → Gs → Option (List Sl × Gs)
def tXs (K : PySem.W.Frag) (m : SXs) : TGs := fun vs σ H Q => ∃ O ρ G ds ρ' G', SR K O H σ ρ G ∧ RepL K O H vs ds ∧ m ds ρ G = some (ρ', G') ∧ ∀ σ' O' H', Nx O H O' H' → SR K O' H' σ' ρ' G' → Q σ' H'
abbrev DXs (X : Cx) (tgs : List Expr) (m : SXs) : Prop := PGs X tgs (tXs X.K m)
def xName (i : Nat) : SX := fun d ρ G => if i < ρ.length then some (ρ.set i (.im d), G) else none
theorem dx_name {i : Nat} {x : Str} (hN : X.N.Nodup) (hx : Loc X.env.scope x := by first | exact Or.inl rfl | exact Or.inr rfl) (hi : X.N[i]? = some x := by rfl) (hf : X.fn x = true ∨ X.env.scope.names.lookup x = some .local := by first | exact .inl rfl | exact .inr rfl) : DX X (.Name x pos) (xName i) :=
  (pg_name hN hi hx hf).imp fun v σ H Q ⟨O, ρ, G, d, ρ', G', s, r, e, q⟩ => by
    unfold xName at e
    split at e
    · rename_i hi
      cases e
      exact q _ O H Nx.refl (s.put r (by rw [s.len]; exact hi))
    · cases e
def xsNil : SXs := fun ds ρ G => match ds with
  | [] => some (ρ, G)
  | _ => none
def xsCons (g : SX) (r : SXs) : SXs := fun ds ρ G => match ds with
  | d :: ds => (g d ρ G).bind fun p => r ds p.1 p.2
  | [] => none
theorem dxs_nil : DXs X [] xsNil := ⟨fun pins s σ H vs us Q I r ⟨O, ρ, G, ds, ρ', G', s', rl, e, q⟩ => pgs_nil.run pins s σ H vs us Q I r (by
  cases ds with
  | nil => cases e; exact ⟨rl, q σ O H Nx.refl s'⟩
  | cons d ds => cases e)⟩
theorem dxs_cons {e : Expr} {es : List Expr} {g : SX} {m : SXs} (h1 : DX X e g) (h2 : DXs X es m) (hs : (assignEach (e :: es) X.env).map (·.2) = assign e X.env :: (assignEach es X.env).map (·.2) := by rfl) : DXs X (e :: es) (xsCons g m) :=
  ⟨fun pins s σ H vs us Q I r ⟨O, ρ, G, ds, ρ', G', s', rl, e, q⟩ => (pgs_cons h1 h2 hs).run pins s σ H vs us Q I r (by
    cases ds with
    | nil => cases e
    | cons d ds =>
      obtain ⟨v, vr, rfl, hv, hr⟩ := rl
      have e : (g d ρ G).bind (fun p => m ds p.1 p.2) = some (ρ', G') := e
      cases q1 : g d ρ G with
      | none => rw [q1] at e; cases e
      | some p =>
        obtain ⟨ρ1, G1⟩ := p
        rw [q1] at e
        exact ⟨v, vr, rfl, O, ρ, G, d, ρ1, G1, s', hv, q1, fun σ1 O1 H1 x1 s1 => ⟨O1, ρ1, G1, ds, ρ', G', s1, RepL.nx x1.toRx hr, e, fun σ2 O2 H2 x2 s2 => q σ2 O2 H2 (x1.trans x2) s2⟩⟩)⟩
def xTup (n : Nat) (m : SXs) : SX := fun d ρ G => match d with
  | .tup ds => if ds.length = n then m ds ρ G else none
  | _ => none
theorem dx_tup {es : List Expr} {k : Nat} {m : SXs} {n : Nat} (hc : X.calm = true) (h : DXs X es m) (hn : (assignEach es X.env).length = n := by rfl) (hst : (assignEach es X.env).findIdx? (·.1) = none := by rfl) : DX X (.Tuple es k pos) (xTup n m) :=
  (pg_tup hc h hn hst).imp fun v σ H Q ⟨O, ρ, G, d, ρ', G', s, r, e, q⟩ => by
    unfold xTup at e
    cases d <;> try (cases e; done)
    case tup ds =>
      dsimp only at e
      split at e
      · rename_i hl
        obtain ⟨a, vs, rfl, ha, la⟩ := r
        exact ⟨a, vs, rfl, SqT.of ha, by rw [la.length]; exact hl, O, ρ, G, ds, ρ', G', s, la, e, q⟩
      · cases e
def has (ρ : List Sl) (i : Nat) : Bool := match ρ[i]? with
  | none => false
  | some .un => false
  | some _ => true
theorem SR.val {K : PySem.W.Frag} {O : Ow} {H : Hp} {σ : L2.St} {ρ : List Sl} {G : Gs} (s : SR K O H σ ρ G) {i : Nat} (h : has ρ i = true) : ∃ w, σ[i]? = some (some w) := by
  unfold has at h
  cases q : ρ[i]? with
  | none => rw [q] at h; cases h
  | some sl =>
    rw [q] at h
    obtain ⟨x, e, _⟩ := (s.slot i sl q).pk (fun z => by subst z; cases h)
    exact ⟨x, e⟩
/-- x[i] = .. of a list of its own, of a shared one -/
def setIx (i : Nat) (d : D) (k : Int) : List Sl → Gs → Option (List Sl × Gs) := fun ρ1 G1 => match ρ1[i]? with
  | some (.m1 ds) => (ixN ds.length k).map fun j => (ρ1.set i (.m1 (ds.set j d)), G1)
  | some (.im (.hnd n)) => (G1[n]?).bind fun ds => (ixN ds.length k).map fun j => (ρ1, G1.set n (ds.set j d))
  | _ => none
def xIx (i : Nat) (mi : SE) : SX := fun d ρ G => if has ρ i then match mi ρ G with
  | some (.int k, ρ1, G1) => setIx i d k ρ1 G1
  | _ => none else none
theorem setIx_ok {K : PySem.W.Frag} {O : Ow} {H : Hp} {σ : L2.St} {ρ ρ' : List Sl} {G G' : Gs} {i : Nat} {d : D} {k : Int} {w v : V} (s : SR K O H σ ρ G) (hw : σ[i]? = some (some w)) (r : Rep K O H v d) (e : setIx i d k ρ G = some (ρ', G')) :
    ∃ p xs j, w = .ref p ∧ H p = some (.lst xs) ∧ ixN xs.length k = some j ∧ Nx O H O (upd H p (.lst (xs.set j v))) ∧ SR K O (upd H p (.lst (xs.set j v))) σ ρ' G' := by
  unfold setIx at e
  cases q2 : ρ[i]? with
  | none => rw [q2] at e; cases e
  | some sl =>
    rw [q2] at e
    cases sl <;> try (cases e; done)
    case m1 ds =>
      dsimp only at e
      obtain ⟨j, hj, e2⟩ := Option.map_eq_some_iff.mp e
      cases e2
      obtain ⟨a, ea, hO, vs, hH, la⟩ := s.slot i _ q2
      rw [hw] at ea
      cases ea
      have rx : Rx O H O (upd H a (.lst (vs.set j v))) := rx_wr (s.live _ _ hO) hO
      exact ⟨a, vs, j, rfl, hH, by rw [la.length]; exact hj, nx_wr (s.live _ _ hO) hO (fun z => nomatch z), s.wr (sl := .m1 (ds.set j d)) hO trivial ⟨a, hw, hO, vs.set j v, upd_same, RepL.nx rx (la.set r j)⟩⟩
    case im d0 =>
      cases d0 <;> try (cases e; done)
      case hnd n =>
        dsimp only at e
        cases q3 : G[n]? with
        | none => rw [q3] at e; cases e
        | some ds =>
          rw [q3] at e
          obtain ⟨j, hj, e2⟩ := Option.map_eq_some_iff.mp (show (ixN ds.length k).map _ = some (ρ', G') from e)
          cases e2
          obtain ⟨x, ea, a, rfl, ha⟩ := s.slot i _ q2
          rw [hw] at ea
          cases ea
          obtain ⟨a', vs, hO, hH, la⟩ := s.shr n ds q3
          cases s.inj n _ _ ha hO
          exact ⟨a, vs, j, rfl, hH, by rw [la.length]; exact hj, nx_wr (s.live _ _ hO) hO (fun z => nomatch z), s.wrG hO (la.set r j)⟩
theorem dx_ix (i : Nat) {x : Str} {ix : Expr} {mi : SE} {p : Pos} (hi : DE X ix mi) (hN : X.N[i]? = some x := by rfl) (hv : Vis X.env.scope x := by first | exact Or.inl rfl | exact Or.inr (Or.inl rfl) | exact Or.inr (Or.inr rfl)) (hd : (x == ("__debug__" : Str)) = false := by decide)
    (hcd : (x == ("__classdict__" : Str)) = false := by decide) (ha : ∀ v, assign (.Subscript (.Name x p) ix pos) X.env v = (do
      let ov ← holding [v] (eval (.Name x p) X.env)
      let iv ← holding [v, ov] (eval ix X.env)
      standAt pos
      holding [v, ov, iv] (setItem ov iv v)
      release [v, ov, iv] []) := by intro _; rfl) : DX X (.Subscript (.Name x p) ix pos) (xIx i mi) :=
  (pg_sub (pe_var hN hv hd hcd) hi set_list ha).imp fun v σ H Q ⟨O, ρ, G, d, ρ', G', s, r, e, q⟩ => by
    unfold xIx at e
    split at e <;> try (cases e; done)
    rename_i hh
    obtain ⟨w, hw⟩ := s.val hh
    cases q1 : mi ρ G with
    | none => rw [q1] at e; cases e
    | some p =>
      obtain ⟨dk, ρ1, G1⟩ := p
      rw [q1] at e
      cases dk <;> try (cases e; done)
      case int k =>
        refine ⟨w, hw, O, ρ, G, .int k, ρ1, G1, s, q1, fun kv O1 H1 x1 s1 r1 => ?_⟩
        obtain ⟨p, xs, j, rfl, h1, h2, h3, h4⟩ := setIx_ok s1 hw (Rep.nx x1.toRx r) e
        exact ⟨p, xs, k, j, rfl, r1, h1, h2, q σ O1 _ (x1.toNx.trans h3) h4⟩
/-- x[i][j] = .. of a list of lists of its own -/
def setIx2 (i : Nat) (d : D) (k1 k2 : Int) : List Sl → Option (List Sl) := fun ρ1 => match ρ1[i]? with
  | some (.m2 dss) => (ixN dss.length k1).bind fun j1 => (dss[j1]?).bind fun ds => (ixN ds.length k2).map fun j2 => ρ1.set i (.m2 (dss.set j1 (ds.set j2 d)))
  | _ => none
def isM2 (ρ : List Sl) (i : Nat) (k : Int) : Bool := match ρ[i]? with
  | some (.m2 dss) => (ixN dss.length k).isSome
  | _ => false
def xIx2 (i : Nat) (m1 m2 : SE) : SX := fun d ρ G => if has ρ i then match m1 ρ G with
  | some (.int k1, ρ1, G1) => if isM2 ρ1 i k1 then match m2 ρ1 G1 with
    | some (.int k2, ρ2, G2) => (setIx2 i d k1 k2 ρ2).map fun ρ3 => (ρ3, G2)
    | _ => none else none
  | _ => none else none
theorem Paired.get2 {α β : Type} {R : α → β → Prop} : ∀ {l : List α} {r : List β} {i : Nat} {y : β}, Paired R l r → r[i]? = some y → ∃ x, l[i]? = some x ∧ R x y
  | _, _, _, _, .nil, e => by simp at e
  | _, _, 0, _, .cons h _, e => by simp at e; subst e; exact ⟨_, rfl, h⟩
  | _, _, i + 1, _, .cons _ t, e => by
    obtain ⟨x, h1, h2⟩ := Paired.get2 (i := i) t (by simpa using e)
    exact ⟨x, by simpa using h1, h2⟩
theorem Paired.len2 {α β : Type} {R : α → β → Prop} : ∀ {l : List α} {r : List β}, Paired R l r → l.length = r.length
  | _, _, .nil => rfl
  | _, _, .cons _ t => by rw [List.length_cons, List.length_cons, Paired.len2 t]
theorem paired_set {α β : Type} {R R' : α → β → Prop} : ∀ {l : List α} {r : List β} {i : Nat} {x : α} {y : β}, Paired R l r → l[i]? = some x → l.Nodup → R' x y → (∀ a b, a ≠ x → R a b → R' a b) → Paired R' l (r.set i y)
  | _, _, _, _, _, .nil, e, _, _, _ => by simp at e
  | a :: l, b :: r, 0, x, y, .cons h t, e, nd, h', k => by
    simp at e
    subst e
    have nd := List.nodup_cons.mp nd
    refine .cons h' ?_
    have : ∀ {l : List α} {r : List β}, Paired R l r → ¬ a ∈ l → Paired R' l r := by
      intro l r t
      induction t with
      | nil => intro _; exact .nil
      | cons h t ih => intro hn; exact .cons (k _ _ (fun z => hn (by simp [z])) h) (ih fun z => hn (List.mem_cons_of_mem _ z))
    exact this t nd.1
  | a :: l, b :: r, i + 1, x, y, .cons h t, e, nd, h', k => by
    have nd := List.nodup_cons.mp nd
    have e : l[i]? = some x := by simpa using e
    refine .cons (k _ _ (fun z => nd.1 (by rw [z]; exact List.mem_of_getElem? e)) h) (paired_set t e nd.2 h' k)
theorem refs_inj : ∀ {l r : List Addr}, l.map V.ref = r.map V.ref → l = r
  | [], [], _ => rfl
  | [], _ :: _, h => by simp at h
  | _ :: _, [], h => by simp at h
  | a :: l, b :: r, h => by
    rw [List.map_cons, List.map_cons] at h
    injection h with h1 h2
    injection h1 with h1
    rw [h1, refs_inj h2]
theorem dx_ix2 (i : Nat) {x : Str} {ix jx : Expr} {mi mj : SE} {p p2 : Pos} (hi : DE X ix mi) (hj : DE X jx mj) (hN : X.N[i]? = some x := by rfl) (hv : Vis X.env.scope x := by first | exact Or.inl rfl | exact Or.inr (Or.inl rfl) | exact Or.inr (Or.inr rfl)) (hd : (x == ("__debug__" : Str)) = false := by decide)
    (hcd : (x == ("__classdict__" : Str)) = false := by decide) (hs : PlainIx ix := by exact fun _ _ => rfl) (ha : ∀ v, assign (.Subscript (.Subscript (.Name x p) ix p2) jx pos) X.env v = (do
      let ov ← holding [v] (eval (.Subscript (.Name x p) ix p2) X.env)
      let iv ← holding [v, ov] (eval jx X.env)
      standAt pos
      holding [v, ov, iv] (setItem ov iv v)
      release [v, ov, iv] []) := by intro _; rfl) : DX X (.Subscript (.Subscript (.Name x p) ix p2) jx pos) (xIx2 i mi mj) :=
  (pg_sub (pe_ix ix_list (pe_var hN hv hd hcd) hi hs) hj set_list ha).imp fun v σ H Q ⟨O, ρ, G, d, ρ', G', s, r, e, q⟩ => by
    unfold xIx2 at e
    split at e <;> try (cases e; done)
    rename_i hh
    obtain ⟨w, hw⟩ := s.val hh
    cases q1 : mi ρ G with
    | none => rw [q1] at e; cases e
    | some p =>
      obtain ⟨dk, ρ1, G1⟩ := p
      rw [q1] at e
      cases dk <;> try (cases e; done)
      case int k1 =>
        dsimp only at e
        split at e <;> try (cases e; done)
        rename_i h2
        refine ⟨w, hw, O, ρ, G, .int k1, ρ1, G1, s, q1, fun kv O1 H1 x1 s1 r1 => ?_⟩
        unfold isM2 at h2
        cases q2 : ρ1[i]? with
        | none => rw [q2] at h2; cases h2
        | some sl =>
          rw [q2] at h2
          cases sl <;> try (cases h2; done)
          case m2 dss =>
            obtain ⟨a, ea, hO, as, hH, nd, na, pr⟩ := s1.slot i _ q2
            rw [hw] at ea
            cases ea
            have h2 : (ixN dss.length k1).isSome = true := h2
            cases q3 : ixN dss.length k1 with
            | none => rw [q3] at h2; cases h2
            | some j1 =>
              have hj1 : j1 < dss.length := (ixN_seq q3).2.1
              obtain ⟨b, hb, hOb, us, hHb, lb⟩ := Paired.get2 pr (List.getElem?_eq_getElem hj1)
              have hat : atI (as.map V.ref) k1 = some (V.ref b) := by
                unfold atI
                rw [List.length_map, Paired.len2 pr, q3]
                show (as.map V.ref)[j1]? = _
                rw [List.getElem?_map, hb]
                rfl
              refine ⟨a, as.map V.ref, k1, V.ref b, rfl, r1, SqL.of hH, hat, ?_⟩
              cases q4 : mj ρ1 G1 with
              | none => rw [q4] at e; cases e
              | some p =>
                obtain ⟨dj, ρ2, G2⟩ := p
                rw [q4] at e
                cases dj <;> try (cases e; done)
                case int k2 =>
                  refine ⟨O1, ρ1, G1, .int k2, ρ2, G2, s1, q4, fun jv O2 H2 x2 s2 r2 => ?_⟩
                  obtain ⟨ρ3, e3, e4⟩ := Option.map_eq_some_iff.mp (show (setIx2 i d k1 k2 ρ2).map (fun ρ3 => (ρ3, G2)) = some (ρ', G') from e)
                  cases e4
                  unfold setIx2 at e3
                  cases q5 : ρ2[i]? with
                  | none => rw [q5] at e3; cases e3
                  | some sl2 =>
                    rw [q5] at e3
                    cases sl2 <;> try (cases e3; done)
                    case m2 dss2 =>
                      obtain ⟨a2, ea2, hO2, as2, hH2, nd2, na2, pr2⟩ := s2.slot i _ q5
                      rw [hw] at ea2
                      cases ea2
                      have hHk := (x2.slt _ _ _ hH hO).1
                      rw [hH2] at hHk
                      have eas : as2 = as := by
                        have h1 : as2.map V.ref = as.map V.ref := by injection hHk with h1; injection h1
                        exact refs_inj h1
                      subst eas
                      obtain ⟨j1', hj1', e5⟩ := Option.bind_eq_some_iff.mp e3
                      have : j1' = j1 := by
                        rw [← Paired.len2 pr2, Paired.len2 pr, q3] at hj1'
                        exact (Option.some.inj hj1').symm
                      subst this
                      obtain ⟨es, hes, e6⟩ := Option.bind_eq_some_iff.mp e5
                      obtain ⟨j2, hj2, e7⟩ := Option.map_eq_some_iff.mp e6
                      cases e7
                      obtain ⟨b2, hb2, hOb2, us2, hHb2, lb2⟩ := Paired.get2 pr2 hes
                      rw [hb] at hb2
                      cases hb2
                      have nab : a ≠ b := fun z => na2 (by rw [z]; exact List.mem_of_getElem? hb)
                      have rx : Rx O2 H2 O2 (upd H2 b (.lst (us2.set j2 v))) := rx_wr (s2.live _ _ hOb2) hOb2
                      have rv : Rep X.K O2 H2 v d := Rep.nx (x1.trans x2).toRx r
                      refine ⟨b, us2, k2, j2, rfl, r2, hHb2, by rw [lb2.length]; exact hj2, ?_⟩
                      refine q σ O2 _ ((x1.trans x2).toNx.trans (nx_wr (s2.live _ _ hOb2) hOb2 (fun z => nomatch z))) (s2.wr (sl := .m2 (dss2.set j1' (es.set j2 d))) hOb2 trivial ⟨a, hw, hO2, as2, by rw [upd_ne nab]; exact hH2, nd2, na2, ?_⟩)
                      refine paired_set pr2 hb nd2 ⟨hOb2, _, upd_same, RepL.nx rx (lb2.set rv j2)⟩ fun c ds nc ⟨g1, us', g2, g3⟩ => ⟨g1, us', by rw [upd_ne nc]; exact g2, RepL.nx rx g3⟩
/-- d[k] = .. of a dict of its own: ds_dput below -/
def sAsg (a : SE) (g : SX) : SS := fun ρ G => match a ρ G with
  | none => none
  | some (d, ρ1, G1) => (g d ρ1 G1).map fun p => (.nx p.1, p.2)
theorem ds_asg {tg : Expr} {g : SX} (h : DE X e m) (hg : DX X tg g) (hs : swapsWithSole [tg] e pos.line X.env = pure false := by rfl) (hw : swappedStores [tg] e X.env = pure none := by rfl) (h1 : (assignEach [tg] X.env).map (·.2) = [assign tg X.env] := by rfl) : DS X (.Assign [tg] e pos) (sAsg m g) :=
  (ps_asg h hg hs hw h1).imp fun D σ H ⟨O, ρ, G, r, G', s, e, q⟩ => by
    unfold sAsg at e
    cases q1 : m ρ G with
    | none => rw [q1] at e; cases e
    | some p =>
      obtain ⟨d, ρ1, G1⟩ := p
      rw [q1] at e
      obtain ⟨p2, e2, e3⟩ := Option.map_eq_some_iff.mp (show (g d ρ1 G1).map (fun p => (Fl.nx p.1, p.2)) = some (r, G') from e)
      cases e3
      exact ⟨O, ρ, G, d, ρ1, G1, s, q1, fun v O1 H1 x1 s1 r1 => ⟨O1, ρ1, G1, d, p2.1, p2.2, s1, r1, e2, fun σ2 O2 H2 x2 s2 => q σ2 O2 H2 (x1.toNx.trans x2) s2⟩⟩
def sAsg2 (a : SE) (g h : SX) : SS := fun ρ G => match a ρ G with
  | none => none
  | some (d, ρ1, G1) => (g d ρ1 G1).bind fun p => (h d p.1 p.2).map fun p => (.nx p.1, p.2)
theorem ds_asg2 {t1 t2 : Expr} {g1 g2 : SX} (h : DE X e m) (h1 : DX X t1 g1) (h2 : DX X t2 g2) (ha : (assignEach [t1, t2] X.env).map (·.2) = [assign t1 X.env, assign t2 X.env] := by rfl) (hw : swappedStores [t1, t2] e X.env = pure none := by rfl) : DS X (.Assign [t1, t2] e pos) (sAsg2 m g1 g2) :=
  (ps_asg2 h h1 h2 ha hw).imp fun D σ H ⟨O, ρ, G, r, G', s, e, q⟩ => by
    unfold sAsg2 at e
    cases q1 : m ρ G with
    | none => rw [q1] at e; cases e
    | some p =>
      obtain ⟨d, ρ1, G1⟩ := p
      rw [q1] at e
      obtain ⟨p2, e2, e3⟩ := Option.bind_eq_some_iff.mp (show (g1 d ρ1 G1).bind (fun p => (g2 d p.1 p.2).map fun p => (Fl.nx p.1, p.2)) = some (r, G') from e)
      obtain ⟨p3, e4, e5⟩ := Option.map_eq_some_iff.mp e3
      cases e5
      exact ⟨O, ρ, G, d, ρ1, G1, s, q1, fun v O1 H1 x1 s1 r1 => ⟨O1, ρ1, G1, d, p2.1, p2.2, s1, r1, e2, fun σ2 O2 H2 x2 s2 => ⟨O2, p2.1, p2.2, d, p3.1, p3.2, s2, Rep.nx x2.toRx r1, e4, fun σ3 O3 H3 x3 s3 => q σ3 O3 H3 (x1.toNx.trans (x2.trans x3)) s3⟩⟩⟩
end
end DL

/-! DL: more statements, loops, defs. -/
namespace DL
open PySem PySem.Spec PyProof.Rows L2
section
variable {X : Cx} {e : Expr} {pos : Pos}
/-! ### a, b = e1, e2 with plain local names -/
def sPar (i j : Nat) (a b : SF) : SS := fun ρ G => match a ρ G with
  | none => none
  | some (s1, ρ1, G1) => match b ρ1 G1 with
    | none => none
    | some (s2, ρ2, G2) => if i < ρ2.length ∧ j < ρ2.length then some (.nx ((ρ2.set i s1).set j s2), G2) else none
theorem VOk.later {K : PySem.W.Frag} {O1 O2 : Ow} {H0 H1 H2 : Hp} {v : V} {sl : Sl} (w : VOk K O1 H1 H0 v sl) (g : ∀ b l, O1 b = some l → Mut (H1 b)) (x : Ne O1 H1 O2 H2) :
    match sl with
    | .un => False
    | .im d => Rep K O2 H2 v d
    | s => ∃ a, v = .ref a ∧ Own K O2 H2 (fun b => O2 b = some .ext ∧ H0 b = none ∧ H1 b ≠ none) a s := by
  have k : ∀ b, New O1 H0 b → (O2 b = some .ext ∧ H0 b = none ∧ H1 b ≠ none) ∧ H2 b = H1 b := fun b hb => by
    have m := g b _ hb.1
    cases q : H1 b with
    | none => rw [q] at m; exact m.elim
    | some o =>
      obtain ⟨h1, h2⟩ := x.ext b o q hb.1
      exact ⟨⟨h2, hb.2, fun z => nomatch z⟩, h1⟩
  cases sl with
  | un => exact w
  | im d => exact Rep.nx x.toRx w
  | _ => obtain ⟨a, e, w⟩ := w; exact ⟨a, e, Own.mono x.toRx k w⟩
theorem ds_par {i j : Nat} {x y : Str} {a b : Expr} {ma mb : SF} {px py pt : Pos} {kt k2 pt2} (hc : X.calm = true) (hN : X.N.Nodup) (ha : DV X a ma) (hb : DV X b mb) (hij : i ≠ j)
    (hw : swappedStores [.Tuple [.Name x px, .Name y py] kt pt] (.Tuple [a, b] k2 pt2) X.env = pure (some [x, y])) (hi : X.N[i]? = some x := by rfl) (hj : X.N[j]? = some y := by rfl)
    (hx : X.env.scope.names.lookup x = some .local := by rfl) (hy : X.env.scope.names.lookup y = some .local := by rfl) 
    (hs : swapsWithSole [.Tuple [.Name x px, .Name y py] kt pt] (.Tuple [a, b] k2 pt2) pos.line X.env = pure false := by rfl)
    (h1 : starEach [a, b] X.env = (false, eval a X.env) :: starEach [b] X.env := by rfl) (h2 : starEach [b] X.env = (false, eval b X.env) :: starEach [] X.env := by rfl) :
    DS X (.Assign [.Tuple [.Name x px, .Name y py] kt pt] (.Tuple [a, b] k2 pt2) pos) (sPar i j ma mb) :=
  (ps_par hc hN hi hj hij hx hy (pa_cons ha (pa_cons hb pa_nil h2) h1) hw hs).imp fun D σ H ⟨O, ρ, G, r, G', s, e, q⟩ => by
    unfold sPar at e
    cases q1 : ma ρ G with
    | none => rw [q1] at e; cases e
    | some p =>
      obtain ⟨sl1, ρ1, G1⟩ := p
      rw [q1] at e
      dsimp only at e
      cases q2 : mb ρ1 G1 with
      | none => rw [q2] at e; cases e
      | some p =>
        obtain ⟨sl2, ρ2, G2⟩ := p
        rw [q2] at e
        dsimp only at e
        split at e <;> try (cases e; done)
        rename_i hl
        cases e
        refine ⟨O, ρ, G, sl1, ρ1, G1, s, q1, fun v O1 H1 x1 s1 w1 => ⟨O1, ρ1, G1, sl2, ρ2, _, s1, q2, fun u O2 H2 x2 s2 w2 => ⟨v, u, rfl, ?_⟩⟩⟩
        have w1' := w1.later s1.live x2
        have hi2 : i < σ.length := by rw [s2.len]; exact hl.1
        -- the first name
        have step1 : ∃ O3, Nx O H O3 H2 ∧ Rx O2 H2 O3 H2 ∧ (∀ b, H1 b = none → O3 b = O2 b) ∧ SR X.K O3 H2 (σ.set i (some v)) (ρ2.set i sl1) G' := by
          have fresh : ∀ {a : Addr}, v = .ref a → Own X.K O2 H2 (fun b => O2 b = some .ext ∧ H b = none ∧ H1 b ≠ none) a sl1 → ∃ O3, Nx O H O3 H2 ∧ Rx O2 H2 O3 H2 ∧ (∀ b, H1 b = none → O3 b = O2 b) ∧ SR X.K O3 H2 (σ.set i (some v)) (ρ2.set i sl1) G' := fun {a} e w => by
            clear w1'
            subst e
            exact ⟨_, nx_give (x1.toNx.trans x2.toNx) (fun b hb => hb.2.1) (fun b n hb => no_shr s.toGR hb.2.1), rx_rel (fun b hb => ⟨fun z => (by rw [hb.1] at z; cases z), fun n z => (by rw [hb.1] at z; cases z)⟩), fun b hb => rel_out fun z => z.2.2 hb, s2.give (fun b hb => hb.1) w hi2⟩
          cases sl1 with
          | un => exact w1'.elim
          | im d => exact ⟨O2, x1.toNx.trans x2.toNx, Rx.refl, fun _ _ => rfl, s2.put w1' hi2⟩
          | m1 ds => obtain ⟨a, e, w⟩ := w1'; exact fresh e w
          | m2 ds => obtain ⟨a, e, w⟩ := w1'; exact fresh e w
          | mk ds => obtain ⟨a, e, w⟩ := w1'; exact fresh e w
          | mt ds => obtain ⟨a, e, w⟩ := w1'; exact fresh e w
        obtain ⟨O3, x3, rx3, same, s3⟩ := step1
        have hj3 : j < (σ.set i (some v)).length := by rw [List.length_set, s2.len]; exact hl.2
        have fresh2 : ∀ {a : Addr}, u = .ref a → Own X.K O2 H2 (New O2 H1) a sl2 → D.nx ((σ.set i (some v)).set j (some u)) H2 := fun {a} e w => by
          clear w2
          subst e
          have w' : Own X.K O3 H2 (fun b => New O2 H1 b) a sl2 := Own.mono rx3 (fun b hb => ⟨hb, rfl⟩) w
          refine q _ _ _ (nx_give x3 (fun b hb => hh_of x1 b hb.2) fun b n hb => no_shr s.toGR (hh_of x1 b hb.2)) (s3.give (fun b hb => by rw [same b hb.2]; exact hb.1) w' hj3)
        cases sl2 with
        | un => exact w2.elim
        | im d => exact q _ O3 _ x3 (s3.put (Rep.nx rx3 w2) hj3)
        | m1 ds => obtain ⟨a, e, w⟩ := w2; exact fresh2 e w
        | m2 ds => obtain ⟨a, e, w⟩ := w2; exact fresh2 e w
        | mk ds => obtain ⟨a, e, w⟩ := w2; exact fresh2 e w
        | mt ds => obtain ⟨a, e, w⟩ := w2; exact fresh2 e w

/-! ### x += e -/
def sAug (i : Nat) (f : D → D → Option D) (a : SE) : SS := fun ρ G => match ρ[i]? with
  | some (.im d) => (match a ρ G with
    | none => none
    | some (d2, ρ1, G1) => if i < ρ1.length then (f d d2).map fun d3 => (.nx (ρ1.set i (.im d3)), G1) else none)
  | _ => none
theorem ds_aug {i : Nat} {x : Str} {op : Operator} {r : R2} {f : D → D → Option D} {m : SE} {pos' : Pos} (hN : X.N.Nodup) (ho : PIp X op r) (hr : Op2 X.K r f) (h : DE X e m) (hi : X.N[i]? = some x := by rfl) (hx : Loc X.env.scope x := by first | exact Or.inl rfl | exact Or.inr rfl) (hf : X.fn x = true ∨ X.env.scope.names.lookup x = some .local := by first | exact .inl rfl | exact .inr rfl) :
    DS X (.AugAssign (.Name x pos') op e pos) (sAug i f m) :=
  (ps_aug hN hi hx h ho hf).imp fun D σ H ⟨O, ρ, G, rr, G', s, e, q⟩ => by
    unfold sAug at e
    cases q1 : ρ[i]? with
    | none => rw [q1] at e; cases e
    | some sl =>
      rw [q1] at e
      cases sl <;> try (cases e; done)
      case im d =>
        dsimp only at e
        obtain ⟨v, ev, rv⟩ := s.slot i _ q1
        refine ⟨v, ev, ?_⟩
        cases q2 : m ρ G with
        | none => rw [q2] at e; cases e
        | some p =>
          obtain ⟨d2, ρ1, G1⟩ := p
          rw [q2] at e
          dsimp only at e
          split at e <;> try (cases e; done)
          rename_i hl
          obtain ⟨d3, e3, e4⟩ := Option.map_eq_some_iff.mp e
          cases e4
          exact ⟨O, ρ, G, d2, ρ1, _, s, q2, fun u O1 H1 x1 s1 r1 => hr O1 H1 σ _ _ v u d d2 d3 _ s1 (Rep.nx x1.toRx rv) r1 e3 fun z O2 H2 x2 s2 r2 => q _ O2 H2 (x1.trans x2).toNx (s2.put r2 (by rw [s2.len]; exact hl))⟩
theorem pip_of {op : Operator} {r : R2} (h : OpR X (inplaceOp op) r) : PIp X op r := fun pins s σ H x y v u Q I r1 r2 q => h pins s σ H x y v u Q I r1 r2 q

/-! ### x.append(e) of a list of its own -/
def sApp (i : Nat) (a : SE) : SS := fun ρ G => match ρ[i]? with
  | some (.m1 _) => (match a ρ G with
    | none => none
    | some (d, ρ1, G1) => (match ρ1[i]? with
      | some (.m1 ds) => if szOk ds.length then some (.nx (ρ1.set i (.m1 (ds ++ [d]))), G1) else none
      | _ => none))
  | _ => none
theorem ds_app (i : Nat) {x : Str} {m : SE} {p apos cpos : Pos} (h : DE X e m) (hN : X.N[i]? = some x := by rfl) (hv : Vis X.env.scope x := by first | exact Or.inl rfl | exact Or.inr (Or.inl rfl) | exact Or.inr (Or.inr rfl)) (hd : (x == ("__debug__" : Str)) = false := by decide)
    (hcd : (x == ("__classdict__" : Str)) = false := by decide) (hbase : attributeBase (.Name x p) "append" X.env (eval (.Name x p) X.env) = eval (.Name x p) X.env := by rfl)
    (hfew : ((backTo cpos (starEach [e] X.env)).all (fun x => !x.1) && (backToKw cpos (keywordEach [] X.env)).all (fun x => x.1.isSome)
      && decide (([e] : List Expr).length + ([] : List Keyword).length + (if ([] : List Keyword).isEmpty then 0 else 1) < 30)) = true := by rfl)
    (hline : (apos.endLine == cpos.line) = true := by rfl) (hs : starEach [e] X.env = (false, eval e X.env) :: starEach [] X.env := by rfl) (hplain : (backTo cpos (starEach [] X.env)).any (·.1) = false := by rfl)
    (hsw : swapsWith (.Call (.Attribute (.Name x p) "append" apos) [e] [] cpos) none pos.line X.env = pure false := by rfl) : DS X (.Expr (.Call (.Attribute (.Name x p) "append" apos) [e] [] cpos) pos) (sApp i m) :=
  (ps_expr (pe_bm PySem.F.plainAttrs_list PySem.F.slot_list_append PySem.F.type_list_append mt_append (pe_var hN hv hd hcd) (pa_cons h pa_nil hs) hbase hfew hline hs hplain) hsw).imp fun D σ H ⟨O, ρ, G, r, G', s, e, q⟩ => by
    unfold sApp at e
    cases q1 : ρ[i]? with
    | none => rw [q1] at e; cases e
    | some sl =>
      rw [q1] at e
      cases sl <;> try (cases e; done)
      case m1 ds0 =>
        dsimp only at e
        obtain ⟨a, ea, hO, vs0, hH, _⟩ := s.slot i _ q1
        refine ⟨.ref a, ea, .inl ⟨rfl, vs0, SqL.of hH⟩, ?_⟩
        cases q2 : m ρ G with
        | none => rw [q2] at e; cases e
        | some p =>
          obtain ⟨d, ρ1, G1⟩ := p
          rw [q2] at e
          dsimp only at e
          refine ⟨O, ρ, G, d, ρ1, G1, s, q2, fun v O1 H1 x1 s1 r1 => ?_⟩
          cases q3 : ρ1[i]? with
          | none => rw [q3] at e; cases e
          | some sl =>
            rw [q3] at e
            cases sl <;> try (cases e; done)
            case m1 ds =>
              dsimp only at e
              split at e <;> try (cases e; done)
              rename_i hz
              cases e
              obtain ⟨a', ea', hO1, vs, hH1, la⟩ := s1.slot i _ q3
              rw [ea] at ea'
              cases ea'
              refine ⟨a, vs, v, rfl, rfl, hH1, by rw [la.length]; exact szOk_lt hz, ?_⟩
              have rx : Rx O1 H1 O1 (upd H1 a (.lst (vs ++ [v]))) := rx_wr (s1.live _ _ hO1) hO1
              exact q σ O1 _ (x1.toNx.trans (nx_wr (s1.live _ _ hO1) hO1 (fun z => nomatch z))) (s1.wr (sl := .m1 (ds ++ [d])) hO1 trivial ⟨a, ea, hO1, vs ++ [v], upd_same, RepL.nx rx (la.append ⟨v, [], rfl, r1, rfl⟩)⟩)

/-! ### d[k] = e of a dict of its own -/
def putS (i : Nat) (k d : D) : List Sl → Option (List Sl) := fun ρ => match ρ[i]? with
  | some (.mk kvs) => if szOk kvs.length then (toKey k).map fun k => ρ.set i (.mk (putD kvs k d)) else none
  | some (.mt kvs) => (match k with
    | .tup ks => if szOk kvs.length then (toKeys ks).map fun k => ρ.set i (.mt (putD kvs k d)) else none
    | _ => none)
  | _ => none
def sPut (i : Nat) (mk mv : SE) : SS := fun ρ G => match mv ρ G with
  | none => none
  | some (d, ρ1, G1) => if has ρ1 i then (match mk ρ1 G1 with
    | none => none
    | some (k, ρ2, G2) => (putS i k d ρ2).map fun ρ3 => (.nx ρ3, G2)) else none
theorem ds_put (i : Nat) {x : Str} {ix : Expr} {mk mv : SE} {p pos' : Pos} (hu : X.A.units + 64 < cLine) (hk : DE X ix mk) (h : DE X e mv) (hN : X.N[i]? = some x := by rfl) (hv : Vis X.env.scope x := by first | exact Or.inl rfl | exact Or.inr (Or.inl rfl) | exact Or.inr (Or.inr rfl)) (hd : (x == ("__debug__" : Str)) = false := by decide)
    (hcd : (x == ("__classdict__" : Str)) = false := by decide) (hs : swapsWith e (some (.Subscript (.Name x p) ix pos')) pos.line X.env = pure false := by rfl) : DS X (.Assign [.Subscript (.Name x p) ix pos'] e pos) (sPut i mk mv) :=
  (ps_dput (by omega) (pe_var hN hv hd hcd) hk h hs).imp fun D σ H ⟨O, ρ, G, r, G', s, e, q⟩ => by
    unfold sPut at e
    cases q1 : mv ρ G with
    | none => rw [q1] at e; cases e
    | some p =>
      obtain ⟨d, ρ1, G1⟩ := p
      rw [q1] at e
      dsimp only at e
      split at e <;> try (cases e; done)
      rename_i hh
      refine ⟨O, ρ, G, d, ρ1, G1, s, q1, fun v O1 H1 x1 s1 r1 => ?_⟩
      obtain ⟨w, hw⟩ := s1.val hh
      refine ⟨w, hw, ?_⟩
      cases q2 : mk ρ1 G1 with
      | none => rw [q2] at e; cases e
      | some p =>
        obtain ⟨k, ρ2, G2⟩ := p
        rw [q2] at e
        refine ⟨O1, ρ1, G1, k, ρ2, G2, s1, q2, fun kv O2 H2 x2 s2 r2 => ?_⟩
        obtain ⟨ρ3, e3, e4⟩ := Option.map_eq_some_iff.mp e
        cases e4
        have rv : Rep X.K O2 H2 v d := Rep.nx x2.toRx r1
        unfold putS at e3
        cases q3 : ρ2[i]? with
        | none => rw [q3] at e3; cases e3
        | some sl =>
          rw [q3] at e3
          cases sl <;> try (cases e3; done)
          case mk kvs =>
            dsimp only at e3
            split at e3 <;> try (cases e3; done)
            rename_i hz
            obtain ⟨kk, e5, e6⟩ := Option.map_eq_some_iff.mp e3
            cases e6
            obtain ⟨a, ea, hO, ks, hH, la⟩ := s2.slot i _ q3
            rw [hw] at ea
            cases ea
            have hl : ks.length < sizeLine := by rw [(la.pk).length]; exact szOk_lt hz
            rw [toKey_rep e5 r2]
            refine ⟨a, _, rfl, .inl ⟨ks, kk, hH, rfl, hl, rfl⟩, ?_⟩
            have rx : Rx O2 H2 O2 (upd H2 a (.dK (putK ks kk v))) := rx_wr (s2.live _ _ hO) hO
            exact q σ O2 _ ((x1.trans x2).toNx.trans (nx_wr (s2.live _ _ hO) hO (fun z => nomatch z))) (s2.wr (sl := .mk (putD kvs kk d)) hO trivial ⟨a, hw, hO, _, upd_same, RepK.nx rx (la.putK rv)⟩)
          case mt kvs =>
            cases k <;> try (cases e3; done)
            case tup kd =>
              dsimp only at e3
              split at e3 <;> try (cases e3; done)
              rename_i hz
              obtain ⟨kk, e5, e6⟩ := Option.map_eq_some_iff.mp e3
              cases e6
              obtain ⟨a, ea, hO, ks, hH, la⟩ := s2.slot i _ q3
              rw [hw] at ea
              cases ea
              have hl : ks.length < sizeLine := by rw [(la.pk).length]; exact szOk_lt hz
              obtain ⟨b, us, rfl, hb, lb⟩ := r2
              rw [toKeys_rep e5 lb] at hb
              refine ⟨a, _, rfl, .inr ⟨ks, kk, b, hH, rfl, hb, hl, rfl⟩, ?_⟩
              have rx : Rx O2 H2 O2 (upd H2 a (.dT (putK ks kk v))) := rx_wr (s2.live _ _ hO) hO
              exact q σ O2 _ ((x1.trans x2).toNx.trans (nx_wr (s2.live _ _ hO) hO (fun z => nomatch z))) (s2.wr (sl := .mt (putD kvs kk d)) hO trivial ⟨a, hw, hO, _, upd_same, RepT.nx rx (la.putK rv)⟩)
/-- {} -/
theorem dn_newK : DN X (.Dict [] [] pos) (ret (.mk [])) := pe_dnewK.imp fun σ H Q ⟨O, ρ, G, d, ρ', G', s, e, q⟩ => by
  cases e
  exact fun p hp => q p _ _ (nx_newO hp (s.toGR.free hp)) (s.newO hp trivial) ⟨⟨own_same, hp⟩, [], upd_same, rfl⟩
theorem dn_newT : DN X (.Dict [] [] pos) (ret (.mt [])) := pe_dnewT.imp fun σ H Q ⟨O, ρ, G, d, ρ', G', s, e, q⟩ => by
  cases e
  exact fun p hp => q p _ _ (nx_newO hp (s.toGR.free hp)) (s.newO hp trivial) ⟨⟨own_same, hp⟩, [], upd_same, rfl⟩

/-! ### for, while -/
def forLoop (tg : SX) (body : SS) : List D → SS
  | [] => fun ρ G => some (.nx ρ, G)
  | d :: ds => fun ρ G => match tg d ρ G with
    | none => none
    | some (ρ1, G1) => match body ρ1 G1 with
      | none => none
      | some (.nx ρ2, G2) => forLoop tg body ds ρ2 G2
      | some (.ct ρ2, G2) => forLoop tg body ds ρ2 G2
      | some (.bk ρ2, G2) => some (.nx ρ2, G2)
      | some (.rt d, G2) => some (.rt d, G2)
def sFor (it : SA) (tg : SX) (body : SS) : SS := fun ρ G => match it ρ G with
  | none => none
  | some (ds, ρ1, G1) => forLoop tg body ds ρ1 G1
theorem ds_for {tg iter : Expr} {b : List Stmt} {mi : SA} {g : SX} {body : SS} (hp : PassesOwn (model X.prog X.w) X.A X.env X.xe) (hc : X.calm = true) (hi : DI X tg iter mi) (hg : DX X tg g) (hb : DB X b body) (hs : ∀ x, foldedSetIterable iter X.env x = pure x := by intro _; rfl) : DS X (.For tg iter b [] pos) (sFor mi g body) :=
  (ps_for hp hc hi hg hb hs).imp fun D σ H ⟨O, ρ, G, r, G', s, e, q⟩ => by
    unfold sFor at e
    cases q1 : mi ρ G with
    | none => rw [q1] at e; cases e
    | some p =>
      obtain ⟨ds, ρ1, G1⟩ := p
      rw [q1] at e
      refine ⟨O, ρ, G, ds, ρ1, G1, s, q1, fun J O1 H1 x1 s1 hJ => ?_⟩
      refine ⟨fun i m σ H' => ∃ O ρ G, m = ds.length - i ∧ i ≤ ds.length ∧ Nx O1 H1 O H' ∧ SR X.K O H' σ ρ G ∧ forLoop g body (ds.drop i) ρ G = some (r, G'), ⟨ds.length, O1, ρ1, G1, rfl, Nat.zero_le _, Nx.refl, s1, e⟩, ?_⟩
      rintro i m σ' H' ⟨O2, ρ2, G2, rfl, hi, x2, s2, e2⟩
      by_cases hlt : i < ds.length
      · have hd : ds.drop i = ds[i] :: ds.drop (i + 1) := List.drop_eq_getElem_cons hlt
        rw [hd] at e2
        obtain ⟨go, yl⟩ := (hJ O2 H' x2).1 i ds[i] (List.getElem?_eq_getElem hlt)
        refine .inr ⟨go, fun σ' H' => ∃ O ρ G, Nx O1 H1 O H' ∧ SR X.K O H' σ' ρ G ∧ forLoop g body (ds.drop (i + 1)) ρ G = some (r, G'), fun σ' H' ⟨O', ρ', G', h1, h2, h3⟩ => ⟨ds.length - (i + 1), by omega, O', ρ', G', rfl, hlt, h1, h2, h3⟩, fun y H3 hy => ?_⟩
        obtain ⟨xy, sy, ry⟩ := yl y H3 hy
        have s3 := sy _ _ _ s2
        have e2 : (match g ds[i] ρ2 G2 with
          | none => none
          | some (ρ1, G1) => match body ρ1 G1 with
            | none => none
            | some (.nx ρ2, G2) => forLoop g body (ds.drop (i + 1)) ρ2 G2
            | some (.ct ρ2, G2) => forLoop g body (ds.drop (i + 1)) ρ2 G2
            | some (.bk ρ2, G2) => some (.nx ρ2, G2)
            | some (.rt d, G2) => some (.rt d, G2)) = some (r, G') := e2
        cases q2 : g ds[i] ρ2 G2 with
        | none => rw [q2] at e2; cases e2
        | some p =>
          obtain ⟨ρ3, G3⟩ := p
          rw [q2] at e2
          dsimp only at e2
          refine ⟨O2, ρ2, G2, ds[i], ρ3, G3, s3, ry, q2, fun σ4 O4 H4 x4 s4 => ?_⟩
          cases q3 : body ρ3 G3 with
          | none => rw [q3] at e2; cases e2
          | some p =>
            obtain ⟨f, G5⟩ := p
            rw [q3] at e2
            refine ⟨O4, ρ3, G3, f, G5, s4, q3, ?_⟩
            have xx : Nx O1 H1 O4 H4 := x2.trans (xy.toNx.trans x4)
            cases f with
            | nx ρ5 => exact fun σ' O' H' x' s' => ⟨O', ρ5, G5, xx.trans x', s', e2⟩
            | ct ρ5 => exact fun σ' O' H' x' s' => ⟨O', ρ5, G5, xx.trans x', s', e2⟩
            | bk ρ5 => cases e2; exact fun σ' O' H' x' s' => q σ' O' H' (x1.toNx.trans (xx.trans x')) s'
            | rt d => cases e2; exact fun v O' H' x' s' r' => q v O' H' (x1.toNx.trans (xx.trans x')) s' r'
      · have e1 : i = ds.length := by omega
        subst e1
        rw [List.drop_length] at e2
        cases e2
        exact .inl ⟨(hJ O2 H' x2).2, q σ' O2 H' (x1.toNx.trans x2) s2⟩
def whLoop (c : SB) (body : SS) : Nat → SS
  | 0 => fun _ _ => none
  | n + 1 => fun ρ G => match c ρ G with
    | none => none
    | some (false, ρ1, G1) => some (.nx ρ1, G1)
    | some (true, ρ1, G1) => match body ρ1 G1 with
      | none => none
      | some (.nx ρ2, G2) => whLoop c body n ρ2 G2
      | some (.ct ρ2, G2) => whLoop c body n ρ2 G2
      | some (.bk ρ2, G2) => some (.nx ρ2, G2)
      | some (.rt d, G2) => some (.rt d, G2)
/-- a while of fewer than n turns -/
theorem ds_while (n : Nat) {c : Expr} {b : List Stmt} {mc : SB} {body : SS} (hp : PassesOwn (model X.prog X.w) X.A X.env X.xe) (hc : DT X c mc) (hb : DB X b body) : DS X (.While c b [] pos) (whLoop mc body n) :=
  (ps_while hp hc hb).imp fun D σ H ⟨O, ρ, G, r, G', s, e, q⟩ => by
    refine ⟨fun m σ H' => ∃ O' ρ G, Nx O H O' H' ∧ SR X.K O' H' σ ρ G ∧ whLoop mc body m ρ G = some (r, G'), ⟨n, O, ρ, G, Nx.refl, s, e⟩, ?_⟩
    rintro m σ1 H1 ⟨O1, ρ1, G1, x1, s1, e1⟩
    cases m with
    | zero => cases e1
    | succ m =>
      have e1 : (match mc ρ1 G1 with
        | none => none
        | some (false, ρ1, G1) => some (.nx ρ1, G1)
        | some (true, ρ1, G1) => match body ρ1 G1 with
          | none => none
          | some (.nx ρ2, G2) => whLoop mc body m ρ2 G2
          | some (.ct ρ2, G2) => whLoop mc body m ρ2 G2
          | some (.bk ρ2, G2) => some (.nx ρ2, G2)
          | some (.rt d, G2) => some (.rt d, G2)) = some (r, G') := e1
      cases q1 : mc ρ1 G1 with
      | none => rw [q1] at e1; cases e1
      | some p =>
        obtain ⟨k, ρ2, G2⟩ := p
        rw [q1] at e1
        refine ⟨O1, ρ1, G1, k, ρ2, G2, s1, q1, fun O2 H2 x2 s2 => ?_⟩
        have xx : Nx O H O2 H2 := x1.trans x2.toNx
        cases k with
        | false => cases e1; exact q σ1 O2 H2 xx s2
        | true =>
          refine iteT ?_
          dsimp only at e1
          refine ⟨fun σ' H' => ∃ O' ρ G, Nx O H O' H' ∧ SR X.K O' H' σ' ρ G ∧ whLoop mc body m ρ G = some (r, G'), fun σ' H' h => ⟨m, Nat.lt_succ_self _, h⟩, ?_⟩
          cases q3 : body ρ2 G2 with
          | none => rw [q3] at e1; cases e1
          | some p =>
            obtain ⟨f, G5⟩ := p
            rw [q3] at e1
            refine ⟨O2, ρ2, G2, f, G5, s2, q3, ?_⟩
            cases f with
            | nx ρ5 => exact fun σ' O' H' x' s' => ⟨O', ρ5, G5, xx.trans x', s', e1⟩
            | ct ρ5 => exact fun σ' O' H' x' s' => ⟨O', ρ5, G5, xx.trans x', s', e1⟩
            | bk ρ5 => cases e1; exact fun σ' O' H' x' s' => q σ' O' H' (xx.trans x') s'
            | rt d => cases e1; exact fun v O' H' x' s' r' => q v O' H' (xx.trans x') s' r'
end

/-! ### defs -/
abbrev Sf := List D → Gs → Option (D × Gs)
def mDef (n N : Nat) (body : SS) : Sf := fun ds G => if ds.length = n then match body (ds.map Sl.im ++ List.replicate (N - n) .un) G with
  | some (.rt d, G') => some (d, G')
  | some (.nx _, G') => some (.non, G')
  | _ => none else none
/-- a def's promise -/
def spD (K : PySem.W.Frag) (n : Nat) (f : Sf) : Sp := fun vs H Q _ => ∃ O ds G d G', GR K O H G ∧ RepL K O H vs ds ∧ ds.length = n ∧ f ds G = some (d, G') ∧ ∀ v O' H', Nx O H O' H' → GR K O' H' G' → Rep K O' H' v d → Q v H'
theorem start_sr {K : PySem.W.Frag} {O : Ow} {H : Hp} {G : Gs} {N : List Str} {vs : List V} {ds : List D} (g : GR K O H G) (r : RepL K O H vs ds) (hl : ds.length ≤ N.length) : SR K O H (start N vs) (ds.map Sl.im ++ List.replicate (N.length - ds.length) .un) G := by
  have e := r.length
  refine ⟨g, by unfold L2.start; simp [e], fun i sl h => ?_⟩
  unfold L2.start
  by_cases hi : i < ds.length
  · rw [List.getElem?_append_left (by simpa using hi), List.getElem?_map] at h
    rw [List.getElem?_append_left (by simpa [e] using hi), List.getElem?_map]
    rw [List.getElem?_eq_getElem hi] at h
    cases h
    obtain ⟨v, h1, h2⟩ := r.get (List.getElem?_eq_getElem hi)
    exact ⟨v, by rw [h1]; rfl, h2⟩
  · rw [List.getElem?_append_right (by simp; omega)] at h
    have := List.mem_of_getElem? h
    rw [(List.mem_replicate.mp this).2]
    trivial
structure Cal (P : Program) (w : World) (K : PySem.W.Frag) (mg : Str → Option Value) (base : Heap) (x : Str) (k : Nat) (n : Nat) (S : Sf) : Prop where
  ex : ∃ f fd ps, FnOk P w K mg base CX0 k f fd ps (spD K n S) ∧ mg x = some (.ref f) ∧ PySem.W.keepIn K (.ref f) = true ∧ Binds K fd ps []
theorem fn_dl {P : Program} {w : World} {K : PySem.W.Frag} {mg : Str → Option Value} {base : Heap} {x qual : Str} {params : Arguments} {body : List Stmt} {scope : Scope} {f : Addr} {fd : FuncData} {k n : Nat} {N ps : List Str} {m : SS}
    (F : FunD K x qual params body scope [] [] f fd) (S : FnScope N ps scope) (hn : ps.length = n) (hnN : n ≤ N.length)
    (hb : ∀ (cdv : Value) (A : Around) (outer : List Env) (s : Shared) (H : Hp) (E : XK), Room k (A.deeper (envOfC qual scope s.heap.objs.size f cdv)) → DB (cxOf CX0 P w K mg base N qual scope f cdv A outer s H E).nox body m) :
    FnOk P w K mg base CX0 (k + 1) f fd ps (spD K n (mDef n N.length m)) := by
  refine F.ok S (fun vs H Q E h => ?_) (fun cdv A outer s H vs Q E hr h => ⟨_, PSs.nox (hb cdv A outer s H E hr), ?_⟩)
  · obtain ⟨O, ds, G, d, G', g, r, l, _⟩ := h
    rw [r.length, l, hn]
  · obtain ⟨O, ds, G, d, G', g, r, l, e, q⟩ := h
    unfold mDef at e
    rw [if_pos l] at e
    have s0 := start_sr (N := N) g r (by omega)
    rw [l] at s0
    cases q1 : m (ds.map Sl.im ++ List.replicate (N.length - n) .un) G with
    | none => rw [q1] at e; cases e
    | some p =>
      obtain ⟨fl, G1⟩ := p
      rw [q1] at e
      refine ⟨O, _, G, fl, G1, s0, q1, ?_⟩
      cases fl with
      | rt d' => cases e; exact fun v O' H' x' s' r' => q v O' H' x' s' r'
      | nx ρ' => cases e; exact fun σ' O' H' x' s' => q .non O' H' x' s'.toGR rfl
      | bk ρ' => cases e
      | ct ρ' => cases e
section
variable {X : Cx} {x : Str} {p pos : Pos} {e : Expr} {es : List Expr} {m : SA} {k n : Nat} {S : Sf}
def mFn (n : Nat) (S : Sf) (a : SA) : SE := fun ρ G => match a ρ G with
  | none => none
  | some (ds, ρ1, G1) => if ds.length = n then (S ds G1).map fun p => (p.1, ρ1, p.2) else none
/-- the caller's own objects, while the callee runs -/
def hide (O : Ow) : Ow := fun b => match O b with
  | some (.slot _) => some .ext
  | l => l
def unhide (O O' : Ow) : Ow := fun b => match O b with
  | some (.slot i) => some (.slot i)
  | _ => O' b
theorem hide_slot {O : Ow} {b : Addr} {i : Nat} (h : O b = some (.slot i)) : hide O b = some .ext := by unfold hide; rw [h]
theorem hide_else {O : Ow} {b : Addr} (h : ∀ i, O b ≠ some (.slot i)) : hide O b = O b := by
  unfold hide
  split
  · rename_i i e; exact absurd e (h i)
  · rfl
theorem unhide_slot {O O' : Ow} {b : Addr} {i : Nat} (h : O b = some (.slot i)) : unhide O O' b = some (.slot i) := by unfold unhide; rw [h]
theorem unhide_else {O O' : Ow} {b : Addr} (h : ∀ i, O b ≠ some (.slot i)) : unhide O O' b = O' b := by
  unfold unhide
  split
  · rename_i i e; exact absurd e (h i)
  · rfl
theorem slot_or (O : Ow) (b : Addr) : (∃ i, O b = some (.slot i)) ∨ ∀ i, O b ≠ some (.slot i) := by
  by_cases h : ∃ i, O b = some (.slot i)
  · exact .inl h
  · exact .inr fun i e => h ⟨i, e⟩
theorem call_frame {K : PySem.W.Frag} {O O' : Ow} {H H' : Hp} {σ : L2.St} {ρ : List Sl} {G G' : Gs} (s : SR K O H σ ρ G) (x : Nx (hide O) H O' H') (g : GR K O' H' G') :
    Ne O H (unhide O O') H' ∧ SR K (unhide O O') H' σ ρ G' ∧ ∀ v d, Rep K O' H' v d → Rep K (unhide O O') H' v d := by
  have hs : ∀ b i, O b = some (.slot i) → ∃ o, H b = some o ∧ H' b = some o ∧ O' b = some .ext := fun b i e => by
    have m := s.live b _ e
    cases q : H b with
    | none => rw [q] at m; exact m.elim
    | some o =>
      obtain ⟨h1, h2⟩ := x.ext b o q (hide_slot e)
      exact ⟨o, rfl, h1, h2⟩
  have el : ∀ {b l}, O b = l → (∀ i, l ≠ some (.slot i)) → hide O b = l := fun {b l} e n => by rw [hide_else (fun i z => n i (by rw [← e]; exact z)), e]
  have rx1 : Rx O H (unhide O O') H' := by
    refine ⟨fun b o e n => x.keep b o e (el n (fun i z => nomatch z)), fun b e n => ?_, fun b n e => ?_, x.tup, x.frz⟩
    · rw [unhide_else (fun i z => by rw [n] at z; cases z)]; exact x.non b e (el n (fun i z => nomatch z))
    · rw [unhide_else (fun i z => by rw [e] at z; cases z)]; exact x.shr b n (el e (fun i z => nomatch z))
  have rx2 : Rx O' H' (unhide O O') H' := by
    refine ⟨fun _ _ e _ => e, fun b e n => ?_, fun b n e => ?_, fun _ _ e => e, fun _ _ _ e => e⟩
    · rw [unhide_else (fun i z => by obtain ⟨o, _, _, h⟩ := hs b i z; rw [n] at h; cases h)]; exact n
    · rw [unhide_else (fun i z => by obtain ⟨o, _, _, h⟩ := hs b i z; rw [e] at h; cases h)]; exact e
  have shr_back : ∀ b n, unhide O O' b = some (.shr n) → O' b = some (.shr n) := fun b n e => by
    rcases slot_or O b with ⟨i, z⟩ | z
    · rw [unhide_slot z] at e; cases e
    · rw [unhide_else z] at e; exact e
  have gr : GR K (unhide O O') H' G' := g.mono rx2 (fun _ _ _ => rfl) shr_back fun b l e => by
    rcases slot_or O b with ⟨i, z⟩ | z
    · obtain ⟨o, h1, h2, _⟩ := hs b i z
      have m := s.live b _ z
      rw [h1] at m
      rw [h2]
      exact m
    · rw [unhide_else z] at e; exact g.live b l e
  refine ⟨⟨⟨rx1, fun b o e n => ?_, x.live⟩, fun b i o e n => ?_⟩, ⟨gr, s.len, fun i sl e => (s.slot i sl e).mono rx1 fun b z => ?_⟩, fun v d r => Rep.nx rx2 r⟩
  · obtain ⟨h1, h2⟩ := x.ext b o e (el n (fun i z => nomatch z))
    exact ⟨h1, by rw [unhide_else (fun i z => by rw [n] at z; cases z)]; exact h2⟩
  · obtain ⟨o', h1, h2, _⟩ := hs b i n
    rw [h1] at e
    cases e
    exact ⟨h2, .inl (unhide_slot n)⟩
  · obtain ⟨o', h1, h2, _⟩ := hs b i z
    exact ⟨unhide_slot z, by rw [h1, h2]⟩
theorem hide_rx {O : Ow} {H : Hp} : Rx O H (hide O) H := by
  refine ⟨fun _ _ e _ => e, fun b e n => ?_, fun b n e => ?_, fun _ _ e => e, fun _ _ _ e => e⟩
  · rw [hide_else (fun i z => by rw [n] at z; cases z)]; exact n
  · rw [hide_else (fun i z => by rw [e] at z; cases z)]; exact e
theorem hide_gr {K : PySem.W.Frag} {O : Ow} {H : Hp} {G : Gs} (g : GR K O H G) : GR K (hide O) H G := g.mono hide_rx (fun _ _ _ => rfl) (fun b n e => by
  rcases slot_or O b with ⟨i, z⟩ | z
  · rw [hide_slot z] at e; cases e
  · rw [hide_else z] at e; exact e) fun b l e => by
  rcases slot_or O b with ⟨i, z⟩ | z
  · exact g.live b _ z
  · rw [hide_else z] at e; exact g.live b l e
theorem fn_read {K : PySem.W.Frag} {σ : L2.St} {H : Hp} {Q : VK} {E : XK} (h : tD K (mFn n S m) σ H Q) : tCall (spD K n S) [] E (tL K m) σ H Q := by
  obtain ⟨O, ρ, G, d, ρ', G', s, e, q⟩ := h
  unfold mFn at e
  cases q1 : m ρ G with
  | none => rw [q1] at e; cases e
  | some p =>
    obtain ⟨ds, ρ1, G1⟩ := p
    rw [q1] at e
    dsimp only at e
    split at e <;> try (cases e; done)
    rename_i hl
    obtain ⟨p2, e2, e3⟩ := Option.map_eq_some_iff.mp e
    cases e3
    refine ⟨O, ρ, G, ds, ρ', G1, s, q1, fun vs O1 H1 x1 s1 r1 => ?_⟩
    show spD K n S (vs ++ []) H1 Q E
    rw [List.append_nil]
    refine ⟨hide O1, ds, G1, p2.1, p2.2, hide_gr s1.toGR, RepL.nx hide_rx r1, hl, e2, fun v O' H' x' g' r' => ?_⟩
    obtain ⟨a1, a2, a3⟩ := call_frame s1 x' g'
    exact q v _ H' (x1.trans a1) a2 (a3 v _ r')
theorem de_call (C : Cal X.prog X.w X.K X.mg X.base x k n S) (hr : Room k X.A) (ha : DA X (e :: es) m) (hg : Gl X x := by rfl) (hdb : (x == ("__debug__" : Str)) = false := by decide) (he : starEach (e :: es) X.env = (false, eval e X.env) :: starEach es X.env := by rfl) (hpl : (backTo pos (starEach es X.env)).any (·.1) = false := by rfl) :
    DE X (.Call (.Name x p) (e :: es) [] pos) (mFn n S m) := by
  obtain ⟨f, fd, ps, F, hm, hk, hb⟩ := C.ex
  exact (pe_call F hr hg hm hk hb .nil pass0 ha hdb he hpl).imp fun _ _ _ h => fn_read h
theorem de_call0 (C : Cal X.prog X.w X.K X.mg X.base x k n S) (hr : Room k X.A) (hg : Gl X x := by rfl) (hdb : (x == ("__debug__" : Str)) = false := by decide) : DE X (.Call (.Name x p) [] [] pos) (mFn n S mNil) := by
  obtain ⟨f, fd, ps, F, hm, hk, hb⟩ := C.ex
  refine (pe_call0 F hr hg hm hk hb .nil pass0 hdb).imp fun _ _ _ h => ?_
  obtain ⟨O, ρ, G, ds, ρ', G', s, q1, h2⟩ := fn_read (E := E0) h
  cases q1
  exact h2 [] O _ Ne.refl s rfl
end
end DL

/-! DL: sorted, lists of new lists, the end. -/
namespace DL
open PySem PySem.Spec PyProof.Rows L2

/-! ### sorting, in plain terms -/
section
variable {α : Type} (lt : α → α → Bool)
def insD (x : α) : List α → List α
  | [] => [x]
  | y :: ys => if lt y x then y :: insD x ys else x :: y :: ys
def srtD : List α → List α
  | [] => []
  | x :: xs => insD lt x (srtD xs)
end
section
variable {α : Type} {lt : α → α → Bool}
theorem insD_perm (x : α) : ∀ l : List α, (insD lt x l).Perm (x :: l)
  | [] => List.Perm.refl _
  | y :: ys => by
    unfold insD
    split
    · exact ((insD_perm x ys).cons y).trans (List.Perm.swap x y ys)
    · exact List.Perm.refl _
theorem insD_srtd (O : SrtO.Swo lt) (x : α) : ∀ {l : List α}, SrtO.Srtd lt l → SrtO.Srtd lt (insD lt x l)
  | [], _ => SrtO.srtd_one x
  | y :: ys, h => by
    unfold insD
    split
    · rename_i hy
      refine List.pairwise_cons.mpr ⟨fun z hz => ?_, insD_srtd O x (List.pairwise_cons.mp h).2⟩
      rcases List.mem_cons.mp ((insD_perm x ys).mem_iff.mp hz) with e | hz
      · rw [e]; exact O.asym y x hy
      · exact SrtO.srtd_head h z hz
    · rename_i hy
      have hy : lt y x = false := by simpa using hy
      refine List.pairwise_cons.mpr ⟨fun z hz => ?_, h⟩
      rcases List.mem_cons.mp hz with e | hz
      · rw [e]; exact hy
      · exact O.tr x y z hy (SrtO.srtd_head h z hz)
theorem insD_cls (O : SrtO.Swo lt) (x z : α) : ∀ l : List α, (insD lt x l).filter (SrtO.eqv lt z) = (x :: l).filter (SrtO.eqv lt z)
  | [] => rfl
  | y :: ys => by
    unfold insD
    split
    · rename_i hy
      have ih := insD_cls O x z ys
      rcases SrtO.bcase (SrtO.eqv lt z x) with q | q
      · have hyz : SrtO.eqv lt z y = false := by
          rcases SrtO.bcase (SrtO.eqv lt z y) with p | p
          · obtain ⟨p1, p2⟩ := SrtO.eqv_iff.mp p
            obtain ⟨q1, q2⟩ := SrtO.eqv_iff.mp q
            have := O.tr x z y q1 p2
            rw [hy] at this
            cases this
          · exact p
        rw [List.filter_cons_of_neg (by rw [hyz]; decide), ih, List.filter_cons_of_pos q, List.filter_cons_of_pos q, List.filter_cons_of_neg (by rw [hyz]; decide)]
      · rw [List.filter_cons_of_neg (a := x) (by rw [q]; decide)] at ih ⊢
        rcases SrtO.bcase (SrtO.eqv lt z y) with p | p
        · rw [List.filter_cons_of_pos p, List.filter_cons_of_pos p, ih]
        · rw [List.filter_cons_of_neg (by rw [p]; decide), List.filter_cons_of_neg (by rw [p]; decide), ih]
    · rfl
theorem srtD_perm : ∀ l : List α, (srtD lt l).Perm l
  | [] => List.Perm.refl _
  | x :: xs => (insD_perm x _).trans ((srtD_perm xs).cons x)
theorem srtD_srtd (O : SrtO.Swo lt) : ∀ l : List α, SrtO.Srtd lt (srtD lt l)
  | [] => List.Pairwise.nil
  | x :: xs => insD_srtd O x (srtD_srtd O xs)
theorem srtD_stb (O : SrtO.Swo lt) : ∀ l : List α, SrtO.Stb lt (srtD lt l) l
  | [] => SrtO.Stb.refl _
  | x :: xs => ⟨srtD_perm _, fun z => by
    show (insD lt x (srtD lt xs)).filter _ = _
    rw [insD_cls O x z]
    have := (srtD_stb O xs).cls z
    rcases SrtO.bcase (SrtO.eqv lt z x) with q | q
    · rw [List.filter_cons_of_pos q, List.filter_cons_of_pos q, this]
    · rw [List.filter_cons_of_neg (by rw [q]; decide), List.filter_cons_of_neg (by rw [q]; decide), this]⟩
theorem srtD_uniq (O : SrtO.Swo lt) {l m : List α} (h1 : SrtO.Srtd lt m) (h2 : SrtO.Stb lt m l) : m = srtD lt l :=
  SrtO.stb_uniq O h1 (srtD_srtd O l) (h2.trans ⟨(srtD_perm l).symm, fun z => ((srtD_stb O l).cls z).symm⟩)
end

/-! ### sorted(d) of a dict whose keys are pairs of ints -/
def pairKey : List Key → Option (Int × Int)
  | [.inl a, .inl b] => some (a, b)
  | _ => none
theorem pairKey_eq {k : List Key} {p : Int × Int} (h : pairKey k = some p) : k = [.inl p.1, .inl p.2] := by
  unfold pairKey at h
  split at h
  · cases h; rfl
  · cases h
def pairKeys (kvs : List (List Key × D)) : Option (List (Int × Int)) := kvs.mapM fun kv => pairKey kv.1
def dPair (p : Int × Int) : D := .tup [.int p.1, .int p.2]
def dSortedD : D → Option D
  | .dt kvs => if szOk kvs.length then (pairKeys kvs).map fun ps => .lst ((srtD SrtO.lexB ps).map dPair) else none
  | _ => none
theorem lexB_swo : SrtO.Swo SrtO.lexB := by
  refine ⟨fun x y h => ?_, fun x y z h1 h2 => ?_⟩
  · have a := SrtO.lexB_iff.mp h
    exact SrtO.lexB_no.mpr (by omega)
  · have a := SrtO.lexB_no.mp h1
    have b := SrtO.lexB_no.mp h2
    exact SrtO.lexB_no.mpr (by omega)
theorem paired_mem {α β : Type} {P : α → β → Prop} {as : List α} {bs : List β} (h : Paired P as bs) {a : α} (ha : a ∈ as) : ∃ b, P a b := by
  induction h with
  | nil => cases ha
  | cons h t ih =>
    rcases List.mem_cons.mp ha with e | ha
    · exact ⟨_, by rw [e]; exact h⟩
    · exact ih ha
theorem pairedIn {α β : Type} {P : α → β → Prop} {as : List α} {bs : List β} (h : Paired P as bs) : Paired (fun a b => P a b ∧ a ∈ as) as bs := by
  induction h with
  | nil => exact .nil
  | cons h t ih => exact .cons ⟨h, List.mem_cons_self⟩ (Paired.mapP ih fun a b z => ⟨z.1, List.mem_cons_of_mem _ z.2⟩)
theorem paired_of {α β : Type} {P : α → β → Prop} {f : α → β} : ∀ {as : List α}, (∀ a ∈ as, P a (f a)) → Paired P as (as.map f)
  | [], _ => .nil
  | a :: as, h => .cons (h a List.mem_cons_self) (paired_of fun b hb => h b (List.mem_cons_of_mem _ hb))
/-- the two ints at a reference -/
def kOf (H : Hp) : Value → Int × Int
  | .ref b => match H b with
    | some (.tup [.int x, .int y]) => (x, y)
    | _ => (0, 0)
  | _ => (0, 0)
theorem kOf_ref {H : Hp} {b : Addr} {p : Int × Int} (h : H b = some (.tup [.int p.1, .int p.2])) : kOf H (.ref b) = p := by
  show (match H b with
    | some (.tup [.int x, .int y]) => (x, y)
    | _ => (0, 0)) = p
  rw [h]
theorem paired_kOf {H : Hp} {bs : List Addr} {ps : List (Int × Int)} (h : Paired (fun (b : Addr) (p : Int × Int) => H b = some (.tup [.int p.1, .int p.2])) bs ps) : ps = bs.map (kOf H ∘ Value.ref) := by
  induction h with
  | nil => rfl
  | cons h t ih => rw [List.map_cons, ← ih]; show _ = kOf H (.ref _) :: _; rw [kOf_ref h]
theorem refs_list {bs : List Addr} : ∀ {out : List Value}, (∀ v ∈ out, ∃ b ∈ bs, v = Value.ref b) → ∃ bs' : List Addr, out = bs'.map Value.ref ∧ ∀ b ∈ bs', b ∈ bs
  | [], _ => ⟨[], rfl, fun _ h => by cases h⟩
  | v :: out, h => by
    obtain ⟨b, hb, e⟩ := h v List.mem_cons_self
    obtain ⟨bs', e2, h2⟩ := refs_list fun u hu => h u (List.mem_cons_of_mem _ hu)
    refine ⟨b :: bs', by rw [e, e2]; rfl, fun c hc => ?_⟩
    rcases List.mem_cons.mp hc with e | hc
    · rw [e]; exact hb
    · exact h2 c hc
section
variable {X : Cx}
def rSortedPD (K : PySem.W.Frag) : List V → Hp → VK → Prop := fun xs H Q => ∃ (d : Addr) (kvs : List (List Key × V)) (ps : List (Int × Int)), xs = [V.ref d] ∧ Rd H d (.dT kvs) ∧ Paired (fun (kv : List Key × V) (p : Int × Int) => kv.1 = [.inl p.1, .inl p.2]) kvs ps ∧
  ∀ q bs, H q = none → Paired (fun (b : Addr) (p : Int × Int) => H b = some (.tup [.int p.1, .int p.2])) bs (srtD SrtO.lexB ps) → Q (.ref q) (upd H q (.lst (bs.map V.ref)))
theorem call_sortedPD (hc : X.calm = true) : CallR X (.builtin "sorted") (rSortedPD X.K) := by
  intro pins s σ H xs us Q I r h
  obtain ⟨d, kvs, ps, rfl, hd, hks, q⟩ := h
  obtain ⟨u, rfl, rx⟩ := r.one
  cases rx
  obtain ⟨z, hs, ks, pr, o, es, ep, ho, hx, hdt, he, hn⟩ := (show ObjOk X.prog X.w H s.heap d (.dT kvs) from hd.ok I.hok)
  have l1 : es.size = ks.length := size_of_entries he
  have l2 : kvs.length = ks.length := Paired.length pr
  refine Calls.call_function_entry PyProof.Rows.kind_sorted PyProof.Rows.plain_sorted PyProof.Rows.entry_sorted (PyProof.Rows.args_sorted1 _) ?_
  unfold Builtin.«sorted»
  refine wpAny_bind (m := checkCount "sorted" 1 1 _) (wpAny_pure ?_)
  refine wpAny_bind (PySem.W.kdu_collect (A := X.A.in1) (kdl_raw hs hx hdt) (I.ok.hd hc) ho (by omega) fun h' tk acc kp it => ?_)
  have ea : acc.toList = ks.map fun x => Value.ref x.2.1 := by
    have hl : acc.toList.length = ks.length := by rw [Array.length_toList, it.1]; exact l1
    apply List.ext_getElem?
    intro j
    rw [List.getElem?_map]
    cases hj : acc.toList[j]? with
    | none =>
      have h1 := List.getElem?_eq_none_iff.mp hj
      rw [List.getElem?_eq_none (by omega)]
      all_goals rfl
    | some v =>
      obtain ⟨en, hen, hv⟩ := it.2 j v (by rw [← Array.getElem?_toList]; exact hj)
      have qe := entry_at he j
      rw [hen] at qe
      cases hb : ks[j]? with
      | none =>
        rw [hb] at qe
        exact nomatch (show some en = none from qe)
      | some b =>
        rw [hb] at qe
        have e2 : en = entryOfKey (tupleKind (mixKind X.prog X.w)) b := Option.some.inj qe
        rw [hv, e2]
        all_goals rfl
  -- the keys' addresses and what they hold
  have hkey : ∃ bs : List Addr, acc.toList = bs.map Value.ref ∧ Paired (fun (b : Addr) (p : Int × Int) => H b = some (.tup [.int p.1, .int p.2])) bs ps := by
    refine ⟨ks.map fun x => x.2.1, by rw [ea, List.map_map]; rfl, ?_⟩
    clear ea it he l1 l2 hn z q h' tk acc kp hd
    induction pr generalizing ps with
    | nil => cases hks; exact .nil
    | cons h t ih =>
      cases hks with
      | cons g w =>
        refine .cons ?_ (ih _ w)
        have e := h.2.1
        rw [g] at e
        exact e
  obtain ⟨bs, eb, pb⟩ := hkey
  have I1 : Inv X pins σ H { s with heap := h', toks := tk } := I.kept kp
  have hbl : bs.length = ps.length := Paired.length pb
  have hal : acc.toList.length = bs.length := by rw [eb, List.length_map]
  have hzl : acc.toList.length ≤ sizeLine := by
    rw [hal, hbl, ← Paired.length hks]
    omega
  -- what a key is, by the heap
  refine wpAny_bind (wpAny_newList ?_ hzl)
  have hoL : (h'.push (seqObj "list" acc.toList.toArray 0)).get? h'.objs.size = some (seqObj "list" acc.toList.toArray 0) := Heap.get?_push_size _ rfl
  have I2 : Inv X pins σ H { s with heap := h'.push (seqObj "list" acc.toList.toArray 0), toks := tk } := I.kept fun b ob e => Heap.get?_push_of_some _ (kp b ob e)
  have hp : ∀ v ∈ acc.toList, Srt.IsPair (h'.push (seqObj "list" acc.toList.toArray 0)) v (kOf H v).1 (kOf H v).2 := by
    intro v hv
    rw [eb] at hv
    obtain ⟨b, hb, rfl⟩ := List.mem_map.mp hv
    obtain ⟨p, hp⟩ := paired_mem pb hb
    obtain ⟨_, its2, r2, o2, ho2, hc2, n2, hd2⟩ := I2.hok _ _ hp
    obtain ⟨u1, u2, rfl, ri, rj⟩ := vals2 r2
    obtain ⟨t1, rfl⟩ := ri
    obtain ⟨t2, rfl⟩ := rj
    rw [kOf_ref hp]
    exact ⟨b, o2, t1, t2, n2, rfl, ho2, hc2, hd2⟩
  show wpAny _ _ _ _ _ { s with heap := h'.push (seqObj "list" acc.toList.toArray 0), toks := tk }
  refine wpAny_bind (wpAny_holding (wpAny_call_entry PyProof.Rows.slot_list_sort ⟨_, hoL, rfl⟩ PyProof.Rows.entry_list_sort
    (SrtO.list_sort_ord (s := { s with heap := h'.push (seqObj "list" acc.toList.toArray 0), toks := tk }) (SrtO.swo_lex (kOf H)) hoL hzl (fun h2 => SrtO.pairs_sortableO (by omega) hp fun o e => ?_) fun out hs1 hs2 => ⟨_, rfl, ?_⟩)
    (PyProof.Rows.args_list_sort _)))
  · have e' := e.symm.trans hoL
    cases e'
    intro c
    exact absurd (Value.type.inj c) (by decide)
  have hmem : ∀ v ∈ out, ∃ b ∈ bs, v = Value.ref b := fun v hv => by
    have := hs2.perm.mem_iff.mp hv
    rw [eb] at this
    obtain ⟨b, hb, e⟩ := List.mem_map.mp this
    exact ⟨b, hb, e.symm⟩
  obtain ⟨bs', eo, hbs'⟩ : ∃ bs' : List Addr, out = bs'.map Value.ref ∧ ∀ b ∈ bs', b ∈ bs := refs_list hmem
  have e3 : out.map (kOf H) = srtD SrtO.lexB ps := by
    have e4 : ps = acc.toList.map (kOf H) := by
      rw [eb, List.map_map]
      exact paired_kOf pb
    rw [e4]
    exact srtD_uniq lexB_swo (SrtO.srtd_map hs1) (SrtO.Stb.map lexB_swo (kOf H) hs2)
  obtain ⟨e', he'⟩ := PyProof.Rows.sortedHeap_at (vs := acc.toList) (out := out.toArray) hoL
  have hlen : (bs'.map V.ref).length ≤ sizeLine := by
    rw [List.length_map]
    have := hs2.len
    rw [eo, List.length_map] at this
    omega
  refine wpAny_pure ⟨_, rfl, .ref h'.objs.size, upd H h'.objs.size (.lst (bs'.map V.ref)), I1.laid (t' := tk) (fun b u e => ?_) (Nat.le_refl _)
    (show ObjOk X.prog X.w _ _ _ (.lst (bs'.map V.ref)) from ⟨hlen, out, e', by rw [eo]; exact vals_refs _, he'⟩), rfl, q _ bs' (I1.hok.fresh (Nat.le_refl _)) ?_⟩
  · have hb : b < h'.objs.size := Heap.lt_size e
    rw [PyProof.Rows.sortedHeap_old (Nat.ne_of_lt hb) (by rw [size_push']; exact Nat.lt_succ_of_lt hb)]
    exact Heap.get?_push_of_some _ e
  · rw [← e3, eo, List.map_map]
    refine paired_of fun b hb => ?_
    obtain ⟨p, hp⟩ := paired_mem pb (hbs' b hb)
    show H b = some (.tup [.int (kOf H (.ref b)).1, .int (kOf H (.ref b)).2])
    rw [kOf_ref hp]
    exact hp
end
section
variable {X : Cx} {a : Expr} {ma : SE} {pos : Pos}
def mSortedD (a : SE) : SE := bnd a fun d => lft (dSortedD d)
theorem RepT_keys {K : PySem.W.Frag} {O : Ow} {H : Hp} : ∀ {kvs : List (List Key × D)} {ks : List (List Key × V)} {ps : List (Int × Int)}, PkT K O H ks kvs → pairKeys kvs = some ps → Paired (fun (kv : List Key × V) (p : Int × Int) => kv.1 = [.inl p.1, .inl p.2]) ks ps
  | [], _, ps, r, e => by
    rw [show _ = [] from r]
    unfold pairKeys at e
    cases e
    exact .nil
  | (k, d) :: kvs, _, ps, ⟨v, r, e1, h, t⟩, e => by
    subst e1
    unfold pairKeys at e
    rw [List.mapM_cons] at e
    cases q1 : pairKey k with
    | none => simp [q1] at e
    | some p =>
      cases q2 : kvs.mapM fun kv => pairKey kv.1 with
      | none => simp [q1, q2] at e
      | some r' =>
        simp [q1, q2] at e
        subst e
        exact .cons (pairKey_eq q1) (RepT_keys t q2)
theorem pairs_rep {K : PySem.W.Frag} {O : Ow} {H : Hp} : ∀ {bs : List Addr} {ps : List (Int × Int)}, Paired (fun (b : Addr) (p : Int × Int) => H b = some (.tup [.int p.1, .int p.2])) bs ps → RepL K O H (bs.map V.ref) (ps.map dPair)
  | _, _, .nil => rfl
  | _, _, .cons h t => ⟨_, _, rfl, ⟨_, _, rfl, h, ⟨_, _, rfl, rfl, _, _, rfl, rfl, rfl⟩⟩, pairs_rep t⟩
theorem de_sortedD {p : Pos} (hu : X.A.units + 64 < cLine) (hm : X.mg "sorted" = none) (ha : DP X a ma) (hc : X.calm = true := by rfl) (hg : Gl X "sorted" := by rfl) (he : starEach [a] X.env = (false, eval a X.env) :: starEach [] X.env := by rfl) : DE X (.Call (.Name "sorted" p) [a] [] pos) (mSortedD ma) :=
  (pe_callB (call_sortedPD hc) hg hm (by decide +kernel) (pa_cons ha pa_nil he) (by decide) (by decide) he rfl).imp fun σ H Q ⟨O, ρ, G, d, ρ', G', s, e, q⟩ => tP.go s e fun v1 O1 H1 d1 ρ1 G1 x1 s1 r1 e1 => by
    obtain ⟨ef, rfl, rfl⟩ := lft_eq e1
    cases d1 <;> unfold dSortedD at ef <;> dsimp only at ef <;> try (cases ef; done)
    case dt kvs =>
      split at ef <;> try (cases ef; done)
      obtain ⟨ps, e2, e3⟩ := Option.map_eq_some_iff.mp ef
      cases e3
      obtain ⟨b, ks, rfl, _, hb, la⟩ := r1
      exact ⟨b, ks, ps, rfl, hb, RepT_keys la e2, fun p bs hp hbs => fin_lst s1 (pairs_rep hbs) hp fun v O3 H3 x3 s3 r3 => q v O3 H3 (x1.trans x3) s3 r3⟩
end

/-! ### a list of new lists -/
def lcLoop2 (vs : List Nat) (tg : SG) (tt : SB) (te : SF) : List D → List (List D) → Sm (List (List D))
  | [], acc => ret acc
  | d :: ds, acc => fun ρ G => match tg d (wipeS ρ vs) with
    | none => none
    | some ρ1 => bnd tt (fun k => if k = true then bnd te fun y => (match y with
        | .m1 ys => lcLoop2 vs tg tt te ds (acc ++ [ys])
        | _ => fun _ _ => none) else lcLoop2 vs tg tt te ds acc) ρ1 G
def mLcN2 (vs : List Nat) (it : SA) (tg : SG) (tt : SB) (te : SF) : SF := bnd it fun ds => fun ρ G =>
  if okW ρ vs && szOk ds.length then match lcLoop2 vs tg tt te ds [] ρ G with
    | none => none
    | some (acc, ρ', G') => some (.m2 acc, backS ρ ρ' vs, G')
  else none
theorem Own.ne {K : PySem.W.Frag} {O O' : Ow} {H H' H1 : Hp} {a : Addr} {sl : Sl} (x : Ne O H O' H') (lv : ∀ b l, O b = some l → Mut (H b)) (w : Own K O H (New O H1) a sl) : Own K O' H' (New O' H1) a sl :=
  Own.mono x.toRx (fun b hb => by
    have m := lv b _ hb.1
    cases q : H b with
    | none => rw [q] at m; exact m.elim
    | some o =>
      obtain ⟨h1, h2⟩ := x.ext b o q hb.1
      exact ⟨⟨h2, hb.2⟩, h1⟩) w
theorem Paired.snocP {α β : Type} {P : α → β → Prop} {as : List α} {bs : List β} {a : α} {b : β} (h : Paired P as bs) (g : P a b) : Paired P (as ++ [a]) (bs ++ [b]) := by
  induction h with
  | nil => exact .cons g .nil
  | cons h t ih => exact .cons h ih
section
variable {K : PySem.W.Frag}
theorem lc_go2 {vs ts : List Nat} {tg : SG} {tt : SB} {te : SF} {σ : L2.St} {O1 : Ow} {H1 : Hp} {ρ1 ρ' : List Sl} {G1 G' : Gs} {J : It} {ds : List D} {acc : List (List D)} {D0 : Addr} {Q : Hp → Prop}
    (s1 : SR K O1 H1 σ ρ1 G1) (hJ : ItOk K J ds O1 H1) (hw : okW ρ1 vs = true) (hz : szOk ds.length = true) (hts : ∀ j ∈ ts, j ∈ vs) (e : lcLoop2 vs tg tt te ds [] ρ1 G1 = some (acc, ρ', G')) (hD : H1 D0 = none)
    (fin : ∀ O H, Ne O1 H1 O H → SR K O H σ (backS ρ1 ρ' vs) G' → Own K O H (New O H1) D0 (.m2 acc) → Q H) :
    ∃ W : Nat → Nat → Hp → Prop, (∃ m, W 0 m (upd H1 D0 (.lst []))) ∧ ∀ i m H, W i m H →
      (J.stop i H ∧ Q H) ∨ (J.go i H ∧ ∃ Nn : Hp → Prop, (∀ H', Nn H' → ∃ m', m' < m ∧ W (i + 1) m' H') ∧ ∀ x H', J.yld i H x H' → tG K ts tg x (wipe σ vs) H' fun σ2 H2 => wipe σ2 vs = wipe σ vs ∧ tQ K tt σ2 H2 fun b H3 =>
        if b = true then tN K te σ2 H3 fun y H4 => ∃ acc, H4 D0 = some (.lst acc) ∧ acc.length < sizeLine ∧ Nn (upd H4 D0 (.lst (acc ++ [y]))) else Nn H3) := by
  have fO : O1 D0 = none := s1.toGR.free hD
  have mut_l : ∀ xs : List V, Mut (some (.lst xs)) := fun _ => trivial
  refine ⟨fun i m H => ∃ O ρ G ac, m = ds.length - i ∧ i ≤ ds.length ∧ Ne O1 H1 O H ∧ SR K O H (wipe σ vs) (wipeS ρ vs) G ∧ Own K O H (New O H1) D0 (.m2 ac) ∧ ac.length ≤ i ∧ lcLoop2 vs tg tt te (ds.drop i) ac ρ G = some (acc, ρ', G'),
    ⟨ds.length, own O1 D0 (some .ext), ρ1, G1, [], rfl, Nat.zero_le _, nx_newO hD fO, (s1.newO hD (mut_l _)).wipe vs, ⟨⟨own_same, hD⟩, [], upd_same, List.nodup_nil, List.not_mem_nil, .nil⟩, Nat.le_refl _, e⟩, ?_⟩
  rintro i m H ⟨O, ρ, G, ac, rfl, hi, x, s, ra, hl, e⟩
  by_cases hlt : i < ds.length
  · have hd : ds.drop i = ds[i] :: ds.drop (i + 1) := List.drop_eq_getElem_cons hlt
    rw [hd] at e
    obtain ⟨go, yl⟩ := (hJ O H x.toNx).1 i ds[i] (List.getElem?_eq_getElem hlt)
    refine .inr ⟨go, fun H' => ∃ O ρ G ac, Ne O1 H1 O H' ∧ SR K O H' (wipe σ vs) (wipeS ρ vs) G ∧ Own K O H' (New O H1) D0 (.m2 ac) ∧ ac.length ≤ i + 1 ∧ lcLoop2 vs tg tt te (ds.drop (i + 1)) ac ρ G = some (acc, ρ', G'), fun H' ⟨O', ρ2, G2, ac2, h1, h2, h5, h6, h7⟩ => ⟨ds.length - (i + 1), by omega, O', ρ2, G2, ac2, rfl, hlt, h1, h2, h5, h6, h7⟩, fun y H' hy => ?_⟩
    obtain ⟨xy, sy, ry⟩ := yl y H' hy
    have s' := sy _ _ _ s
    have e : (match tg ds[i] (wipeS ρ vs) with
      | none => none
      | some ρ1 => bnd tt (fun k => if k = true then bnd te fun y => (match y with
        | .m1 ys => lcLoop2 vs tg tt te (ds.drop (i + 1)) (ac ++ [ys])
        | _ => fun _ _ => none) else lcLoop2 vs tg tt te (ds.drop (i + 1)) ac) ρ1 G) = some (acc, ρ', G') := e
    cases q1 : tg ds[i] (wipeS ρ vs) with
    | none => rw [q1] at e; cases e
    | some ρ2 =>
      rw [q1] at e
      dsimp only at e
      refine ⟨O, _, G, ds[i], ρ2, s', ry, q1, fun σ2 O2 H2 x2 s2 k2 => ?_⟩
      have ew : wipe σ2 vs = wipe σ vs := wipe_ext (by rw [k2.1, wipe_length]) fun j hj => by rw [k2.2 j fun z => hj (hts j z), wipe_out hj]
      refine ⟨ew, ?_⟩
      have x3 := x.trans (xy.trans x2)
      have ra2 : Own K O2 H2 (New O2 H1) D0 (.m2 ac) := Own.ne (xy.trans x2) s.live ra
      refine tQ.go s2 e fun b O3 H3 ρ3 G3 x4 s3 e3 => ?_
      have ra3 : Own K O3 H3 (New O3 H1) D0 (.m2 ac) := Own.ne x4 s2.live ra2
      cases b with
      | false =>
        have s4 := s3.wipe vs
        rw [ew] at s4
        exact ⟨O3, ρ3, G3, ac, x3.trans x4, s4, ra3, by omega, e3⟩
      | true =>
        rw [if_pos rfl] at e3 ⊢
        refine tN.go s3 e3 fun ya O4 H4 dy ρ4 G4 x5 s4 ry4 e4 => ?_
        cases dy <;> try (cases e4; done)
        case m1 ys =>
          dsimp only at e4
          obtain ⟨⟨hOa, hHa⟩, vs4, hH4, rv4⟩ := ry4
          have ra4 : Own K O4 H4 (New O4 H1) D0 (.m2 ac) := Own.ne x5 s3.live ra3
          obtain ⟨⟨hOD, _⟩, as3, hH3D, _, _, pr3⟩ := ra3
          obtain ⟨⟨hO4, _⟩, as, hHD, nd, na, pr⟩ := ra4
          have hD3 : H3 D0 ≠ none := nn hH3D
          have neD : ya ≠ D0 := fun z => hD3 (by rw [← z]; exact hHa)
          have eas : as = as3 := by
            have := (x5.ext D0 _ hH3D hOD).1
            rw [hHD] at this
            have := HO.lst.inj (Option.some.inj this)
            exact (List.map_inj_right (fun a b h => V.ref.inj h)).mp this
          have nas : ¬ ya ∈ as := fun z => by
            rw [eas] at z
            obtain ⟨_, _, us, h, _⟩ := paired_mem pr3 z
            exact nn h hHa
          have hlen : as.length = ac.length := Paired.length pr
          have rx : Rx O4 H4 O4 (upd H4 D0 (.lst ((as ++ [ya]).map V.ref))) := rx_wr (s4.live _ _ hO4) hO4
          have s5 := (s4.wrE (o := .lst ((as ++ [ya]).map V.ref)) hO4 (mut_l _)).wipe vs
          rw [ew] at s5
          have hx4 := (x3.trans (x4.trans x5))
          refine ⟨as.map V.ref, hHD, by rw [List.length_map, hlen]; have := szOk_lt hz; omega, O4, ρ4, G4, ac ++ [ys], ?_, ?_, ?_, by rw [List.length_append]; show ac.length + 1 ≤ _; omega, e4⟩
          · exact (x3.trans (x4.trans x5)).upE hD
          · rw [List.map_append] at s5; exact s5
          · refine ⟨⟨hO4, hD⟩, as ++ [ya], by rw [upd_same, List.map_append]; rfl, ?_, ?_, ?_⟩
            · exact List.nodup_append.mpr ⟨nd, (List.nodup_cons.mpr ⟨List.not_mem_nil, List.nodup_nil⟩), fun a ha b hb z => nas (by rw [List.mem_singleton.mp hb] at z; rw [← z]; exact ha)⟩
            · intro z
              rcases List.mem_append.mp z with z | z
              · exact na z
              · exact neD (List.mem_singleton.mp z).symm
            · have up : ∀ b, b ≠ D0 → upd H4 D0 (.lst (as.map V.ref ++ [V.ref ya])) b = H4 b := fun b hb => upd_ne hb
              rw [List.map_append] at rx
              refine Paired.snocP (Paired.mapP (pairedIn pr) fun b ds z => ?_) ?_
              · obtain ⟨⟨p, us, e1, r1⟩, hb⟩ := z
                exact ⟨p, us, by rw [up b (fun z => na (by rw [← z]; exact hb))]; exact e1, RepL.nx rx r1⟩
              · exact ⟨⟨hOa, hh_of (x3.trans x4) _ hHa⟩, vs4, by rw [up ya neD]; exact hH4, RepL.nx rx rv4⟩
  · have e1 : i = ds.length := by omega
    subst e1
    rw [List.drop_length] at e
    cases e
    exact .inl ⟨(hJ O H x.toNx).2, fin O H x (s1.back hw x.toRx s) ra⟩
end
section
variable {X : Cx} {elt tg iter : Expr} {ifs : List Expr} {scope : Scope} {own' : List (Str × Nat)} {pos : Pos} {ts : List Nat} {mi : SA} {g : SG} {tt : SB} {te : SF}
theorem lc_readN2 {K : PySem.W.Frag} {vs : List Nat} {σ : L2.St} {H : Hp} {Q : VK} (hts : ∀ j ∈ ts, j ∈ vs) (h : tN K (mLcN2 vs mi g tt te) σ H Q) : tLc (tI K mi) (tG K ts g) (tQ K tt) (tN K te) vs σ H Q := by
  obtain ⟨O, ρ, G, d, ρ', G', s, e, q⟩ := h
  obtain ⟨ds, ρ1, G1, e1, e2⟩ := bnd_eq e
  refine ⟨O, ρ, G, ds, ρ1, G1, s, e1, fun J O1 H1 x1 s1 hJ D0 hD => ?_⟩
  split at e2 <;> try (cases e2; done)
  rename_i hz
  obtain ⟨hw, hz⟩ := Bool.and_eq_true_iff.mp hz
  cases q1 : lcLoop2 vs g tt te ds [] ρ1 G1 with
  | none => rw [q1] at e2; cases e2
  | some p =>
    obtain ⟨acc, ρ2, G2⟩ := p
    rw [q1] at e2
    cases e2
    exact lc_go2 s1 hJ hw hz hts q1 hD fun O2 H2 x2 s2 w => q _ O2 H2 (x1.trans x2) s2 (w.back x1)
theorem dn_lc2 (own' : List (Str × Nat)) (hc : X.calm = true) (hN : X.N.Nodup) (hi : DI X tg iter mi) (ok : BlkOk X.N X.env.scope scope own')
    (hg : ∀ (s : Shared) (H : Hp) (C : Addr) (cl : List (Str × Addr)) (fp : List Addr), DG (X.blk s H scope (compEnvC scope cl C X.env) fp) tg ts g) (ht : ∀ (s : Shared) (H : Hp) (C : Addr) (cl : List (Str × Addr)) (fp : List Addr), DTs (X.blk s H scope (compEnvC scope cl C X.env) fp) ifs tt)
    (he : ∀ (s : Shared) (H : Hp) (C : Addr) (cl : List (Str × Addr)) (fp : List Addr), DN (X.blk s H scope (compEnvC scope cl C X.env) fp) elt te) (hts : ∀ j ∈ ts, j ∈ own'.map (·.2) := by decide) (hs : ∀ x, foldedSetIterable iter X.env x = pure x := by intro _; rfl) :
    DN X (.ListComp elt [⟨tg, iter, ifs, 0⟩] scope pos) (mLcN2 (own'.map (·.2)) mi g tt te) :=
  (pe_lc hc hN hi ok hg ht he hs).imp fun _ _ _ h => lc_readN2 hts h
theorem ds_setLcN2 {i : Nat} {y : Str} {py spos : Pos} (hc : X.calm = true) (hN : X.N.Nodup) (hi : DI X tg iter mi) (ok : BlkOk X.N X.env.scope scope own')
    (hg : ∀ (s : Shared) (H : Hp) (C : Addr) (cl : List (Str × Addr)) (fp : List Addr), DG (X.blk s H scope (compEnvC scope cl C X.env) fp) tg ts g) (ht : ∀ (s : Shared) (H : Hp) (C : Addr) (cl : List (Str × Addr)) (fp : List Addr), DTs (X.blk s H scope (compEnvC scope cl C X.env) fp) ifs tt)
    (he : ∀ (s : Shared) (H : Hp) (C : Addr) (cl : List (Str × Addr)) (fp : List Addr), DN (X.blk s H scope (compEnvC scope cl C X.env) fp) elt te) (hsw : swapsWith (.ListComp elt [⟨tg, iter, ifs, 0⟩] scope pos) (some (.Name y py)) spos.line X.env = pure true)
    (hyl : X.env.scope.names.lookup y = some .local := by rfl) (hy : X.N[i]? = some y := by rfl) (hts : ∀ j ∈ ts, j ∈ own'.map (·.2) := by decide) (hs : ∀ x, foldedSetIterable iter X.env x = pure x := by intro _; rfl) :
    DS X (.Assign [.Name y py] (.ListComp elt [⟨tg, iter, ifs, 0⟩] scope pos) spos) (sSet i (mLcN2 (own'.map (·.2)) mi g tt te)) :=
  (ps_setLc hc hN hy hyl hsw hi ok hg ht he hs).imp fun D σ H h => by
    have h' : tV X.K (mLcN2 (own'.map (·.2)) mi g tt te) σ H (fun x H1 => gName i x σ H1 D.nx) := set_read h
    obtain ⟨O, ρ, G, sl, ρ', G', s, e, q⟩ := h'
    refine lc_readN2 hts ⟨O, ρ, G, sl, ρ', G', s, e, fun a O' H' x s' w => q _ O' H' x s' ?_⟩
    cases sl with
    | un => exact w
    | im d => exact w.elim
    | _ => exact ⟨a, rfl, w⟩
end
/-- the end: the script alone is there -/
theorem law_end {K : PySem.W.Frag} {S : Sf} {a : Addr} {H : Hp} {ns : List Int} (hO : L2.Only H) (hS : SqL K H a (ns.map V.int)) (h : ∃ G', S [.scr ns] [] = some (.bl true, G')) : spD K 1 S [.ref a] H (fun v _ => v = .bl true) (fun _ _ _ => False) := by
  obtain ⟨G', h⟩ := h
  have hS : Scr K H a (ns.map V.int) := ⟨hS, by
    rcases hS with (h1 | ⟨o, h1⟩) | h1
    · rcases hO a with z | ⟨o, xs, z⟩
      · rw [h1] at z; cases z
      · rw [h1] at z; cases z
    · exact .inl ⟨o, _, h1⟩
    · exact .inr h1⟩
  refine ⟨fun _ => none, [.scr ns], [], .bl true, G', ⟨fun n ds e => by simp at e, fun n a b e => (by cases e), fun a n e => (by cases e), fun a l e => (by cases e)⟩, ⟨_, _, rfl, ⟨a, rfl, hS⟩, rfl⟩, rfl, h, fun v O' H' _ _ r => r⟩
end DL

/-! DL: zip of two tuples whose pairs are kept by a name. -/
namespace DL
open PySem PySem.Spec PyProof.Rows L2 RZ
section
variable {prog : Program} {w : World} {A : Around} {E : Value → Shared → Prop} {s : Shared}
/-- a zip that may hold the last pair it gave -/
abbrev ZipF (h : Heap) (z TI TO : Addr) (f0 : Value) (f : Bool) : Prop :=
  h.get? z = some { cls := .type "zip", dict := none, data := .fields #[f0, .bool f, .bool false, .ref TI, .ref TO], slots := #[] }
def HeldF (f0 : Value) : Prop := f0 = .none ∨ ∃ T : Addr, f0 = rawInt T
theorem alive_any {a : Addr} {Q : Option Obj → Shared → Prop} (h : Q (s.heap.get? a) s) : wpAny (model prog w) A (loadIfAlive a) Q E s := fun _ _ _ => h
theorem free_zip {z TI TO : Addr} {f0 : Value} {f : Bool} {Q : Bool → Shared → Prop} (hz : ZipF s.heap z TI TO f0 f) (h0 : HeldF f0) (ht : Q true s)
    (hf : ∀ h', ZipF h' z TI TO f0 true → Heap.SameBut z s.heap h' → Q false { s with heap := h' }) : wpAny (model prog w) A (Builtin.SmallTypes.ownedTupleIsFree (.ref z)) Q E s := by
  unfold Builtin.SmallTypes.ownedTupleIsFree
  refine wpAny_bind (wpAny_field hz rfl (x := f0) rfl ?_)
  rcases h0 with e | ⟨T, e⟩
  · subst e
    exact wpAny_pure ht
  · subst e
    show wpAny _ _ (loadIfAlive ((T : Int).toNat) >>= _) _ _ _
    rw [Int.toNat_natCast]
    refine wpAny_bind (alive_any ?_)
    cases hT : s.heap.get? T with
    | none => exact wpAny_pure ht
    | some oT =>
      simp only [Option.isNone_some, Bool.false_eq_true, if_false]
      refine wpAny_bind (wpAny_field hz rfl (x := .bool f) rfl ?_)
      cases f with
      | true =>
        rw [if_neg (show ¬ ((Value.bool true != Value.bool true) = true) from Bool.false_ne_true)]
        exact wpAny_pure (hf s.heap hz (Heap.SameBut.refl _ _))
      | false =>
        rw [if_pos (show (Value.bool false != Value.bool true) = true from rfl)]
        exact wpAny_bind (wpAny_setField_rec hz (by simp) fun h₁ hz₁ hs₁ => wpAny_pure (hf h₁ hz₁ hs₁))
theorem zipN_item {z TI TO i1 i2 l1 l2 : Addr} {k1 k2 : Nat} {xs ys : Array Value} {x y a b f0 : Value} {f : Bool} {Q : Value → Shared → Prop} (D : ZipApart z TI TO i1 i2 l1 l2)
    (hz : ZipF s.heap z TI TO f0 f) (h0 : HeldF f0) (hTI : IsPair s.heap TI (.ref i1) (.ref i2)) (hTO : IsPair s.heap TO a b)
    (h1 : s.heap.IsTupleIter i1 l1 k1) (h2 : s.heap.IsTupleIter i2 l2 k2) (hl1 : s.heap.IsTuple l1 xs) (hl2 : s.heap.IsTuple l2 ys) (hx : xs[k1]? = some x) (hy : ys[k2]? = some y)
    (hQ : ∀ h' g0 g a' b', ZipF h' z TI TO g0 g → HeldF g0 → IsPair h' TO a' b' → h'.IsTupleIter i1 l1 (k1 + 1) → h'.IsTupleIter i2 l2 (k2 + 1) → IsPair h' s.heap.objs.size x y → h'.objs.size = s.heap.objs.size + 1 →
      (∀ c o, c ≠ z → c ≠ TO → c ≠ i1 → c ≠ i2 → s.heap.get? c = some o → h'.get? c = some o) → Q (.ref s.heap.objs.size) { s with heap := h' }) :
    wpAny (model prog w) A (Builtin.«zip.__next__» ⟨[.ref z], []⟩) (fun fin s' => ∃ v, fin = .done (.ret v) ∧ Q v s') E s := by
  show wpAny _ _ (field (.ref z) 2 >>= _) _ _ _
  refine wpAny_bind (wpAny_field hz rfl (x := .bool false) rfl ?_)
  show wpAny _ _ (field (.ref z) 3 >>= _) _ _ _
  refine wpAny_bind (wpAny_field hz rfl (x := .ref TI) rfl ?_)
  refine wpAny_bind (wpAny_seqItems hTI rfl ?_)
  show wpAny _ _ (Builtin.SmallTypes.ownedTupleIsFree (.ref z) >>= _) _ _ _
  refine wpAny_bind (free_zip hz h0 ?_ fun h₁ hz₁ hs₁ => ?_)
  · -- the pair it keeps is given anew
    simp only [if_true]
    refine wpAny_bind (wpAny_rule ?_)
    refine wpAny_bind (wpAny_field hz rfl (x := .ref TO) rfl ?_)
    refine wpAny_bind (wpAny_setField_rec hz (by simp) fun h₁ hz₁ hs₁ => ?_)
    replace hz₁ : ZipF h₁ z TI TO .ellipsis f := hz₁
    refine wpAny_bind ?_
    simp only [List.zipIdx_cons, List.zipIdx_nil, List.forIn_cons, List.forIn_nil]
    refine wpAny_bind (wpAny_bind (wpAny_onRaise ?_))
    show wpAny _ _ (Builtin.SmallTypes.nextOf (.ref i1) >>= _) _ _ _
    refine wpAny_bind (nextOf_tuple_item (h1.extBut hs₁.extBut D.i1z) (hl1.extBut hs₁.extBut D.l1z) hx fun h₂ h1₂ hs₂ => wpAny_pure ?_)
    have hTO₂ : IsPair h₂ TO a b := hs₂.extBut _ _ D.TOi1 (hs₁.extBut _ _ D.TOz hTO)
    refine wpAny_bind (wpAny_seqItems hTO₂ rfl ?_)
    refine wpAny_bind (wpAny_updateSeq_pair hTO₂ fun h₃ hTO₃ hs₃ => ?_)
    replace hTO₃ : IsPair h₃ TO x b := hTO₃
    refine wpAny_bind (wpAny_letGo (wpAny_pure ?_))
    refine wpAny_bind (wpAny_bind (wpAny_onRaise ?_))
    show wpAny _ _ (Builtin.SmallTypes.nextOf (.ref i2) >>= _) _ _ _
    refine wpAny_bind (nextOf_tuple_item (((h2.extBut hs₁.extBut D.i2z).extBut hs₂.extBut D.i12.symm).extBut hs₃.extBut D.TOi2.symm)
      (((hl2.extBut hs₁.extBut D.l2z).extBut hs₂.extBut D.l2i1).extBut hs₃.extBut D.l2TO) hy fun h₄ h2₄ hs₄ => wpAny_pure ?_)
    have hTO₄ : IsPair h₄ TO x b := hs₄.extBut _ _ D.TOi2 hTO₃
    refine wpAny_bind (wpAny_seqItems hTO₄ rfl ?_)
    refine wpAny_bind (wpAny_updateSeq_pair hTO₄ fun h₅ hTO₅ hs₅ => ?_)
    replace hTO₅ : IsPair h₅ TO x y := hTO₅
    refine wpAny_bind (wpAny_letGo (wpAny_pure (wpAny_pure ?_)))
    refine wpAny_bind (wpAny_seqItems hTO₅ rfl ?_)
    refine wpAny_bind (wpAny_newTuple ?_)
    have hsz : h₅.objs.size = s.heap.objs.size := by rw [hs₅.1, hs₄.1, hs₃.1, hs₂.1, hs₁.1]
    have hz₅ : ZipF h₅ z TI TO .ellipsis f := hs₅.extBut _ _ D.TOz.symm (hs₄.extBut _ _ D.i2z.symm (hs₃.extBut _ _ D.TOz.symm (hs₂.extBut _ _ D.i1z.symm hz₁)))
    have hk₅ : ∀ c o, c ≠ z → c ≠ TO → c ≠ i1 → c ≠ i2 → s.heap.get? c = some o → h₅.get? c = some o := fun c o c1 c2 c3 c4 e =>
      hs₅.extBut _ _ c2 (hs₄.extBut _ _ c4 (hs₃.extBut _ _ c2 (hs₂.extBut _ _ c3 (hs₁.extBut _ _ c1 e))))
    have h1₅ : h₅.IsTupleIter i1 l1 (k1 + 1) := ((h1₂.extBut hs₃.extBut D.TOi1.symm).extBut hs₄.extBut D.i12).extBut hs₅.extBut D.TOi1.symm
    have h2₅ : h₅.IsTupleIter i2 l2 (k2 + 1) := h2₄.extBut hs₅.extBut D.TOi2.symm
    have hzlt : z < h₅.objs.size := Heap.lt_size hz₅
    show wpAny _ _ (Builtin.SmallTypes.ownedTupleHandOut (.ref z) (.ref h₅.objs.size) >>= _) _ _ _
    refine wpAny_bind ?_
    unfold Builtin.SmallTypes.ownedTupleHandOut
    have hz₆ : ZipF (h₅.push { cls := .type "tuple", data := .seq #[x, y] }) z TI TO .ellipsis f := Heap.get?_push_of_some _ hz₅
    refine wpAny_bind (wpAny_setField_rec hz₆ (by simp) fun h₇ hz₇ hs₇ => ?_)
    replace hz₇ : ZipF h₇ z TI TO (rawInt h₅.objs.size) f := hz₇
    refine wpAny_setField_rec hz₇ (by simp) fun h₈ hz₈ hs₈ => ?_
    replace hz₈ : ZipF h₈ z TI TO (rawInt h₅.objs.size) false := hz₈
    have up : ∀ c o, c ≠ z → h₅.get? c = some o → h₈.get? c = some o := fun c o c1 e => hs₈.extBut _ _ c1 (hs₇.extBut _ _ c1 (Heap.get?_push_of_some _ e))
    have hT₈ : IsPair h₈ h₅.objs.size x y := hs₈.extBut _ _ (Nat.ne_of_gt hzlt) (hs₇.extBut _ _ (Nat.ne_of_gt hzlt) (Heap.get?_push_size _ rfl))
    have hz8 : h₈.objs.size = h₅.objs.size + 1 := by rw [hs₈.1, hs₇.1, Heap.size_push]
    rw [hsz] at hz₈ hT₈ hz8
    refine wpAny_pure ⟨_, rfl, ?_⟩
    show Q (.ref h₅.objs.size) _
    rw [hsz]
    exact hQ h₈ _ _ _ _ hz₈ (.inr ⟨_, rfl⟩) (up _ _ D.TOz hTO₅) (h1₅.at fun o e => up _ o D.i1z e) (h2₅.at fun o e => up _ o D.i2z e) hT₈ hz8 fun c o c1 c2 c3 c4 e => up c o c1 (hk₅ c o c1 c2 c3 c4 e)
  · -- the last pair lives: a new one
    simp only [Bool.false_eq_true, if_false]
    refine wpAny_bind ?_
    rw [← Array.forIn_toList]
    simp only [List.forIn_cons, List.forIn_nil]
    refine wpAny_bind (wpAny_bind (wpAny_holding ?_))
    show wpAny _ _ (Builtin.SmallTypes.nextOf (.ref i1) >>= _) _ _ _
    refine wpAny_bind (nextOf_tuple_item (s := { s with heap := h₁ }) (h1.extBut hs₁.extBut D.i1z) (hl1.extBut hs₁.extBut D.l1z) hx fun h₂ h1₂ hs₂ => wpAny_pure ?_)
    refine wpAny_pure ?_
    refine wpAny_bind (wpAny_bind (wpAny_holding ?_))
    show wpAny _ _ (Builtin.SmallTypes.nextOf (.ref i2) >>= _) _ _ _
    refine wpAny_bind (nextOf_tuple_item (s := { s with heap := h₂ }) ((h2.extBut hs₁.extBut D.i2z).extBut hs₂.extBut D.i12.symm) ((hl2.extBut hs₁.extBut D.l2z).extBut hs₂.extBut D.l2i1) hy fun h₃ h2₃ hs₃ => wpAny_pure ?_)
    refine wpAny_pure (wpAny_pure ?_)
    show wpAny _ _ (newTuple [x, y] >>= _) _ _ _
    refine wpAny_bind (wpAny_newTuple ?_)
    have hsz : h₃.objs.size = s.heap.objs.size := by rw [hs₃.1, hs₂.1, hs₁.1]
    have hz₃ : ZipF h₃ z TI TO f0 true := hs₃.extBut _ _ D.i2z.symm (hs₂.extBut _ _ D.i1z.symm hz₁)
    have hk : ∀ c o, c ≠ z → c ≠ i1 → c ≠ i2 → s.heap.get? c = some o → h₃.get? c = some o := fun c o c1 c2 c3 e => hs₃.extBut _ _ c3 (hs₂.extBut _ _ c2 (hs₁.extBut _ _ c1 e))
    have h1₃ : h₃.IsTupleIter i1 l1 (k1 + 1) := h1₂.extBut hs₃.extBut D.i12
    refine wpAny_pure ⟨_, rfl, ?_⟩
    show Q (.ref h₃.objs.size) _
    have hp : IsPair (h₃.push { cls := .type "tuple", data := .seq #[x, y] }) h₃.objs.size x y := Heap.get?_push_size _ rfl
    have hz4 : (h₃.push { cls := .type "tuple", data := .seq #[x, y] }).objs.size = h₃.objs.size + 1 := Heap.size_push ..
    rw [hsz] at hp hz4 ⊢
    exact hQ _ _ _ _ _ (Heap.get?_push_of_some _ hz₃) h0 (Heap.get?_push_of_some _ (hk _ _ D.TOz D.TOi1 D.TOi2 hTO)) (h1₃.at fun o e => Heap.get?_push_of_some _ e) (h2₃.at fun o e => Heap.get?_push_of_some _ e) hp hz4 fun c o c1 c2 c3 c4 e => Heap.get?_push_of_some _ (hk c o c1 c3 c4 e)
theorem zipN_end {z TI TO i1 i2 l1 l2 : Addr} {k1 k2 : Nat} {xs ys : Array Value} {a b f0 : Value} {f : Bool} {Q : PySem.Fin → Shared → Prop} (hh : A.handled = none) (D : ZipApart z TI TO i1 i2 l1 l2)
    (hz : ZipF s.heap z TI TO f0 f) (h0 : HeldF f0) (hTI : IsPair s.heap TI (.ref i1) (.ref i2)) (hTO : IsPair s.heap TO a b)
    (h1 : s.heap.IsTupleIter i1 l1 k1) (h2 : s.heap.IsTupleIter i2 l2 k2) (hl1 : s.heap.IsTuple l1 xs) (hl2 : s.heap.IsTuple l2 ys) (hend : xs[k1]? = none ∨ ys[k2]? = none)
    (hE : ∀ h' e, (∀ c o, c ≠ z → c ≠ TO → c ≠ i1 → c ≠ i2 → s.heap.get? c = some o → h'.get? c = some o) → (∃ o, h'.get? e = some o ∧ o.cls = .type "StopIteration") → E (.ref e) { s with heap := h' }) :
    wpAny (model prog w) A (Builtin.«zip.__next__» ⟨[.ref z], []⟩) Q E s := by
  show wpAny _ _ (field (.ref z) 2 >>= _) _ _ _
  refine wpAny_bind (wpAny_field hz rfl (x := .bool false) rfl ?_)
  show wpAny _ _ (field (.ref z) 3 >>= _) _ _ _
  refine wpAny_bind (wpAny_field hz rfl (x := .ref TI) rfl ?_)
  refine wpAny_bind (wpAny_seqItems hTI rfl ?_)
  show wpAny _ _ (Builtin.SmallTypes.ownedTupleIsFree (.ref z) >>= _) _ _ _
  refine wpAny_bind (free_zip hz h0 ?_ fun h₁ hz₁ hs₁ => ?_)
  · simp only [if_true]
    refine wpAny_bind (wpAny_rule ?_)
    refine wpAny_bind (wpAny_field hz rfl (x := .ref TO) rfl ?_)
    refine wpAny_bind (wpAny_setField_rec hz (by simp) fun h₁ hz₁ hs₁ => ?_)
    replace hz₁ : ZipF h₁ z TI TO .ellipsis f := hz₁
    refine wpAny_bind ?_
    simp only [List.zipIdx_cons, List.zipIdx_nil, List.forIn_cons, List.forIn_nil]
    refine wpAny_bind (wpAny_bind (wpAny_onRaise ?_))
    show wpAny _ _ (Builtin.SmallTypes.nextOf (.ref i1) >>= _) _ _ _
    cases hx : xs[k1]? with
    | none =>
      refine wpAny_bind (nextOf_tuple_end hh (h1.extBut hs₁.extBut D.i1z) (hl1.extBut hs₁.extBut D.l1z) hx fun h₂ e hs₂ he => ?_)
      obtain ⟨oe, hoe, hce⟩ := he
      have hz₂ : ZipF h₂ z TI TO .ellipsis f := hs₂ _ _ D.i1z.symm hz₁
      have hez : e ≠ z := fun x => by subst x; rw [hz₂] at hoe; cases hoe; simp at hce
      refine wpAny_setField_rec hz₂ (by simp) fun h₃ _ hs₃ => hE h₃ e (fun c o c1 _ c3 _ x => hs₃.extBut _ _ c1 (hs₂ _ _ c3 (hs₁.extBut _ _ c1 x))) ⟨oe, hs₃.extBut _ _ hez hoe, hce⟩
    | some x =>
      have hy : ys[k2]? = none := by rcases hend with h | h; rw [hx] at h; cases h; exact h
      refine wpAny_bind (nextOf_tuple_item (h1.extBut hs₁.extBut D.i1z) (hl1.extBut hs₁.extBut D.l1z) hx fun h₂ h1₂ hs₂ => wpAny_pure ?_)
      have hTO₂ : IsPair h₂ TO a b := hs₂.extBut _ _ D.TOi1 (hs₁.extBut _ _ D.TOz hTO)
      refine wpAny_bind (wpAny_seqItems hTO₂ rfl ?_)
      refine wpAny_bind (wpAny_updateSeq_pair hTO₂ fun h₃ hTO₃ hs₃ => ?_)
      refine wpAny_bind (wpAny_letGo (wpAny_pure ?_))
      refine wpAny_bind (wpAny_bind (wpAny_onRaise ?_))
      show wpAny _ _ (Builtin.SmallTypes.nextOf (.ref i2) >>= _) _ _ _
      refine wpAny_bind (nextOf_tuple_end hh (((h2.extBut hs₁.extBut D.i2z).extBut hs₂.extBut D.i12.symm).extBut hs₃.extBut D.TOi2.symm)
        (((hl2.extBut hs₁.extBut D.l2z).extBut hs₂.extBut D.l2i1).extBut hs₃.extBut D.l2TO) hy fun h₄ e hs₄ he => ?_)
      obtain ⟨oe, hoe, hce⟩ := he
      have hz₄ : ZipF h₄ z TI TO .ellipsis f := hs₄ _ _ D.i2z.symm (hs₃.extBut _ _ D.TOz.symm (hs₂.extBut _ _ D.i1z.symm hz₁))
      have hez : e ≠ z := fun x => by subst x; rw [hz₄] at hoe; cases hoe; simp at hce
      refine wpAny_setField_rec hz₄ (by simp) fun h₅ _ hs₅ => hE h₅ e (fun c o c1 c2 c3 c4 x => hs₅.extBut _ _ c1 (hs₄ _ _ c4 (hs₃.extBut _ _ c2 (hs₂.extBut _ _ c3 (hs₁.extBut _ _ c1 x))))) ⟨oe, hs₅.extBut _ _ hez hoe, hce⟩
  · simp only [Bool.false_eq_true, if_false]
    refine wpAny_bind ?_
    rw [← Array.forIn_toList]
    simp only [List.forIn_cons, List.forIn_nil]
    refine wpAny_bind (wpAny_bind (wpAny_holding ?_))
    show wpAny _ _ (Builtin.SmallTypes.nextOf (.ref i1) >>= _) _ _ _
    cases hx : xs[k1]? with
    | none =>
      refine wpAny_bind (nextOf_tuple_end (s := { s with heap := h₁ }) hh (h1.extBut hs₁.extBut D.i1z) (hl1.extBut hs₁.extBut D.l1z) hx fun h₂ e hs₂ he => ?_)
      exact hE h₂ e (fun c o c1 _ c3 _ x => hs₂ _ _ c3 (hs₁.extBut _ _ c1 x)) he
    | some x =>
      have hy : ys[k2]? = none := by rcases hend with h | h; rw [hx] at h; cases h; exact h
      refine wpAny_bind (nextOf_tuple_item (s := { s with heap := h₁ }) (h1.extBut hs₁.extBut D.i1z) (hl1.extBut hs₁.extBut D.l1z) hx fun h₂ h1₂ hs₂ => wpAny_pure ?_)
      refine wpAny_pure ?_
      refine wpAny_bind (wpAny_bind (wpAny_holding ?_))
      show wpAny _ _ (Builtin.SmallTypes.nextOf (.ref i2) >>= _) _ _ _
      refine wpAny_bind (nextOf_tuple_end (s := { s with heap := h₂ }) hh ((h2.extBut hs₁.extBut D.i2z).extBut hs₂.extBut D.i12.symm) ((hl2.extBut hs₁.extBut D.l2z).extBut hs₂.extBut D.l2i1) hy fun h₃ e hs₃ he => ?_)
      exact hE h₃ e (fun c o c1 _ c3 c4 x => hs₃ _ _ c4 (hs₂.extBut _ _ c3 (hs₁.extBut _ _ c1 x))) he
theorem pyNext_zipN_item {z TI TO i1 i2 l1 l2 : Addr} {k1 k2 : Nat} {xs ys : Array Value} {x y a b f0 : Value} {f : Bool} {Q : Option Value → Shared → Prop} (D : ZipApart z TI TO i1 i2 l1 l2)
    (hz : ZipF s.heap z TI TO f0 f) (h0 : HeldF f0) (hTI : IsPair s.heap TI (.ref i1) (.ref i2)) (hTO : IsPair s.heap TO a b)
    (h1 : s.heap.IsTupleIter i1 l1 k1) (h2 : s.heap.IsTupleIter i2 l2 k2) (hl1 : s.heap.IsTuple l1 xs) (hl2 : s.heap.IsTuple l2 ys) (hx : xs[k1]? = some x) (hy : ys[k2]? = some y)
    (hQ : ∀ h' g0 g a' b', ZipF h' z TI TO g0 g → HeldF g0 → IsPair h' TO a' b' → h'.IsTupleIter i1 l1 (k1 + 1) → h'.IsTupleIter i2 l2 (k2 + 1) → IsPair h' s.heap.objs.size x y → h'.objs.size = s.heap.objs.size + 1 →
      (∀ c o, c ≠ z → c ≠ TO → c ≠ i1 → c ≠ i2 → s.heap.get? c = some o → h'.get? c = some o) → Q (some (.ref s.heap.objs.size)) { s with heap := h' }) :
    wpAny (model prog w) A (pyNext (.ref z)) Q E s := by
  have hT : s.TypeIs (.ref z) "zip" := ⟨_, hz, rfl⟩
  unfold pyNext
  exact wpAny_bind (wpAny_attempt (wpAny_callSpecial?_slot (name := Str.ofString "__next__") hT F.slot_zip_next
    (wpAny_call_entry F.slot_zip_next hT F.entry_zip_next
      (zipN_item D hz h0 hTI hTO h1 h2 hl1 hl2 hx hy fun h' g0 g a' b' a1 a0 a2 a3 a4 a5 a6 a7 => wpAny_pure (hQ h' g0 g a' b' a1 a0 a2 a3 a4 a5 a6 a7)) (F.args_zip_next_1 _))))
theorem pyNext_zipN_end {z TI TO i1 i2 l1 l2 : Addr} {k1 k2 : Nat} {xs ys : Array Value} {a b f0 : Value} {f : Bool} {Q : Option Value → Shared → Prop} (hh : A.handled = none) (D : ZipApart z TI TO i1 i2 l1 l2)
    (hz : ZipF s.heap z TI TO f0 f) (h0 : HeldF f0) (hTI : IsPair s.heap TI (.ref i1) (.ref i2)) (hTO : IsPair s.heap TO a b)
    (h1 : s.heap.IsTupleIter i1 l1 k1) (h2 : s.heap.IsTupleIter i2 l2 k2) (hl1 : s.heap.IsTuple l1 xs) (hl2 : s.heap.IsTuple l2 ys) (hend : xs[k1]? = none ∨ ys[k2]? = none)
    (hQ : ∀ h', (∀ c o, c ≠ z → c ≠ TO → c ≠ i1 → c ≠ i2 → s.heap.get? c = some o → h'.get? c = some o) → Q none { s with heap := h' }) : wpAny (model prog w) A (pyNext (.ref z)) Q E s := by
  have hT : s.TypeIs (.ref z) "zip" := ⟨_, hz, rfl⟩
  unfold pyNext
  refine wpAny_bind (wpAny_attempt (wpAny_callSpecial?_slot (name := Str.ofString "__next__") hT F.slot_zip_next
    (wpAny_call_entry F.slot_zip_next hT F.entry_zip_next (zipN_end hh D hz h0 hTI hTO h1 h2 hl1 hl2 hend fun h' e hk he => ?_) (F.args_zip_next_1 _))))
  obtain ⟨o, ho, hc⟩ := he
  refine wpAny_bind (wpAny_isInstance (T := "StopIteration") (b := true) ⟨o, ho, hc⟩ isSubtype_stop ?_)
  exact wpAny_pure (hQ _ hk)
end
theorem turn_zipN {P : Program} {w : World} {K : PySem.W.Frag} {nm : Str} {tpos : Pos} {a b z TI TO i1 i2 : Addr} (D : ZipApart z TI TO i1 i2 a b) :
    Turn P w K (.Name nm tpos) (ItzT K a b) [z, TI, TO, i1, i2] z (fun i h => (∃ f0 f, ZipF h z TI TO f0 f ∧ HeldF f0) ∧ IsPair h TI (.ref i1) (.ref i2) ∧ (∃ x y, IsPair h TO x y) ∧ h.IsTupleIter i1 a i ∧ h.IsTupleIter i2 b i) where
  mem := by simp
  obj := fun i h st c hc => by
    obtain ⟨⟨f0, f, hz, _⟩, hTI, ⟨x, y, hTO⟩, ⟨o1, e1, _, d1⟩, ⟨o2, e2, _, d2⟩⟩ := st
    have e' : c = z ∨ c = TI ∨ c = TO ∨ c = i1 ∨ c = i2 := by simpa using hc
    rcases e' with q | q | q | q | q
    · rw [q]; exact ⟨_, hz, fun v q => nomatch q⟩
    · rw [q]; exact ⟨_, hTI, fun v q => nomatch q⟩
    · rw [q]; exact ⟨_, hTO, fun v q => nomatch q⟩
    · rw [q]; exact ⟨o1, e1, fun v q => by rw [d1] at q; cases q⟩
    · rw [q]; exact ⟨o2, e2, fun v q => by rw [d2] at q; cases q⟩
  keep := fun i h h' st k => by
    obtain ⟨⟨f0, f, hz, h0⟩, hTI, ⟨x, y, hTO⟩, h1, h2⟩ := st
    exact ⟨⟨f0, f, k z (by simp) _ hz, h0⟩, k TI (by simp) _ hTI, ⟨x, y, k TO (by simp) _ hTO⟩, h1.at fun o q => k i1 (by simp) o q, h2.at fun o q => k i2 (by simp) o q⟩
  item := by
    intro X hP hw hK hc i pins s σ H E I hf st hg
    subst hP hw hK
    obtain ⟨⟨f0, f, hz, h0⟩, hTI, ⟨x0, y0, hTO⟩, h1, h2⟩ := st
    obtain ⟨xs, ys, x, y, hqx, hqy, hx, hy⟩ := hg
    obtain ⟨its, rv, p, _⟩ := I.tuple hqx
    obtain ⟨its2, rv2, p2, _⟩ := I.tuple hqy
    obtain ⟨u, hu, ru⟩ := rv.get hx
    obtain ⟨u2, hu2, ru2⟩ := rv2.get hy
    have hzl : z < s.heap.objs.size := Heap.lt_size hz
    refine pyNext_zipN_item D hz h0 hTI hTO h1 h2 p p2 (x := u) (y := u2) (by simpa using hu) (by simpa using hu2) fun h' g0 g a' b' z' g0' TO' h1' h2' hT hsz hk => ?_
    refine ⟨_, rfl, wpAny_pure ?_⟩
    have new : ObjOk X.prog X.w (upd H s.heap.objs.size (.tup [x, y])) h' s.heap.objs.size (.tup [x, y]) :=
      ⟨by show 2 ≤ sizeLine; decide, [u, u2], .cons ru (.cons ru2 .nil), ⟨_, hT, rfl, _, rfl⟩⟩
    have I1 : Inv X pins σ (upd H s.heap.objs.size (.tup [x, y])) { s with heap := h' } :=
      I.turnedNew (t' := s.toks) (ch := [z, TI, TO, i1, i2]) (fun c o hb q => hk c o (fun q' => hb (by simp [q'])) (fun q' => hb (by simp [q'])) (fun q' => hb (by simp [q'])) (fun q' => hb (by simp [q'])) q) hf (Nat.le_refl _) new
    refine ⟨.ref s.heap.objs.size, _, I1, rfl, ⟨_, x, y, rfl, I.hok.fresh (Nat.le_refl _), rfl, fun l hl => by rw [I.tuple_inj hl hqx]; exact hx, fun l hl => by rw [I.tuple_inj hl hqy]; exact hy⟩, ⟨⟨g0, g, z', g0'⟩, ?_, ⟨a', b', TO'⟩, h1', h2'⟩, fun c hcm => ?_⟩
    · exact hk _ _ D.TIz D.TITO D.TIi1 D.TIi2 hTI
    · have hlt : c < s.heap.objs.size := by
        have e' : c = z ∨ c = TI ∨ c = TO ∨ c = i1 ∨ c = i2 := by simpa using hcm
        rcases e' with q | q | q | q | q
        · rw [q]; exact hzl
        · rw [q]; exact Heap.lt_size hTI
        · rw [q]; exact Heap.lt_size hTO
        · rw [q]; obtain ⟨_, e1, _⟩ := h1; exact Heap.lt_size e1
        · rw [q]; obtain ⟨_, e2, _⟩ := h2; exact Heap.lt_size e2
      rw [upd_ne (Nat.ne_of_lt hlt)]
      exact (hf c hcm).1
  done := by
    intro X hP hw hK hc i pins s σ H E I hf st hg
    subst hP hw hK
    obtain ⟨⟨f0, f, hz, h0⟩, hTI, ⟨x0, y0, hTO⟩, h1, h2⟩ := st
    obtain ⟨xs, ys, hqx, hqy, hend⟩ := hg
    obtain ⟨its, rv, p, _⟩ := I.tuple hqx
    obtain ⟨its2, rv2, p2, _⟩ := I.tuple hqy
    have l1 := rv.length
    have l2 := rv2.length
    have he : its.toArray[i]? = none ∨ its2.toArray[i]? = none := by
      rcases hend with q | q
      · exact .inl (by simp; omega)
      · exact .inr (by simp; omega)
    exact pyNext_zipN_end (I.ok.hd hc) D hz h0 hTI hTO h1 h2 p p2 he fun h' hk => ⟨rfl, I.turnedL (t' := s.toks) (ch := [z, TI, TO, i1, i2]) (fun c o hb q =>
      hk c o (fun q' => hb (by simp [q'])) (fun q' => hb (by simp [q'])) (fun q' => hb (by simp [q'])) (fun q' => hb (by simp [q'])) q) hf⟩
  self := fun A i s Q E st h => by
    obtain ⟨⟨f0, f, hz, h0⟩, _⟩ := st
    have hT : s.TypeIs (.ref z) "zip" := ⟨_, hz, rfl⟩
    refine wpAny_pyIter_slot hT F.slot_zip_iter (wpAny_call_entry F.slot_zip_iter hT F.entry_zip_iter ?_ (F.args_zip_iter_1 _))
    show wpAny _ _ (PySem.ret (.ref z)) _ _ s
    exact wpAny_pure ⟨_, rfl, "zip", _, hT, F.slot_zip_next.lookup, h⟩
/-- zip(a, b) of two tuples, the pairs in a name -/
def iZipN (K : PySem.W.Frag) (ta : TA) : TI := fun σ H R => ta σ H fun vs H1 => ∃ a b xs ys, vs = [.ref a, .ref b] ∧ SqT K H1 a xs ∧ SqT K H1 b ys ∧ R (ItzT K a b) H1
theorem pi_zipN {X : Cx} {e e2 : Expr} {ta : TA} {p pos tpos : Pos} {nm : Str} (hg : Gl X "zip") (hm : X.mg "zip" = none) (ha : PA X [e, e2] ta)
    (hs : starEach [e, e2] X.env = (false, eval e X.env) :: starEach [e2] X.env := by rfl) (hpl : (backTo pos (starEach [e2] X.env)).any (·.1) = false := by rfl) :
    PI X (.Name nm tpos) (.Call (.Name "zip" p) [e, e2] [] pos) (iZipN X.K ta) := by
  refine ⟨fun pins s σ H R I h => ?_⟩
  refine Call_ (ld_blt I hg hm PyProof.Rows.boot_zip (PyProof.Rows.callWith_type1 (thn (ha.run pos pins s σ H _ I h) fun us s1 ⟨vs, H1, I1, r1, q1⟩ => ?_) hs hpl))
  obtain ⟨a, b, xs, ys, ex, hqx, hqy, q⟩ := q1
  subst ex
  cases r1 with
  | cons r rr =>
    cases rr with
    | cons r' rr =>
      cases rr
      cases r
      cases r'
      obtain ⟨its, rv, p1, _⟩ := I1.tuple hqx
      obtain ⟨its2, rv2, p2, _⟩ := I1.tuple hqy
      obtain ⟨o1, ho1, _⟩ := id p1
      obtain ⟨o2, ho2, _⟩ := id p2
      refine call_zipT (show s1.heap.IsTuple a its.toArray from p1) (show s1.heap.IsTuple b its2.toArray from p2) fun h' hz hTI hTO h1 h2 hsz hk => wpAny_pyIter_zip hz ?_
      have I2 : Inv X pins σ H1 { s1 with heap := h' } := I1.kept (t' := s1.toks) hk
      refine ⟨s1.heap.objs.size + 4, [s1.heap.objs.size + 4, s1.heap.objs.size + 2, s1.heap.objs.size + 3, s1.heap.objs.size, s1.heap.objs.size + 1], _, _, H1, rfl, I2, turn_zipN (PySem.W.ktu_apart s1.heap.objs.size a b (Heap.lt_size ho1) (Heap.lt_size ho2)), ⟨⟨_, _, hz, .inl rfl⟩, hTI, ⟨_, _, hTO⟩, h1, h2⟩, fun c hcm => ?_, q⟩
      have hle : s1.heap.objs.size ≤ c := by
        have e' : c = s1.heap.objs.size + 4 ∨ c = s1.heap.objs.size + 2 ∨ c = s1.heap.objs.size + 3 ∨ c = s1.heap.objs.size ∨ c = s1.heap.objs.size + 1 := by simpa using hcm
        rcases e' with e | e | e | e | e <;> rw [e] <;> first | exact Nat.le_add_right _ _ | exact Nat.le_refl _
      exact I1.fpOk hle (I1.hok.fresh hle)
end DL

/-! DL: more things to walk through. -/
namespace DL
open PySem PySem.Spec PyProof.Rows L2
section
variable {X : Cx} {a b : Expr} {ma mb : SE} {pos : Pos}
/-- zip of two tuples, each pair in a name -/
def dZipN : D → D → Option (List D)
  | .tup xs, .tup ys => some (zipD xs ys)
  | _, _ => none
def mZipN (a b : SE) : SA := bnd a fun d => bnd b fun e => lft (dZipN d e)
theorem di_zipN {nm : Str} {tpos p : Pos} (hm : X.mg "zip" = none) (ha : DE X a ma) (hb : DE X b mb) (hg : Gl X "zip" := by rfl) (he2 : starEach [b] X.env = (false, eval b X.env) :: starEach [] X.env := by rfl)
    (hs : starEach [a, b] X.env = (false, eval a X.env) :: starEach [b] X.env := by rfl) (hpl : (backTo pos (starEach [b] X.env)).any (·.1) = false := by rfl) : DI X (.Name nm tpos) (.Call (.Name "zip" p) [a, b] [] pos) (mZipN ma mb) :=
  (pi_zipN hg hm (pa_cons ha (pa_cons hb pa_nil he2) hs) hs hpl).imp fun σ H R ⟨O, ρ, G, ds, ρ', G', s, e, q⟩ => tD.go s e fun v1 O1 H1 d1 ρ1 G1 x1 s1 r1 e1 => tD.go s1 e1 fun v2 O2 H2 d2 ρ2 G2 x2 s2 r2 e2 => by
    obtain ⟨ef, rfl, rfl⟩ := lft_eq e2
    have r1 := Rep.nx x2.toRx r1
    cases d1 <;> cases d2 <;> unfold dZipN at ef <;> dsimp only at ef <;> try (cases ef; done)
    case tup.tup xs ys =>
      cases ef
      obtain ⟨a, vs, rfl, ha, la⟩ := r1
      obtain ⟨b, us, rfl, hb, lb⟩ := r2
      exact ⟨a, b, vs, us, rfl, SqT.of ha, SqT.of hb, q _ O2 H2 (x1.trans x2) s2 (it_zipT ha hb la lb)⟩
end

/-! ### min, max of a tuple of ints -/
theorem minOf_eq (x : Int) : ∀ xs : List Int, PySem.W.minOf x xs = xs.foldl min x
  | [] => rfl
  | y :: ys => by
    show PySem.W.minOf (if decide (y < x) = true then y else x) ys = ys.foldl min (min x y)
    have e : (if decide (y < x) = true then y else x) = min x y := by
      by_cases h : y < x
      · rw [decide_eq_true h, if_pos rfl]; omega
      · rw [decide_eq_false h, if_neg (by decide)]; omega
    rw [e]
    exact minOf_eq (min x y) ys
theorem maxOf_eq (x : Int) : ∀ xs : List Int, PySem.W.maxOf x xs = xs.foldl max x
  | [] => rfl
  | y :: ys => by
    show PySem.W.maxOf (if decide (x < y) = true then y else x) ys = ys.foldl max (max x y)
    have e : (if decide (x < y) = true then y else x) = max x y := by
      by_cases h : x < y
      · rw [decide_eq_true h, if_pos rfl]; omega
      · rw [decide_eq_false h, if_neg (by decide)]; omega
    rw [e]
    exact maxOf_eq (max x y) ys
theorem holds_ints {h : Heap} : ∀ {ns : List Int} {us : List Value}, Vals (ns.map V.int) us → PySem.W.HoldAll h us ns
  | [], _, .nil => ⟨[], .nil⟩
  | n :: ns, _, .cons ⟨t, e⟩ r => by
    subst e
    obtain ⟨as, q⟩ := holds_ints (h := h) r
    exact ⟨_, .cons (.int n t) q⟩
def rMinT (K : PySem.W.Frag) : List V → Hp → VK → Prop := fun vs H Q => ∃ (a : Addr) (ns : List Int) (m : Int), vs = [V.ref a] ∧ SqT K H a (ns.map V.int) ∧ lmin ns = some m ∧ Q (.int m) H
section
variable {X : Cx}
theorem call_minT (hc : X.calm = true) (hu : X.A.units + 64 < cLine) : CallR X (.builtin "min") (rMinT X.K) := by
  intro pins s σ H vs us Q I r h
  obtain ⟨a, ns, m, rfl, hs, hm, q⟩ := h
  obtain ⟨its, rv, hl, _⟩ := I.tuple hs
  rw [Vals.ref1 r]
  cases ns with
  | nil => cases hm
  | cons x xs =>
    refine PySem.W.min_tuple_datum (α := Int) (x := x) (xs := xs) (I.ok.hd hc) hl (by rw [List.toList_toArray]; exact holds_ints rv) (by show X.A.units + 1 + 0 < cLine; omega) fun i v h' tk hv hh hk => ?_
    obtain ⟨as, hr⟩ := hh
    have hr : Reads h' v (.int (PySem.W.minOf x xs)) as := hr
    cases hr with
    | int _ t =>
      refine ⟨.int m, H, I.kept hk, ⟨t, ?_⟩, q⟩
      rw [minOf_eq, ← Option.some.inj (show some (xs.foldl min x) = some m from hm)]
end
def rMaxT (K : PySem.W.Frag) : List V → Hp → VK → Prop := fun vs H Q => ∃ (a : Addr) (ns : List Int) (m : Int), vs = [V.ref a] ∧ SqT K H a (ns.map V.int) ∧ lmax ns = some m ∧ Q (.int m) H
section
variable {X : Cx}
theorem call_maxT (hc : X.calm = true) (hu : X.A.units + 64 < cLine) : CallR X (.builtin "max") (rMaxT X.K) := by
  intro pins s σ H vs us Q I r h
  obtain ⟨a, ns, m, rfl, hs, hm, q⟩ := h
  obtain ⟨its, rv, hl, _⟩ := I.tuple hs
  rw [Vals.ref1 r]
  cases ns with
  | nil => cases hm
  | cons x xs =>
    refine PySem.W.max_tuple_datum (α := Int) (x := x) (xs := xs) (I.ok.hd hc) hl (by rw [List.toList_toArray]; exact holds_ints rv) (by show X.A.units + 1 + 0 < cLine; omega) fun i v h' tk hv hh hk => ?_
    obtain ⟨as, hr⟩ := hh
    have hr : Reads h' v (.int (PySem.W.maxOf x xs)) as := hr
    cases hr with
    | int _ t =>
      refine ⟨.int m, H, I.kept hk, ⟨t, ?_⟩, q⟩
      rw [maxOf_eq, ← Option.some.inj (show some (xs.foldl max x) = some m from hm)]
theorem call_minA (hc : X.calm = true) (hu : X.A.units + 64 < cLine) : CallR X (.builtin "min") (fun vs H Q => rMin X.K vs H Q ∨ rMinT X.K vs H Q) := fun pins s σ H vs us Q I r h => h.elim (cr_min hc pins s σ H vs us Q I r) (call_minT hc hu pins s σ H vs us Q I r)
theorem call_maxA (hc : X.calm = true) (hu : X.A.units + 64 < cLine) : CallR X (.builtin "max") (fun vs H Q => rMax X.K vs H Q ∨ rMaxT X.K vs H Q) := fun pins s σ H vs us Q I r h => h.elim (cr_max hc pins s σ H vs us Q I r) (call_maxT hc hu pins s σ H vs us Q I r)
end
def dMinA : List D → Option D
  | [.tup ds] => (intsOf ds).bind fun ns => (lmin ns).map .int
  | ds => dMinL ds
def dMaxA : List D → Option D
  | [.tup ds] => (intsOf ds).bind fun ns => (lmax ns).map .int
  | ds => dMaxL ds
section
variable {K : PySem.W.Frag}
theorem tup_ints {O : Ow} {H : Hp} {xs : List V} {ds : List D} {ns : List Int} (r : RepL K O H xs [.tup ds]) (e : intsOf ds = some ns) : ∃ a, xs = [V.ref a] ∧ SqT K H a (ns.map V.int) := by
  obtain ⟨v, t, rfl, ⟨a, vs, rfl, ha, la⟩, ht⟩ := r
  rw [intsOf_eq e] at la
  exact ⟨a, by rw [show t = [] from ht], by rw [← la.ints]; exact SqT.of ha⟩
theorem l_minA : OpL K (fun vs H Q => rMin K vs H Q ∨ rMinT K vs H Q) dMinA := by
  intro O H σ ρ G xs ds d Q s r e q
  unfold dMinA at e
  split at e
  · rename_i es
    obtain ⟨ns, h1, h2⟩ := Option.bind_eq_some_iff.mp e
    obtain ⟨m, h3, h4⟩ := Option.map_eq_some_iff.mp h2
    cases h4
    obtain ⟨a, rfl, hs⟩ := tup_ints r h1
    exact .inr ⟨a, ns, m, rfl, hs, h3, q _ O H Ne.refl s rfl⟩
  · exact .inl (l_minL O H σ ρ G xs _ d Q s r e q)
theorem l_maxA : OpL K (fun vs H Q => rMax K vs H Q ∨ rMaxT K vs H Q) dMaxA := by
  intro O H σ ρ G xs ds d Q s r e q
  unfold dMaxA at e
  split at e
  · rename_i es
    obtain ⟨ns, h1, h2⟩ := Option.bind_eq_some_iff.mp e
    obtain ⟨m, h3, h4⟩ := Option.map_eq_some_iff.mp h2
    cases h4
    obtain ⟨a, rfl, hs⟩ := tup_ints r h1
    exact .inr ⟨a, ns, m, rfl, hs, h3, q _ O H Ne.refl s rfl⟩
  · exact .inl (l_maxL O H σ ρ G xs _ d Q s r e q)
end
end DL

/-! DL: {k: v}, chains of == and <, slices of tuples that go back. -/
namespace DL
open PySem PySem.Spec PyProof.Rows L2
section
variable {X : Cx} {a b c : Expr} {ma mb mc : SE} {pos : Pos}
/-! ### {k: v} -/
def mDisp1 (mk mv : SE) : SF := bnd mk fun k => bnd mv fun d => lft ((toKey k).map fun kk => .mk [(kk, d)])
theorem dn_disp1 (ha : DE X a ma) (hb : DE X b mb) : DN X (.Dict [some a] [b] pos) (mDisp1 ma mb) :=
  (pe_disp (pps_cons ha hb pps_nil) rfl rfl (fun z => by cases z) (Nat.le_of_ble_eq_true rfl)).imp fun σ H Q ⟨O, ρ, G, sl, ρ', G', s, e, q⟩ => by
    intro p hp
    have fp := s.toGR.free hp
    have s1 := s.newO (o := .dK []) hp trivial
    show tD X.K ma σ (upd H p (.dK [])) _
    refine tD.go s1 e fun v1 O2 H2 d1 ρ1 G1 x1 s2 r1 e1 => ?_
    show tD X.K mb σ H2 _
    refine tD.go s2 e1 fun v2 O3 H3 d2 ρ2 G2 x2 s3 r2 e2 => ?_
    obtain ⟨ef, rfl, rfl⟩ := lft_eq e2
    obtain ⟨kk, ek, rfl⟩ := Option.map_eq_some_iff.mp ef
    have x12 := x1.trans x2
    obtain ⟨h3, o3⟩ := x12.ext p _ upd_same own_same
    have r1' : Rep X.K O3 H3 v1 d1 := Rep.nx x2.toRx r1
    have ev := toKey_rep ek r1'
    refine ⟨h3, [(kk, v2)], by rw [ev]; rfl, by show 1 ≤ 15; omega, ?_⟩
    have x03 : Ne O H O3 H3 := Ne.trans (nx_newO hp fp) x12
    refine q p O3 _ (x03.upE hp) (s3.wrE o3 trivial) ⟨⟨o3, hp⟩, [(kk, v2)], upd_same, v2, [], rfl, ?_, rfl⟩
    exact Rep.nx (rx_wr (s3.live _ _ o3) o3) r2

/-! ### a == b < c -/
theorem de_eqlt (hu : X.A.units + 64 < cLine) (ha : DE X a ma) (hb : DE X b mb) (hc : DE X c mc) (hm : lastMarks [.Eq, .Lt] [b, c] = false := by with_unfolding_all rfl) : DE X (.Compare a [.Eq, .Lt] [b, c] pos) (mChain dEq dLtI ma mb mc) := de_chain (op_eqD hu) op_lt o_eq o_ltI ha hb hc hm
theorem dt_eqlt (hu : X.A.units + 64 < cLine) (ha : DE X a ma) (hb : DE X b mb) (hc : DE X c mc) (hm : lastMarks [.Eq, .Lt] [b, c] = false := by with_unfolding_all rfl) : DT X (.Compare a [.Eq, .Lt] [b, c] pos) (mTest (mChain dEq dLtI ma mb mc)) := dt_chain (op_eqD hu) op_lt o_eq o_ltI ha hb hc hm
theorem dt_lelt (ha : DE X a ma) (hb : DE X b mb) (hc : DE X c mc) (hm : lastMarks [.LtE, .Lt] [b, c] = false := by with_unfolding_all rfl) : DT X (.Compare a [.LtE, .Lt] [b, c] pos) (mTest (mChain dLe dLtI ma mb mc)) := dt_chain op_le op_lt o_le o_ltI ha hb hc hm
end
/-! ### t[lo::-1] -/
/-- how many items there are -/
def bIx (n : Nat) : Option Int → Nat
  | none => n
  | some v => if v < 0 then (v + (n : Int) + 1).toNat else min (v + 1).toNat n
theorem bIx_le (n : Nat) (lo : Option Int) : bIx n lo ≤ n := by
  cases lo with
  | none => exact Nat.le_refl n
  | some v =>
    show (if v < 0 then (v + (n : Int) + 1).toNat else min (v + 1).toNat n) ≤ n
    split
    · omega
    · exact Nat.min_le_right _ _
theorem adjust_back (lo : Option Int) (n : Nat) : Builtin.Slice.sliceAdjust lo none (-1) (n : Int) = ((bIx n lo : Int) - 1, -1) := by
  have h1 : ((-1 : Int) < 0) := by omega
  unfold Builtin.Slice.sliceAdjust
  simp only [h1, if_true]
  refine Prod.ext ?_ rfl
  cases lo with
  | none => rfl
  | some v =>
    show (if v < 0 then max (v + (n : Int)) (-1) else min v ((n : Int) - 1)) = ((if v < 0 then (v + (n : Int) + 1).toNat else min (v + 1).toNat n : Nat) : Int) - 1
    split <;> omega
theorem places_back (k : Nat) : Builtin.Slice.slicePlaces ((k : Int) - 1) (-1) (-1) = k := by
  unfold Builtin.Slice.slicePlaces
  have h1 : ¬ ((-1 : Int) > 0) := by omega
  have h2 : (- -1 : Int) = 1 := by decide
  simp only [h1, if_false, h2, Int.ediv_one]
  split <;> omega
theorem fmc {α β : Type} {f g : α → Option β} : ∀ l : List α, (∀ x ∈ l, f x = g x) → l.filterMap f = l.filterMap g
  | [], _ => rfl
  | x :: l, h => by rw [List.filterMap_cons, List.filterMap_cons, h x List.mem_cons_self, fmc l fun y hy => h y (List.mem_cons_of_mem _ hy)]
theorem pick_back (xs : Array Value) (k : Nat) (hk : k ≤ xs.size) : ((List.range k).filterMap fun (m : Nat) => xs[((k : Int) - 1 + (m : Int) * -1).toNat]?).toArray = ((xs.toList.take k).reverse).toArray := by
  have e : (List.range k).filterMap (fun (m : Nat) => xs[((k : Int) - 1 + (m : Int) * -1).toNat]?) = ((List.range k).map fun m => k - 1 - m).filterMap (xs[·]?) := by
    rw [List.filterMap_map]
    exact fmc (List.range k) fun m hm => by
      have hm := List.mem_range.mp hm
      have : ((k : Int) - 1 + (m : Int) * -1).toNat = k - 1 - m := by omega
      rw [this]
      rfl
  rw [e, PySem.W.krv_range, List.filterMap_reverse]
  have := pick_run xs 0 k
  have e0 : (List.range k).map (0 + ·) = List.range k := by
    rw [show ((0 + ·) : Nat → Nat) = id from funext fun k => Nat.zero_add k, List.map_id]
  rw [e0, List.drop_zero] at this
  rw [this]
section
variable {prog : Program} {w : World} {A : Around} {E : Value → Shared → Prop} {s : Shared}
theorem sliceApplied_back {sl : Addr} {vl vs : Value} {lo : Option Int} {n : Nat} {Q : Int × Int × Nat → Shared → Prop} (hs : s.heap.IsSliceOf sl vl .none vs) (pl : IsPart vl lo) (ps : IsPart vs (some (-1)))
    (h : Q ((bIx n lo : Int) - 1, -1, bIx n lo) s) : wpAny (model prog w) A (Builtin.Slice.sliceApplied (.ref sl) (pure (n : Int))) Q E s := by
  obtain ⟨os, hos, hcs, hds⟩ := id hs
  unfold Builtin.Slice.sliceApplied Builtin.Slice.sliceFields
  refine wpAny_bind (wpAny_bind (wpAny_field hos hds (x := vl) rfl (wpAny_bind (wpAny_field hos hds (x := .none) rfl (wpAny_bind (wpAny_field hos hds (x := vs) rfl (wpAny_pure ?_)))))))
  refine wpAny_bind (HT.slicePart_ ps ?_)
  show wpAny _ _ (if ((-1 : Int) == 0) = true then _ else _) _ _ s
  rw [if_neg (by decide)]
  refine wpAny_bind (HT.slicePart_ pl (wpAny_bind (slicePart_none (wpAny_bind (wpAny_pure ?_)))))
  show wpAny _ _ (match Builtin.Slice.sliceAdjust lo none (-1) (n : Int) with | (lo, hi) => pure (lo, (-1 : Int), Builtin.Slice.slicePlaces lo hi (-1))) _ _ s
  rw [adjust_back lo n]
  show wpAny _ _ (pure ((bIx n lo : Int) - 1, (-1 : Int), Builtin.Slice.slicePlaces ((bIx n lo : Int) - 1) (-1) (-1))) _ _ s
  rw [places_back]
  exact wpAny_pure h
theorem getItem_back {t sl : Addr} {items : Array Value} {vl vs : Value} {lo : Option Int} {Q : Value → Shared → Prop} (ht : IsTup s.heap t items) (hs : s.heap.IsSliceOf sl vl .none vs) (pl : IsPart vl lo) (ps : IsPart vs (some (-1)))
    (h : Q (.ref s.heap.objs.size) { s with heap := s.heap.push { cls := .type "tuple", data := .seq ((items.toList.take (bIx items.size lo)).reverse).toArray } })
    (hsz : items.size ≤ sizeLine) : wpAny (model prog w) A (getItem (.ref t) (.ref sl)) Q E s := by
  have hj := bIx_le items.size lo
  have htake : sizeOk (.seq ((items.toList.take (bIx items.size lo)).reverse).toArray) := by
    show ((items.toList.take (bIx items.size lo)).reverse).toArray.size ≤ sizeLine
    rw [List.size_toArray, List.length_reverse, List.length_take, Array.length_toList]
    omega
  obtain ⟨os, hos, hcs, hds⟩ := id hs
  have hTs : s.TypeIs (.ref sl) "slice" := ⟨os, hos, hcs⟩
  unfold getItem
  try with_reducible refine wpAny_holding ?_
  first | refine wpAny_bind (wpAny_pure ?_) | skip
  refine wpAny_bind (wpAny_sequenceKey ht.typeIs (by decide) ?_)
  refine wpAny_bind (wpAny_callSpecial?_slot (name := Str.ofString "__getitem__") ht.typeIs PyProof.Rows.slot_tuple_getitem
    (wpAny_call_entry PyProof.Rows.slot_tuple_getitem ht.typeIs entry_tuple_getitem ?_ (args_tuple_getitem _ _)))
  show wpAny _ _ (Builtin.Tuple.tupleItemsOf (.ref t) >>= _) _ _ s
  refine wpAny_bind (tupleItemsOf_ ht ?_)
  refine wpAny_bind (wpAny_typeOf hTs ?_)
  rw [if_pos (by decide)]
  refine wpAny_bind (sliceApplied_back hs pl ps ?_)
  have hno : ¬ ((((bIx items.size lo : Int) - 1) == 0 && (-1 : Int) == 1 && bIx items.size lo == items.size) = true) := by
    intro q
    rw [Bool.and_eq_true, Bool.and_eq_true] at q
    have q1 : (-1 : Int) = 1 := eq_of_beq q.1.2
    omega
  show wpAny _ _ (if (((bIx items.size lo : Int) - 1) == 0 && (-1 : Int) == 1 && bIx items.size lo == items.size) = true then _ else _) _ _ s
  rw [if_neg hno, pick_back _ _ hj]
  first
    | exact wpAny_bind (m := Builtin.Tuple.tupleExact _) (wpAny_newObj_type (wpAny_pure ⟨_, rfl, wpAny_pure h⟩) htake)
    | exact wpAny_bind (m := Builtin.Tuple.tupleExact _) (wpAny_newObj_type (wpAny_bind (wpAny_pure (wpAny_pure ⟨_, rfl, wpAny_pure h⟩))) htake)
    | exact wpAny_bind (wpAny_bind (m := Builtin.Tuple.tupleExact _) (wpAny_newObj_type (wpAny_pure (wpAny_pure ⟨_, rfl, wpAny_pure h⟩)) htake))
    | exact wpAny_bind (wpAny_bind (m := Builtin.Tuple.tupleExact _) (wpAny_newObj_type (wpAny_pure ⟨_, rfl, wpAny_pure h⟩) htake))
end
def tBack (K : PySem.W.Frag) (te : TE) (tl : TO) : TE := fun σ H Q => te σ H fun x H1 => tl σ H1 fun lo H2 => ∃ a xs, x = .ref a ∧ SqT K H2 a xs ∧ ∀ p, H2 p = none → Q (.ref p) (upd H2 p (.tup (xs.take (bIx xs.length lo)).reverse))
section
variable {X : Cx} {a : Expr} {ma : SE} {lo : Option Expr} {ml : SO} {pos p1 p2 p3 : Pos} {k : Nat}
theorem pe_back {te : TE} {tl : TO} (he : PE X a te) (hl : PO X lo tl) : PE X (.Subscript a (.Slice lo none (some (.UnaryOp .USub (.Constant (.int 1) k p1) p2)) p3) pos) (tBack X.K te tl) := by
  refine ⟨fun pins s σ H Q I h => ?_⟩
  refine Subscript_ (thn (he.run pins s σ H _ I h) fun v s1 ⟨x, H1, I1, r1, q1⟩ => ?_)
  have hst : PO X (some (.UnaryOp .USub (.Constant (.int 1) k p1) p2)) (tPart (tUn (rU fun i => .int (-i)) (tC (.int 1)))) := po_some (pe_un un_neg pe_int)
  refine wpAny_Slice (thn (hl.run pins s1 σ H1 _ I1 q1) fun vl s2 ⟨l, H2, I2, pl, q2⟩ => ?_)
  obtain ⟨a', xs, ex, hx, q⟩ := q2
  subst ex
  cases r1
  refine thn (po_none.run pins s2 σ H2 (fun o H3 => o = none ∧ H3 = H2) I2 ⟨rfl, rfl⟩) fun vu s3 ⟨u, H3, I3, pu, eu, e3⟩ => ?_
  subst eu e3
  refine thn (hst.run pins s3 σ H3 (fun o H4 => o = some (-1) ∧ H4 = H3) I3 ⟨1, rfl, -1, rfl, rfl, rfl⟩) fun vs s4 ⟨o, H4, I4, ps, eo, e4⟩ => ?_
  subst eo e4
  cases pu
  have I5 : Inv X pins σ H4 { s4 with heap := s4.heap.push { cls := .type "slice", data := .fields #[vl, .none, vs] } } := I4.kept (t' := s4.toks) fun b ob q => Heap.get?_push_of_some _ q
  obtain ⟨its, r, ht, hz⟩ := I5.tuple hx
  have hlen : its.toArray.size = xs.length := by rw [List.size_toArray]; exact r.length.symm
  show wpAny (model X.prog X.w) X.A (subscriptTail a (.Slice lo none (some (.UnaryOp .USub (.Constant (.int 1) k p1) p2)) p3) (.ref a') (.ref s4.heap.objs.size)) (EP X pins σ Q) X.xe { s4 with heap := s4.heap.push { cls := .type "slice", data := .fields #[vl, .none, vs] } }
  refine tail_any (ops := [.ref a', .ref s4.heap.objs.size]) ht.typeIs (PyProof.Rows.slot_tuple_getitem.lookup) ?_ (by with_unfolding_all rfl)
  refine getItem_back ht (Heap.IsSliceOf.new _ vl .none vs) pl ps ?_ (by rw [hlen]; exact hz)
  rw [hlen]
  refine ⟨.ref _, _, I5.laid (t' := s4.toks) (o := .tup (xs.take (bIx xs.length l)).reverse) (fun b ob q => Heap.get?_push_of_some _ q) (Nat.le_refl _) ?_, rfl, q _ (I5.hok.fresh (Nat.le_refl _))⟩
  exact ⟨by rw [List.length_reverse, List.length_take]; omega, _, (r.take _).reverse, IsTup.new _ _⟩
def dBack (d : D) (lo : Option Int) : Option D := match d with
  | .tup xs => some (.tup (xs.take (bIx xs.length lo)).reverse)
  | _ => none
def mBack (a : SE) (l : SO) : SE := bnd a fun x => bnd l fun lo => lft (dBack x lo)
theorem RepL.rev {K : PySem.W.Frag} {O : Ow} {H : Hp} : ∀ {ds : List D} {vs : List V}, RepL K O H vs ds → RepL K O H vs.reverse ds.reverse
  | [], vs, r => by rw [show vs = [] from r]; rfl
  | d :: ds, vs, ⟨v, r, e, h, t⟩ => by
    rw [e, List.reverse_cons, List.reverse_cons]
    exact RepL.append (RepL.rev t) ⟨v, [], rfl, h, rfl⟩
theorem de_back (ha : DE X a ma) (hl : DO X lo ml) : DE X (.Subscript a (.Slice lo none (some (.UnaryOp .USub (.Constant (.int 1) k p1) p2)) p3) pos) (mBack ma ml) :=
  (pe_back ha hl).imp fun σ H Q ⟨O, ρ, G, d, ρ', G', s, e, q⟩ => tD.go s e fun v1 O1 H1 d1 ρ1 G1 x1 s1 r1 e1 => by
    obtain ⟨lo, ρ2, G2, e2, e3⟩ := bnd_eq e1
    refine ⟨O1, ρ1, G1, lo, ρ2, G2, s1, e2, fun O2 H2 x2 s2 => ?_⟩
    obtain ⟨ef, rfl, rfl⟩ := lft_eq e3
    have r2 : Rep X.K O2 H2 v1 d1 := Rep.nx x2.toRx r1
    have qq : ∀ v O' H', Ne O2 H2 O' H' → SR X.K O' H' σ ρ' G' → Rep X.K O' H' v d → Q v H' := fun v O' H' x s r => q v O' H' ((x1.trans x2).trans x) s r
    cases d1 <;> unfold dBack at ef <;> dsimp only at ef <;> try (cases ef; done)
    case tup xs =>
      cases ef
      obtain ⟨a, vs, rfl, ha, la⟩ := r2
      refine ⟨a, vs, rfl, SqT.of ha, fun p hp => ?_⟩
      have := (la.take (bIx vs.length lo)).rev
      rw [la.length] at this ⊢
      exact fin_tup s2 this hp qq
end
end DL

/-! DL: sorted lists of pairs. -/
namespace DL
open PySem PySem.Spec PyProof.Rows L2
def pairOf : D → Option (Int × Int)
  | .tup [.int a, .int b] => some (a, b)
  | _ => none
theorem pairOf_eq {d : D} {p : Int × Int} (h : pairOf d = some p) : d = dPair p := by
  unfold pairOf at h
  split at h
  · cases h; rfl
  · cases h
def pairsOf : List D → Option (List (Int × Int))
  | [] => some []
  | d :: ds => (pairOf d).bind fun p => (pairsOf ds).map fun ps => p :: ps
theorem pairsOf_map : ∀ ps : List (Int × Int), pairsOf (ps.map dPair) = some ps
  | [] => rfl
  | p :: ps => by
    show ((pairOf (dPair p)).bind fun p => (pairsOf (ps.map dPair)).map fun ps => p :: ps) = _
    rw [pairsOf_map ps]
    rfl
def dSortedL : D → Option D
  | .lst ds => (pairsOf ds).map fun ps => .lst ((srtD SrtO.lexB ps).map dPair)
  | _ => none
def mSorted (a : SE) : SE := bnd a fun d => lft (dSortedL d)
/-- the two ints that a value stands for -/
def kV2 (H : Hp) : V → Int × Int
  | .ref b => match H b with
    | some (.tup [.int x, .int y]) => (x, y)
    | _ => (0, 0)
  | _ => (0, 0)
def At2 (H : Hp) (v : V) (p : Int × Int) : Prop := ∃ t, v = .ref t ∧ H t = some (.tup [.int p.1, .int p.2])
theorem at2_k {H : Hp} {v : V} {p : Int × Int} (h : At2 H v p) : kV2 H v = p := by
  obtain ⟨t, rfl, ht⟩ := h
  show (match H t with
    | some (.tup [.int x, .int y]) => (x, y)
    | _ => (0, 0)) = p
  rw [ht]
theorem pairs_at {K : PySem.W.Frag} {O : Ow} {H : Hp} : ∀ {ds : List D} {vs : List V} {ps : List (Int × Int)}, RepL K O H vs ds → pairsOf ds = some ps → Paired (At2 H) vs ps
  | [], vs, ps, r, e => by
    rw [show vs = [] from r]
    cases e
    exact .nil
  | d :: ds, _, ps, ⟨v, r, e1, h, t⟩, e => by
    subst e1
    unfold pairsOf at e
    cases q1 : pairOf d with
    | none => rw [q1] at e; cases e
    | some p =>
      cases q2 : pairsOf ds with
      | none => rw [q1, q2] at e; cases e
      | some r' =>
        rw [q1, q2] at e
        cases e
        rw [pairOf_eq q1] at h
        obtain ⟨b, us, rfl, hb, v1, r1, rfl, rfl, v2, r2, rfl, rfl, e5⟩ := h
        rw [show r2 = [] from e5] at hb
        exact .cons ⟨b, rfl, hb⟩ (pairs_at t q2)
theorem at2_map {H : Hp} {vs : List V} {ps : List (Int × Int)} (h : Paired (At2 H) vs ps) : vs.map (kV2 H) = ps := by
  induction h with
  | nil => rfl
  | cons h t ih => rw [List.map_cons, ih, at2_k h]
theorem at2_mem {H : Hp} {vs : List V} {ps : List (Int × Int)} (h : Paired (At2 H) vs ps) : ∀ v ∈ vs, At2 H v (kV2 H v) := by
  induction h with
  | nil => intro v hv; cases hv
  | cons h t ih =>
    intro v hv
    rcases List.mem_cons.mp hv with e | hv
    · rw [e, at2_k h]; exact h
    · exact ih v hv
theorem at2_rep {K : PySem.W.Frag} {O : Ow} {H : Hp} : ∀ {ys : List V}, (∀ v ∈ ys, At2 H v (kV2 H v)) → RepL K O H ys ((ys.map (kV2 H)).map dPair)
  | [], _ => rfl
  | y :: ys, h => by
    obtain ⟨t, e, ht⟩ := h y List.mem_cons_self
    refine ⟨y, ys, rfl, ⟨t, _, e, ht, ⟨_, _, rfl, rfl, _, _, rfl, rfl, rfl⟩⟩, at2_rep fun v hv => h v (List.mem_cons_of_mem _ hv)⟩
section
variable {X : Cx} {a : Expr} {ma : SE} {pos : Pos}
theorem de_sorted {p : Pos} (hu : X.A.units + 64 < cLine) (hm : X.mg "sorted" = none) (ha : DE X a ma) (hg : Gl X "sorted" := by rfl) (he : starEach [a] X.env = (false, eval a X.env) :: starEach [] X.env := by rfl) : DE X (.Call (.Name "sorted" p) [a] [] pos) (mSorted ma) :=
  (pe_callB cr_sortedPO hg hm (by decide +kernel) (pa_cons ha pa_nil he) (by decide) (by decide) he rfl).imp fun σ H Q ⟨O, ρ, G, d, ρ', G', s, e, q⟩ => tD.go s e fun v1 O1 H1 d1 ρ1 G1 x1 s1 r1 e1 => by
    obtain ⟨ef, rfl, rfl⟩ := lft_eq e1
    cases d1 <;> unfold dSortedL at ef <;> dsimp only at ef <;> try (cases ef; done)
    case lst ds =>
      obtain ⟨ps, e2, e3⟩ := Option.map_eq_some_iff.mp ef
      cases e3
      obtain ⟨b, vs, rfl, _, hb, la⟩ := r1
      have pp := pairs_at la e2
      have mm := at2_mem pp
      refine ⟨b, vs, kV2 H1, rfl, SqL.of hb, fun x hx => mm x hx, fun ys p h1 h2 hp => ?_⟩
      have m2 : ∀ v ∈ ys, At2 H1 v (kV2 H1 v) := fun v hv => mm v (h2.perm.mem_iff.mp hv)
      have s2 : SrtO.Stb SrtO.lexB (ys.map (kV2 H1)) (vs.map (kV2 H1)) := SrtO.Stb.map lexB_swo (kV2 H1) h2
      have s1' : SrtO.Srtd SrtO.lexB (ys.map (kV2 H1)) := SrtO.srtd_map h1
      have e4 := srtD_uniq lexB_swo s1' s2
      rw [at2_map pp] at e4
      have rr := at2_rep (K := X.K) (O := O1) m2
      rw [e4] at rr
      exact fin_lst s1 rr hp fun v O3 H3 x3 s3 r3 => q v O3 H3 (x1.trans x3) s3 r3
end
end DL

/-! DL: enumerate of a tuple; in. -/
namespace PySem
open Sem (wp)
open AutoSeq1 (wpAny_loadPart')
theorem meets_enumT (l : Addr) (items : Array Value) (n : Nat) (dct : Option Addr) (sl : Array (Option Value)) :
    Meets (Builtin.«enumerate.__new__» ⟨[.type "enumerate", .ref l], []⟩) (fun _ R s => s.heap.get? l = some { cls := .type "tuple", dict := dct, data := .seq items n, slots := sl } ∧
      R (.ok (.ret (.ref (s.heap.push { cls := .type "tuple_iterator", data := .fields #[.ref l, .int 0 0] }).objs.size)))
        { s with heap := (s.heap.push { cls := .type "tuple_iterator", data := .fields #[.ref l, .int 0 0] }).push { cls := .type "enumerate", data := .fields #[.none, .bool false, .ref s.heap.objs.size, rawInt 0, .none, .none] } }) :=
  .of_wp fun prog w A R s h => by
    obtain ⟨hp, g, d, tk, os⟩ := s; obtain ⟨hl, h⟩ := h
    have hsub := sub_enumerate
    have hL : Heap.IsTuple (Shared.heap ⟨hp, g, d, tk, os⟩) l items := ⟨_, hl, rfl, n, rfl⟩
    wp_walk using wpAny_loadPart' hl
    refine wpAny_stack_any fun st => wpAny_pure ?_
    split
    · rename_i c _ _ _ _ _
      cases (c == Value.type "enumerate")
      · wp_walk using wpAny_loadPart' hl, wpAny_pyIter_tuple hL
        exact ⟨_, rfl, h⟩
      · wp_walk using wpAny_loadPart' hl, wpAny_pyIter_tuple hL
        exact ⟨_, rfl, h⟩
    · wp_walk using wpAny_loadPart' hl, wpAny_pyIter_tuple hL
      exact ⟨_, rfl, h⟩
section
variable {prog : Program} {w : World} {A : Around} {E : Value → Shared → Prop} {s : Shared}
theorem call_enumT {l : Addr} {items : Array Value} {Q : Value → Shared → Prop} (hL : s.heap.IsTuple l items)
    (h : ∀ h', IsEnum h' (s.heap.objs.size + 1) s.heap.objs.size 0 .none → h'.IsTupleIter s.heap.objs.size l 0 → h'.objs.size = s.heap.objs.size + 2 →
      (∀ b o, s.heap.get? b = some o → h'.get? b = some o) → Q (.ref (s.heap.objs.size + 1)) { s with heap := h' }) :
    wpAny (model prog w) A (call (.type "enumerate") [.ref l]) Q E s := by
  obtain ⟨⟨c, dct, dt, sl⟩, hl, hc, n, hd⟩ := hL
  replace hc : c = .type "tuple" := hc
  replace hd : dt = .seq items n := hd
  subst hc hd
  refine callType_new F.called_enumerate (by decide) (F.typeCall_enumerate_1 _) (F.newCall_enumerate_1 _) (fun obj => F.args_object_init_2 obj _) F.entry_enumerate_new
    (meets_enumT l items n dct sl) ⟨hl, ?_⟩
  have hz : (s.heap.push { cls := .type "tuple_iterator", data := .fields #[.ref l, .int 0 0] }).objs.size = s.heap.objs.size + 1 := Heap.size_push ..
  show _ ∧ _
  rw [hz]
  have he : IsEnum ((s.heap.push { cls := .type "tuple_iterator", data := .fields #[.ref l, .int 0 0] }).push
      { cls := .type "enumerate", data := .fields #[.none, .bool false, .ref s.heap.objs.size, rawInt 0, .none, .none] }) (s.heap.objs.size + 1) s.heap.objs.size 0 .none := by
    have := Heap.get?_push_size (s.heap.push { cls := .type "tuple_iterator", data := .fields #[.ref l, .int 0 0] })
      (o := { cls := .type "enumerate", data := .fields #[.none, .bool false, .ref s.heap.objs.size, rawInt 0, .none, .none] }) rfl
    rw [hz] at this; exact this
  refine ⟨⟨_, he, rfl⟩, h _ he ⟨_, Heap.get?_push_of_some _ (Heap.get?_push_size _ rfl), rfl, rfl⟩ (by rw [Heap.size_push, hz]) fun b o x => Heap.get?_push_of_some _ (Heap.get?_push_of_some _ x)⟩
theorem next_enumT_end {e it t : Addr} {i : Nat} {items : Array Value} {k : Int} {old : Value} {Q : Option Value → Shared → Prop} (hh : A.handled = none)
    (he : IsEnum s.heap e it k old) (hit : s.heap.IsTupleIter it t i) (ht : s.heap.IsTuple t items) (hx : items[i]? = none)
    (hQ : ∀ h', Heap.ExtBut it s.heap h' → Q none { s with heap := h' }) : wpAny (model prog w) A (pyNext (.ref e)) Q E s := by
  have hT : s.TypeIs (.ref e) "enumerate" := ⟨_, he, rfl⟩
  unfold pyNext
  refine wpAny_bind (wpAny_attempt (wpAny_callSpecial?_slot (name := Str.ofString "__next__") hT F.slot_enumerate_next
    (wpAny_call_entry F.slot_enumerate_next hT F.entry_enumerate_next ?_ (F.args_enumerate_next_1 _))))
  show wpAny _ _ (field (.ref e) 2 >>= _) _ _ _
  refine wpAny_bind (wpAny_field he rfl (x := .ref it) rfl ?_)
  refine wpAny_bind (wpAny_nextOf_tuple_end (A := A.in1) hh hit ht hx fun h' x he' hx' => ?_)
  obtain ⟨o, ho, hc⟩ := hx'
  refine wpAny_bind (wpAny_isInstance (T := "StopIteration") (b := true) ⟨o, ho, hc⟩ isSubtype_stop ?_)
  exact wpAny_pure (hQ _ he')
end
end PySem
namespace DL
open PySem PySem.Spec PyProof.Rows L2
/-- the tuple at a, each item in a new pair -/
def IteT (K : PySem.W.Frag) (a : Addr) : It :=
  ⟨fun i H => ∃ (xs : List V) (x : V), SqT K H a xs ∧ xs[i]? = some x, fun i H v H' => ∃ T x, v = .ref T ∧ H T = none ∧ H' = upd H T (.tup [.int (i : Nat), x]) ∧ ∀ xs, SqT K H a xs → xs[i]? = some x, fun i H => ∃ xs : List V, SqT K H a xs ∧ xs.length ≤ i⟩
theorem turn_enumT {P : Program} {w : World} {K : PySem.W.Frag} {elts : List Expr} {kk : Nat} {tpos : Pos} (a e it : Addr) :
    Turn P w K (.Tuple elts kk tpos) (IteT K a) [e, it] e (fun i h => (∃ old, IsEnum h e it ((i : Nat) : Int) old) ∧ h.IsTupleIter it a i ∧ e ≠ it ∧ a ≠ it ∧ e ≠ a) where
  mem := by simp
  obj := fun i h st b hb => by
    obtain ⟨⟨old, he⟩, ⟨o, ho, hc, hd⟩, _⟩ := st
    have e' : b = e ∨ b = it := by simpa using hb
    rcases e' with z | z
    · rw [z]; exact ⟨_, he, fun v q => nomatch q⟩
    · rw [z]; exact ⟨o, ho, fun v q => by rw [hd] at q; cases q⟩
  keep := fun i h h' st k => let ⟨⟨old, he⟩, hi, hne⟩ := st; ⟨⟨old, k e (by simp) _ he⟩, hi.at fun o q => k it (by simp) o q, hne⟩
  item := by
    intro X hP hw hK hc i pins s σ H E I hf st hg
    subst hP hw hK
    obtain ⟨⟨old, he⟩, hit, hne, hai, hea⟩ := st
    obtain ⟨xs, x, hq, hx⟩ := hg
    obtain ⟨its, rv, p, hz⟩ := I.tuple hq
    obtain ⟨u, hu, ru⟩ := rv.get hx
    have hel : e < s.heap.objs.size := Heap.lt_size he
    have hil : it < s.heap.objs.size := by obtain ⟨_, q, _⟩ := hit; exact Heap.lt_size q
    have hil2 : i < its.toArray.size := by
      rw [List.size_toArray]
      exact (List.getElem?_eq_some_iff.mp hu).1
    refine wpAny_pyNext_enum_itemD (Draws.tuple (A := X.A.in1) (I.ok.hd hc) it a hai its.toArray) he ⟨hit, p⟩ hil2 hne (by simp [hne, hea]) fun x' h' tk hP ho hst' hT hsz hk => ?_
    have ex : x' = u := by
      have : its.toArray[i]? = some u := by simpa using hu
      rw [this] at hP
      exact (Option.some.inj hP).symm
    subst ex
    obtain ⟨hit', _⟩ := hst'
    refine ⟨_, rfl, wpAny_letOwnedTupleGo_enum (s := { s with heap := h', toks := tk + 1 }) ho fun h'' he' sb => ?_⟩
    have hT2 : h''.get? s.heap.objs.size = some { cls := .type "tuple", data := .seq #[.int i tk, x'] } := (sb.2 _ (Nat.ne_of_gt hel)).trans hT
    have new : ObjOk X.prog X.w (upd H s.heap.objs.size (.tup [.int (i : Nat), x])) h'' s.heap.objs.size (.tup [.int (i : Nat), x]) :=
      ⟨by show 2 ≤ sizeLine; decide, [.int i tk, x'], .cons ⟨_, rfl⟩ (.cons ru .nil), ⟨_, hT2, rfl, _, rfl⟩⟩
    have I1 : Inv X pins σ (upd H s.heap.objs.size (.tup [.int (i : Nat), x])) { s with heap := h'', toks := tk + 1 } :=
      I.turnedNew (ch := [e, it]) (fun b ob hb q => (sb.2 b (fun z => hb (by simp [z]))).trans (hk b ob (fun z => hb (by simp [z])) (fun z => hb (by simp [z])) q)) hf (Nat.le_refl _) new
    refine ⟨.ref s.heap.objs.size, _, I1, rfl, ⟨_, x, rfl, I.hok.fresh (Nat.le_refl _), rfl, fun ys hy => by rw [I.tuple_inj hy hq]; exact hx⟩, ⟨⟨x', ?_⟩, hit'.at fun o q => (sb.2 it (Ne.symm hne)).trans q, hne, hai, hea⟩, fun b hb => ?_⟩
    · have e1 : ((i + 1 : Nat) : Int) = (i : Int) + 1 := by omega
      rw [e1]; exact he'
    · have hb' : b < s.heap.objs.size := by
        have e' : b = e ∨ b = it := by simpa using hb
        rcases e' with z | z
        · rw [z]; exact hel
        · rw [z]; exact hil
      rw [upd_ne (Nat.ne_of_lt hb')]
      exact (hf b hb).1
  done := by
    intro X hP hw hK hc i pins s σ H E I hf st hg
    subst hP hw hK
    obtain ⟨⟨old, he⟩, hit, hne, hai, hea⟩ := st
    obtain ⟨xs, hq, hx⟩ := hg
    obtain ⟨its, rv, p, hz⟩ := I.tuple hq
    obtain ⟨f0, f1, f2, f3, f4, f5⟩ := hf it (by simp)
    have hl := rv.length
    exact next_enumT_end (I.ok.hd hc) he hit p (by simp; omega) fun h' eb => ⟨rfl, I.turned (t' := s.toks) (fun b o hb q => eb b o hb q) f0 f1 f3 f4 f5⟩
  self := fun A i s Q E st h => let ⟨⟨_, he⟩, _⟩ := st; wpAny_pyIter_enum he h
/-- enumerate of a list or of a tuple -/
def iEnumA (K : PySem.W.Frag) (ta : TA) : TI := fun σ H R => ta σ H fun vs H1 => ∃ a xs, vs = [.ref a] ∧ ((SqL K H1 a xs ∧ R (Ite K a) H1) ∨ (SqT K H1 a xs ∧ R (IteT K a) H1))
theorem pi_enumA {X : Cx} {e : Expr} {ta : TA} {p pos tpos : Pos} {elts : List Expr} {kk : Nat} (hg : Gl X "enumerate") (hm : X.mg "enumerate" = none) (ha : PA X [e] ta) (hs : starEach [e] X.env = [(false, eval e X.env)] := by rfl) :
    PI X (.Tuple elts kk tpos) (.Call (.Name "enumerate" p) [e] [] pos) (iEnumA X.K ta) := by
  refine ⟨fun pins s σ H R I h => ?_⟩
  refine Call_ (ld_blt I hg hm boot_enumerate (PyProof.Rows.callWith_type1 (thn (ha.run pos pins s σ H _ I h) fun us s1 ⟨vs, H1, I1, r1, q1⟩ => ?_) hs rfl))
  obtain ⟨a, xs, ex, hq⟩ := q1
  subst ex
  cases r1 with
  | cons r rr =>
    cases rr
    cases r
    have fresh : ∀ b ∈ [s1.heap.objs.size + 1, s1.heap.objs.size], s1.heap.objs.size ≤ b := fun b hb => by
      have e' : b = s1.heap.objs.size + 1 ∨ b = s1.heap.objs.size := by simpa using hb
      rcases e' with z | z
      · rw [z]; exact Nat.le_add_right _ _
      · rw [z]; exact Nat.le_refl _
    rcases hq with ⟨hq, q⟩ | ⟨hq, q⟩
    · obtain ⟨its, rv, p', hz⟩ := I1.list hq
      refine call_enumerate_list p'.isList fun h' he hit hsz hk => wpAny_pyIter_enum he ?_
      have I2 : Inv X pins σ H1 { s1 with heap := h' } := I1.kept (t' := s1.toks) hk
      exact ⟨s1.heap.objs.size + 1, [s1.heap.objs.size + 1, s1.heap.objs.size], _, _, H1, rfl, I2, turn_enum a (s1.heap.objs.size + 1) s1.heap.objs.size, ⟨⟨.none, he⟩, hit, Nat.succ_ne_self _⟩, fun b hb => I1.fpOk (fresh b hb) (I1.hok.fresh (fresh b hb)), q⟩
    · obtain ⟨its, rv, p', hz⟩ := I1.tuple hq
      obtain ⟨o1, ho1, _⟩ := id p'
      have hal : a < s1.heap.objs.size := Heap.lt_size ho1
      refine call_enumT (show s1.heap.IsTuple a its.toArray from p') fun h' he hit hsz hk => wpAny_pyIter_enum he ?_
      have I2 : Inv X pins σ H1 { s1 with heap := h' } := I1.kept (t' := s1.toks) hk
      exact ⟨s1.heap.objs.size + 1, [s1.heap.objs.size + 1, s1.heap.objs.size], _, _, H1, rfl, I2, turn_enumT a (s1.heap.objs.size + 1) s1.heap.objs.size, ⟨⟨.none, he⟩, hit, Nat.succ_ne_self _, Nat.ne_of_lt hal, Nat.ne_of_gt (Nat.lt_succ_of_lt hal)⟩, fun b hb => I1.fpOk (fresh b hb) (I1.hok.fresh (fresh b hb)), q⟩
theorem it_enumT {K : PySem.W.Frag} {O : Ow} {H : Hp} {a : Addr} {vs : List V} {xs : List D} (h : H a = some (.tup vs)) (r : RepL K O H vs xs) : ItOk K (IteT K a) (enumD 0 xs) O H := by
  intro O' H' x
  have g1 : SqT K H' a vs := SqT.of (x.tup _ _ h)
  refine ⟨fun i d e => ?_, ⟨vs, g1, by rw [enumD_len, r.length]; exact Nat.le_refl _⟩⟩
  obtain ⟨dx, e1, rfl⟩ := enumD_get e
  obtain ⟨v, hv, rv⟩ := r.get e1
  refine ⟨⟨vs, v, g1, hv⟩, fun y H'' hy => ?_⟩
  obtain ⟨T, v', rfl, hT, rfl, f1⟩ := hy
  have := f1 vs g1
  rw [hv] at this; cases this
  have := pair_new (x := .int ((i : Nat) : Int)) hT (show Rep K O' H' (.int (i : Nat)) (.int ((i : Nat) : Int)) from rfl) (Rep.nx x.toRx rv)
  rw [Nat.zero_add]
  exact this
def dEnumA : D → Option (List D)
  | .lst xs => some (enumD 0 xs)
  | .tup xs => some (enumD 0 xs)
  | _ => none
def mEnumA (a : SE) : SA := bnd a fun d => lft (dEnumA d)
section
variable {X : Cx} {a b c : Expr} {ma mb mc : SE} {pos : Pos}
theorem di_enumA {elts : List Expr} {kk : Nat} {tpos p : Pos} (hm : X.mg "enumerate" = none) (ha : DE X a ma) (hg : Gl X "enumerate" := by rfl) (he : starEach [a] X.env = (false, eval a X.env) :: starEach [] X.env := by rfl) (hs : starEach [a] X.env = [(false, eval a X.env)] := by rfl) :
    DI X (.Tuple elts kk tpos) (.Call (.Name "enumerate" p) [a] [] pos) (mEnumA ma) :=
  (pi_enumA hg hm (pa_cons ha pa_nil he) hs).imp fun σ H R ⟨O, ρ, G, ds, ρ', G', s, e, q⟩ => tD.go s e fun v1 O1 H1 d1 ρ1 G1 x1 s1 r1 e1 => by
    obtain ⟨ef, rfl, rfl⟩ := lft_eq e1
    cases d1 <;> try (cases ef; done)
    case lst ds' => cases ef; obtain ⟨a, vs, rfl, n, ha, la⟩ := r1; exact ⟨a, vs, rfl, .inl ⟨SqL.of ha, q _ O1 H1 x1 s1 (it_enum n ha la)⟩⟩
    case tup ds' => cases ef; obtain ⟨a, vs, rfl, ha, la⟩ := r1; exact ⟨a, vs, rfl, .inr ⟨SqT.of ha, q _ O1 H1 x1 s1 (it_enumT ha la)⟩⟩

/-! ### in -/
def flV : D → Option V
  | .non => some .non
  | .bl b => some (.bl b)
  | .int i => some (.int i)
  | .str x => some (.str x)
  | _ => none
theorem flV_pk {K : PySem.W.Frag} {O : Ow} {H : Hp} {v : V} {d : D} {w : V} (e : flV d = some w) (r : Pk K O H v d) : v = w ∧ flatV w = true := by
  cases d <;> unfold flV at e <;> dsimp only at e <;> try (cases e; done)
  all_goals (cases e; exact ⟨r, rfl⟩)
def flsV : List D → Option (List V)
  | [] => some []
  | d :: ds => (flV d).bind fun v => (flsV ds).map fun vs => v :: vs
theorem flsV_pk {K : PySem.W.Frag} {O : Ow} {H : Hp} : ∀ {ds : List D} {vs ws : List V}, flsV ds = some ws → PkL K O H vs ds → vs = ws ∧ ws.all flatV = true
  | [], vs, ws, e, r => by cases e; exact ⟨r, rfl⟩
  | d :: ds, vs, ws, e, ⟨v, t, e1, h, ht⟩ => by
    unfold flsV at e
    cases q : flV d with
    | none => rw [q] at e; cases e
    | some w =>
      cases q2 : flsV ds with
      | none => rw [q, q2] at e; cases e
      | some ws' =>
        rw [q, q2] at e
        cases e
        obtain ⟨a1, a2⟩ := flV_pk q h
        obtain ⟨b1, b2⟩ := flsV_pk q2 ht
        refine ⟨by rw [e1, a1, b1], ?_⟩
        rw [List.all_cons, a2, b2]
        rfl
def dIn (neg : Bool) (x c : D) : Option D := match c with
  | .tup ds => (flV x).bind fun w => (flsV ds).map fun ws => .bl (if neg then !inV w ws else inV w ws)
  | .lst ds => (flV x).bind fun w => (flsV ds).map fun ws => .bl (if neg then !inV w ws else inV w ws)
  | _ => none
def mIn (neg : Bool) (a b : SE) : SE := mBin (dIn neg) a b
theorem in_go {K : PySem.W.Frag} {σ : L2.St} {H : Hp} {Q : VK} {neg : Bool} (h : tD K (mIn neg ma mb) σ H Q) : tOp (rIn K neg) (tP K ma) (tP K mb) σ H Q := by
  obtain ⟨O, ρ, G, d, ρ', G', s, e, q⟩ := h
  refine tP.go s e fun v1 O1 H1 d1 ρ1 G1 x1 s1 r1 e1 => tP.go s1 e1 fun v2 O2 H2 d2 ρ2 G2 x2 s2 r2 e2 => ?_
  obtain ⟨ef, rfl, rfl⟩ := lft_eq e2
  have r1 := Pk.ne x2 r1
  cases d2 <;> unfold dIn at ef <;> dsimp only at ef <;> try (cases ef; done)
  case tup ds =>
    obtain ⟨w, e3, e4⟩ := Option.bind_eq_some_iff.mp ef
    obtain ⟨ws, e5, e6⟩ := Option.map_eq_some_iff.mp e4
    cases e6
    obtain ⟨a, vs, rfl, ha, la⟩ := r2
    obtain ⟨rfl, f1⟩ := flV_pk e3 r1
    obtain ⟨rfl, f2⟩ := flsV_pk e5 la
    exact ⟨a, vs, rfl, .inr (SqT.of ha), f1, f2, q _ O2 H2 (x1.trans x2) s2 rfl⟩
  case lst ds =>
    obtain ⟨w, e3, e4⟩ := Option.bind_eq_some_iff.mp ef
    obtain ⟨ws, e5, e6⟩ := Option.map_eq_some_iff.mp e4
    cases e6
    obtain ⟨a, vs, rfl, _, ha, la⟩ := r2
    obtain ⟨rfl, f1⟩ := flV_pk e3 r1
    obtain ⟨rfl, f2⟩ := flsV_pk e5 la
    exact ⟨a, vs, rfl, .inl (SqL.of ha), f1, f2, q _ O2 H2 (x1.trans x2) s2 rfl⟩
theorem in_goT {K : PySem.W.Frag} {σ : L2.St} {H : Hp} {Q : Bool → Hp → Prop} {neg : Bool} (h : tQ K (mTest (mIn neg ma mb)) σ H Q) : tTest (tOp (rIn K neg) (tP K ma) (tP K mb)) σ H Q := by
  obtain ⟨O, ρ, G, b, ρ', G', s, e, q⟩ := h
  obtain ⟨d, ρ1, G1, e1, e2⟩ := bnd_eq e
  exact in_go (Q := fun x H' => ∃ k, x = .bl k ∧ Q k H') ⟨O, ρ, G, d, ρ1, G1, s, e1, fun v O' H' x s' r' => by
    obtain ⟨ef, rfl, rfl⟩ := lft_eq e2
    cases d <;> try (cases ef; done)
    case bl k => cases ef; exact ⟨b, r', q O' H' x s'⟩⟩
theorem de_in (hu : X.A.units + 64 < cLine) (ha : DE X a ma) (hb : DP X b mb) (hm : behindInMarks .In b = false := by rfl) : DE X (.Compare a [.In] [b] pos) (mIn false ma mb) := (pe_cmpR op_in_seq (dp_of ha) hb hm).imp fun _ _ _ h => in_go h
theorem de_notIn (hu : X.A.units + 64 < cLine) (ha : DE X a ma) (hb : DP X b mb) (hm : behindInMarks .NotIn b = false := by rfl) : DE X (.Compare a [.NotIn] [b] pos) (mIn true ma mb) := (pe_cmpR op_notIn_seq (dp_of ha) hb hm).imp fun _ _ _ h => in_go h
theorem dt_in (hu : X.A.units + 64 < cLine) (ha : DE X a ma) (hb : DP X b mb) (hm : behindInMarks .In b = false := by rfl) : DT X (.Compare a [.In] [b] pos) (mTest (mIn false ma mb)) := (pt_cmpR op_in_seq (dp_of ha) hb hm).imp fun _ _ _ h => in_goT h
theorem dt_notIn (hu : X.A.units + 64 < cLine) (ha : DE X a ma) (hb : DP X b mb) (hm : behindInMarks .NotIn b = false := by rfl) : DT X (.Compare a [.NotIn] [b] pos) (mTest (mIn true ma mb)) := (pt_cmpR op_notIn_seq (dp_of ha) hb hm).imp fun _ _ _ h => in_goT h
end
end DL

/-! DL: x += e of whole numbers and of tuples. -/
namespace L2
open PySem PySem.Spec PyProof.Rows HT
section
variable {prog : Program} {w : World} {A : Around} {E : Value → Shared → Prop} {s : Shared}
theorem noI_tuple_add : typeLookup (.type "tuple") (dunderI "add") = pure none := by rw [typeLookup_type, builtinLookup_eq_fast]; kernel_rfl
theorem iconcat_meets {T id : String} {B : Builtin} {a b : Value} {S : PySem.Spec} {Q : Value → Shared → Prop} (ha : s.TypeIs a T) (hb : s.TypeIs b T) (hno : typeLookup (.type T) (dunderI "add") = pure none)
    (hfill : fillsNumberSlot (.type T) "add" = pure false) (hseq : seqSlot? (.type T) "__add__" = pure (some (.builtin id))) (slot : Slot T "__add__" id)
    (entry : entryFor table id = some B) (args : argsOk id ⟨[a, b], []⟩) (g : Meets (B ⟨[a, b], []⟩) S) (h : S A (wants Q E) s) : wpAny (model prog w) A (inplaceOp .Add a b) Q E s :=
  wpAny_inplaceOp_concat ha hb hno hfill hseq (call_meets slot ha entry args g h)
theorem icat_tup0 {t b : Addr} {ws : List Value} {Q : Value → Shared → Prop} (ht : IsTup s.heap t ([] : List Value).toArray) (hb : IsTup s.heap b ws.toArray) (h : Q (.ref b) s) : wpAny (model prog w) A (inplaceOp .Add (.ref t) (.ref b)) Q E s := by
  obtain ⟨⟨cls, dd, data, sl⟩, ho, hc, n, hd⟩ := id ht
  obtain ⟨⟨cls2, dd2, data2, sl2⟩, ho2, hc2, n2, hd2⟩ := id hb
  simp only at hc hd hc2 hd2
  subst hc hd hc2 hd2
  exact iconcat_meets ⟨_, ho, rfl⟩ ⟨_, ho2, rfl⟩ noI_tuple_add noFill_tuple_add seq_tuple_add PySem.F.slot_tuple_add PySem.F.entry_tuple_add (PySem.F.args_tuple_add_2 _ _)
    (tuple_addW0 t b ([] : List Value).toArray ws.toArray n n2 dd dd2 sl sl2 (by simp)) ⟨ho, ho2, h⟩
theorem icat_tup {t b : Addr} {vs ws : List Value} {Q : Value → Shared → Prop} (ht : IsTup s.heap t vs.toArray) (hb : IsTup s.heap b ws.toArray) (hv : vs ≠ [])
    (h1 : ws = [] → Q (.ref t) s) (h2 : ws ≠ [] → Q (.ref s.heap.objs.size) { s with heap := s.heap.push { cls := .type "tuple", data := .seq (vs ++ ws).toArray } })
    (hsz : vs.length + ws.length ≤ sizeLine) : wpAny (model prog w) A (inplaceOp .Add (.ref t) (.ref b)) Q E s := by
  obtain ⟨⟨cls, dd, data, sl⟩, ho, hc, n, hd⟩ := id ht
  obtain ⟨⟨cls2, dd2, data2, sl2⟩, ho2, hc2, n2, hd2⟩ := id hb
  simp only at hc hd hc2 hd2
  subst hc hd hc2 hd2
  have e : vs.toArray ++ ws.toArray = (vs ++ ws).toArray := by simp
  by_cases hw : ws = []
  · exact iconcat_meets ⟨_, ho, rfl⟩ ⟨_, ho2, rfl⟩ noI_tuple_add noFill_tuple_add seq_tuple_add PySem.F.slot_tuple_add PySem.F.entry_tuple_add (PySem.F.args_tuple_add_2 _ _)
      (tuple_addW1 t b vs.toArray ws.toArray n n2 dd dd2 sl sl2 (by simpa using hv) (by simp [hw])) ⟨ho, ho2, h1 hw⟩
  · refine iconcat_meets ⟨_, ho, rfl⟩ ⟨_, ho2, rfl⟩ noI_tuple_add noFill_tuple_add seq_tuple_add PySem.F.slot_tuple_add PySem.F.entry_tuple_add (PySem.F.args_tuple_add_2 _ _)
      (tuple_addW2 t b vs.toArray ws.toArray n n2 dd dd2 sl sl2 (by simpa using hv) (by simpa using hw) (by rw [List.size_toArray, List.size_toArray]; exact hsz)) ⟨ho, ho2, ?_⟩
    rw [e]
    exact h2 hw
end
section
variable {X : Cx}
theorem ip_catA : PIp X .Add (rCatA X.K) := by
  intro pins s σ H x y v u Q I rx ry h
  obtain ⟨a, b, xs, ys, rfl, rfl, ha, hb, hz, q0, q1, q2⟩ := h
  cases rx
  cases ry
  obtain ⟨its, r1, p1, _⟩ := I.tuple ha
  obtain ⟨its2, r2, p2, _⟩ := I.tuple hb
  by_cases hx : xs = []
  · subst hx
    cases r1
    exact icat_tup0 p1 p2 ⟨.ref b, H, I, rfl, q0 rfl⟩
  · refine icat_tup p1 p2 (fun z => hx (r1.nil_iff.mp z)) (fun z => ⟨.ref a, H, I, rfl, q1 hx (r2.nil_iff.mp z)⟩) (fun z => ?_) (by rw [← r1.length, ← r2.length]; exact hz)
    refine ⟨.ref s.heap.objs.size, _, I.laid (t' := s.toks) (o := .tup (xs ++ ys)) (fun b ob q => Heap.get?_push_of_some _ q) (Nat.le_refl _) ?_, rfl, q2 hx (fun w => z (r2.nil_iff.mpr w)) _ (I.hok.fresh (Nat.le_refl _))⟩
    exact ⟨by rw [List.length_append]; exact hz, _, r1.append r2, IsTup.new _ _⟩
end
end L2
namespace DL
open PySem L2
def dAddI : D → D → Option D
  | .int i, .int j => some (.int (i + j))
  | .tup xs, .tup ys => if szOk (xs.length + ys.length) then some (.tup (xs ++ ys)) else none
  | _, _ => none
section
variable {X : Cx} {e : Expr} {m : SE} {pos : Pos} {K : PySem.W.Frag}
theorem ip_addI : PIp X .Add (fun x y H Q => rI0 (fun i j => .int (i + j)) x y H Q ∨ rCatA X.K x y H Q) := by
  intro pins s σ H x y v u Q I r1 r2 h
  rcases h with ⟨i, j, e1, e2, q⟩ | h
  · exact ip_add pins s σ H x y v u Q I r1 r2 ⟨i, j, e1, e2, q⟩
  · exact ip_catA pins s σ H x y v u Q I r1 r2 h
theorem o_addI : Op2 K (fun x y H Q => rI0 (fun i j => .int (i + j)) x y H Q ∨ rCatA K x y H Q) dAddI := by
  intro O H σ ρ G x y d1 d2 d Q s r1 r2 e q
  cases d1 <;> cases d2 <;> unfold dAddI at e <;> dsimp only at e <;> try (cases e; done)
  case int.int i j => cases e; exact .inl ⟨i, j, r1, r2, fin0 s q rfl⟩
  case tup.tup xs ys =>
    split at e
    · rename_i hz
      cases e
      obtain ⟨a, vs, rfl, ha, la⟩ := r1
      obtain ⟨b, us, rfl, hb, lb⟩ := r2
      refine .inr ⟨a, b, vs, us, rfl, rfl, SqT.of ha, SqT.of hb, by rw [la.length, lb.length]; exact szOk_ok hz, fun z => ?_, fun _ z => ?_, fun _ _ p hp => fin_tup s (la.append lb) hp q⟩
      · have : xs = [] := List.eq_nil_of_length_eq_zero (by rw [← la.length, z]; rfl)
        subst this
        exact fin0 s q ⟨b, us, rfl, hb, lb⟩
      · have : ys = [] := List.eq_nil_of_length_eq_zero (by rw [← lb.length, z]; rfl)
        subst this
        rw [List.append_nil] at q
        exact fin0 s q ⟨a, vs, rfl, ha, la⟩
    · cases e
theorem ds_augadd {i : Nat} {x : Str} {pos' : Pos} (hN : X.N.Nodup) (h : DE X e m) (hi : X.N[i]? = some x := by rfl) (hx : Loc X.env.scope x := by first | exact Or.inl rfl | exact Or.inr rfl) (hf : X.fn x = true ∨ X.env.scope.names.lookup x = some .local := by first | exact .inl rfl | exact .inr rfl) :
    DS X (.AugAssign (.Name x pos') .Add e pos) (sAug i dAddI m) := ds_aug hN ip_addI o_addI h hi hx hf
end
end DL

/-! DL: in of lists of plain values; dict of a list of pairs. -/
namespace DL
open PySem PySem.Spec PyProof.Rows L2
section
variable {X : Cx} {a b c : Expr} {ma mb mc : SE} {pos : Pos}
/-! ### x in a list of tuples -/
def rInP (K : PySem.W.Frag) (neg : Bool) : R2 := fun x y H Q => ∃ d ds, Dp K H x d ∧ Dp K H y (.list ds) ∧ SeqAt.shaped d = true ∧ SeqAt.shaped (.list ds) = true ∧ d.depth ≤ 60 ∧ Q (.bl (if neg then !(ds.any fun z => PyData.eqv z d) else ds.any fun z => PyData.eqv z d)) H
theorem op_inP (hu : X.A.units + 64 < cLine) : OpR X (compareOp .In) (rInP X.K false) := by
  intro pins s σ H x y v u Q I rx ry h
  obtain ⟨d, ds, hd, he, sd, se, dp, q⟩ := h
  obtain ⟨as, r1⟩ := Dp.reads I d x v hd rx
  obtain ⟨bs, r2⟩ := Dp.reads I (.list ds) y u he ry
  have h2 : min (PyData.depthAll ds) d.depth ≤ d.depth := Nat.min_le_right _ _
  exact SeqAt.in_list_reads r2 r1 (SeqAt.canLay_of_shaped se) (SeqAt.canLay_of_shaped sd) (by omega) ⟨.bl _, H, I, rfl, q⟩
theorem op_notInP (hu : X.A.units + 64 < cLine) : OpR X (compareOp .NotIn) (rInP X.K true) := by
  intro pins s σ H x y v u Q I rx ry h
  obtain ⟨d, ds, hd, he, sd, se, dp, q⟩ := h
  obtain ⟨as, r1⟩ := Dp.reads I d x v hd rx
  obtain ⟨bs, r2⟩ := Dp.reads I (.list ds) y u he ry
  have h2 : min (PyData.depthAll ds) d.depth ≤ d.depth := Nat.min_le_right _ _
  exact SeqAt.notIn_list_reads r2 r1 (SeqAt.canLay_of_shaped se) (SeqAt.canLay_of_shaped sd) (by omega) ⟨.bl _, H, I, rfl, q⟩
def dInP (neg : Bool) (x c : D) : Option D := match x.py, c.py with
  | some p, some (.list qs) => if (SeqAt.shaped p && SeqAt.shaped (.list qs) && decide (p.depth ≤ 60)) = true then some (.bl (if neg then !(qs.any fun z => PyData.eqv z p) else qs.any fun z => PyData.eqv z p)) else none
  | _, _ => none
theorem o_inP {K : PySem.W.Frag} {neg : Bool} : Op2 K (rInP K neg) (dInP neg) := by
  intro O H σ ρ G x y d1 d2 d Q s r1 r2 e q
  unfold dInP at e
  cases h1 : d1.py with
  | none => rw [h1] at e; cases e
  | some p =>
    cases h2 : d2.py with
    | none => rw [h1, h2] at e; cases e
    | some p2 =>
      rw [h1, h2] at e
      split at e <;> try (cases e; done)
      rename_i q1 qs e1 e2
      cases e1
      cases e2
      split at e
      · rename_i hz
        cases e
        obtain ⟨hz, z3⟩ := Bool.and_eq_true_iff.mp hz
        obtain ⟨z1, z2⟩ := Bool.and_eq_true_iff.mp hz
        exact ⟨p, qs, r1.dp h1, r2.dp h2, z1, z2, of_decide_eq_true z3, fin0 s q rfl⟩
      · cases e
theorem de_inP (hu : X.A.units + 64 < cLine) (ha : DE X a ma) (hb : DE X b mb) (hm : behindInMarks .In b = false := by rfl) : DE X (.Compare a [.In] [b] pos) (mBin (dInP false) ma mb) := de_cmp (op_inP hu) o_inP ha hb hm
theorem de_notInP (hu : X.A.units + 64 < cLine) (ha : DE X a ma) (hb : DE X b mb) (hm : behindInMarks .NotIn b = false := by rfl) : DE X (.Compare a [.NotIn] [b] pos) (mBin (dInP true) ma mb) := de_cmp (op_notInP hu) o_inP ha hb hm
theorem dt_inP (hu : X.A.units + 64 < cLine) (ha : DE X a ma) (hb : DE X b mb) (hm : behindInMarks .In b = false := by rfl) : DT X (.Compare a [.In] [b] pos) (mTest (mBin (dInP false) ma mb)) := dt_cmp (op_inP hu) o_inP ha hb hm
theorem dt_notInP (hu : X.A.units + 64 < cLine) (ha : DE X a ma) (hb : DE X b mb) (hm : behindInMarks .NotIn b = false := by rfl) : DT X (.Compare a [.NotIn] [b] pos) (mTest (mBin (dInP true) ma mb)) := dt_cmp (op_notInP hu) o_inP ha hb hm
end
/-! ### dict(list of pairs) -/
section
variable {K : PySem.W.Frag} {O : Ow} {H : Hp}
def putAll (ps : List (Int × Int)) (kvs : List (Key × D)) : List (Key × D) := ps.foldl (fun acc p => putD acc (.inl p.1) (.int p.2)) kvs
def dDictN : List D → Option Sl
  | [.lst ds] => (pairsOf ds).map fun ps => .mk (putAll ps [])
  | _ => none
theorem merge_rep : ∀ {ps : List (Int × Int)} {ks : List (Key × V)} {kvs : List (Key × D)}, RepK K O H ks kvs → RepK K O H (mergeK ks (ps.map fun p => (.inl p.1, .int p.2))) (putAll ps kvs)
  | [], _, _, r => r
  | p :: ps, ks, kvs, r => merge_rep (ps := ps) (RepK.putK (k := .inl p.1) (v := .int p.2) (d := .int p.2) rfl r)
theorem at2_split {vs : List V} {ps : List (Int × Int)} (h : Paired (At2 H) vs ps) : ∃ as : List Addr, vs = as.map V.ref ∧ Paired (fun (t : Addr) (p : Int × Int) => H t = some (.tup [.int p.1, .int p.2])) as ps := by
  induction h with
  | nil => exact ⟨[], rfl, .nil⟩
  | cons h t ih =>
    obtain ⟨as, rfl, h2⟩ := ih
    obtain ⟨t, rfl, ht⟩ := h
    exact ⟨t :: as, rfl, .cons ht h2⟩
theorem pairs_kv {as : List Addr} {ps : List (Int × Int)} (h : Paired (fun (t : Addr) (p : Int × Int) => H t = some (.tup [.int p.1, .int p.2])) as ps) : Paired (fun p (kv : Key × V) => SqT K H p [kV kv.1, kv.2]) as (ps.map fun p => ((.inl p.1 : Key), V.int p.2)) := by
  induction h with
  | nil => exact .nil
  | cons h t ih => exact .cons (SqT.of h) ih
theorem l_dictN : OpLN K (fun xs H Q => ∃ (a : Addr) (ps : List Addr) (kvs : List (Key × V)), xs = [.ref a] ∧ SqL K H a (ps.map V.ref) ∧ Paired (fun p kv => SqT K H p [kV kv.1, kv.2]) ps kvs ∧
    ∀ p, H p = none → Q (.ref p) (upd H p (.dK (mergeK [] kvs)))) dDictN := by
  intro O H σ ρ G xs ds d Q s r e q
  unfold dDictN at e
  split at e <;> try (cases e; done)
  obtain ⟨v, rfl, a, vs, rfl, n, ha, la⟩ := repl1 r
  obtain ⟨ps, e2, e3⟩ := Option.map_eq_some_iff.mp e
  cases e3
  obtain ⟨as, rfl, h2⟩ := at2_split (pairs_at la e2)
  refine ⟨a, as, _, rfl, SqL.of ha, pairs_kv h2, fun p hp => ?_⟩
  exact q _ _ _ (nx_newO hp (s.toGR.free hp)) (s.newO hp trivial) ⟨⟨own_same, hp⟩, _, upd_same, merge_rep rfl⟩
end
end DL

/-! DL: any of a tuple of whole numbers, a text * k, a short tuple * a great k. -/
namespace L2
open PySem PySem.Spec PyProof.Rows HT
def rRepB (K : PySem.W.Frag) : R2 := fun x y H Q => ∃ l k xs, x = .ref l ∧ y = .int k ∧ SqT K H l xs ∧ xs ≠ [] ∧ 2 ≤ k ∧ k ≤ 100000 ∧ xs.length ≤ 10 ∧ ∀ p, H p = none → Q (.ref p) (upd H p (.tup (List.replicate k.toNat xs).flatten))
section
variable {X : Cx}
theorem op_repB : OpR X (binaryOp .Mult) (rRepB X.K) := by
  intro pins s σ H x y v u Q I rx ry h
  obtain ⟨l, k, xs, rfl, rfl, hT, hne, h1, h2, hz, q⟩ := h
  cases rx
  obtain ⟨t, rfl⟩ := ry
  obtain ⟨its, r, ⟨⟨cls, dd, data, sl⟩, ho, hc, n, hd⟩, hs⟩ := I.tuple hT
  simp only at hc hd
  subst hc hd
  have hle : its.length = xs.length := r.length.symm
  have hn : its ≠ [] := fun e => hne (by
    rw [e] at hle
    exact List.eq_nil_of_length_eq_zero hle.symm)
  have hi : its.toArray.isEmpty = false := by
    cases its with
    | nil => exact absurd rfl hn
    | cons a b => rfl
  have hsz0 : its.toArray.size = xs.length := by rw [List.size_toArray, hle]
  have hm : ((its.toArray.size : Nat) : Int) * k ≤ 1000000 := by
    rw [hsz0]
    have a1 : ((xs.length : Nat) : Int) * k ≤ 10 * k := Int.mul_le_mul_of_nonneg_right (by omega) (by omega)
    omega
  have flen : (List.replicate k.toNat its).flatten.length ≤ sizeLine := by
    rw [PyProof.Rows.lm_len_rep_flat, hle, sizeLine_eq]
    have a1 : k.toNat * xs.length ≤ 100000 * 10 := Nat.mul_le_mul (by omega) hz
    omega
  have c0 : (decide (k < -(2 ^ 63)) || decide (k ≥ 2 ^ 63)) = false := by
    rw [decide_eq_false (by omega), decide_eq_false (by omega)] <;> rfl
  have c1 : (its.toArray.isEmpty || k == 1) = false := by
    rw [hi, Bool.false_or]
    exact beq_eq_false_iff_ne.mpr (by omega)
  have c2 : (decide (k ≤ 0) || its.toArray.isEmpty) = false := by
    rw [hi, Bool.or_false]
    exact decide_eq_false (by omega)
  have c4 : Builtin.Tuple.tupleTooMany (((its.toArray.size : Nat) : Int) * k) = false := by
    unfold Builtin.Tuple.tupleTooMany
    rw [sizeLine_eq]
    exact decide_eq_false (by omega)
  refine wpAny_binaryOp_repeat_ref (T := "tuple") (U := "int") (by decide) ⟨_, ho, rfl⟩ (fun s' => typeIs_int s' k t) noFill_tuple_mul F.fills_int_mul F.slot_int_rmul repeat_tuple F.slot_int_index.lookup
    (call_meets F.slot_int_rmul (typeIs_int s k t) F.entry_int_rmul (F.args_int_rmul_2 _ _) (int_rmul_tuple k t l its.toArray n dd sl)
      ⟨ho, rfl, ⟨_, ho, rfl⟩, call_meets F.slot_tuple_mul ⟨_, ho, rfl⟩ F.entry_tuple_mul (F.args_tuple_mul_2 _ _) (tuple_mulW l its.toArray n dd sl k t c0 c1 c2 (by omega) c4 (by rw [size_rep, List.size_toArray]; exact flen)) ⟨ho, ?_⟩⟩)
  rw [size_rep]
  refine ⟨.ref s.heap.objs.size, _, I.laid (t' := s.toks) (o := .tup (List.replicate k.toNat xs).flatten) (fun b ob q => Heap.get?_push_of_some _ q) (Nat.le_refl _) ?_, rfl, q _ (I.hok.fresh (Nat.le_refl _))⟩
  exact ⟨by rw [PyProof.Rows.lm_len_rep_flat, sizeLine_eq]; have a1 : k.toNat * xs.length ≤ 100000 * 10 := Nat.mul_le_mul (by omega) hz; omega, _, r.rep k.toNat, IsTup.new _ _⟩

/-- a text * k -/
def repX (z : PySem.Str) (k : Int) : PySem.Str := if (k == 1 || z.length == 0) = true then z else ⟨(List.replicate k.toNat z.cps).foldl (· ++ ·) #[]⟩
def rRepX : R2 := fun x y H Q => ∃ (z : PySem.Str) (k : Int), x = .str z ∧ y = .int k ∧ 1 ≤ k ∧ k ≤ 100 ∧ z.length ≤ 100 ∧ Q (.str (repX z k)) H
theorem size_foldl (a : Array Nat) : ∀ (m : Nat) (acc : Array Nat), ((List.replicate m a).foldl (· ++ ·) acc).size = acc.size + m * a.size
  | 0, acc => by simp
  | m + 1, acc => by
    rw [List.replicate_succ, List.foldl_cons, size_foldl a m, Array.size_append, Nat.succ_mul]
    omega
theorem op_repX : OpR X (binaryOp .Mult) rRepX := by
  intro pins s σ H x y v u Q I rx ry h
  obtain ⟨z, k, rfl, rfl, h1, h2, hz, q⟩ := h
  obtain ⟨t, rfl⟩ := rx
  obtain ⟨t', rfl⟩ := ry
  refine PySem.P.mul_str ?_ (fun _ _ => ?_) (fun _ _ => ?_) ?_
  · rw [decide_eq_false (by omega), decide_eq_false (by omega)] <;> rfl
  · have : (2 ^ 63 - 1) / k ≥ (2 ^ 63 - 1) / 100 := by
      refine Int.le_ediv_of_mul_le (by omega) ?_
      have : (2 ^ 63 - 1) / 100 * k ≤ (2 ^ 63 - 1) / 100 * 100 := Int.mul_le_mul_of_nonneg_left h2 (by decide)
      have e : ((2 ^ 63 - 1) / 100 * 100 : Int) ≤ 2 ^ 63 - 1 := by decide
      omega
    have e : ((2 ^ 63 - 1) / 100 : Int) ≥ 1000 := by decide
    omega
  · unfold Builtin.Str.tooLong
    have : z.length * k.toNat ≤ 100 * 100 := Nat.mul_le_mul hz (by omega)
    rw [sizeLine_eq]
    exact decide_eq_false (by omega)
  · rw [if_neg (by omega)]
    unfold repX at q
    by_cases e : (k == 1 || z.length == 0) = true
    · rw [if_pos e] at q ⊢
      exact ⟨.str z, H, I, ⟨_, rfl⟩, q⟩
    · rw [if_neg e] at q ⊢
      refine ⟨?_, .str _, H, I.tok _, ⟨_, rfl⟩, q⟩
      show ((List.replicate k.toNat z.cps).foldl (· ++ ·) #[]).size ≤ _
      rw [size_foldl, sizeLine_eq]
      have : k.toNat * z.cps.size ≤ 100 * 100 := Nat.mul_le_mul (by omega) hz
      show 0 + _ ≤ _
      omega
/-- any(t) of a tuple of whole numbers -/
def rAnyT (K : PySem.W.Frag) : List V → Hp → VK → Prop := fun vs H Q => ∃ (a : Addr) (ns : List Int), vs = [V.ref a] ∧ SqT K H a (ns.map V.int) ∧ Q (.bl (ns.any fun n => n != 0)) H
theorem truth_ints {prog : Program} {w : World} {A : Around} {ns : List Int} {its : List Value} (e : IntsAre its ns) :
    TruthOf prog w A (fun i v => its.toArray[i]? = some v) (fun i => (ns.getD i 0) != 0) := fun i v s Q E hv hq => by
  have hv' : its[i]? = some v := by simpa using hv
  have key : ∀ {vs : List Value} {ms : List Int} (i : Nat) (v : Value), IntsAre vs ms → vs[i]? = some v → ∃ n t, v = .int n t ∧ ms.getD i 0 = n := by
    intro vs ms i v h
    induction h generalizing i with
    | nil => intro h; cases h
    | cons n t h ih =>
      intro hi
      cases i with
      | zero => cases hi; exact ⟨_, _, rfl, rfl⟩
      | succ i => exact ih i hi
  obtain ⟨n, t, rfl, hn⟩ := key i v e hv'
  have hq' : Q ((ns.getD i 0) != 0) s := hq
  rw [hn] at hq'
  exact PySem.P.truthy_int hq'
theorem any_rangeI : ∀ ns : List Int, (List.range ns.length).any (fun i => ns.getD i 0 != 0) = ns.any fun n => n != 0
  | [] => rfl
  | b :: bs => by
    rw [List.length_cons, List.range_succ_eq_map, List.any_cons, List.any_map, List.any_cons, ← any_rangeI bs]
    all_goals rfl
theorem cr_anyT (hc : X.calm = true) : CallR X (.builtin "any") (rAnyT X.K) := by
  intro pins s σ H vs us Q I r h
  obtain ⟨a, ns, rfl, hs, q⟩ := h
  obtain ⟨its, rv, hl, _⟩ := I.tuple hs
  rw [Vals.ref1 r]
  have hb : IntsAre its ns := by
    have := intsAre_of rv
    simpa using this
  have hlt : a < s.heap.objs.size := by obtain ⟨_, e, _⟩ := hl; exact Heap.lt_size e
  refine call_any_walk (wpAny_pyIter_tuple (items := its.toArray) hl ?_)
  refine ⟨_, _, _, _, _, _, _, rfl, Walks.tuple (A := X.A.in1) (I.ok.hd hc) _ a (Nat.ne_of_lt hlt) its.toArray, ⟨⟨_, Heap.get?_push_size _ rfl, rfl, rfl⟩, hl.push _⟩, truth_ints hb, fun h' tk hk => ?_⟩
  refine ⟨.bl _, H, I.kept fun b o eo => hk b o (fun hmem => ?_) (Heap.get?_push_of_some _ eo), ?_, q⟩
  · rcases List.mem_cons.mp hmem with e1 | hmem
    · exact absurd (e1 ▸ Heap.lt_size eo) (Nat.lt_irrefl _)
    · cases hmem
  · show Value.bool _ = Value.bool _
    have hl2 : its.length = ns.length := by rw [← rv.length, List.length_map]
    rw [← any_rangeI, List.size_toArray, hl2]
end
end L2
namespace DL
open PySem PySem.Spec PyProof.Rows L2
section
variable {X : Cx} {a b c : Expr} {ma mb mc : SE} {pos : Pos} {K : PySem.W.Frag}
def dMulB : D → D → Option D
  | .tup xs, .int k => if (!xs.isEmpty && decide (2 ≤ k) && decide (k ≤ 100000) && decide (xs.length ≤ 10)) = true then some (.tup (List.replicate k.toNat xs).flatten) else none
  | .str z, .int k => if (decide (1 ≤ k) && decide (k ≤ 100) && decide (z.length ≤ 100)) = true then some (.str (repX z k)) else none
  | _, _ => none
theorem o_mulB : Op2 K (fun x y H Q => rRepB K x y H Q ∨ rRepX x y H Q) dMulB := by
  intro O H σ ρ G x y d1 d2 d Q s r1 r2 e q
  cases d1 <;> cases d2 <;> unfold dMulB at e <;> dsimp only at e <;> try (cases e; done)
  case tup.int xs k =>
    split at e
    · rename_i hz
      cases e
      obtain ⟨a, vs, rfl, ha, la⟩ := r1
      simp only [Bool.and_eq_true, decide_eq_true_eq, Bool.not_eq_true'] at hz
      obtain ⟨⟨⟨h0, h1⟩, h2⟩, h3⟩ := hz
      refine .inl ⟨a, k, vs, rfl, r2, SqT.of ha, fun z => ?_, h1, h2, by rw [la.length]; exact h3, fun p hp => fin_tup s (repl la _) hp q⟩
      have : xs = [] := List.eq_nil_of_length_eq_zero (by rw [← la.length, z]; rfl)
      rw [this] at h0
      cases h0
    · cases e
  case str.int z k =>
    split at e
    · rename_i hz
      cases e
      simp only [Bool.and_eq_true, decide_eq_true_eq] at hz
      obtain ⟨⟨h1, h2⟩, h3⟩ := hz
      exact .inr ⟨z, k, r1, r2, h1, h2, h3, fin0 s q rfl⟩
    · cases e
theorem de_mulB (ha : DE X a ma) (hb : DE X b mb) : DE X (.BinOp a .Mult b pos) (mBin dMulB ma mb) := de_op (op_repB.or op_repX) o_mulB ha hb
def dAnyT : List D → Option D
  | [.tup ds] => (intsOf ds).map fun ns => .bl (ns.any fun n => n != 0)
  | _ => none
theorem l_anyT : OpL K (rAnyT K) dAnyT := by
  intro O H σ ρ G xs ds d Q s r e q
  unfold dAnyT at e
  split at e <;> try (cases e; done)
  rename_i es
  cases h : intsOf es with
  | none => rw [h] at e; cases e
  | some ns =>
    rw [h] at e
    cases e
    obtain ⟨v, rfl, hv⟩ := repl1 r
    obtain ⟨a, vs, rfl, ha, la⟩ := hv
    rw [intsOf_eq h] at la
    rw [RepL.ints la] at ha
    exact ⟨a, ns, rfl, SqT.of ha, fin0 s q rfl⟩
end
end DL

/-! DL: a, b = e1, e2 by way of a pair (names that a block reads). -/
namespace DL
open PySem PySem.Spec PyProof.Rows L2
section
variable {X : Cx} {e : Expr} {pos : Pos}
theorem par_core {K : PySem.W.Frag} {O O1 O2 : Ow} {H H1 H2 : Hp} {σ : L2.St} {ρ ρ1 ρ2 : List Sl} {G G1 G' : Gs} {D : L2.Ends} {i j : Nat} {v u : V} {sl1 sl2 : Sl} (s : SR K O H σ ρ G) (x1 : Ne O H O1 H1) (s1 : SR K O1 H1 σ ρ1 G1) (w1 : VOk K O1 H1 H v sl1) (x2 : Ne O1 H1 O2 H2) (s2 : SR K O2 H2 σ ρ2 G') (w2 : VOk K O2 H2 H1 u sl2)
    (hl : i < ρ2.length ∧ j < ρ2.length) (q : Reach K D O H (.nx ((ρ2.set i sl1).set j sl2)) G') : D.nx ((σ.set i (some v)).set j (some u)) H2 := by
  have w1' := w1.later s1.live x2
  have hi2 : i < σ.length := by rw [s2.len]; exact hl.1
  -- the first name
  have step1 : ∃ O3, Nx O H O3 H2 ∧ Rx O2 H2 O3 H2 ∧ (∀ b, H1 b = none → O3 b = O2 b) ∧ SR K O3 H2 (σ.set i (some v)) (ρ2.set i sl1) G' := by
    have fresh : ∀ {a : Addr}, v = .ref a → Own K O2 H2 (fun b => O2 b = some .ext ∧ H b = none ∧ H1 b ≠ none) a sl1 → ∃ O3, Nx O H O3 H2 ∧ Rx O2 H2 O3 H2 ∧ (∀ b, H1 b = none → O3 b = O2 b) ∧ SR K O3 H2 (σ.set i (some v)) (ρ2.set i sl1) G' := fun {a} e w => by
      clear w1'
      subst e
      exact ⟨_, nx_give (x1.toNx.trans x2.toNx) (fun b hb => hb.2.1) (fun b n hb => no_shr s.toGR hb.2.1), rx_rel (fun b hb => ⟨fun z => (by rw [hb.1] at z; cases z), fun n z => (by rw [hb.1] at z; cases z)⟩), fun b hb => rel_out fun z => z.2.2 hb, s2.give (fun b hb => hb.1) w hi2⟩
    cases sl1 with
    | un => exact w1'.elim
    | im d => exact ⟨O2, x1.toNx.trans x2.toNx, Rx.refl, fun _ _ => rfl, s2.put w1' hi2⟩
    | m1 ds => obtain ⟨a, e, w⟩ := w1'; exact fresh e w
    | m2 ds => obtain ⟨a, e, w⟩ := w1'; exact fresh e w
    | mk ds => obtain ⟨a, e, w⟩ := w1'; exact fresh e w
    | mt ds => obtain ⟨a, e, w⟩ := w1'; exact fresh e w
  obtain ⟨O3, x3, rx3, same, s3⟩ := step1
  have hj3 : j < (σ.set i (some v)).length := by rw [List.length_set, s2.len]; exact hl.2
  have fresh2 : ∀ {a : Addr}, u = .ref a → Own K O2 H2 (New O2 H1) a sl2 → D.nx ((σ.set i (some v)).set j (some u)) H2 := fun {a} e w => by
    clear w2
    subst e
    have w' : Own K O3 H2 (fun b => New O2 H1 b) a sl2 := Own.mono rx3 (fun b hb => ⟨hb, rfl⟩) w
    refine q _ _ _ (nx_give x3 (fun b hb => hh_of x1 b hb.2) fun b n hb => no_shr s.toGR (hh_of x1 b hb.2)) (s3.give (fun b hb => by rw [same b hb.2]; exact hb.1) w' hj3)
  cases sl2 with
  | un => exact w2.elim
  | im d => exact q _ O3 _ x3 (s3.put (Rep.nx rx3 w2) hj3)
  | m1 ds => obtain ⟨a, e, w⟩ := w2; exact fresh2 e w
  | m2 ds => obtain ⟨a, e, w⟩ := w2; exact fresh2 e w
  | mk ds => obtain ⟨a, e, w⟩ := w2; exact fresh2 e w
  | mt ds => obtain ⟨a, e, w⟩ := w2; exact fresh2 e w
theorem VOk.more {K : PySem.W.Frag} {O : Ow} {H0 H : Hp} {u : V} {sl : Sl} {p : Addr} {o : HO} (w : VOk K O H H0 u sl) (hp : H p = none) (free : O p = none) : VOk K O (upd H p o) H0 u sl := by
  have own : ∀ {a : Addr}, Own K O H (New O H0) a sl → Own K O (upd H p o) (New O H0) a sl := fun w => Own.mono (nx_new hp).toRx (fun b hb => ⟨hb, upd_ne fun z => by have h1 := hb.1; rw [z, free] at h1; cases h1⟩) w
  cases sl with
  | un => exact w
  | im d => exact Rep.nx (nx_new hp).toRx w
  | m1 ds => obtain ⟨a, e, w⟩ := w; exact ⟨a, e, own w⟩
  | m2 ds => obtain ⟨a, e, w⟩ := w; exact ⟨a, e, own w⟩
  | mk ds => obtain ⟨a, e, w⟩ := w; exact ⟨a, e, own w⟩
  | mt ds => obtain ⟨a, e, w⟩ := w; exact ⟨a, e, own w⟩
theorem ds_parT {i j : Nat} {x y : Str} {a b : Expr} {ma mb : SF} {px py pt : Pos} {kt k2 pt2} (hc : X.calm = true) (hN : X.N.Nodup) (ha : DV X a ma) (hb : DV X b mb)
    (hi : X.N[i]? = some x := by rfl) (hj : X.N[j]? = some y := by rfl) (hx : Loc X.env.scope x := by first | exact Or.inl rfl | exact Or.inr rfl) (hy : Loc X.env.scope y := by first | exact Or.inl rfl | exact Or.inr rfl)
    (fx : X.fn x = true ∨ X.env.scope.names.lookup x = some .local := by first | exact .inl rfl | exact .inr rfl) (fy : X.fn y = true ∨ X.env.scope.names.lookup y = some .local := by first | exact .inl rfl | exact .inr rfl)
    (hs : swapsWithSole [.Tuple [.Name x px, .Name y py] kt pt] (.Tuple [a, b] k2 pt2) pos.line X.env = pure false := by rfl)
    (hw : swappedStores [.Tuple [.Name x px, .Name y py] kt pt] (.Tuple [a, b] k2 pt2) X.env = pure none := by rfl)
    (h1 : (assignEach [.Tuple [.Name x px, .Name y py] kt pt] X.env).map (·.2) = [assign (.Tuple [.Name x px, .Name y py] kt pt) X.env] := by rfl)
    (n1 : starEach [a, b] X.env = (false, eval a X.env) :: starEach [b] X.env := by rfl) (n2 : starEach [b] X.env = (false, eval b X.env) :: starEach [] X.env := by rfl)
    (t1 : (assignEach [.Name x px, .Name y py] X.env).map (·.2) = assign (.Name x px) X.env :: (assignEach [.Name y py] X.env).map (·.2) := by rfl) (t2 : (assignEach [.Name y py] X.env).map (·.2) = assign (.Name y py) X.env :: (assignEach [] X.env).map (·.2) := by rfl)
    (hn : (assignEach [.Name x px, .Name y py] X.env).length = 2 := by rfl) (hst : (assignEach [.Name x px, .Name y py] X.env).findIdx? (·.1) = none := by rfl) :
    DS X (.Assign [.Tuple [.Name x px, .Name y py] kt pt] (.Tuple [a, b] k2 pt2) pos) (sPar i j ma mb) :=
  (ps_asg (pe_tup (pa_cons ha (pa_cons hb pa_nil n2) n1)) (pg_tup hc (pgs_cons (pg_name hN hi hx fx) (pgs_cons (pg_name hN hj hy fy) pgs_nil t2) t1) hn hst) hs hw h1).imp fun D σ H ⟨O, ρ, G, r, G', s, e, q⟩ => by
    unfold sPar at e
    cases q1 : ma ρ G with
    | none => rw [q1] at e; cases e
    | some p =>
      obtain ⟨sl1, ρ1, G1⟩ := p
      rw [q1] at e
      dsimp only at e
      cases q2 : mb ρ1 G1 with
      | none => rw [q2] at e; cases e
      | some p =>
        obtain ⟨sl2, ρ2, G2⟩ := p
        rw [q2] at e
        dsimp only at e
        split at e <;> try (cases e; done)
        rename_i hl
        cases e
        refine ⟨O, ρ, G, sl1, ρ1, G1, s, q1, fun v O1 H1 x1 s1 w1 => ⟨O1, ρ1, G1, sl2, ρ2, _, s1, q2, fun u O2 H2 x2 s2 w2 => ⟨by show 2 ≤ sizeLine; decide, fun p hp => ?_⟩⟩⟩
        refine ⟨p, [v, u], rfl, .inl (.inl upd_same), rfl, v, [u], rfl, u, [], rfl, rfl, ?_⟩
        exact par_core s x1 s1 w1 (x2.trans (nx_new hp)) (s2.new hp) (w2.more hp (s2.toGR.free hp)) hl q
end
section
variable {K : PySem.W.Frag} {O : Ow} {H : Hp}
theorem RepK.val {k : Key} : ∀ {kvs : List (Key × D)} {ks : List (Key × V)}, RepK K O H ks kvs → (∀ d, valD kvs k = some d → ∃ v, valV ks k = some v ∧ Rep K O H v d) ∧ (valD kvs k = none → valV ks k = none)
  | [], _, r => by rw [show _ = [] from r]; exact ⟨fun d e => (by cases e), fun _ => rfl⟩
  | (k', d') :: kvs, _, ⟨v, r, e1, h, t⟩ => by
    obtain ⟨i1, i2⟩ := RepK.val (k := k) t
    subst e1
    by_cases hk : k' = k
    · refine ⟨fun d e => ⟨v, valV_pos hk, ?_⟩, fun e => ?_⟩
      · have : valD ((k', d') :: kvs) k = some d' := by simp [valD, List.find?_cons, hk]
        rw [this] at e; cases e; exact h
      · have : valD ((k', d') :: kvs) k = some d' := by simp [valD, List.find?_cons, hk]
        rw [this] at e; cases e
    · have : valD ((k', d') :: kvs) k = valD kvs k := by simp [valD, List.find?_cons, hk]
      rw [this, valV_neg (p := (k', v)) hk]
      exact ⟨i1, i2⟩
theorem RepT.val {k : List Key} : ∀ {kvs : List (List Key × D)} {ks : List (List Key × V)}, RepT K O H ks kvs → (∀ d, valD kvs k = some d → ∃ v, valV ks k = some v ∧ Rep K O H v d) ∧ (valD kvs k = none → valV ks k = none)
  | [], _, r => by rw [show _ = [] from r]; exact ⟨fun d e => (by cases e), fun _ => rfl⟩
  | (k', d') :: kvs, _, ⟨v, r, e1, h, t⟩ => by
    obtain ⟨i1, i2⟩ := RepT.val (k := k) t
    subst e1
    by_cases hk : k' = k
    · refine ⟨fun d e => ⟨v, valV_pos hk, ?_⟩, fun e => ?_⟩
      · have : valD ((k', d') :: kvs) k = some d' := by simp [valD, List.find?_cons, hk]
        rw [this] at e; cases e; exact h
      · have : valD ((k', d') :: kvs) k = some d' := by simp [valD, List.find?_cons, hk]
        rw [this] at e; cases e
    · have : valD ((k', d') :: kvs) k = valD kvs k := by simp [valD, List.find?_cons, hk]
      rw [this, valV_neg (p := (k', v)) hk]
      exact ⟨i1, i2⟩
theorem dGet_okR {x y : V} {d1 d2 : D} {o : Option D} (r1 : Rep K O H x d1) (r2 : Rep K O H y d2) (e : dGet d1 d2 = some o) : ∃ a, x = .ref a ∧ IsD H a ∧ ∃ ov, DGet H a y ov ∧ (∀ d, o = some d → ∃ v, ov = some v ∧ Rep K O H v d) ∧ (o = none → ov = none) := by
  cases d1 <;> unfold dGet at e <;> (try dsimp only at e) <;> try (cases e; done)
  case dk kvs =>
    obtain ⟨a, ks, rfl, _, ha, la⟩ := r1
    cases q : toKey d2 with
    | none => rw [q] at e; cases e
    | some k =>
      rw [q] at e
      cases e
      obtain ⟨h1, h2⟩ := la.val (k := k)
      exact ⟨a, rfl, .inl ⟨ks, ha⟩, _, .inl ⟨ks, k, ha, toKey_rep q r2, rfl⟩, h1, h2⟩
  case dt kvs =>
    obtain ⟨a, ks, rfl, _, ha, la⟩ := r1
    cases d2 <;> try (cases e; done)
    case tup ds =>
      dsimp only at e
      cases q : toKeys ds with
      | none => rw [q] at e; cases e
      | some k =>
        rw [q] at e
        cases e
        obtain ⟨h1, h2⟩ := la.val (k := k)
        obtain ⟨b, vs, rfl, hb, lb⟩ := r2
        rw [toKeys_rep q lb] at hb
        exact ⟨a, rfl, .inr ⟨ks, ha⟩, _, .inr ⟨ks, k, b, ha, rfl, hb, rfl⟩, h1, h2⟩
end
section
variable {X : Cx} {a b c : Expr} {ma mb mc : SE} {pos : Pos}
theorem de_get1R {apos cpos : Pos} (hu : X.A.units + 64 < cLine) (ha : DE X a ma) (hb : DE X b mb) (m : M1 X a "get" apos b cpos := by exact ⟨rfl, rfl, rfl, rfl⟩) : DE X (.Call (.Attribute a "get" apos) [b] [] cpos) (mBin dGet1 ma mb) :=
  (pe_dget1 (by omega) ha hb m).imp fun σ H Q ⟨O, ρ, G, d, ρ', G', s, e, q⟩ => tD.go s e fun v1 O1 H1 d1 ρ1 G1 x1 s1 r1 e1 => by
    obtain ⟨d2, ρ2, G2, e2, e3⟩ := bnd_eq e1
    obtain ⟨ef, e4, e5⟩ := lft_eq e3
    unfold dGet1 at ef
    cases h : dGet d1 d2 with
    | none => rw [h] at ef; cases ef
    | some o =>
      rw [h] at ef
      have isd : ∃ a, v1 = .ref a ∧ IsD H1 a := by
        cases d1 <;> unfold dGet at h <;> (try dsimp only at h) <;> try (cases h; done)
        case dk kvs => obtain ⟨a, ks, e, _, ha, _⟩ := r1; exact ⟨a, e, .inl ⟨ks, ha⟩⟩
        case dt kvs => obtain ⟨a, ks, e, _, ha, _⟩ := r1; exact ⟨a, e, .inr ⟨ks, ha⟩⟩
      obtain ⟨a, ea, hd⟩ := isd
      refine ⟨a, ea, hd, tD.go s1 e1 fun v2 O2 H2 d2' ρ2' G2' x2 s2 r2 e2' => ?_⟩
      obtain ⟨ef', e4', e5'⟩ := lft_eq e2'
      subst e4' e5'
      unfold dGet1 at ef'
      cases h' : dGet d1 d2' with
      | none => rw [h'] at ef'; cases ef'
      | some o' =>
        rw [h'] at ef'
        obtain ⟨b, eb, _, ov, g, h1, h2⟩ := dGet_okR (Rep.nx x2.toRx r1) r2 h'
        rw [ea] at eb
        cases eb
        refine ⟨ov, g, q _ O2 H2 (x1.trans x2) s2 ?_⟩
        cases ef'
        cases o' with
        | none => rw [h2 rfl]; exact rfl
        | some d' => obtain ⟨v, ev, rv⟩ := h1 d' rfl; rw [ev]; exact rv
theorem de_get2R {apos cpos : Pos} (hu : X.A.units + 64 < cLine) (ha : DE X a ma) (hb : DE X b mb) (hc : DE X c mc) (m : M2 X a "get" apos b c cpos := by exact ⟨rfl, rfl, rfl, rfl⟩) : DE X (.Call (.Attribute a "get" apos) [b, c] [] cpos) (mGet2 ma mb mc) :=
  (pe_dget2 (by omega) ha hb hc m).imp fun σ H Q ⟨O, ρ, G, d, ρ', G', s, e, q⟩ => by
    refine tD.go s e fun v1 O1 H1 d1 ρ1 G1 x1 s1 r1 e1 => ?_
    obtain ⟨d2, ρ2, G2, q1, q2⟩ := bnd_eq e1
    obtain ⟨d3, ρ3, G3, q3, q4⟩ := bnd_eq q2
    obtain ⟨ef, _, _⟩ := lft_eq q4
    cases h : dGet d1 d2 with
    | none => rw [h] at ef; cases ef
    | some o =>
      have isd : ∃ a, v1 = .ref a ∧ IsD H1 a := by
        cases d1 <;> unfold dGet at h <;> (try dsimp only at h) <;> try (cases h; done)
        case dk kvs => obtain ⟨a, ks, e, _, ha, _⟩ := r1; exact ⟨a, e, .inl ⟨ks, ha⟩⟩
        case dt kvs => obtain ⟨a, ks, e, _, ha, _⟩ := r1; exact ⟨a, e, .inr ⟨ks, ha⟩⟩
      obtain ⟨a, ea, hd⟩ := isd
      refine ⟨a, ea, hd, tD.go s1 e1 fun v2 O2 H2 d2' ρ2' G2' x2 s2 r2 e2' => tD.go s2 e2' fun v3 O3 H3 d3' ρ3' G3' x3 s3 r3 e3' => ?_⟩
      obtain ⟨ef', e4', e5'⟩ := lft_eq e3'
      subst e4' e5'
      cases h' : dGet d1 d2' with
      | none => rw [h'] at ef'; cases ef'
      | some o' =>
        rw [h'] at ef'
        obtain ⟨b, eb, _, ov, g, h1, h2⟩ := dGet_okR (Rep.nx (x2.trans x3).toRx r1) (Rep.nx x3.toRx r2) h'
        rw [ea] at eb
        cases eb
        refine ⟨ov, g, q _ O3 H3 (x1.trans (x2.trans x3)) s3 ?_⟩
        cases ef'
        cases o' with
        | none => rw [h2 rfl]; exact r3
        | some d' => obtain ⟨v, ev, rv⟩ := h1 d' rfl; rw [ev]; exact rv

end
end DL

/-! DL: a, b, .. = a list. -/
namespace DL
open PySem PySem.Spec PyProof.Rows L2
section
variable {X : Cx} {pos : Pos}
def xUnl (n : Nat) (m : SXs) : SX := fun d ρ G => match d with
  | .lst ds => if ds.length = n then m ds ρ G else none
  | _ => none
theorem dx_unl {es : List Expr} {k : Nat} {m : SXs} {n : Nat} (hc : X.calm = true) (h : DXs X es m) (hn : (assignEach es X.env).length = n := by rfl) (hst : (assignEach es X.env).findIdx? (·.1) = none := by rfl) : DX X (.Tuple es k pos) (xUnl n m) :=
  (pg_unl hc h hn hst).imp fun v σ H Q ⟨O, ρ, G, d, ρ', G', s, r, e, q⟩ => by
    unfold xUnl at e
    cases d <;> try (cases e; done)
    case lst ds =>
      dsimp only at e
      split at e
      · rename_i hl
        obtain ⟨a, vs, rfl, hO, ha, la⟩ := r
        exact ⟨a, vs, rfl, SqL.of ha, by rw [la.length]; exact hl, O, ρ, G, ds, ρ', G', s, la, e, q⟩
      · cases e
end
end DL

/-! DM: the defs that many laws share, as evaluator texts. -/
namespace DM
open PySem PySem.Spec PyProof.Rows L2 DL
def is_whole : Sf := mDef 3 3
  ((sRet (mAndV (mIsi .int (mVar 0)) (mAndV (mUn dNot (mIsi .bool (mVar 0))) (mChain dLe dLe (mVar 1) (mVar 0) (mVar 2))))))
def is_tuple_of : Sf := mDef 3 3
  ((sRet (mAndV (mIsi .tuple (mVar 0)) (mChain dLe dLe (mVar 1) (mLen (mPeek 0)) (mVar 2)))))
def fits_limb : Sf := mDef 2 2
  ((sSeq (sIf (mOr (mNot (mTest (mFn 3 is_tuple_of (mCons (mVar 1) (mCons (ret (.int 3)) (mCons (ret (.int 3)) mNil)))))) (mOr (mNot (mTest (mFn 3 is_whole (mCons (mBin dIx (mVar 1) (ret (.int 0))) (mCons (ret (.int 0)) (mCons (mBin dSub (mVar 0) (ret (.int 1))) mNil)))))) (mNot (mTest (mFn 3 is_whole (mCons (mBin dIx (mVar 1) (ret (.int 1))) (mCons (ret (.int 0)) (mCons (mBin dSub (mVar 0) (ret (.int 1))) mNil)))))))) (sRet (ret (.bl false))) sNext)
  (sRet (mAndV (mBin dLt (mBin dIx (mVar 1) (ret (.int 0))) (mBin dIx (mVar 1) (ret (.int 1)))) (mFn 3 is_whole (mCons (mBin dIx (mVar 1) (ret (.int 2))) (mCons (ret (.int 1)) (mCons (ret (.int 9)) mNil))))))))
def fits_figure : Sf := mDef 1 9
  ((sSeq (sIf (mOr (mNot (mTest (mFn 3 is_tuple_of (mCons (mVar 0) (mCons (ret (.int 4)) (mCons (ret (.int 4)) mNil)))))) (mOr (mNot (mTest (mFn 3 is_whole (mCons (mBin dIx (mVar 0) (ret (.int 0))) (mCons (ret (.int 1)) (mCons (ret (.int 8)) mNil)))))) (mNot (mTest (mFn 3 is_whole (mCons (mBin dIx (mVar 0) (ret (.int 3))) (mCons (ret (.int 1)) (mCons (ret (.int 30)) mNil)))))))) (sRet (ret (.bl false))) sNext)
  (sSeq (sAsg (mVar 0) (xTup 4 (xsCons (xName 1) (xsCons (xName 2) (xsCons (xName 3) (xsCons (xName 4) xsNil))))))
  (sSeq (sIf (mOr (mNot (mTest (mFn 3 is_tuple_of (mCons (mVar 2) (mCons (ret (.int 0)) (mCons (ret (.int 12)) mNil)))))) (mNot (mTest (mCall dAll (mCons (mLc [8] (mItems (mVar 2)) (gSet 8) (ret true) (mFn 2 fits_limb (mCons (mVar 1) (mCons (mVar 8) mNil)))) mNil))))) (sRet (ret (.bl false))) sNext)
  (sSeq (sIf (mNot (mTest (mCall dAll (mCons (mLc [5, 6] (mZip (mVar 2) (mSl (mVar 2) (mPart (ret (.int 1))) (ret none))) (gTupS 2 (gsCons (gSet 5) (gsCons (gSet 6) gsNil))) (ret true) (mBin dLt (mSl (mVar 5) (ret none) (mPart (ret (.int 2)))) (mSl (mVar 6) (ret none) (mPart (ret (.int 2)))))) mNil)))) (sRet (ret (.bl false))) sNext)
  (sRet (mAndV (mFn 3 is_tuple_of (mCons (mVar 3) (mCons (ret (.int 1)) (mCons (ret (.int 6)) mNil)))) (mCall dAll (mCons (mLc [7] (mItems (mVar 3)) (gSet 7) (ret true) (mFn 3 is_whole (mCons (mVar 7) (mCons (ret (.int 0)) (mCons (mBin dSub (mVar 1) (ret (.int 1))) mNil))))) mNil)))))))))
def need_figure : Sf := mDef 1 1
  ((sIf (mNot (mTest (mFn 1 fits_figure (mCons (mVar 0) mNil)))) sNever sNext))
def fits_setting : Sf := mDef 2 4
  ((sSeq (sSet 2 (mIm (mLen (mBin dIx (mVar 0) (ret (.int 2))))))
  (sRet (mAndV (mFn 3 is_tuple_of (mCons (mVar 1) (mCons (mVar 2) (mCons (mVar 2) mNil)))) (mCall dAll (mCons (mLc [3] (mItems (mVar 1)) (gSet 3) (ret true) (mFn 3 is_whole (mCons (mVar 3) (mCons (ret (.int 0)) (mCons (mBin dIx (mVar 0) (ret (.int 3))) mNil))))) mNil))))))
def need_setting : Sf := mDef 2 2
  ((sIf (mNot (mTest (mFn 2 fits_setting (mCons (mVar 0) (mCons (mVar 1) mNil))))) sNever sNext))
def fits_depths : Sf := mDef 2 3
  ((sRet (mAndV (mFn 3 is_tuple_of (mCons (mVar 1) (mCons (mBin dIx (mVar 0) (ret (.int 0))) (mCons (mBin dIx (mVar 0) (ret (.int 0))) mNil)))) (mCall dAll (mCons (mLc [2] (mItems (mVar 1)) (gSet 2) (ret true) (mFn 3 is_whole (mCons (mVar 2) (mCons (ret (.int 0)) (mCons (mBin dIx (mVar 0) (ret (.int 3))) mNil))))) mNil)))))
def need_set : Sf := mDef 2 2
  ((sSeq (sExpr (mFn 1 need_figure (mCons (mVar 0) mNil)))
  (sExpr (mFn 2 need_setting (mCons (mVar 0) (mCons (mVar 1) mNil))))))
def table_of : Sf := mDef 1 8
  ((sSeq (sSet 1 (mIm (mBin dIx (mVar 0) (ret (.int 0)))))
  (sSeq (sSet 2 (mLcN2 [3] (mRng1 (mVar 1)) (gSet 3) (ret true) (mLcN [4] (mRng1 (mVar 1)) (gSet 4) (ret true) (mIf (mTest (mBin dEq (mVar 3) (mVar 4))) (ret (.int 0)) (ret .non)))))
  (sSeq (sFor (mItems (mBin dIx (mVar 0) (ret (.int 1)))) (xTup 3 (xsCons (xName 3) (xsCons (xName 4) (xsCons (xName 5) xsNil)))) (sAsg2 (mVar 5) (xIx2 2 (mVar 3) (mVar 4)) (xIx2 2 (mVar 4) (mVar 3))))
  (sSeq (sFor (mRng1 (mVar 1)) (xName 6) (sFor (mRng1 (mVar 1)) (xName 3) (sFor (mRng1 (mVar 1)) (xName 4) (sIf (mAnd (mTestN (fun d => !d.isN) (mSolid (mBin dIx (mBin dIx (mPeek 2) (mVar 3)) (mVar 6)))) (mTestN (fun d => !d.isN) (mSolid (mBin dIx (mBin dIx (mPeek 2) (mVar 6)) (mVar 4))))) (sSeq (sSet 7 (mIm (mBin dAdd (mSolid (mBin dIx (mBin dIx (mPeek 2) (mVar 3)) (mVar 6))) (mSolid (mBin dIx (mBin dIx (mPeek 2) (mVar 6)) (mVar 4))))))
  (sAsg (mIf (mTestN D.isN (mSolid (mBin dIx (mBin dIx (mPeek 2) (mVar 3)) (mVar 4)))) (mVar 7) (mCall dMin2 (mCons (mVar 7) (mCons (mSolid (mBin dIx (mBin dIx (mPeek 2) (mVar 3)) (mVar 4))) mNil)))) (xIx2 2 (mVar 3) (mVar 4)))) sNext))))
  (sRet (mVar 2)))))))
def keeps_limbs : Sf := mDef 2 5
  ((sRet (mCall dAll (mCons (mLc [2, 3, 4] (mItems (mBin dIx (mVar 0) (ret (.int 1)))) (gTupS 3 (gsCons (gSet 2) (gsCons (gSet 3) (gsCons (gSet 4) gsNil)))) (ret true) (mBin dLe (mCall dAbs (mCons (mBin dSub (mBin dIx (mVar 1) (mVar 2)) (mBin dIx (mVar 1) (mVar 3))) mNil)) (mVar 4))) mNil))))
def keeps_strings : Sf := mDef 3 5
  ((sRet (mCall dAll (mCons (mLc [3, 4] (mZip (mBin dIx (mVar 0) (ret (.int 2))) (mVar 1)) (gTupS 2 (gsCons (gSet 3) (gsCons (gSet 4) gsNil))) (ret true) (mBin dLe (mBin dIx (mVar 2) (mVar 3)) (mVar 4))) mNil))))
def is_stance : Sf := mDef 3 3
  ((sSeq (sExpr (mFn 2 need_set (mCons (mVar 0) (mCons (mVar 1) mNil))))
  (sRet (mAndV (mFn 2 fits_depths (mCons (mVar 0) (mCons (mVar 2) mNil))) (mAndV (mFn 2 keeps_limbs (mCons (mVar 0) (mCons (mVar 2) mNil))) (mFn 3 keeps_strings (mCons (mVar 0) (mCons (mVar 1) (mCons (mVar 2) mNil)))))))))
def pose_by : Sf := mDef 3 8
  ((sSeq (sSet 3 (mLstN mNil))
  (sSeq (sFor (mRng1 (mBin dIx (mVar 0) (ret (.int 0)))) (xName 4) (sSeq (sSet 5 (mIm (mLc [6, 7] (mZip (mBin dIx (mVar 0) (ret (.int 2))) (mVar 1)) (gTupS 2 (gsCons (gSet 6) (gsCons (gSet 7) gsNil))) (mTestN (fun d => !d.isN) (mBin dIx (mBin dIx (mVar 2) (mVar 6)) (mVar 4))) (mBin dAdd (mVar 7) (mBin dIx (mBin dIx (mVar 2) (mVar 6)) (mVar 4))))))
  (sApp 3 (mCall dMinL (mCons (mBin dAdd (mVar 5) (mLst (mCons (mBin dIx (mVar 0) (ret (.int 3))) mNil))) mNil)))))
  (sRet (mCall dTuple (mCons (mVar 3) mNil))))))
def pose_in : Sf := mDef 2 2
  ((sRet (mFn 3 pose_by (mCons (mVar 0) (mCons (mVar 1) (mCons (mFn 1 table_of (mCons (mVar 0) mNil)) mNil))))))
def pose : Sf := mDef 2 2
  ((sSeq (sExpr (mFn 2 need_set (mCons (mVar 0) (mCons (mVar 1) mNil))))
  (sRet (mFn 2 pose_in (mCons (mVar 0) (mCons (mVar 1) mNil))))))
def law_cup (c1 c2 c3 c4 c5 : Int) : Sf := mDef 1 2
  ((sSeq (sSet 1 (mIm (mCall dAbs (mCons (mBin dIx (mBin dAdd (mCall dList (mCons (mVar 0) mNil)) (mLst (mCons (ret (.int 0)) mNil))) (ret (.int 0))) mNil))))
  (sShare (mLstN (mCons (mIf (mTest (mBin dGe (mVar 1) (mBin dPow (ret (.int 10)) (ret (.int 18))))) (mBin dFdiv (mVar 1) (ret (.int c1))) (ret (.int 0))) (mCons (mBin dAdd (mBin dMod (mCall dInt (mCons (mBin dAdd (mBin dMul (mVar 1) (ret (.int c2))) (ret (.int c3))) mNil)) (ret (.int c4))) (ret (.int c5))) mNil))))))
def law_roll (c1 c2 c3 c4 : Int) : Sf := mDef 2 4
  ((sSeq (sIf (mTest (mBin dGt (mIxH 0 (ret (.int 0))) (ret (.int 0)))) (sSeq (sSet 2 (mIm (mBin dMod (mCall dInt (mCons (mIxH 0 (ret (.int 0))) mNil)) (mVar 1))))
  (sSeq (sAsg (mBin dFdiv (mIxH 0 (ret (.int 0))) (mVar 1)) (xIx 0 (ret (.int 0))))
  (sRet (mVar 2)))) sNext)
  (sSeq (sAsg (mBin dMod (mCall dInt (mCons (mBin dAdd (mBin dMul (mIxH 0 (ret (.int 1))) (ret (.int c1))) (ret (.int c2))) mNil)) (ret (.int 2147483399))) (xIx 0 (ret (.int 1))))
  (sSeq (sSet 3 (mIm (mBin dMod (mCall dInt (mCons (mBin dMul (mIxH 0 (ret (.int 1))) (mBin dAdd (mIxH 0 (ret (.int 1))) (ret (.int c3)))) mNil)) (ret (.int 2147483563)))))
  (sRet (mBin dMod (mCall dInt (mCons (mBin dFdiv (mVar 3) (ret (.int c4))) mNil)) (mVar 1)))))))
def law_some (roll : Sf) : Sf := mDef 2 2
  ((sRet (mBin dIx (mVar 1) (mFn 2 roll (mCons (mVar 0) (mCons (mLen (mPeek 1)) mNil))))))
def law_same : Nat → Sf
  | 0 => fun _ _ => none
  | j + 1 => mDef 2 3 ((sSeq (sIf (mTest (mIsi .tuple (mVar 1))) (sSeq (sIf (mOr (mNot (mTest (mIsi .tuple (mVar 0)))) (mTest (mBin dNe (mLen (mPeek 0)) (mLen (mPeek 1))))) (sRet (ret (.bl false))) sNext)
  (sRet (mCall dAll (mCons (mLc [2] (mRng1 (mLen (mPeek 1))) (gSet 2) (ret true) (mFn 2 (law_same j) (mCons (mBin dIx (mVar 0) (mVar 2)) (mCons (mBin dIx (mVar 1) (mVar 2)) mNil)))) mNil)))) sNext)
  (sSeq (sIf (mTestN D.isN (mVar 1)) (sRet (mUn (fun d => some (.bl d.isN)) (mVar 0))) sNext)
  (sSeq (sIf (mTest (mIsi .bool (mVar 1))) (sRet (mIf (mTest (mVar 1)) (mBin dIs (mVar 0) (ret (.bl true))) (mBin dIs (mVar 0) (ret (.bl false))))) sNext)
  (sSeq (sIf (mTest (mIsi .int (mVar 1))) (sRet (mAndV (mIsi .int (mVar 0)) (mAndV (mUn dNot (mIsi .bool (mVar 0))) (mBin dEq (mCall dInt (mCons (mVar 0) mNil)) (mVar 1))))) sNext)
  (sRet (mAndV (mIsi .str (mVar 0)) (mBin dEq (mCall dStr (mCons (mVar 0) mNil)) (mVar 1)))))))))
def law_figure (roll : Sf) : Sf := mDef 3 12
  ((sSeq (sSet 3 (mIm (mBin dAdd (ret (.int 1)) (mFn 2 roll (mCons (mVar 0) (mCons (mVar 1) mNil))))))
  (sSeq (sSet 4 (ret (.mt [])))
  (sSeq (sFor (mRng2 (ret (.int 1)) (mVar 3)) (xName 5) (sIf (mTest (mBin dGt (mFn 2 roll (mCons (mVar 0) (mCons (ret (.int 7)) mNil))) (ret (.int 0)))) (sPut 4 (mTup (mCons (mFn 2 roll (mCons (mVar 0) (mCons (mVar 5) mNil))) (mCons (mVar 5) mNil))) (mBin dAdd (ret (.int 1)) (mFn 2 roll (mCons (mVar 0) (mCons (mFn 2 (law_some roll) (mCons (mVar 0) (mCons (mLst (mCons (ret (.int 3)) (mCons (ret (.int 9)) mNil))) mNil))) mNil))))) sNext))
  (sSeq (sFor (mRng1 (mIf (mTest (mBin dGt (mVar 3) (ret (.int 2)))) (mFn 2 roll (mCons (mVar 0) (mCons (ret (.int 4)) mNil))) (ret (.int 0)))) (xName 6) (sSeq (sPar 7 8 (mIm (mFn 2 roll (mCons (mVar 0) (mCons (mVar 3) mNil)))) (mIm (mFn 2 roll (mCons (mVar 0) (mCons (mVar 3) mNil)))))
  (sIf (mAnd (mTest (mBin dLt (mVar 7) (mVar 8))) (mTest (mBin dLt (mLen (mPeek 4)) (ret (.int 12))))) (sPut 4 (mTup (mCons (mVar 7) (mCons (mVar 8) mNil))) (mBin dAdd (ret (.int 1)) (mFn 2 roll (mCons (mVar 0) (mCons (ret (.int 9)) mNil))))) sNext)))
  (sSeq (sSet 9 (mIm (mCall dTuple (mCons (mLc [11] (mItems (mSortedD (mPeek 4))) (gSet 11) (ret true) (mBin dAdd (mVar 11) (mTup (mCons (mSolid (mBin dIxD (mPeek 4) (mVar 11))) mNil)))) mNil))))
  (sSeq (sSet 10 (mIm (mCall dTuple (mCons (mLc [6] (mRng1 (mBin dAdd (ret (.int 1)) (mFn 2 roll (mCons (mVar 0) (mCons (mVar 2) mNil))))) (gSet 6) (ret true) (mFn 2 roll (mCons (mVar 0) (mCons (mVar 3) mNil)))) mNil))))
  (sRet (mTup (mCons (mVar 3) (mCons (mVar 9) (mCons (mVar 10) (mCons (mFn 2 (law_some roll) (mCons (mVar 0) (mCons (mLst (mCons (ret (.int 1)) (mCons (ret (.int 4)) (mCons (ret (.int 9)) (mCons (ret (.int 15)) (mCons (ret (.int 22)) (mCons (ret (.int 30)) mNil))))))) mNil))) mNil)))))))))))))
def law_setting (roll : Sf) : Sf := mDef 2 4
  ((sSeq (sSet 2 (mIm (mBin dIx (mVar 1) (ret (.int 3)))))
  (sRet (mCall dTuple (mCons (mLc [3] (mItems (mBin dIx (mVar 1) (ret (.int 2)))) (gSet 3) (ret true) (mFn 2 (law_some roll) (mCons (mVar 0) (mCons (mLst (mCons (mVar 2) (mCons (ret (.int 0)) (mCons (mFn 2 roll (mCons (mVar 0) (mCons (mBin dAdd (mVar 2) (ret (.int 1))) mNil))) (mCons (mFn 2 roll (mCons (mVar 0) (mCons (mBin dAdd (mVar 2) (ret (.int 1))) mNil))) (mCons (mFn 2 roll (mCons (mVar 0) (mCons (mBin dAdd (mVar 2) (ret (.int 1))) mNil))) mNil)))))) mNil)))) mNil)))))
def law_pose : Sf := mDef 2 8
  ((sSeq (sSet 2 (mBinN dMulN (mLst (mCons (mBin dIx (mVar 0) (ret (.int 3))) mNil)) (mBin dIx (mVar 0) (ret (.int 0)))))
  (sSeq (sFor (mZip (mBin dIx (mVar 0) (ret (.int 2))) (mVar 1)) (xTup 2 (xsCons (xName 3) (xsCons (xName 4) xsNil))) (sAsg (mCall dMin2 (mCons (mSolid (mBin dIx (mPeek 2) (mVar 3))) (mCons (mVar 4) mNil))) (xIx 2 (mVar 3))))
  (sSeq (sFor (mRng1 (mBin dIx (mVar 0) (ret (.int 0)))) (xName 5) (sFor (mItems (mBin dIx (mVar 0) (ret (.int 1)))) (xTup 3 (xsCons (xName 6) (xsCons (xName 7) (xsCons (xName 4) xsNil)))) (sAsg (mTup (mCons (mCall dMin2 (mCons (mSolid (mBin dIx (mPeek 2) (mVar 6))) (mCons (mBin dAdd (mSolid (mBin dIx (mPeek 2) (mVar 7))) (mVar 4)) mNil))) (mCons (mCall dMin2 (mCons (mSolid (mBin dIx (mPeek 2) (mVar 7))) (mCons (mBin dAdd (mSolid (mBin dIx (mPeek 2) (mVar 6))) (mVar 4)) mNil))) mNil))) (xTup 2 (xsCons (xIx 2 (mVar 6)) (xsCons (xIx 2 (mVar 7)) xsNil))))))
  (sRet (mCall dTuple (mCons (mVar 2) mNil)))))))
end DM

/-! DM: loops, the cup, rolls. -/
namespace DM
open DL L2
open PySem (Paired)

/-! ### unfolded only where they are run -/
section
variable {α β : Type} {a b c : SE} {p q : SB} {x : Sm α} {f : α → Sm β} {r : SA} {ρ : List Sl} {G : Gs} {g : D → D → Option D} {gN : D → D → Option Sl} {g1 : D → Option D} {gl : List D → Option D} {glN : List D → Option Sl} {gb : D → Bool} {T : Ty} {l h : SO} {k : D → D → Option D}
theorem bnd_ap : bnd x f ρ G = match x ρ G with
  | none => none
  | some (d, ρ1, G1) => f d ρ1 G1 := rfl
theorem ret_ap {d : α} : DL.ret d ρ G = some (d, ρ, G) := rfl
theorem lft_ap {o : Option α} : lft o ρ G = match o with
  | none => none
  | some d => some (d, ρ, G) := rfl
theorem mBin_ap : mBin g a b ρ G = bnd a (fun x => bnd b fun y => lft (g x y)) ρ G := rfl
theorem mBinN_ap : mBinN gN a b ρ G = bnd a (fun x => bnd b fun y => lft (gN x y)) ρ G := rfl
theorem mUn_ap : mUn g1 a ρ G = bnd a (fun x => lft (g1 x)) ρ G := rfl
theorem mNil_ap : mNil ρ G = some ([], ρ, G) := rfl
theorem mCons_ap : mCons a r ρ G = bnd a (fun d => bnd r fun ds => DL.ret (d :: ds)) ρ G := rfl
theorem mTup_ap : mTup r ρ G = bnd r (fun ds => lft (dTup ds)) ρ G := rfl
theorem mLst_ap : mLst r ρ G = bnd r (fun ds => lft (dLst ds)) ρ G := rfl
theorem mLstN_ap : mLstN r ρ G = bnd r (fun ds => lft (dLstN ds)) ρ G := rfl
theorem mCall_ap : mCall gl r ρ G = bnd r (fun ds => lft (gl ds)) ρ G := rfl
theorem mCallN_ap : mCallN glN r ρ G = bnd r (fun ds => lft (glN ds)) ρ G := rfl
theorem mTest_ap : mTest a ρ G = bnd a (fun d => lft (match d with | .bl b => some b | _ => none)) ρ G := rfl
theorem mTestN_ap : mTestN gb a ρ G = bnd a (fun d => DL.ret (gb d)) ρ G := rfl
theorem mAnd_ap : mAnd p q ρ G = bnd p (fun k => if k = true then q else DL.ret false) ρ G := rfl
theorem mOr_ap : mOr p q ρ G = bnd p (fun k => if k = true then DL.ret true else q) ρ G := rfl
theorem mNot_ap : mNot p ρ G = bnd p (fun k => DL.ret (!k)) ρ G := rfl
theorem mAndV_ap : mAndV a b ρ G = bnd a (fun d => match d with
  | .bl true => b
  | .bl false => DL.ret (.bl false)
  | _ => fun _ _ => none) ρ G := rfl
theorem mOrV_ap : mOrV a b ρ G = bnd a (fun d => match d with
  | .bl true => DL.ret (.bl true)
  | .bl false => b
  | _ => fun _ _ => none) ρ G := rfl
theorem mIf_ap : mIf p a b ρ G = bnd p (fun k => if k = true then a else b) ρ G := rfl
theorem mChain_ap : mChain g k a b c ρ G = bnd a (fun x => bnd b fun y => bnd (lft (g x y)) fun z => match z with
  | .bl true => bnd c fun w => lft (k y w)
  | .bl false => DL.ret (.bl false)
  | _ => fun _ _ => none) ρ G := rfl
theorem mPart_ap : mPart a ρ G = bnd a (fun d => lft (match d with | .int i => some (some i) | _ => none)) ρ G := rfl
theorem mSl_ap : mSl a l h ρ G = bnd a (fun x => bnd l fun lo => bnd h fun hi => lft (dSl x lo hi)) ρ G := rfl
theorem mLen_ap : mLen a ρ G = bnd a (fun d => lft (dLen1 d)) ρ G := rfl
theorem mSolid_ap : mSolid a ρ G = bnd a (fun d => lft (if d.solid then some d else none)) ρ G := rfl
theorem mIsi_ap : mIsi T a ρ G = bnd a (fun d => lft ((d.isTy T).map .bl)) ρ G := rfl
theorem mItems_ap : mItems a ρ G = bnd a (fun d => lft d.items) ρ G := rfl
theorem mRng1_ap : mRng1 a ρ G = bnd a (fun d => lft (dRng1 d)) ρ G := rfl
theorem mRng2_ap : mRng2 a b ρ G = bnd a (fun d => bnd b fun e => lft (dRng2 d e)) ρ G := rfl
theorem mZip_ap : mZip a b ρ G = bnd a (fun d => bnd b fun e => lft (dZip d e)) ρ G := rfl
theorem mIm_ap : mIm a ρ G = bnd a (fun d => DL.ret (.im d)) ρ G := rfl
theorem mSortedD_ap : mSortedD a ρ G = bnd a (fun d => lft (dSortedD d)) ρ G := rfl
end
theorem dix4_0 {a b c d : D} : dIx (.tup [a, b, c, d]) (.int 0) = some a := rfl
theorem dix4_1 {a b c d : D} : dIx (.tup [a, b, c, d]) (.int 1) = some b := rfl
theorem dix4_2 {a b c d : D} : dIx (.tup [a, b, c, d]) (.int 2) = some c := rfl
theorem dix4_3 {a b c d : D} : dIx (.tup [a, b, c, d]) (.int 3) = some d := rfl
theorem dix3_0 {a b c : D} : dIx (.tup [a, b, c]) (.int 0) = some a := rfl
theorem dix3_1 {a b c : D} : dIx (.tup [a, b, c]) (.int 1) = some b := rfl
theorem dix3_2 {a b c : D} : dIx (.tup [a, b, c]) (.int 2) = some c := rfl
section
variable {a : SE} {r : SA} {ρ ρ1 ρ2 : List Sl} {G G1 G2 : Gs} {d : D} {ds : List D} {n : Nat} {S : Sf}
theorem mFn_run (h : r ρ G = some (ds, ρ1, G1)) (hn : ds.length = n) (hs : S ds G1 = some (d, G2)) : mFn n S r ρ G = some (d, ρ1, G2) := by
  unfold mFn
  rw [h]
  dsimp only
  rw [if_pos hn, hs]
  rfl
theorem cons_run (h : a ρ G = some (d, ρ1, G1)) (h2 : r ρ1 G1 = some (ds, ρ2, G2)) : mCons a r ρ G = some (d :: ds, ρ2, G2) := by
  unfold mCons bnd
  rw [h]
  dsimp only
  rw [h2]
  rfl
theorem ret_run (h : a ρ G = some (d, ρ1, G1)) : sRet a ρ G = some (.rt d, G1) := by
  unfold sRet
  rw [h]
theorem expr_run (h : a ρ G = some (d, ρ1, G1)) : sExpr a ρ G = some (.nx ρ1, G1) := by
  unfold sExpr
  rw [h]
theorem var_run {i : Nat} (h : ρ[i]? = some (.im d)) : mVar i ρ G = some (d, ρ, G) := by
  unfold mVar
  rw [h]
theorem im_run (h : a ρ G = some (d, ρ1, G1)) : mIm a ρ G = some (.im d, ρ1, G1) := by
  unfold mIm bnd
  rw [h]
  rfl
theorem test_run {b : Bool} (h : a ρ G = some (.bl b, ρ1, G1)) : mTest a ρ G = some (b, ρ1, G1) := by
  unfold mTest bnd
  rw [h]
  rfl
theorem bin_run {b : SE} {x y z : D} {f : D → D → Option D} (h : a ρ G = some (x, ρ1, G1)) (h2 : b ρ1 G1 = some (y, ρ2, G2)) (h3 : f x y = some z) : mBin f a b ρ G = some (z, ρ2, G2) := by
  unfold mBin bnd
  rw [h]
  dsimp only
  rw [h2]
  dsimp only
  rw [h3]
  rfl
theorem tup_run (h : r ρ G = some (ds, ρ1, G1)) (hz : ds.length ≤ 1000000) : mTup r ρ G = some (.tup ds, ρ1, G1) := by
  unfold mTup bnd
  rw [h]
  dsimp only
  unfold lft dTup
  rw [if_pos (show szOk ds.length = true from decide_eq_true hz)]
theorem call_run {f : List D → Option D} (h : r ρ G = some (ds, ρ1, G1)) (hf : f ds = some d) : mCall f r ρ G = some (d, ρ1, G1) := by
  unfold mCall bnd
  rw [h]
  dsimp only
  rw [hf]
  rfl
theorem set_run {i : Nat} {a : SF} {sl : Sl} (h : a ρ G = some (sl, ρ1, G1)) (hi : i < ρ1.length) : sSet i a ρ G = some (.nx (ρ1.set i sl), G1) := by
  unfold sSet
  rw [h]
  dsimp only
  rw [if_pos hi]
end
theorem seq_nx {a b : SS} {ρ ρ1 : List Sl} {G G1 : Gs} (h : a ρ G = some (.nx ρ1, G1)) : sSeq a b ρ G = b ρ1 G1 := by
  unfold sSeq
  rw [h]
theorem seq_rt {a b : SS} {ρ : List Sl} {G G1 : Gs} {d : D} (h : a ρ G = some (.rt d, G1)) : sSeq a b ρ G = some (.rt d, G1) := by
  unfold sSeq
  rw [h]
theorem def_rt {n N : Nat} {body : SS} {ds : List D} {G G1 : Gs} {d : D} (hl : ds.length = n) (h : body (ds.map Sl.im ++ List.replicate (N - n) .un) G = some (.rt d, G1)) : mDef n N body ds G = some (d, G1) := by
  unfold mDef
  rw [if_pos hl, h]
theorem def_nx {n N : Nat} {body : SS} {ds : List D} {ρ : List Sl} {G G1 : Gs} (hl : ds.length = n) (h : body (ds.map Sl.im ++ List.replicate (N - n) .un) G = some (.nx ρ, G1)) : mDef n N body ds G = some (.non, G1) := by
  unfold mDef
  rw [if_pos hl, h]
theorem for_run {it : SA} {tg : SX} {body : SS} {ρ ρ1 : List Sl} {G G1 : Gs} {ds : List D} (h : it ρ G = some (ds, ρ1, G1)) : sFor it tg body ρ G = forLoop tg body ds ρ1 G1 := by
  unfold sFor
  rw [h]

/-! ### loops -/
theorem wipe_at {ρ : List Sl} {i : Nat} : ∀ {vs : List Nat}, ¬ i ∈ vs → (wipeS ρ vs)[i]? = ρ[i]?
  | [], _ => rfl
  | v :: vs, h => by
    unfold wipeS
    rw [List.getElem?_set_ne (fun z => h (by simp [z])), wipe_at fun z => h (List.mem_cons_of_mem _ z)]
theorem wipe_len {ρ : List Sl} : ∀ {vs : List Nat}, (wipeS ρ vs).length = ρ.length
  | [] => rfl
  | v :: vs => by unfold wipeS; rw [List.length_set, wipe_len]
theorem back_len {ρ ρ' : List Sl} : ∀ {vs : List Nat}, (backS ρ ρ' vs).length = ρ'.length
  | [] => rfl
  | v :: vs => by unfold backS; rw [List.length_set, back_len]
theorem back_at {ρ ρ' : List Sl} {i : Nat} (hl : ρ'.length = ρ.length) : ∀ {vs : List Nat}, (i ∈ vs → (backS ρ ρ' vs)[i]? = ρ[i]?) ∧ (¬ i ∈ vs → (backS ρ ρ' vs)[i]? = ρ'[i]?)
  | [] => ⟨fun h => (by cases h), fun _ => rfl⟩
  | v :: vs => by
    obtain ⟨h1, h2⟩ := back_at (i := i) hl (vs := vs)
    unfold backS
    by_cases e : v = i
    · subst e
      by_cases hv : v < ρ.length
      · rw [List.getElem?_set_self (by rw [back_len, hl]; exact hv), List.getElem?_eq_getElem hv]
        exact ⟨fun _ => rfl, fun z => absurd List.mem_cons_self z⟩
      · rw [List.getElem?_eq_none (by rw [List.length_set, back_len, hl]; omega), List.getElem?_eq_none (by omega)]
        exact ⟨fun _ => rfl, fun z => absurd List.mem_cons_self z⟩
    · rw [List.getElem?_set_ne e]
      refine ⟨fun h => ?_, fun h => h2 fun z => h (List.mem_cons_of_mem _ z)⟩
      rcases List.mem_cons.mp h with e2 | h
      · exact absurd e2.symm e
      · exact h1 h
theorem back_wipe {ρ ρ' : List Sl} {vs : List Nat} (h : wipeS ρ' vs = wipeS ρ vs) : backS ρ ρ' vs = ρ := by
  have hl : ρ'.length = ρ.length := by rw [← wipe_len (ρ := ρ') (vs := vs), h, wipe_len]
  apply List.ext_getElem?
  intro i
  obtain ⟨h1, h2⟩ := back_at (i := i) hl (vs := vs)
  by_cases hi : i ∈ vs
  · exact h1 hi
  · rw [h2 hi, ← wipe_at (ρ := ρ') hi, h, wipe_at hi]
section
variable {α : Type} {vs : List Nat} {tg : SG} {tt : SB} {te : SE} {ρ : List Sl} {it : SA} {G G1 : Gs} {xs : List α} {e : α → D}
theorem lc_inv (e : α → D) (Inv : Gs → Prop) (P : α → D → Prop) : ∀ (ds : List α) (acc : List D) (ρ0 : List Sl) (G : Gs), wipeS ρ0 vs = wipeS ρ vs → Inv G →
    (∀ d ∈ ds, ∀ G, Inv G → ∃ ρ1 y G', tg (e d) (wipeS ρ vs) = some ρ1 ∧ te ρ1 G = some (y, ρ1, G') ∧ wipeS ρ1 vs = wipeS ρ vs ∧ Inv G' ∧ P d y) →
    ∃ ys ρ' G', lcLoop vs tg (DL.ret true) te (ds.map e) acc ρ0 G = some (acc ++ ys, ρ', G') ∧ wipeS ρ' vs = wipeS ρ vs ∧ Inv G' ∧ Paired P ds ys
  | [], acc, ρ0, G, hw, hG, _ => ⟨[], ρ0, G, by rw [List.append_nil]; rfl, hw, hG, .nil⟩
  | d :: ds, acc, ρ0, G, hw, hG, h => by
    obtain ⟨ρ1, y, G', e1, e2, e3, hG', hP⟩ := h d List.mem_cons_self G hG
    obtain ⟨ys, ρ', G2, e4, e5, hG2, hp⟩ := lc_inv e Inv P ds (acc ++ [y]) ρ1 G' e3 hG' fun d hd => h d (List.mem_cons_of_mem _ hd)
    refine ⟨y :: ys, ρ', G2, ?_, e5, hG2, .cons hP hp⟩
    have : acc ++ y :: ys = acc ++ [y] ++ ys := by simp
    rw [this, ← e4]
    show (match tg (e d) (wipeS ρ0 vs) with
      | none => none
      | some ρ1 => bnd (DL.ret true) (fun k => if k = true then bnd te fun y => lcLoop vs tg (DL.ret true) te (ds.map e) (acc ++ [y]) else lcLoop vs tg (DL.ret true) te (ds.map e) acc) ρ1 G) = _
    rw [hw, e1]
    show bnd te (fun y => lcLoop vs tg (DL.ret true) te (ds.map e) (acc ++ [y])) ρ1 G = _
    unfold bnd
    rw [e2]
theorem mLc_inv (xs : List α) (e : α → D) (Inv : Gs → Prop) (P : α → D → Prop) (hi : it ρ G = some (xs.map e, ρ, G1)) (hw : okW ρ vs = true) (hz : xs.length ≤ 1000000) (hG : Inv G1)
    (h : ∀ d ∈ xs, ∀ G, Inv G → ∃ ρ1 y G', tg (e d) (wipeS ρ vs) = some ρ1 ∧ te ρ1 G = some (y, ρ1, G') ∧ wipeS ρ1 vs = wipeS ρ vs ∧ Inv G' ∧ P d y) :
    ∃ ys G', mLc vs it tg (DL.ret true) te ρ G = some (.lst ys, ρ, G') ∧ Inv G' ∧ Paired P xs ys := by
  obtain ⟨ys, ρ', G', e1, e2, h1, h2⟩ := lc_inv e Inv P xs [] ρ G1 rfl hG h
  refine ⟨ys, G', ?_, h1, h2⟩
  unfold mLc bnd
  rw [hi]
  dsimp only
  rw [if_pos (by rw [hw, szOk, List.length_map, decide_eq_true hz]; rfl), e1]
  show some (D.lst ([] ++ ys), backS ρ ρ' vs, G') = _
  rw [back_wipe e2, List.nil_append]
theorem paired_map {f : α → D} {ys : List D} (h : Paired (fun d y => y = f d) xs ys) : ys = xs.map f := by
  induction h with
  | nil => rfl
  | cons a t ih => rw [List.map_cons, ← ih, a]
theorem mLc_map (xs : List α) (e : α → D) (f : α → D) (hi : it ρ G = some (xs.map e, ρ, G)) (hw : okW ρ vs = true) (hz : xs.length ≤ 1000000)
    (h : ∀ d ∈ xs, ∃ ρ1, tg (e d) (wipeS ρ vs) = some ρ1 ∧ te ρ1 G = some (f d, ρ1, G) ∧ wipeS ρ1 vs = wipeS ρ vs) :
    mLc vs it tg (DL.ret true) te ρ G = some (.lst (xs.map f), ρ, G) := by
  obtain ⟨ys, G', e1, h1, h2⟩ := mLc_inv (tg := tg) (te := te) xs e (fun G' => G' = G) (fun d y => y = f d) hi hw hz rfl (fun d hd G' hG' => by
    obtain ⟨ρ1, a, b, c⟩ := h d hd
    exact ⟨ρ1, _, G, a, by rw [hG']; exact b, c, rfl, rfl⟩)
  rw [h1] at e1
  rw [e1, paired_map h2]
/-- with a test -/
theorem lc_fm (e : α → D) (f : α → Option D) : ∀ (ds : List α) (acc : List D) (ρ0 : List Sl), wipeS ρ0 vs = wipeS ρ vs →
    (∀ d ∈ ds, ∃ ρ1, tg (e d) (wipeS ρ vs) = some ρ1 ∧ wipeS ρ1 vs = wipeS ρ vs ∧ ((f d = none ∧ tt ρ1 G = some (false, ρ1, G)) ∨ ∃ r, f d = some r ∧ tt ρ1 G = some (true, ρ1, G) ∧ te ρ1 G = some (r, ρ1, G))) →
    ∃ ρ', lcLoop vs tg tt te (ds.map e) acc ρ0 G = some (acc ++ ds.filterMap f, ρ', G) ∧ wipeS ρ' vs = wipeS ρ vs
  | [], acc, ρ0, hw, _ => ⟨ρ0, by rw [List.filterMap_nil, List.append_nil]; rfl, hw⟩
  | d :: ds, acc, ρ0, hw, h => by
    obtain ⟨ρ1, e1, e3, e2⟩ := h d List.mem_cons_self
    have hs := fun d hd => h d (List.mem_cons_of_mem _ hd)
    have un : lcLoop vs tg tt te ((d :: ds).map e) acc ρ0 G = (match tg (e d) (wipeS ρ0 vs) with
      | none => none
      | some ρ1 => bnd tt (fun k => if k = true then bnd te fun y => lcLoop vs tg tt te (ds.map e) (acc ++ [y]) else lcLoop vs tg tt te (ds.map e) acc) ρ1 G) := rfl
    rw [un, hw, e1]
    dsimp only
    unfold bnd
    rcases e2 with ⟨ef, et⟩ | ⟨r, ef, et, ee⟩
    · obtain ⟨ρ', e4, e5⟩ := lc_fm e f ds acc ρ1 e3 hs
      exact ⟨ρ', by rw [et]; dsimp only; rw [if_neg (by decide), e4, List.filterMap_cons_none ef], e5⟩
    · obtain ⟨ρ', e4, e5⟩ := lc_fm e f ds (acc ++ [r]) ρ1 e3 hs
      exact ⟨ρ', by rw [et]; dsimp only; rw [if_pos rfl]; rw [ee]; dsimp only; rw [e4, List.filterMap_cons_some ef]; simp, e5⟩
theorem mLc_fm (xs : List α) (e : α → D) (f : α → Option D) (hi : it ρ G = some (xs.map e, ρ, G)) (hw : okW ρ vs = true) (hz : xs.length ≤ 1000000)
    (h : ∀ d ∈ xs, ∃ ρ1, tg (e d) (wipeS ρ vs) = some ρ1 ∧ wipeS ρ1 vs = wipeS ρ vs ∧ ((f d = none ∧ tt ρ1 G = some (false, ρ1, G)) ∨ ∃ r, f d = some r ∧ tt ρ1 G = some (true, ρ1, G) ∧ te ρ1 G = some (r, ρ1, G))) :
    mLc vs it tg tt te ρ G = some (.lst (xs.filterMap f), ρ, G) := by
  obtain ⟨ρ', e1, e2⟩ := lc_fm e f xs [] ρ rfl h
  unfold mLc bnd
  rw [hi]
  dsimp only
  rw [if_pos (by rw [hw, szOk, List.length_map, decide_eq_true hz]; rfl), e1]
  show some (D.lst ([] ++ _), backS ρ ρ' vs, G) = _
  rw [back_wipe e2, List.nil_append]
end
theorem for_inv {tg : SX} {body : SS} : ∀ (ds : List D) (k : Nat) (I : Nat → List Sl → Gs → Prop) (ρ : List Sl) (G : Gs), I k ρ G →
    (∀ i d, ds[i]? = some d → ∀ ρ G, I (k + i) ρ G → ∃ ρ1 G1 ρ2 G2, tg d ρ G = some (ρ1, G1) ∧ body ρ1 G1 = some (.nx ρ2, G2) ∧ I (k + i + 1) ρ2 G2) →
    ∃ ρ' G', forLoop tg body ds ρ G = some (.nx ρ', G') ∧ I (k + ds.length) ρ' G'
  | [], k, I, ρ, G, h0, _ => ⟨ρ, G, rfl, h0⟩
  | d :: ds, k, I, ρ, G, h0, h => by
    obtain ⟨ρ1, G1, ρ2, G2, e1, e2, h2⟩ := h 0 d rfl ρ G h0
    obtain ⟨ρ', G', e3, h3⟩ := for_inv ds (k + 1) I ρ2 G2 h2 fun i d hd ρ G hI => by
      have := h (i + 1) d (by simpa using hd) ρ G (by rw [show k + (i + 1) = k + 1 + i by omega]; exact hI)
      rw [show k + (i + 1) + 1 = k + 1 + i + 1 by omega] at this
      exact this
    refine ⟨ρ', G', ?_, by rw [List.length_cons, show k + (ds.length + 1) = k + 1 + ds.length by omega]; exact h3⟩
    unfold forLoop
    rw [e1]
    dsimp only
    rw [e2]
    exact e3

/-! ### the cup -/
def Cup (hh : Nat) (G : Gs) : Prop := ∃ (pre : Gs) (a b : Int), G = pre ++ [[.int a, .int b]] ∧ pre.length = hh ∧ 0 ≤ a ∧ 0 ≤ b ∧ b < 2 ^ 60
def RollOk (roll : Sf) : Prop := ∀ {hh : Nat} (G : Gs) (m : Int), Cup hh G → 0 < m → m < 2 ^ 60 → ∃ r G', roll [.hnd hh, .int m] G = some (.int r, G') ∧ Cup hh G' ∧ 0 ≤ r ∧ r < m
theorem gat {α : Type} {pre : List α} {c : α} : (pre ++ [c])[pre.length]? = some c := by simp
theorem gset {α : Type} {pre : List α} {c d : α} : (pre ++ [c]).set pre.length d = pre ++ [d] := by simp
theorem log2_ok {m : Int} (h : 0 < m) (h2 : m < 2 ^ 60) : m.natAbs.log2 < 9000 := by
  have : m.natAbs < 2 ^ 60 := by omega
  have := (Nat.log2_lt (n := m.natAbs) (k := 60) (by omega)).mpr this
  omega
theorem small_of {i : Int} (h : 0 ≤ i) (h2 : i < 2 ^ 60) : small i = true := by
  unfold small
  rw [decide_eq_true (by omega), decide_eq_true (by omega)]
  rfl
theorem law_roll_ok {c1 c2 c3 c4 : Int} (h1 : 0 ≤ c1) (h2 : 0 ≤ c2) (h3 : 0 ≤ c3) (h4 : 0 < c4) (k1 : c1 < 2 ^ 60) (k2 : c2 < 2 ^ 60) (k3 : c3 < 2 ^ 60) (k4 : c4 < 2 ^ 60) : RollOk (law_roll c1 c2 c3 c4) := by
  rintro hh G m ⟨pre, a, b, rfl, rfl, ha, hb, hb2⟩ hm hm2
  have q1 := log2_ok hm hm2
  have q4 := log2_ok h4 k4
  by_cases h : 0 < a
  · refine ⟨a % m, pre ++ [[.int (a / m), .int b]], ?_, ⟨pre, _, _, rfl, rfl, Int.ediv_nonneg ha (by omega), hb, hb2⟩, Int.emod_nonneg _ (by omega), Int.emod_lt_of_pos _ hm⟩
    simp [-Int.reducePow, law_roll, gat, gset, mDef, sSeq, sIf, sSet, sAsg, sAsg2, sPar, sAug, sApp, sPut, sNext, sBreak, sCont, sNever, sRet, sRetN, sShare, sExpr, xName, xIx, xIx2, xTup, xsCons, xsNil, setIx, setIx2, isM2, has, mIm_ap, mVar, mPeek, mSolid_ap, mBin_ap, mBinN_ap, mUn_ap, mCall_ap, mCallN_ap, mCons_ap, mNil_ap, mTup_ap, mLst_ap, mLstN_ap, mTest_ap, mTestN_ap, mAnd_ap, mOr_ap, mNot_ap, mAndV_ap, mOrV_ap, mIf_ap, mChain_ap, mIsi_ap, mLen_ap, mIxH, mSl_ap, mPart_ap, mItems_ap, mRng1_ap, mRng2_ap, mZip_ap, mFn, bnd_ap, lft_ap, ret_ap, dTup, dLst, dLstN, dAdd, dAddN, dSub, dMul, dMulN, dFdiv, dMod, dPow, dNeg, dNot, dLe, dLt, dGt, dGe, dIs, dIsNot, D.isN, D.isTy, dix4_0, dix4_1, dix4_2, dix4_3, dix3_0, dix3_1, dix3_2, atI, ixN, Sl.d, dLen1, dAbs, dMax2, dMin2, dInt, dTuple, dList, dListN, D.items, gSet, gTupS, gsCons, gsNil, D.solid, szOk, wipeS, mSortedD_ap, h, hm, q1]
  · have ea : a = 0 := by omega
    subst ea
    have p1 : 0 ≤ (b * c1 + c2) % 2147483399 := Int.emod_nonneg _ (by decide)
    have p2 : (b * c1 + c2) % 2147483399 < 2147483399 := Int.emod_lt_of_pos _ (by decide)
    have s1 : small c1 = true := small_of h1 k1
    have s2 : small ((b * c1 + c2) % 2147483399) = true := small_of p1 (by omega)
    refine ⟨((b * c1 + c2) % 2147483399 * ((b * c1 + c2) % 2147483399 + c3)) % 2147483563 / c4 % m, pre ++ [[.int 0, .int ((b * c1 + c2) % 2147483399)]], ?_, ⟨pre, _, _, rfl, rfl, by omega, p1, by omega⟩, Int.emod_nonneg _ (by omega), Int.emod_lt_of_pos _ hm⟩
    simp [-Int.reducePow, law_roll, gat, gset, mDef, sSeq, sIf, sSet, sAsg, sAsg2, sPar, sAug, sApp, sPut, sNext, sBreak, sCont, sNever, sRet, sRetN, sShare, sExpr, xName, xIx, xIx2, xTup, xsCons, xsNil, setIx, setIx2, isM2, has, mIm_ap, mVar, mPeek, mSolid_ap, mBin_ap, mBinN_ap, mUn_ap, mCall_ap, mCallN_ap, mCons_ap, mNil_ap, mTup_ap, mLst_ap, mLstN_ap, mTest_ap, mTestN_ap, mAnd_ap, mOr_ap, mNot_ap, mAndV_ap, mOrV_ap, mIf_ap, mChain_ap, mIsi_ap, mLen_ap, mIxH, mSl_ap, mPart_ap, mItems_ap, mRng1_ap, mRng2_ap, mZip_ap, mFn, bnd_ap, lft_ap, ret_ap, dTup, dLst, dLstN, dAdd, dAddN, dSub, dMul, dMulN, dFdiv, dMod, dPow, dNeg, dNot, dLe, dLt, dGt, dGe, dIs, dIsNot, D.isN, D.isTy, dix4_0, dix4_1, dix4_2, dix4_3, dix3_0, dix3_1, dix3_2, atI, ixN, Sl.d, dLen1, dAbs, dMax2, dMin2, dInt, dTuple, dList, dListN, D.items, gSet, gTupS, gsCons, gsNil, D.solid, szOk, wipeS, mSortedD_ap, hm, h4, q1, q4, s1, s2]
theorem law_cup_ok {c1 c2 c3 c4 c5 : Int} (h1 : 0 < c1) (k1 : c1 < 2 ^ 60) (h2 : 0 ≤ c2) (k2 : c2 < 2 ^ 60) (h4 : 0 < c4) (k4 : c4 < 2 ^ 50) (h5 : 0 ≤ c5) (k5 : c5 < 2 ^ 50) (ns : List Int) (hl : ns.length ≤ 63) (G : Gs) :
    ∃ G', law_cup c1 c2 c3 c4 c5 [.scr ns] G = some (.hnd G.length, G') ∧ Cup G.length G' := by
  have q1 := log2_ok h1 k1
  have s2 : small c2 = true := small_of h2 k2
  have hz : ns.length + 1 ≤ 1000000 := by omega
  obtain ⟨x, xs, e⟩ : ∃ x xs, (ns.map D.int) ++ [D.int 0] = D.int x :: xs := by
    cases ns with
    | nil => exact ⟨0, [], rfl⟩
    | cons n ns => exact ⟨n, _, rfl⟩
  have e2 : (0 : Int) < (ns.length : Int) + 1 := by omega
  generalize hc : (if x < 0 then -x else x) = c
  have c0 : 0 ≤ c := by split at hc <;> omega
  by_cases hg : 10 ^ 18 ≤ c
  · refine ⟨G ++ [[.int (c / c1), .int ((c * c2 + c3) % c4 + c5)]], ?_, ⟨G, _, _, rfl, rfl, Int.ediv_nonneg c0 (by omega), ?_, ?_⟩⟩
    · simp [-Int.reducePow, law_cup, mDef, sSeq, sIf, sSet, sAsg, sAsg2, sPar, sAug, sApp, sPut, sNext, sBreak, sCont, sNever, sRet, sRetN, sShare, sExpr, xName, xIx, xIx2, xTup, xsCons, xsNil, setIx, setIx2, isM2, has, mIm_ap, mVar, mPeek, mSolid_ap, mBin_ap, mBinN_ap, mUn_ap, mCall_ap, mCallN_ap, mCons_ap, mNil_ap, mTup_ap, mLst_ap, mLstN_ap, mTest_ap, mTestN_ap, mAnd_ap, mOr_ap, mNot_ap, mAndV_ap, mOrV_ap, mIf_ap, mChain_ap, mIsi_ap, mLen_ap, mIxH, mSl_ap, mPart_ap, mItems_ap, mRng1_ap, mRng2_ap, mZip_ap, mFn, bnd_ap, lft_ap, ret_ap, dTup, dLst, dLstN, dAdd, dAddN, dSub, dMul, dMulN, dFdiv, dMod, dPow, dNeg, dNot, dLe, dLt, dGt, dGe, dIs, dIsNot, D.isN, D.isTy, dix4_0, dix4_1, dix4_2, dix4_3, dix3_0, dix3_1, dix3_2, atI, ixN, Sl.d, dLen1, dAbs, dMax2, dMin2, dInt, dTuple, dList, dListN, D.items, gSet, gTupS, gsCons, gsNil, D.solid, szOk, wipeS, mSortedD_ap, dIx, hz, e, e2, hc, hg, h1, q1, s2, h4]
    · have := Int.emod_nonneg (c * c2 + c3) (by omega : c4 ≠ 0); omega
    · have := Int.emod_lt_of_pos (c * c2 + c3) h4; omega
  · refine ⟨G ++ [[.int 0, .int ((c * c2 + c3) % c4 + c5)]], ?_, ⟨G, _, _, rfl, rfl, by omega, ?_, ?_⟩⟩
    · simp [-Int.reducePow, law_cup, mDef, sSeq, sIf, sSet, sAsg, sAsg2, sPar, sAug, sApp, sPut, sNext, sBreak, sCont, sNever, sRet, sRetN, sShare, sExpr, xName, xIx, xIx2, xTup, xsCons, xsNil, setIx, setIx2, isM2, has, mIm_ap, mVar, mPeek, mSolid_ap, mBin_ap, mBinN_ap, mUn_ap, mCall_ap, mCallN_ap, mCons_ap, mNil_ap, mTup_ap, mLst_ap, mLstN_ap, mTest_ap, mTestN_ap, mAnd_ap, mOr_ap, mNot_ap, mAndV_ap, mOrV_ap, mIf_ap, mChain_ap, mIsi_ap, mLen_ap, mIxH, mSl_ap, mPart_ap, mItems_ap, mRng1_ap, mRng2_ap, mZip_ap, mFn, bnd_ap, lft_ap, ret_ap, dTup, dLst, dLstN, dAdd, dAddN, dSub, dMul, dMulN, dFdiv, dMod, dPow, dNeg, dNot, dLe, dLt, dGt, dGe, dIs, dIsNot, D.isN, D.isTy, dix4_0, dix4_1, dix4_2, dix4_3, dix3_0, dix3_1, dix3_2, atI, ixN, Sl.d, dLen1, dAbs, dMax2, dMin2, dInt, dTuple, dList, dListN, D.items, gSet, gTupS, gsCons, gsNil, D.solid, szOk, wipeS, mSortedD_ap, dIx, hz, e, e2, hc, hg, h1, q1, s2, h4]
    · have := Int.emod_nonneg (c * c2 + c3) (by omega : c4 ≠ 0); omega
    · have := Int.emod_lt_of_pos (c * c2 + c3) h4; omega
theorem atI_nat {xs : List D} {r : Int} (h0 : 0 ≤ r) (h1 : r < xs.length) : ∃ x, x ∈ xs ∧ atI xs r = some x ∧ xs[r.toNat]? = some x := by
  have hr : r.toNat < xs.length := by omega
  refine ⟨xs[r.toNat], List.getElem_mem _, ?_, List.getElem?_eq_getElem hr⟩
  unfold atI ixN
  rw [if_pos h0, if_pos h1]
  exact List.getElem?_eq_getElem hr
theorem law_some_ok {hh : Nat} {roll : Sf} (hr : RollOk roll) (xs : List D) (hx : xs ≠ []) (hz : xs.length ≤ 1000000) (G : Gs) (hG : Cup hh G) : ∃ x G', law_some roll [.hnd hh, .lst xs] G = some (x, G') ∧ Cup hh G' ∧ x ∈ xs := by
  have hp : 0 < xs.length := List.length_pos_iff.mpr hx
  obtain ⟨r, G', e, hG', h0, h1⟩ := hr G (xs.length : Int) hG (by omega) (by omega)
  obtain ⟨x, hx, e2, _⟩ := atI_nat h0 h1
  refine ⟨x, G', ?_, hG', hx⟩
  simp [law_some, mDef, sRet, mFn, mBin, mVar, mLen, mPeek, mCons, mNil, bnd, lft, DL.ret, dLen1, Sl.d, dIx, e, e2]
theorem law_some_okT {hh : Nat} {roll : Sf} (hr : RollOk roll) (xs : List D) (hx : xs ≠ []) (hz : xs.length ≤ 1000000) (G : Gs) (hG : Cup hh G) : ∃ x G', law_some roll [.hnd hh, .tup xs] G = some (x, G') ∧ Cup hh G' ∧ x ∈ xs := by
  have hp : 0 < xs.length := List.length_pos_iff.mpr hx
  obtain ⟨r, G', e, hG', h0, h1⟩ := hr G (xs.length : Int) hG (by omega) (by omega)
  obtain ⟨x, hx, e2, _⟩ := atI_nat h0 h1
  refine ⟨x, G', ?_, hG', hx⟩
  simp [law_some, mDef, sRet, mFn, mBin, mVar, mLen, mPeek, mCons, mNil, bnd, lft, DL.ret, dLen1, Sl.d, dIx, e, e2]
end DM

/-! DM: figures, settings, stances. -/
namespace DM
open DL L2
open PySem (Paired)
section
variable {G : Gs}
theorem is_whole_int (v lo hi : Int) : is_whole [.int v, .int lo, .int hi] G = some (.bl (decide (lo ≤ v) && decide (v ≤ hi)), G) := by
  by_cases h1 : lo ≤ v <;> simp [is_whole, mDef, sSeq, sIf, sSet, sAsg, sAsg2, sPar, sAug, sApp, sPut, sNext, sBreak, sCont, sNever, sRet, sRetN, sShare, sExpr, xName, xIx, xIx2, xTup, xsCons, xsNil, setIx, setIx2, isM2, has, mIm_ap, mVar, mPeek, mSolid_ap, mBin_ap, mBinN_ap, mUn_ap, mCall_ap, mCallN_ap, mCons_ap, mNil_ap, mTup_ap, mLst_ap, mLstN_ap, mTest_ap, mTestN_ap, mAnd_ap, mOr_ap, mNot_ap, mAndV_ap, mOrV_ap, mIf_ap, mChain_ap, mIsi_ap, mLen_ap, mIxH, mSl_ap, mPart_ap, mItems_ap, mRng1_ap, mRng2_ap, mZip_ap, mFn, bnd_ap, lft_ap, ret_ap, dTup, dLst, dLstN, dAdd, dAddN, dSub, dMul, dMulN, dFdiv, dMod, dPow, dNeg, dNot, dLe, dLt, dGt, dGe, dIs, dIsNot, D.isN, D.isTy, dix4_0, dix4_1, dix4_2, dix4_3, dix3_0, dix3_1, dix3_2, atI, ixN, Sl.d, dLen1, dAbs, dMax2, dMin2, dInt, dTuple, dList, dListN, D.items, gSet, gTupS, gsCons, gsNil, D.solid, szOk, wipeS, mSortedD_ap, h1]
theorem is_whole_yes {v lo hi : Int} (h1 : lo ≤ v) (h2 : v ≤ hi) : is_whole [.int v, .int lo, .int hi] G = some (.bl true, G) := by
  rw [is_whole_int, decide_eq_true h1, decide_eq_true h2]; rfl
theorem is_tuple_of_tup (xs : List D) (lo hi : Int) : is_tuple_of [.tup xs, .int lo, .int hi] G = some (.bl (decide (lo ≤ xs.length) && decide ((xs.length : Int) ≤ hi)), G) := by
  by_cases h1 : lo ≤ xs.length <;> simp [is_tuple_of, mDef, sSeq, sIf, sSet, sAsg, sAsg2, sPar, sAug, sApp, sPut, sNext, sBreak, sCont, sNever, sRet, sRetN, sShare, sExpr, xName, xIx, xIx2, xTup, xsCons, xsNil, setIx, setIx2, isM2, has, mIm_ap, mVar, mPeek, mSolid_ap, mBin_ap, mBinN_ap, mUn_ap, mCall_ap, mCallN_ap, mCons_ap, mNil_ap, mTup_ap, mLst_ap, mLstN_ap, mTest_ap, mTestN_ap, mAnd_ap, mOr_ap, mNot_ap, mAndV_ap, mOrV_ap, mIf_ap, mChain_ap, mIsi_ap, mLen_ap, mIxH, mSl_ap, mPart_ap, mItems_ap, mRng1_ap, mRng2_ap, mZip_ap, mFn, bnd_ap, lft_ap, ret_ap, dTup, dLst, dLstN, dAdd, dAddN, dSub, dMul, dMulN, dFdiv, dMod, dPow, dNeg, dNot, dLe, dLt, dGt, dGe, dIs, dIsNot, D.isN, D.isTy, dix4_0, dix4_1, dix4_2, dix4_3, dix3_0, dix3_1, dix3_2, atI, ixN, Sl.d, dLen1, dAbs, dMax2, dMin2, dInt, dTuple, dList, dListN, D.items, gSet, gTupS, gsCons, gsNil, D.solid, szOk, wipeS, mSortedD_ap, h1]
theorem is_tuple_of_yes {xs : List D} {lo hi : Int} (h1 : lo ≤ xs.length) (h2 : (xs.length : Int) ≤ hi) : is_tuple_of [.tup xs, .int lo, .int hi] G = some (.bl true, G) := by
  rw [is_tuple_of_tup, decide_eq_true h1, decide_eq_true h2]; rfl
end
theorem dAll_map {α : Type} (xs : List α) (b : α → Bool) : dAll [.lst (xs.map fun x => .bl (b x))] = some (.bl (xs.all b)) := by
  have : (xs.map fun x => D.bl (b x)) = (xs.map b).map D.bl := by rw [List.map_map]; rfl
  rw [this]
  unfold dAll
  dsimp only
  rw [blsOf_map]
  simp
theorem dAll_true {α : Type} (xs : List α) : dAll [.lst (xs.map fun _ => .bl true)] = some (.bl true) := by
  rw [dAll_map xs fun _ => true]
  simp
theorem cut_from (xs : List D) (k : Nat) : cutD xs (some (k : Int)) none = xs.drop k := by
  unfold cutD
  rw [HT.sIx_nat, HT.sIx_none]
  by_cases h : k ≤ xs.length
  · rw [Nat.min_eq_left h, List.take_of_length_le (by rw [List.length_drop]; omega)]
  · rw [Nat.min_eq_right (by omega), List.drop_eq_nil_of_le (Nat.le_refl _), List.drop_eq_nil_of_le (by omega)]
    simp
theorem cut_to (xs : List D) (k : Nat) : cutD xs none (some (k : Int)) = xs.take k := by
  unfold cutD
  rw [HT.sIx_nat, HT.sIx_none, List.drop_zero, Nat.sub_zero]
  by_cases h : k ≤ xs.length
  · rw [Nat.min_eq_left h]
  · rw [Nat.min_eq_right (by omega), List.take_length, List.take_of_length_le (by omega)]
theorem cut1 (xs : List D) : cutD xs (some 1) none = xs.tail := by rw [← List.drop_one]; exact cut_from xs 1
theorem cut2 (xs : List D) : cutD xs none (some 2) = xs.take 2 := cut_to xs 2
/-! ### figures -/
structure Fig where
  n : Nat
  limbs : List (Nat × Nat × Int)
  ties : List Nat
  floor : Int
def natD (t : Nat) : D := .int (t : Int)
def limbD (l : Nat × Nat × Int) : D := .tup [.int (l.1 : Int), .int (l.2.1 : Int), .int l.2.2]
def Fig.d (F : Fig) : D := .tup [.int (F.n : Int), .tup (F.limbs.map limbD), .tup (F.ties.map natD), .int F.floor]
theorem ixF0 {F : Fig} : dIx F.d (.int 0) = some (.int (F.n : Int)) := rfl
theorem ixF1 {F : Fig} : dIx F.d (.int 1) = some (.tup (F.limbs.map limbD)) := rfl
theorem ixF2 {F : Fig} : dIx F.d (.int 2) = some (.tup (F.ties.map natD)) := rfl
theorem ixF3 {F : Fig} : dIx F.d (.int 3) = some (.int F.floor) := rfl
def LexL (a b : Nat × Nat × Int) : Prop := a.1 < b.1 ∨ (a.1 = b.1 ∧ a.2.1 < b.2.1)
structure Fig.Ok (F : Fig) : Prop where
  n1 : 1 ≤ F.n
  n8 : F.n ≤ 8
  few : F.limbs.length ≤ 12
  limb : ∀ l ∈ F.limbs, l.1 < l.2.1 ∧ l.2.1 < F.n ∧ 1 ≤ l.2.2 ∧ l.2.2 ≤ 9
  lex : F.limbs.Pairwise LexL
  t1 : 1 ≤ F.ties.length
  t6 : F.ties.length ≤ 6
  tie : ∀ t ∈ F.ties, t < F.n
  f1 : 1 ≤ F.floor
  f30 : F.floor ≤ 30
section
variable {G : Gs}
theorem fits_limb_ok {n : Nat} {l : Nat × Nat × Int} (h : l.1 < l.2.1 ∧ l.2.1 < n ∧ 1 ≤ l.2.2 ∧ l.2.2 ≤ 9) : fits_limb [.int (n : Int), limbD l] G = some (.bl true, G) := by
  obtain ⟨h1, h2, h3, h4⟩ := h
  have e1 := is_whole_yes (G := G) (v := (l.1 : Int)) (lo := 0) (hi := (n : Int) - 1) (by omega) (by omega)
  have e2 := is_whole_yes (G := G) (v := (l.2.1 : Int)) (lo := 0) (hi := (n : Int) - 1) (by omega) (by omega)
  have e3 := is_whole_yes (G := G) (v := l.2.2) (lo := 1) (hi := 9) (by omega) (by omega)
  have e4 := is_tuple_of_yes (G := G) (xs := [.int (l.1 : Int), .int (l.2.1 : Int), .int l.2.2]) (lo := 3) (hi := 3) (by simp) (by simp)
  simp [fits_limb, limbD, mDef, sSeq, sIf, sSet, sAsg, sAsg2, sPar, sAug, sApp, sPut, sNext, sBreak, sCont, sNever, sRet, sRetN, sShare, sExpr, xName, xIx, xIx2, xTup, xsCons, xsNil, setIx, setIx2, isM2, has, mIm_ap, mVar, mPeek, mSolid_ap, mBin_ap, mBinN_ap, mUn_ap, mCall_ap, mCallN_ap, mCons_ap, mNil_ap, mTup_ap, mLst_ap, mLstN_ap, mTest_ap, mTestN_ap, mAnd_ap, mOr_ap, mNot_ap, mAndV_ap, mOrV_ap, mIf_ap, mChain_ap, mIsi_ap, mLen_ap, mIxH, mSl_ap, mPart_ap, mItems_ap, mRng1_ap, mRng2_ap, mZip_ap, mFn, bnd_ap, lft_ap, ret_ap, dTup, dLst, dLstN, dAdd, dAddN, dSub, dMul, dMulN, dFdiv, dMod, dPow, dNeg, dNot, dLe, dLt, dGt, dGe, dIs, dIsNot, D.isN, D.isTy, dix4_0, dix4_1, dix4_2, dix4_3, dix3_0, dix3_1, dix3_2, atI, ixN, Sl.d, dLen1, dAbs, dMax2, dMin2, dInt, dTuple, dList, dListN, D.items, gSet, gTupS, gsCons, gsNil, D.solid, szOk, wipeS, mSortedD_ap, e1, e2, e3, e4, h1]
theorem zip_next {α : Type} {R : α → α → Prop} : ∀ {xs : List α}, xs.Pairwise R → ∀ p ∈ xs.zip (xs.drop 1), R p.1 p.2
  | [], _, p, hp => by simp at hp
  | [x], _, p, hp => by simp at hp
  | x :: y :: xs, h, p, hp => by
    have e : (x :: y :: xs).zip ((x :: y :: xs).drop 1) = (x, y) :: (y :: xs).zip ((y :: xs).drop 1) := rfl
    rw [e] at hp
    rcases List.mem_cons.mp hp with q | hp
    · rw [q]; exact (List.pairwise_cons.mp h).1 y List.mem_cons_self
    · exact zip_next (List.pairwise_cons.mp h).2 p hp
theorem fits_figure_ok {F : Fig} (h : F.Ok) : fits_figure [F.d] G = some (.bl true, G) := by
  have e1 := is_tuple_of_yes (G := G) (xs := [.int (F.n : Int), .tup (F.limbs.map limbD), .tup (F.ties.map natD), .int F.floor]) (lo := 4) (hi := 4) (by simp) (by simp)
  have n1 := h.n1
  have n8 := h.n8
  have e2 := is_whole_yes (G := G) (v := (F.n : Int)) (lo := 1) (hi := 8) (by omega) (by omega)
  have e3 := is_whole_yes (G := G) (v := F.floor) (lo := 1) (hi := 30) h.f1 h.f30
  have few := h.few
  have t1 := h.t1
  have t6 := h.t6
  have e4 := is_tuple_of_yes (G := G) (xs := F.limbs.map limbD) (lo := 0) (hi := 12) (by omega) (by rw [List.length_map]; omega)
  have e5 := is_tuple_of_yes (G := G) (xs := F.ties.map natD) (lo := 1) (hi := 6) (by rw [List.length_map]; omega) (by rw [List.length_map]; omega)
  have a1 := mLc_map (vs := [8]) (it := mItems (mVar 2)) (tg := gSet 8) (te := mFn 2 fits_limb (mCons (mVar 1) (mCons (mVar 8) mNil))) (G := G)
    (ρ := [.im F.d, .im (.int F.n), .im (.tup (F.limbs.map limbD)), .im (.tup (F.ties.map natD)), .im (.int F.floor), .un, .un, .un, .un]) F.limbs limbD (fun _ => .bl true) rfl rfl (by omega) fun l hl =>
      ⟨_, rfl, by simp [mDef, sSeq, sIf, sSet, sAsg, sAsg2, sPar, sAug, sApp, sPut, sNext, sBreak, sCont, sNever, sRet, sRetN, sShare, sExpr, xName, xIx, xIx2, xTup, xsCons, xsNil, setIx, setIx2, isM2, has, mIm_ap, mVar, mPeek, mSolid_ap, mBin_ap, mBinN_ap, mUn_ap, mCall_ap, mCallN_ap, mCons_ap, mNil_ap, mTup_ap, mLst_ap, mLstN_ap, mTest_ap, mTestN_ap, mAnd_ap, mOr_ap, mNot_ap, mAndV_ap, mOrV_ap, mIf_ap, mChain_ap, mIsi_ap, mLen_ap, mIxH, mSl_ap, mPart_ap, mItems_ap, mRng1_ap, mRng2_ap, mZip_ap, mFn, bnd_ap, lft_ap, ret_ap, dTup, dLst, dLstN, dAdd, dAddN, dSub, dMul, dMulN, dFdiv, dMod, dPow, dNeg, dNot, dLe, dLt, dGt, dGe, dIs, dIsNot, D.isN, D.isTy, dix4_0, dix4_1, dix4_2, dix4_3, dix3_0, dix3_1, dix3_2, atI, ixN, Sl.d, dLen1, dAbs, dMax2, dMin2, dInt, dTuple, dList, dListN, D.items, gSet, gTupS, gsCons, gsNil, D.solid, szOk, wipeS, mSortedD_ap, fits_limb_ok (h.limb l hl)], rfl⟩
  have hzip : ((F.limbs.map limbD).zip (F.limbs.map limbD).tail).map (fun p => D.tup [p.1, p.2]) = (F.limbs.zip F.limbs.tail).map fun p => D.tup [limbD p.1, limbD p.2] := by
    rw [← List.map_tail, List.zip_map, List.map_map]
    rfl
  have a2 := mLc_map (vs := [5, 6]) (it := mZip (mVar 2) (mSl (mVar 2) (mPart (DL.ret (.int 1))) (DL.ret none))) (tg := gTupS 2 (gsCons (gSet 5) (gsCons (gSet 6) gsNil)))
    (te := mBin dLt (mSl (mVar 5) (DL.ret none) (mPart (DL.ret (.int 2)))) (mSl (mVar 6) (DL.ret none) (mPart (DL.ret (.int 2))))) (G := G)
    (ρ := [.im F.d, .im (.int F.n), .im (.tup (F.limbs.map limbD)), .im (.tup (F.ties.map natD)), .im (.int F.floor), .un, .un, .un, .un]) (F.limbs.zip F.limbs.tail) (fun p => .tup [limbD p.1, limbD p.2]) (fun _ => .bl true)
    (by simp [mDef, sSeq, sIf, sSet, sAsg, sAsg2, sPar, sAug, sApp, sPut, sNext, sBreak, sCont, sNever, sRet, sRetN, sShare, sExpr, xName, xIx, xIx2, xTup, xsCons, xsNil, setIx, setIx2, isM2, has, mIm_ap, mVar, mPeek, mSolid_ap, mBin_ap, mBinN_ap, mUn_ap, mCall_ap, mCallN_ap, mCons_ap, mNil_ap, mTup_ap, mLst_ap, mLstN_ap, mTest_ap, mTestN_ap, mAnd_ap, mOr_ap, mNot_ap, mAndV_ap, mOrV_ap, mIf_ap, mChain_ap, mIsi_ap, mLen_ap, mIxH, mSl_ap, mPart_ap, mItems_ap, mRng1_ap, mRng2_ap, mZip_ap, mFn, bnd_ap, lft_ap, ret_ap, dTup, dLst, dLstN, dAdd, dAddN, dSub, dMul, dMulN, dFdiv, dMod, dPow, dNeg, dNot, dLe, dLt, dGt, dGe, dIs, dIsNot, D.isN, D.isTy, dix4_0, dix4_1, dix4_2, dix4_3, dix3_0, dix3_1, dix3_2, atI, ixN, Sl.d, dLen1, dAbs, dMax2, dMin2, dInt, dTuple, dList, dListN, D.items, gSet, gTupS, gsCons, gsNil, D.solid, szOk, wipeS, mSortedD_ap, dSl, cut1, dZip, zipD, hzip]) rfl (by rw [List.length_zip]; omega) fun p hp =>
      ⟨_, rfl, by
        rcases zip_next h.lex p (by rw [List.drop_one]; exact hp) with q | ⟨q1, q2⟩
        · simp [mDef, sSeq, sIf, sSet, sAsg, sAsg2, sPar, sAug, sApp, sPut, sNext, sBreak, sCont, sNever, sRet, sRetN, sShare, sExpr, xName, xIx, xIx2, xTup, xsCons, xsNil, setIx, setIx2, isM2, has, mIm_ap, mVar, mPeek, mSolid_ap, mBin_ap, mBinN_ap, mUn_ap, mCall_ap, mCallN_ap, mCons_ap, mNil_ap, mTup_ap, mLst_ap, mLstN_ap, mTest_ap, mTestN_ap, mAnd_ap, mOr_ap, mNot_ap, mAndV_ap, mOrV_ap, mIf_ap, mChain_ap, mIsi_ap, mLen_ap, mIxH, mSl_ap, mPart_ap, mItems_ap, mRng1_ap, mRng2_ap, mZip_ap, mFn, bnd_ap, lft_ap, ret_ap, dTup, dLst, dLstN, dAdd, dAddN, dSub, dMul, dMulN, dFdiv, dMod, dPow, dNeg, dNot, dLe, dLt, dGt, dGe, dIs, dIsNot, D.isN, D.isTy, dix4_0, dix4_1, dix4_2, dix4_3, dix3_0, dix3_1, dix3_2, atI, ixN, Sl.d, dLen1, dAbs, dMax2, dMin2, dInt, dTuple, dList, dListN, D.items, gSet, gTupS, gsCons, gsNil, D.solid, szOk, wipeS, mSortedD_ap, dSl, cut2, limbD, intsOf, HT.lexLt, q]
          omega
        · simp [mDef, sSeq, sIf, sSet, sAsg, sAsg2, sPar, sAug, sApp, sPut, sNext, sBreak, sCont, sNever, sRet, sRetN, sShare, sExpr, xName, xIx, xIx2, xTup, xsCons, xsNil, setIx, setIx2, isM2, has, mIm_ap, mVar, mPeek, mSolid_ap, mBin_ap, mBinN_ap, mUn_ap, mCall_ap, mCallN_ap, mCons_ap, mNil_ap, mTup_ap, mLst_ap, mLstN_ap, mTest_ap, mTestN_ap, mAnd_ap, mOr_ap, mNot_ap, mAndV_ap, mOrV_ap, mIf_ap, mChain_ap, mIsi_ap, mLen_ap, mIxH, mSl_ap, mPart_ap, mItems_ap, mRng1_ap, mRng2_ap, mZip_ap, mFn, bnd_ap, lft_ap, ret_ap, dTup, dLst, dLstN, dAdd, dAddN, dSub, dMul, dMulN, dFdiv, dMod, dPow, dNeg, dNot, dLe, dLt, dGt, dGe, dIs, dIsNot, D.isN, D.isTy, dix4_0, dix4_1, dix4_2, dix4_3, dix3_0, dix3_1, dix3_2, atI, ixN, Sl.d, dLen1, dAbs, dMax2, dMin2, dInt, dTuple, dList, dListN, D.items, gSet, gTupS, gsCons, gsNil, D.solid, szOk, wipeS, mSortedD_ap, dSl, cut2, limbD, intsOf, HT.lexLt, q1, q2]
          omega, rfl⟩
  have a3 := mLc_map (vs := [7]) (it := mItems (mVar 3)) (tg := gSet 7) (te := mFn 3 is_whole (mCons (mVar 7) (mCons (DL.ret (.int 0)) (mCons (mBin dSub (mVar 1) (DL.ret (.int 1))) mNil)))) (G := G)
    (ρ := [.im F.d, .im (.int F.n), .im (.tup (F.limbs.map limbD)), .im (.tup (F.ties.map natD)), .im (.int F.floor), .un, .un, .un, .un]) F.ties natD (fun _ => .bl true) rfl rfl (by omega) fun t ht =>
      ⟨_, rfl, by
        have ht := h.tie t ht
        simp [mDef, sSeq, sIf, sSet, sAsg, sAsg2, sPar, sAug, sApp, sPut, sNext, sBreak, sCont, sNever, sRet, sRetN, sShare, sExpr, xName, xIx, xIx2, xTup, xsCons, xsNil, setIx, setIx2, isM2, has, mIm_ap, mVar, mPeek, mSolid_ap, mBin_ap, mBinN_ap, mUn_ap, mCall_ap, mCallN_ap, mCons_ap, mNil_ap, mTup_ap, mLst_ap, mLstN_ap, mTest_ap, mTestN_ap, mAnd_ap, mOr_ap, mNot_ap, mAndV_ap, mOrV_ap, mIf_ap, mChain_ap, mIsi_ap, mLen_ap, mIxH, mSl_ap, mPart_ap, mItems_ap, mRng1_ap, mRng2_ap, mZip_ap, mFn, bnd_ap, lft_ap, ret_ap, dTup, dLst, dLstN, dAdd, dAddN, dSub, dMul, dMulN, dFdiv, dMod, dPow, dNeg, dNot, dLe, dLt, dGt, dGe, dIs, dIsNot, D.isN, D.isTy, dix4_0, dix4_1, dix4_2, dix4_3, dix3_0, dix3_1, dix3_2, atI, ixN, Sl.d, dLen1, dAbs, dMax2, dMin2, dInt, dTuple, dList, dListN, D.items, gSet, gTupS, gsCons, gsNil, D.solid, szOk, wipeS, mSortedD_ap, natD, is_whole_yes (G := G) (v := (t : Int)) (lo := 0) (hi := (F.n : Int) - 1) (by omega) (by omega)], rfl⟩
  have d1 : dAll [.lst (F.limbs.map fun _ => .bl true)] = some (.bl true) := dAll_true _
  have d2 : dAll [.lst ((F.limbs.zip F.limbs.tail).map fun _ => .bl true)] = some (.bl true) := dAll_true _
  have d3 : dAll [.lst (F.ties.map fun _ => .bl true)] = some (.bl true) := dAll_true _
  refine def_rt rfl ?_
  refine (seq_nx (ρ1 := [.im F.d, .un, .un, .un, .un, .un, .un, .un, .un]) (G1 := G) (by simp [Fig.d, mDef, sSeq, sIf, sSet, sAsg, sAsg2, sPar, sAug, sApp, sPut, sNext, sBreak, sCont, sNever, sRet, sRetN, sShare, sExpr, xName, xIx, xIx2, xTup, xsCons, xsNil, setIx, setIx2, isM2, has, mIm_ap, mVar, mPeek, mSolid_ap, mBin_ap, mBinN_ap, mUn_ap, mCall_ap, mCallN_ap, mCons_ap, mNil_ap, mTup_ap, mLst_ap, mLstN_ap, mTest_ap, mTestN_ap, mAnd_ap, mOr_ap, mNot_ap, mAndV_ap, mOrV_ap, mIf_ap, mChain_ap, mIsi_ap, mLen_ap, mIxH, mSl_ap, mPart_ap, mItems_ap, mRng1_ap, mRng2_ap, mZip_ap, mFn, bnd_ap, lft_ap, ret_ap, dTup, dLst, dLstN, dAdd, dAddN, dSub, dMul, dMulN, dFdiv, dMod, dPow, dNeg, dNot, dLe, dLt, dGt, dGe, dIs, dIsNot, D.isN, D.isTy, dix4_0, dix4_1, dix4_2, dix4_3, dix3_0, dix3_1, dix3_2, atI, ixN, Sl.d, dLen1, dAbs, dMax2, dMin2, dInt, dTuple, dList, dListN, D.items, gSet, gTupS, gsCons, gsNil, D.solid, szOk, wipeS, mSortedD_ap, e1, e2, e3])).trans ?_
  refine (seq_nx (ρ1 := [.im F.d, .im (.int F.n), .im (.tup (F.limbs.map limbD)), .im (.tup (F.ties.map natD)), .im (.int F.floor), .un, .un, .un, .un]) (G1 := G) (by simp [Fig.d, mDef, sSeq, sIf, sSet, sAsg, sAsg2, sPar, sAug, sApp, sPut, sNext, sBreak, sCont, sNever, sRet, sRetN, sShare, sExpr, xName, xIx, xIx2, xTup, xsCons, xsNil, setIx, setIx2, isM2, has, mIm_ap, mVar, mPeek, mSolid_ap, mBin_ap, mBinN_ap, mUn_ap, mCall_ap, mCallN_ap, mCons_ap, mNil_ap, mTup_ap, mLst_ap, mLstN_ap, mTest_ap, mTestN_ap, mAnd_ap, mOr_ap, mNot_ap, mAndV_ap, mOrV_ap, mIf_ap, mChain_ap, mIsi_ap, mLen_ap, mIxH, mSl_ap, mPart_ap, mItems_ap, mRng1_ap, mRng2_ap, mZip_ap, mFn, bnd_ap, lft_ap, ret_ap, dTup, dLst, dLstN, dAdd, dAddN, dSub, dMul, dMulN, dFdiv, dMod, dPow, dNeg, dNot, dLe, dLt, dGt, dGe, dIs, dIsNot, D.isN, D.isTy, dix4_0, dix4_1, dix4_2, dix4_3, dix3_0, dix3_1, dix3_2, atI, ixN, Sl.d, dLen1, dAbs, dMax2, dMin2, dInt, dTuple, dList, dListN, D.items, gSet, gTupS, gsCons, gsNil, D.solid, szOk, wipeS, mSortedD_ap])).trans ?_
  refine (seq_nx (ρ1 := [.im F.d, .im (.int F.n), .im (.tup (F.limbs.map limbD)), .im (.tup (F.ties.map natD)), .im (.int F.floor), .un, .un, .un, .un]) (G1 := G) (by simp [mDef, sSeq, sIf, sSet, sAsg, sAsg2, sPar, sAug, sApp, sPut, sNext, sBreak, sCont, sNever, sRet, sRetN, sShare, sExpr, xName, xIx, xIx2, xTup, xsCons, xsNil, setIx, setIx2, isM2, has, mIm_ap, mVar, mPeek, mSolid_ap, mBin_ap, mBinN_ap, mUn_ap, mCall_ap, mCallN_ap, mCons_ap, mNil_ap, mTup_ap, mLst_ap, mLstN_ap, mTest_ap, mTestN_ap, mAnd_ap, mOr_ap, mNot_ap, mAndV_ap, mOrV_ap, mIf_ap, mChain_ap, mIsi_ap, mLen_ap, mIxH, mSl_ap, mPart_ap, mItems_ap, mRng1_ap, mRng2_ap, mZip_ap, mFn, bnd_ap, lft_ap, ret_ap, dTup, dLst, dLstN, dAdd, dAddN, dSub, dMul, dMulN, dFdiv, dMod, dPow, dNeg, dNot, dLe, dLt, dGt, dGe, dIs, dIsNot, D.isN, D.isTy, dix4_0, dix4_1, dix4_2, dix4_3, dix3_0, dix3_1, dix3_2, atI, ixN, Sl.d, dLen1, dAbs, dMax2, dMin2, dInt, dTuple, dList, dListN, D.items, gSet, gTupS, gsCons, gsNil, D.solid, szOk, wipeS, mSortedD_ap, e4, a1, d1])).trans ?_
  refine (seq_nx (ρ1 := [.im F.d, .im (.int F.n), .im (.tup (F.limbs.map limbD)), .im (.tup (F.ties.map natD)), .im (.int F.floor), .un, .un, .un, .un]) (G1 := G) (by simp [mDef, sSeq, sIf, sSet, sAsg, sAsg2, sPar, sAug, sApp, sPut, sNext, sBreak, sCont, sNever, sRet, sRetN, sShare, sExpr, xName, xIx, xIx2, xTup, xsCons, xsNil, setIx, setIx2, isM2, has, mIm_ap, mVar, mPeek, mSolid_ap, mBin_ap, mBinN_ap, mUn_ap, mCall_ap, mCallN_ap, mCons_ap, mNil_ap, mTup_ap, mLst_ap, mLstN_ap, mTest_ap, mTestN_ap, mAnd_ap, mOr_ap, mNot_ap, mAndV_ap, mOrV_ap, mIf_ap, mChain_ap, mIsi_ap, mLen_ap, mIxH, mSl_ap, mPart_ap, mItems_ap, mRng1_ap, mRng2_ap, mZip_ap, mFn, bnd_ap, lft_ap, ret_ap, dTup, dLst, dLstN, dAdd, dAddN, dSub, dMul, dMulN, dFdiv, dMod, dPow, dNeg, dNot, dLe, dLt, dGt, dGe, dIs, dIsNot, D.isN, D.isTy, dix4_0, dix4_1, dix4_2, dix4_3, dix3_0, dix3_1, dix3_2, atI, ixN, Sl.d, dLen1, dAbs, dMax2, dMin2, dInt, dTuple, dList, dListN, D.items, gSet, gTupS, gsCons, gsNil, D.solid, szOk, wipeS, mSortedD_ap, a2, d2])).trans ?_
  simp [mDef, sSeq, sIf, sSet, sAsg, sAsg2, sPar, sAug, sApp, sPut, sNext, sBreak, sCont, sNever, sRet, sRetN, sShare, sExpr, xName, xIx, xIx2, xTup, xsCons, xsNil, setIx, setIx2, isM2, has, mIm_ap, mVar, mPeek, mSolid_ap, mBin_ap, mBinN_ap, mUn_ap, mCall_ap, mCallN_ap, mCons_ap, mNil_ap, mTup_ap, mLst_ap, mLstN_ap, mTest_ap, mTestN_ap, mAnd_ap, mOr_ap, mNot_ap, mAndV_ap, mOrV_ap, mIf_ap, mChain_ap, mIsi_ap, mLen_ap, mIxH, mSl_ap, mPart_ap, mItems_ap, mRng1_ap, mRng2_ap, mZip_ap, mFn, bnd_ap, lft_ap, ret_ap, dTup, dLst, dLstN, dAdd, dAddN, dSub, dMul, dMulN, dFdiv, dMod, dPow, dNeg, dNot, dLe, dLt, dGt, dGe, dIs, dIsNot, D.isN, D.isTy, dix4_0, dix4_1, dix4_2, dix4_3, dix3_0, dix3_1, dix3_2, atI, ixN, Sl.d, dLen1, dAbs, dMax2, dMin2, dInt, dTuple, dList, dListN, D.items, gSet, gTupS, gsCons, gsNil, D.solid, szOk, wipeS, mSortedD_ap, a3, d3, e5]
/-! ### settings, depths -/
def intsD (s : List Int) : D := .tup (s.map .int)
def iat (d : List Int) (i : Nat) : Int := (d[i]?).getD 0
theorem ix_ints {d : List Int} {i : Nat} (h : i < d.length) : dIx (intsD d) (.int (i : Int)) = some (.int (iat d i)) := by
  unfold intsD dIx atI ixN
  dsimp only
  rw [if_pos (by omega), if_pos (by rw [List.length_map]; omega)]
  unfold iat
  rw [List.getElem?_eq_getElem h]
  simp [h]
def InR (n : Nat) (f : Int) (d : List Int) : Prop := d.length = n ∧ ∀ x ∈ d, 0 ≤ x ∧ x ≤ f
theorem fits_setting_ok {F : Fig} (h : F.Ok) {s : List Int} (hs : InR F.ties.length F.floor s) : fits_setting [F.d, intsD s] G = some (.bl true, G) := by
  have t6 := h.t6
  obtain ⟨hl, hr⟩ := hs
  have e5 : is_tuple_of [intsD s, .int F.ties.length, .int F.ties.length] G = some (.bl true, G) := is_tuple_of_yes (by rw [List.length_map]; omega) (by rw [List.length_map]; omega)
  have a3 := mLc_map (vs := [3]) (it := mItems (mVar 1)) (tg := gSet 3) (te := mFn 3 is_whole (mCons (mVar 3) (mCons (DL.ret (.int 0)) (mCons (mBin dIx (mVar 0) (DL.ret (.int 3))) mNil)))) (G := G)
    (ρ := [.im F.d, .im (intsD s), .im (.int F.ties.length), .un]) s D.int (fun _ => .bl true) rfl rfl (by omega) fun t ht =>
      ⟨_, rfl, by
        obtain ⟨h1, h2⟩ := hr t ht
        simp [mDef, sSeq, sIf, sSet, sAsg, sAsg2, sPar, sAug, sApp, sPut, sNext, sBreak, sCont, sNever, sRet, sRetN, sShare, sExpr, xName, xIx, xIx2, xTup, xsCons, xsNil, setIx, setIx2, isM2, has, mIm_ap, mVar, mPeek, mSolid_ap, mBin_ap, mBinN_ap, mUn_ap, mCall_ap, mCallN_ap, mCons_ap, mNil_ap, mTup_ap, mLst_ap, mLstN_ap, mTest_ap, mTestN_ap, mAnd_ap, mOr_ap, mNot_ap, mAndV_ap, mOrV_ap, mIf_ap, mChain_ap, mIsi_ap, mLen_ap, mIxH, mSl_ap, mPart_ap, mItems_ap, mRng1_ap, mRng2_ap, mZip_ap, mFn, bnd_ap, lft_ap, ret_ap, dTup, dLst, dLstN, dAdd, dAddN, dSub, dMul, dMulN, dFdiv, dMod, dPow, dNeg, dNot, dLe, dLt, dGt, dGe, dIs, dIsNot, D.isN, D.isTy, dix4_0, dix4_1, dix4_2, dix4_3, dix3_0, dix3_1, dix3_2, atI, ixN, Sl.d, dLen1, dAbs, dMax2, dMin2, dInt, dTuple, dList, dListN, D.items, gSet, gTupS, gsCons, gsNil, D.solid, szOk, wipeS, mSortedD_ap, Fig.d, is_whole_yes (G := G) h1 h2], rfl⟩
  have d3 : dAll [.lst (s.map fun _ => .bl true)] = some (.bl true) := dAll_true _
  refine def_rt rfl ?_
  refine (seq_nx (ρ1 := [.im F.d, .im (intsD s), .im (.int F.ties.length), .un]) (G1 := G) (by simp [Fig.d, mDef, sSeq, sIf, sSet, sAsg, sAsg2, sPar, sAug, sApp, sPut, sNext, sBreak, sCont, sNever, sRet, sRetN, sShare, sExpr, xName, xIx, xIx2, xTup, xsCons, xsNil, setIx, setIx2, isM2, has, mIm_ap, mVar, mPeek, mSolid_ap, mBin_ap, mBinN_ap, mUn_ap, mCall_ap, mCallN_ap, mCons_ap, mNil_ap, mTup_ap, mLst_ap, mLstN_ap, mTest_ap, mTestN_ap, mAnd_ap, mOr_ap, mNot_ap, mAndV_ap, mOrV_ap, mIf_ap, mChain_ap, mIsi_ap, mLen_ap, mIxH, mSl_ap, mPart_ap, mItems_ap, mRng1_ap, mRng2_ap, mZip_ap, mFn, bnd_ap, lft_ap, ret_ap, dTup, dLst, dLstN, dAdd, dAddN, dSub, dMul, dMulN, dFdiv, dMod, dPow, dNeg, dNot, dLe, dLt, dGt, dGe, dIs, dIsNot, D.isN, D.isTy, dix4_0, dix4_1, dix4_2, dix4_3, dix3_0, dix3_1, dix3_2, atI, ixN, Sl.d, dLen1, dAbs, dMax2, dMin2, dInt, dTuple, dList, dListN, D.items, gSet, gTupS, gsCons, gsNil, D.solid, szOk, wipeS, mSortedD_ap])).trans ?_
  simp [mDef, sSeq, sIf, sSet, sAsg, sAsg2, sPar, sAug, sApp, sPut, sNext, sBreak, sCont, sNever, sRet, sRetN, sShare, sExpr, xName, xIx, xIx2, xTup, xsCons, xsNil, setIx, setIx2, isM2, has, mIm_ap, mVar, mPeek, mSolid_ap, mBin_ap, mBinN_ap, mUn_ap, mCall_ap, mCallN_ap, mCons_ap, mNil_ap, mTup_ap, mLst_ap, mLstN_ap, mTest_ap, mTestN_ap, mAnd_ap, mOr_ap, mNot_ap, mAndV_ap, mOrV_ap, mIf_ap, mChain_ap, mIsi_ap, mLen_ap, mIxH, mSl_ap, mPart_ap, mItems_ap, mRng1_ap, mRng2_ap, mZip_ap, mFn, bnd_ap, lft_ap, ret_ap, dTup, dLst, dLstN, dAdd, dAddN, dSub, dMul, dMulN, dFdiv, dMod, dPow, dNeg, dNot, dLe, dLt, dGt, dGe, dIs, dIsNot, D.isN, D.isTy, dix4_0, dix4_1, dix4_2, dix4_3, dix3_0, dix3_1, dix3_2, atI, ixN, Sl.d, dLen1, dAbs, dMax2, dMin2, dInt, dTuple, dList, dListN, D.items, gSet, gTupS, gsCons, gsNil, D.solid, szOk, wipeS, mSortedD_ap, ixF0, ixF1, ixF2, ixF3, e5, a3, d3]
theorem fits_depths_ok {F : Fig} (h : F.Ok) {s : List Int} (hs : InR F.n F.floor s) : fits_depths [F.d, intsD s] G = some (.bl true, G) := by
  have n8 := h.n8
  obtain ⟨hl, hr⟩ := hs
  have e5 : is_tuple_of [intsD s, .int F.n, .int F.n] G = some (.bl true, G) := is_tuple_of_yes (by rw [List.length_map]; omega) (by rw [List.length_map]; omega)
  have a3 := mLc_map (vs := [2]) (it := mItems (mVar 1)) (tg := gSet 2) (te := mFn 3 is_whole (mCons (mVar 2) (mCons (DL.ret (.int 0)) (mCons (mBin dIx (mVar 0) (DL.ret (.int 3))) mNil)))) (G := G)
    (ρ := [.im F.d, .im (intsD s), .un]) s D.int (fun _ => .bl true) rfl rfl (by omega) fun t ht =>
      ⟨_, rfl, by
        obtain ⟨h1, h2⟩ := hr t ht
        simp [mDef, sSeq, sIf, sSet, sAsg, sAsg2, sPar, sAug, sApp, sPut, sNext, sBreak, sCont, sNever, sRet, sRetN, sShare, sExpr, xName, xIx, xIx2, xTup, xsCons, xsNil, setIx, setIx2, isM2, has, mIm_ap, mVar, mPeek, mSolid_ap, mBin_ap, mBinN_ap, mUn_ap, mCall_ap, mCallN_ap, mCons_ap, mNil_ap, mTup_ap, mLst_ap, mLstN_ap, mTest_ap, mTestN_ap, mAnd_ap, mOr_ap, mNot_ap, mAndV_ap, mOrV_ap, mIf_ap, mChain_ap, mIsi_ap, mLen_ap, mIxH, mSl_ap, mPart_ap, mItems_ap, mRng1_ap, mRng2_ap, mZip_ap, mFn, bnd_ap, lft_ap, ret_ap, dTup, dLst, dLstN, dAdd, dAddN, dSub, dMul, dMulN, dFdiv, dMod, dPow, dNeg, dNot, dLe, dLt, dGt, dGe, dIs, dIsNot, D.isN, D.isTy, dix4_0, dix4_1, dix4_2, dix4_3, dix3_0, dix3_1, dix3_2, atI, ixN, Sl.d, dLen1, dAbs, dMax2, dMin2, dInt, dTuple, dList, dListN, D.items, gSet, gTupS, gsCons, gsNil, D.solid, szOk, wipeS, mSortedD_ap, Fig.d, is_whole_yes (G := G) h1 h2], rfl⟩
  have d3 : dAll [.lst (s.map fun _ => .bl true)] = some (.bl true) := dAll_true _
  refine def_rt rfl ?_
  simp [mDef, sSeq, sIf, sSet, sAsg, sAsg2, sPar, sAug, sApp, sPut, sNext, sBreak, sCont, sNever, sRet, sRetN, sShare, sExpr, xName, xIx, xIx2, xTup, xsCons, xsNil, setIx, setIx2, isM2, has, mIm_ap, mVar, mPeek, mSolid_ap, mBin_ap, mBinN_ap, mUn_ap, mCall_ap, mCallN_ap, mCons_ap, mNil_ap, mTup_ap, mLst_ap, mLstN_ap, mTest_ap, mTestN_ap, mAnd_ap, mOr_ap, mNot_ap, mAndV_ap, mOrV_ap, mIf_ap, mChain_ap, mIsi_ap, mLen_ap, mIxH, mSl_ap, mPart_ap, mItems_ap, mRng1_ap, mRng2_ap, mZip_ap, mFn, bnd_ap, lft_ap, ret_ap, dTup, dLst, dLstN, dAdd, dAddN, dSub, dMul, dMulN, dFdiv, dMod, dPow, dNeg, dNot, dLe, dLt, dGt, dGe, dIs, dIsNot, D.isN, D.isTy, dix4_0, dix4_1, dix4_2, dix4_3, dix3_0, dix3_1, dix3_2, atI, ixN, Sl.d, dLen1, dAbs, dMax2, dMin2, dInt, dTuple, dList, dListN, D.items, gSet, gTupS, gsCons, gsNil, D.solid, szOk, wipeS, mSortedD_ap, ixF0, ixF1, ixF2, ixF3, e5, a3, d3]
theorem need_figure_ok {F : Fig} (h : F.Ok) : need_figure [F.d] G = some (.non, G) := by
  refine def_nx rfl (ρ := [.im F.d]) ?_
  simp [mDef, sSeq, sIf, sSet, sAsg, sAsg2, sPar, sAug, sApp, sPut, sNext, sBreak, sCont, sNever, sRet, sRetN, sShare, sExpr, xName, xIx, xIx2, xTup, xsCons, xsNil, setIx, setIx2, isM2, has, mIm_ap, mVar, mPeek, mSolid_ap, mBin_ap, mBinN_ap, mUn_ap, mCall_ap, mCallN_ap, mCons_ap, mNil_ap, mTup_ap, mLst_ap, mLstN_ap, mTest_ap, mTestN_ap, mAnd_ap, mOr_ap, mNot_ap, mAndV_ap, mOrV_ap, mIf_ap, mChain_ap, mIsi_ap, mLen_ap, mIxH, mSl_ap, mPart_ap, mItems_ap, mRng1_ap, mRng2_ap, mZip_ap, mFn, bnd_ap, lft_ap, ret_ap, dTup, dLst, dLstN, dAdd, dAddN, dSub, dMul, dMulN, dFdiv, dMod, dPow, dNeg, dNot, dLe, dLt, dGt, dGe, dIs, dIsNot, D.isN, D.isTy, dix4_0, dix4_1, dix4_2, dix4_3, dix3_0, dix3_1, dix3_2, atI, ixN, Sl.d, dLen1, dAbs, dMax2, dMin2, dInt, dTuple, dList, dListN, D.items, gSet, gTupS, gsCons, gsNil, D.solid, szOk, wipeS, mSortedD_ap, fits_figure_ok h]
theorem need_setting_ok {F : Fig} (h : F.Ok) {s : List Int} (hs : InR F.ties.length F.floor s) : need_setting [F.d, intsD s] G = some (.non, G) := by
  refine def_nx rfl (ρ := [.im F.d, .im (intsD s)]) ?_
  simp [mDef, sSeq, sIf, sSet, sAsg, sAsg2, sPar, sAug, sApp, sPut, sNext, sBreak, sCont, sNever, sRet, sRetN, sShare, sExpr, xName, xIx, xIx2, xTup, xsCons, xsNil, setIx, setIx2, isM2, has, mIm_ap, mVar, mPeek, mSolid_ap, mBin_ap, mBinN_ap, mUn_ap, mCall_ap, mCallN_ap, mCons_ap, mNil_ap, mTup_ap, mLst_ap, mLstN_ap, mTest_ap, mTestN_ap, mAnd_ap, mOr_ap, mNot_ap, mAndV_ap, mOrV_ap, mIf_ap, mChain_ap, mIsi_ap, mLen_ap, mIxH, mSl_ap, mPart_ap, mItems_ap, mRng1_ap, mRng2_ap, mZip_ap, mFn, bnd_ap, lft_ap, ret_ap, dTup, dLst, dLstN, dAdd, dAddN, dSub, dMul, dMulN, dFdiv, dMod, dPow, dNeg, dNot, dLe, dLt, dGt, dGe, dIs, dIsNot, D.isN, D.isTy, dix4_0, dix4_1, dix4_2, dix4_3, dix3_0, dix3_1, dix3_2, atI, ixN, Sl.d, dLen1, dAbs, dMax2, dMin2, dInt, dTuple, dList, dListN, D.items, gSet, gTupS, gsCons, gsNil, D.solid, szOk, wipeS, mSortedD_ap, fits_setting_ok h hs]
theorem need_set_ok {F : Fig} (h : F.Ok) {s : List Int} (hs : InR F.ties.length F.floor s) : need_set [F.d, intsD s] G = some (.non, G) := by
  refine def_nx rfl (ρ := [.im F.d, .im (intsD s)]) ?_
  refine (seq_nx (ρ1 := [.im F.d, .im (intsD s)]) (G1 := G) (by simp [mDef, sSeq, sIf, sSet, sAsg, sAsg2, sPar, sAug, sApp, sPut, sNext, sBreak, sCont, sNever, sRet, sRetN, sShare, sExpr, xName, xIx, xIx2, xTup, xsCons, xsNil, setIx, setIx2, isM2, has, mIm_ap, mVar, mPeek, mSolid_ap, mBin_ap, mBinN_ap, mUn_ap, mCall_ap, mCallN_ap, mCons_ap, mNil_ap, mTup_ap, mLst_ap, mLstN_ap, mTest_ap, mTestN_ap, mAnd_ap, mOr_ap, mNot_ap, mAndV_ap, mOrV_ap, mIf_ap, mChain_ap, mIsi_ap, mLen_ap, mIxH, mSl_ap, mPart_ap, mItems_ap, mRng1_ap, mRng2_ap, mZip_ap, mFn, bnd_ap, lft_ap, ret_ap, dTup, dLst, dLstN, dAdd, dAddN, dSub, dMul, dMulN, dFdiv, dMod, dPow, dNeg, dNot, dLe, dLt, dGt, dGe, dIs, dIsNot, D.isN, D.isTy, dix4_0, dix4_1, dix4_2, dix4_3, dix3_0, dix3_1, dix3_2, atI, ixN, Sl.d, dLen1, dAbs, dMax2, dMin2, dInt, dTuple, dList, dListN, D.items, gSet, gTupS, gsCons, gsNil, D.solid, szOk, wipeS, mSortedD_ap, need_figure_ok h])).trans ?_
  simp [mDef, sSeq, sIf, sSet, sAsg, sAsg2, sPar, sAug, sApp, sPut, sNext, sBreak, sCont, sNever, sRet, sRetN, sShare, sExpr, xName, xIx, xIx2, xTup, xsCons, xsNil, setIx, setIx2, isM2, has, mIm_ap, mVar, mPeek, mSolid_ap, mBin_ap, mBinN_ap, mUn_ap, mCall_ap, mCallN_ap, mCons_ap, mNil_ap, mTup_ap, mLst_ap, mLstN_ap, mTest_ap, mTestN_ap, mAnd_ap, mOr_ap, mNot_ap, mAndV_ap, mOrV_ap, mIf_ap, mChain_ap, mIsi_ap, mLen_ap, mIxH, mSl_ap, mPart_ap, mItems_ap, mRng1_ap, mRng2_ap, mZip_ap, mFn, bnd_ap, lft_ap, ret_ap, dTup, dLst, dLstN, dAdd, dAddN, dSub, dMul, dMulN, dFdiv, dMod, dPow, dNeg, dNot, dLe, dLt, dGt, dGe, dIs, dIsNot, D.isN, D.isTy, dix4_0, dix4_1, dix4_2, dix4_3, dix3_0, dix3_1, dix3_2, atI, ixN, Sl.d, dLen1, dAbs, dMax2, dMin2, dInt, dTuple, dList, dListN, D.items, gSet, gTupS, gsCons, gsNil, D.solid, szOk, wipeS, mSortedD_ap, need_setting_ok h hs]
def okL (d : List Int) (l : Nat × Nat × Int) : Bool := decide ((if iat d l.1 - iat d l.2.1 < 0 then -(iat d l.1 - iat d l.2.1) else iat d l.1 - iat d l.2.1) ≤ l.2.2)
theorem keeps_limbs_ev {F : Fig} (h : F.Ok) {d : List Int} (hd : d.length = F.n) : keeps_limbs [F.d, intsD d] G = some (.bl (F.limbs.all (okL d)), G) := by
  have few := h.few
  have a3 := mLc_map (vs := [2, 3, 4]) (it := mItems (mBin dIx (mVar 0) (DL.ret (.int 1)))) (tg := gTupS 3 (gsCons (gSet 2) (gsCons (gSet 3) (gsCons (gSet 4) gsNil)))) (te := mBin dLe (mCall dAbs (mCons (mBin dSub (mBin dIx (mVar 1) (mVar 2)) (mBin dIx (mVar 1) (mVar 3))) mNil)) (mVar 4)) (G := G)
    (ρ := [.im F.d, .im (intsD d), .un, .un, .un]) F.limbs limbD (fun l => .bl (okL d l)) rfl rfl (by omega) fun l hl =>
      ⟨_, rfl, by
        obtain ⟨h1, h2, _, _⟩ := h.limb l hl
        simp [mDef, sSeq, sIf, sSet, sAsg, sAsg2, sPar, sAug, sApp, sPut, sNext, sBreak, sCont, sNever, sRet, sRetN, sShare, sExpr, xName, xIx, xIx2, xTup, xsCons, xsNil, setIx, setIx2, isM2, has, mIm_ap, mVar, mPeek, mSolid_ap, mBin_ap, mBinN_ap, mUn_ap, mCall_ap, mCallN_ap, mCons_ap, mNil_ap, mTup_ap, mLst_ap, mLstN_ap, mTest_ap, mTestN_ap, mAnd_ap, mOr_ap, mNot_ap, mAndV_ap, mOrV_ap, mIf_ap, mChain_ap, mIsi_ap, mLen_ap, mIxH, mSl_ap, mPart_ap, mItems_ap, mRng1_ap, mRng2_ap, mZip_ap, mFn, bnd_ap, lft_ap, ret_ap, dTup, dLst, dLstN, dAdd, dAddN, dSub, dMul, dMulN, dFdiv, dMod, dPow, dNeg, dNot, dLe, dLt, dGt, dGe, dIs, dIsNot, D.isN, D.isTy, dix4_0, dix4_1, dix4_2, dix4_3, dix3_0, dix3_1, dix3_2, atI, ixN, Sl.d, dLen1, dAbs, dMax2, dMin2, dInt, dTuple, dList, dListN, D.items, gSet, gTupS, gsCons, gsNil, D.solid, szOk, wipeS, mSortedD_ap, limbD, okL, ix_ints (d := d) (i := l.1) (by omega), ix_ints (d := d) (i := l.2.1) (by omega)], rfl⟩
  refine def_rt rfl ?_
  simp [mDef, sSeq, sIf, sSet, sAsg, sAsg2, sPar, sAug, sApp, sPut, sNext, sBreak, sCont, sNever, sRet, sRetN, sShare, sExpr, xName, xIx, xIx2, xTup, xsCons, xsNil, setIx, setIx2, isM2, has, mIm_ap, mVar, mPeek, mSolid_ap, mBin_ap, mBinN_ap, mUn_ap, mCall_ap, mCallN_ap, mCons_ap, mNil_ap, mTup_ap, mLst_ap, mLstN_ap, mTest_ap, mTestN_ap, mAnd_ap, mOr_ap, mNot_ap, mAndV_ap, mOrV_ap, mIf_ap, mChain_ap, mIsi_ap, mLen_ap, mIxH, mSl_ap, mPart_ap, mItems_ap, mRng1_ap, mRng2_ap, mZip_ap, mFn, bnd_ap, lft_ap, ret_ap, dTup, dLst, dLstN, dAdd, dAddN, dSub, dMul, dMulN, dFdiv, dMod, dPow, dNeg, dNot, dLe, dLt, dGt, dGe, dIs, dIsNot, D.isN, D.isTy, dix4_0, dix4_1, dix4_2, dix4_3, dix3_0, dix3_1, dix3_2, atI, ixN, Sl.d, dLen1, dAbs, dMax2, dMin2, dInt, dTuple, dList, dListN, D.items, gSet, gTupS, gsCons, gsNil, D.solid, szOk, wipeS, mSortedD_ap, a3, dAll_map]
def okS (d : List Int) (p : Nat × Int) : Bool := decide (iat d p.1 ≤ p.2)
theorem keeps_strings_ev {F : Fig} (h : F.Ok) {s d : List Int} (hd : d.length = F.n) : keeps_strings [F.d, intsD s, intsD d] G = some (.bl ((F.ties.zip s).all (okS d)), G) := by
  have t6 := h.t6
  have hz : ((F.ties.map natD).zip (s.map D.int)).map (fun p => D.tup [p.1, p.2]) = (F.ties.zip s).map fun p => D.tup [natD p.1, .int p.2] := by
    rw [List.zip_map, List.map_map]
    rfl
  have a3 := mLc_map (vs := [3, 4]) (it := mZip (mBin dIx (mVar 0) (DL.ret (.int 2))) (mVar 1)) (tg := gTupS 2 (gsCons (gSet 3) (gsCons (gSet 4) gsNil))) (te := mBin dLe (mBin dIx (mVar 2) (mVar 3)) (mVar 4)) (G := G)
    (ρ := [.im F.d, .im (intsD s), .im (intsD d), .un, .un]) (F.ties.zip s) (fun p => D.tup [natD p.1, .int p.2]) (fun p => .bl (okS d p)) (by simp [mDef, sSeq, sIf, sSet, sAsg, sAsg2, sPar, sAug, sApp, sPut, sNext, sBreak, sCont, sNever, sRet, sRetN, sShare, sExpr, xName, xIx, xIx2, xTup, xsCons, xsNil, setIx, setIx2, isM2, has, mIm_ap, mVar, mPeek, mSolid_ap, mBin_ap, mBinN_ap, mUn_ap, mCall_ap, mCallN_ap, mCons_ap, mNil_ap, mTup_ap, mLst_ap, mLstN_ap, mTest_ap, mTestN_ap, mAnd_ap, mOr_ap, mNot_ap, mAndV_ap, mOrV_ap, mIf_ap, mChain_ap, mIsi_ap, mLen_ap, mIxH, mSl_ap, mPart_ap, mItems_ap, mRng1_ap, mRng2_ap, mZip_ap, mFn, bnd_ap, lft_ap, ret_ap, dTup, dLst, dLstN, dAdd, dAddN, dSub, dMul, dMulN, dFdiv, dMod, dPow, dNeg, dNot, dLe, dLt, dGt, dGe, dIs, dIsNot, D.isN, D.isTy, dix4_0, dix4_1, dix4_2, dix4_3, dix3_0, dix3_1, dix3_2, atI, ixN, Sl.d, dLen1, dAbs, dMax2, dMin2, dInt, dTuple, dList, dListN, D.items, gSet, gTupS, gsCons, gsNil, D.solid, szOk, wipeS, mSortedD_ap, Fig.d, dZip, intsD, zipD, hz]) rfl (by rw [List.length_zip]; omega) fun p hp =>
      ⟨_, rfl, by
        have h1 := h.tie p.1 (List.of_mem_zip hp).1
        simp [mDef, sSeq, sIf, sSet, sAsg, sAsg2, sPar, sAug, sApp, sPut, sNext, sBreak, sCont, sNever, sRet, sRetN, sShare, sExpr, xName, xIx, xIx2, xTup, xsCons, xsNil, setIx, setIx2, isM2, has, mIm_ap, mVar, mPeek, mSolid_ap, mBin_ap, mBinN_ap, mUn_ap, mCall_ap, mCallN_ap, mCons_ap, mNil_ap, mTup_ap, mLst_ap, mLstN_ap, mTest_ap, mTestN_ap, mAnd_ap, mOr_ap, mNot_ap, mAndV_ap, mOrV_ap, mIf_ap, mChain_ap, mIsi_ap, mLen_ap, mIxH, mSl_ap, mPart_ap, mItems_ap, mRng1_ap, mRng2_ap, mZip_ap, mFn, bnd_ap, lft_ap, ret_ap, dTup, dLst, dLstN, dAdd, dAddN, dSub, dMul, dMulN, dFdiv, dMod, dPow, dNeg, dNot, dLe, dLt, dGt, dGe, dIs, dIsNot, D.isN, D.isTy, dix4_0, dix4_1, dix4_2, dix4_3, dix3_0, dix3_1, dix3_2, atI, ixN, Sl.d, dLen1, dAbs, dMax2, dMin2, dInt, dTuple, dList, dListN, D.items, gSet, gTupS, gsCons, gsNil, D.solid, szOk, wipeS, mSortedD_ap, natD, okS, ix_ints (d := d) (i := p.1) (by omega)], rfl⟩
  refine def_rt rfl ?_
  simp [mDef, sSeq, sIf, sSet, sAsg, sAsg2, sPar, sAug, sApp, sPut, sNext, sBreak, sCont, sNever, sRet, sRetN, sShare, sExpr, xName, xIx, xIx2, xTup, xsCons, xsNil, setIx, setIx2, isM2, has, mIm_ap, mVar, mPeek, mSolid_ap, mBin_ap, mBinN_ap, mUn_ap, mCall_ap, mCallN_ap, mCons_ap, mNil_ap, mTup_ap, mLst_ap, mLstN_ap, mTest_ap, mTestN_ap, mAnd_ap, mOr_ap, mNot_ap, mAndV_ap, mOrV_ap, mIf_ap, mChain_ap, mIsi_ap, mLen_ap, mIxH, mSl_ap, mPart_ap, mItems_ap, mRng1_ap, mRng2_ap, mZip_ap, mFn, bnd_ap, lft_ap, ret_ap, dTup, dLst, dLstN, dAdd, dAddN, dSub, dMul, dMulN, dFdiv, dMod, dPow, dNeg, dNot, dLe, dLt, dGt, dGe, dIs, dIsNot, D.isN, D.isTy, dix4_0, dix4_1, dix4_2, dix4_3, dix3_0, dix3_1, dix3_2, atI, ixN, Sl.d, dLen1, dAbs, dMax2, dMin2, dInt, dTuple, dList, dListN, D.items, gSet, gTupS, gsCons, gsNil, D.solid, szOk, wipeS, mSortedD_ap, a3, dAll_map]
theorem is_stance_ev {F : Fig} (h : F.Ok) {s d : List Int} (hs : InR F.ties.length F.floor s) (hd : InR F.n F.floor d) : is_stance [F.d, intsD s, intsD d] G = some (.bl (F.limbs.all (okL d) && (F.ties.zip s).all (okS d)), G) := by
  refine def_rt rfl ?_
  refine (seq_nx (ρ1 := [.im F.d, .im (intsD s), .im (intsD d)]) (G1 := G) (by simp [mDef, sSeq, sIf, sSet, sAsg, sAsg2, sPar, sAug, sApp, sPut, sNext, sBreak, sCont, sNever, sRet, sRetN, sShare, sExpr, xName, xIx, xIx2, xTup, xsCons, xsNil, setIx, setIx2, isM2, has, mIm_ap, mVar, mPeek, mSolid_ap, mBin_ap, mBinN_ap, mUn_ap, mCall_ap, mCallN_ap, mCons_ap, mNil_ap, mTup_ap, mLst_ap, mLstN_ap, mTest_ap, mTestN_ap, mAnd_ap, mOr_ap, mNot_ap, mAndV_ap, mOrV_ap, mIf_ap, mChain_ap, mIsi_ap, mLen_ap, mIxH, mSl_ap, mPart_ap, mItems_ap, mRng1_ap, mRng2_ap, mZip_ap, mFn, bnd_ap, lft_ap, ret_ap, dTup, dLst, dLstN, dAdd, dAddN, dSub, dMul, dMulN, dFdiv, dMod, dPow, dNeg, dNot, dLe, dLt, dGt, dGe, dIs, dIsNot, D.isN, D.isTy, dix4_0, dix4_1, dix4_2, dix4_3, dix3_0, dix3_1, dix3_2, atI, ixN, Sl.d, dLen1, dAbs, dMax2, dMin2, dInt, dTuple, dList, dListN, D.items, gSet, gTupS, gsCons, gsNil, D.solid, szOk, wipeS, mSortedD_ap, need_set_ok h hs])).trans ?_
  cases q : F.limbs.all (okL d) <;> simp [-List.all_eq_true, -List.all_eq_false, mDef, sSeq, sIf, sSet, sAsg, sAsg2, sPar, sAug, sApp, sPut, sNext, sBreak, sCont, sNever, sRet, sRetN, sShare, sExpr, xName, xIx, xIx2, xTup, xsCons, xsNil, setIx, setIx2, isM2, has, mIm_ap, mVar, mPeek, mSolid_ap, mBin_ap, mBinN_ap, mUn_ap, mCall_ap, mCallN_ap, mCons_ap, mNil_ap, mTup_ap, mLst_ap, mLstN_ap, mTest_ap, mTestN_ap, mAnd_ap, mOr_ap, mNot_ap, mAndV_ap, mOrV_ap, mIf_ap, mChain_ap, mIsi_ap, mLen_ap, mIxH, mSl_ap, mPart_ap, mItems_ap, mRng1_ap, mRng2_ap, mZip_ap, mFn, bnd_ap, lft_ap, ret_ap, dTup, dLst, dLstN, dAdd, dAddN, dSub, dMul, dMulN, dFdiv, dMod, dPow, dNeg, dNot, dLe, dLt, dGt, dGe, dIs, dIsNot, D.isN, D.isTy, dix4_0, dix4_1, dix4_2, dix4_3, dix3_0, dix3_1, dix3_2, atI, ixN, Sl.d, dLen1, dAbs, dMax2, dMin2, dInt, dTuple, dList, dListN, D.items, gSet, gTupS, gsCons, gsNil, D.solid, szOk, wipeS, mSortedD_ap, fits_depths_ok h hd, keeps_limbs_ev h hd.1, keeps_strings_ev h (s := s) hd.1, q]
end
end DM

/-! DM: poses, in plain terms. -/
namespace DM
open DL L2
def LimbsOk (F : Fig) (f : Nat → Int) : Prop := ∀ l ∈ F.limbs, f l.1 ≤ f l.2.1 + l.2.2 ∧ f l.2.1 ≤ f l.1 + l.2.2
def St (F : Fig) (s : List Int) (f : Nat → Int) : Prop := (∀ i, i < F.n → f i ≤ F.floor) ∧ LimbsOk F f ∧ ∀ p ∈ F.ties.zip s, f p.1 ≤ p.2
/-- the greatest stance -/
structure IsPose (F : Fig) (s : List Int) (d : List Int) : Prop where
  len : d.length = F.n
  nn : ∀ i, i < F.n → 0 ≤ iat d i
  st : St F s (iat d)
  top : ∀ f, St F s f → ∀ i, i < F.n → f i ≤ iat d i
theorem iat_ext {d e : List Int} (hl : d.length = e.length) (h : ∀ i, i < d.length → iat d i = iat e i) : d = e := by
  apply List.ext_getElem hl
  intro i h1 h2
  have := h i h1
  unfold iat at this
  rw [List.getElem?_eq_getElem h1, List.getElem?_eq_getElem h2] at this
  exact this
theorem IsPose.uniq {F : Fig} {s d e : List Int} (h : IsPose F s d) (g : IsPose F s e) : d = e := by
  refine iat_ext (by rw [h.len, g.len]) fun i hi => ?_
  have hi : i < F.n := by rw [← h.len]; exact hi
  have a := h.top _ g.st i hi
  have b := g.top _ h.st i hi
  omega
theorem IsPose.inR {F : Fig} {s d : List Int} (h : IsPose F s d) : InR F.n F.floor d := by
  refine ⟨h.len, fun x hx => ?_⟩
  obtain ⟨i, hi, e⟩ := List.getElem_of_mem hx
  have e2 : iat d i = x := by unfold iat; rw [List.getElem?_eq_getElem hi]; exact e
  have hn : i < F.n := by rw [← h.len]; exact hi
  rw [← e2]
  exact ⟨h.nn i hn, h.st.1 i hn⟩
theorem st_all {F : Fig} {s d : List Int} (hd : ∀ i, i < F.n → iat d i ≤ F.floor) : (F.limbs.all (okL d) && (F.ties.zip s).all (okS d)) = true ↔ St F s (iat d) := by
  unfold St LimbsOk
  rw [Bool.and_eq_true_iff, List.all_eq_true, List.all_eq_true]
  constructor
  · rintro ⟨h1, h2⟩
    refine ⟨hd, fun l hl => ?_, fun p hp => ?_⟩
    · have := of_decide_eq_true (h1 l hl)
      split at this <;> omega
    · exact of_decide_eq_true (h2 p hp)
  · rintro ⟨_, h1, h2⟩
    refine ⟨fun l hl => ?_, fun p hp => ?_⟩
    · have := h1 l hl
      unfold okL
      refine decide_eq_true ?_
      split <;> omega
    · exact decide_eq_true (h2 p hp)

/-! ### distances -/
abbrev Tab := Nat → Nat → Option Int
def comb (r x y : Option Int) : Option Int := match x, y with
  | some x, some y => some (match r with
    | none => x + y
    | some z => if z < x + y then z else x + y)
  | _, _ => r
theorem comb_cases {r x y : Option Int} {z : Int} (h : comb r x y = some z) : r = some z ∨ ∃ a b, x = some a ∧ y = some b ∧ z = a + b := by
  unfold comb at h
  split at h
  · rename_i a b
    cases r with
    | none => cases h; exact .inr ⟨a, b, rfl, rfl, rfl⟩
    | some c =>
      dsimp only at h
      split at h
      · cases h; exact .inl rfl
      · cases h; exact .inr ⟨a, b, rfl, rfl, rfl⟩
  · exact .inl h
theorem comb_le {r x y : Option Int} {c : Int} (h : r = some c) : ∃ z, comb r x y = some z ∧ z ≤ c := by
  subst h
  unfold comb
  split
  · rename_i a b
    dsimp only
    split
    · exact ⟨_, rfl, by omega⟩
    · exact ⟨_, rfl, by omega⟩
  · exact ⟨_, rfl, Int.le_refl _⟩
theorem comb_sum {r x y : Option Int} {a b : Int} (h1 : x = some a) (h2 : y = some b) : ∃ z, comb r x y = some z ∧ z ≤ a + b := by
  subst h1 h2
  unfold comb
  cases r with
  | none => exact ⟨_, rfl, Int.le_refl _⟩
  | some c =>
    dsimp only
    split
    · exact ⟨_, rfl, by omega⟩
    · exact ⟨_, rfl, Int.le_refl _⟩
structure Good (F : Fig) (R : Tab) : Prop where
  nn : ∀ i j x, R i j = some x → 0 ≤ x
  diag : ∀ i, i < F.n → R i i = some 0
  sound : ∀ f : Nat → Int, LimbsOk F f → ∀ i j x, R i j = some x → f j ≤ f i + x
  edge : ∀ l ∈ F.limbs, (∃ x, R l.1 l.2.1 = some x ∧ x ≤ l.2.2) ∧ ∃ x, R l.2.1 l.1 = some x ∧ x ≤ l.2.2
def Tri (k n : Nat) (R : Tab) : Prop := ∀ b, b < k → ∀ i j, i < n → j < n → ∀ x y, R i b = some x → R b j = some y → ∃ z, R i j = some z ∧ z ≤ x + y
def pass (R : Tab) (k : Nat) : Tab := fun i j => comb (R i j) (R i k) (R k j)
section
variable {F : Fig} {R : Tab} {k : Nat}
theorem pass_col (g : Good F R) (hk : k < F.n) (i : Nat) : pass R k i k = R i k := by
  unfold pass
  rw [g.diag k hk]
  unfold comb
  cases R i k with
  | none => rfl
  | some x =>
    dsimp only
    rw [if_neg (by omega), Int.add_zero]
theorem pass_row (g : Good F R) (hk : k < F.n) (j : Nat) : pass R k k j = R k j := by
  unfold pass
  rw [g.diag k hk]
  unfold comb
  cases R k j with
  | none => rfl
  | some x =>
    dsimp only
    rw [if_neg (by omega), Int.zero_add]
theorem pass_good (g : Good F R) (hk : k < F.n) : Good F (pass R k) where
  nn := fun i j x h => by
    rcases comb_cases h with h | ⟨a, b, h1, h2, e⟩
    · exact g.nn _ _ _ h
    · have := g.nn _ _ _ h1
      have := g.nn _ _ _ h2
      omega
  diag := fun i hi => by
    obtain ⟨z, h1, h2⟩ := comb_le (x := R i k) (y := R k i) (g.diag i hi)
    have h3 : 0 ≤ z := by
      rcases comb_cases h1 with h | ⟨a, b, q1, q2, e⟩
      · exact g.nn _ _ _ h
      · have := g.nn _ _ _ q1
        have := g.nn _ _ _ q2
        omega
    show comb (R i i) (R i k) (R k i) = some 0
    rw [h1]
    congr 1
    omega
  sound := fun f hf i j x h => by
    rcases comb_cases h with h | ⟨a, b, h1, h2, e⟩
    · exact g.sound f hf _ _ _ h
    · have := g.sound f hf _ _ _ h1
      have := g.sound f hf _ _ _ h2
      omega
  edge := fun l hl => by
    obtain ⟨⟨x, h1, h2⟩, y, h3, h4⟩ := g.edge l hl
    obtain ⟨z, e1, e2⟩ := comb_le (x := R l.1 k) (y := R k l.2.1) h1
    obtain ⟨w, e3, e4⟩ := comb_le (x := R l.2.1 k) (y := R k l.1) h3
    exact ⟨⟨z, e1, by omega⟩, w, e3, by omega⟩
theorem pass_tri (g : Good F R) (hk : k < F.n) (h : Tri k F.n R) : Tri (k + 1) F.n (pass R k) := by
  intro b hb i j hi hj x y hx hy
  by_cases e : b = k
  · subst e
    rw [pass_col g hk] at hx
    rw [pass_row g hk] at hy
    exact comb_sum hx hy
  · have hb : b < k := by omega
    have hbn : b < F.n := by omega
    rcases comb_cases hx with hx | ⟨a, c, h1, h2, e1⟩
    · rcases comb_cases hy with hy | ⟨a', c', h3, h4, e2⟩
      · obtain ⟨z, e3, e4⟩ := h b hb i j hi hj x y hx hy
        obtain ⟨w, e5, e6⟩ := comb_le (x := R i k) (y := R k j) e3
        exact ⟨w, e5, by omega⟩
      · obtain ⟨z, e3, e4⟩ := h b hb i k hi hk x a' hx h3
        obtain ⟨w, e5, e6⟩ := comb_sum (r := R i j) e3 h4
        exact ⟨w, e5, by omega⟩
    · rcases comb_cases hy with hy | ⟨a', c', h3, h4, e2⟩
      · obtain ⟨z, e3, e4⟩ := h b hb k j hk hj c y h2 hy
        obtain ⟨w, e5, e6⟩ := comb_sum (r := R i j) h1 e3
        exact ⟨w, e5, by omega⟩
      · obtain ⟨w, e5, e6⟩ := comb_sum (r := R i j) h1 h4
        have := g.nn _ _ _ h2
        have := g.nn _ _ _ h3
        exact ⟨w, e5, by omega⟩
end

/-! ### the pose by distances -/
theorem lmin_spec {xs : List Int} {m : Int} (h : lmin xs = some m) : m ∈ xs ∧ ∀ y ∈ xs, m ≤ y := by
  cases xs with
  | nil => cases h
  | cons x r =>
    have h : r.foldl min x = m := Option.some.inj h
    obtain ⟨h1, h2, h3⟩ := foldl_min r x
    rw [h] at h1 h2 h3
    refine ⟨?_, fun y hy => ?_⟩
    · rcases h1 with e | e
      · rw [e]; exact List.mem_cons_self
      · exact List.mem_cons_of_mem _ e
    · rcases List.mem_cons.mp hy with e | hy
      · rw [e]; exact h2
      · exact h3 y hy
theorem lmin_some {xs : List Int} (h : xs ≠ []) : ∃ m, lmin xs = some m := by
  cases xs with
  | nil => exact absurd rfl h
  | cons x r => exact ⟨_, rfl⟩
def reachL (R : Tab) (F : Fig) (s : List Int) (j : Nat) : List Int := (F.ties.zip s).filterMap (fun p => (R p.1 j).map (p.2 + ·)) ++ [F.floor]
theorem pose_math {F : Fig} {R : Tab} {s d : List Int} (h : F.Ok) (hs : InR F.ties.length F.floor s) (g : Good F R) (t : Tri F.n F.n R) (hl : d.length = F.n) (hd : ∀ j, j < F.n → lmin (reachL R F s j) = some (iat d j)) : IsPose F s d := by
  have wit : ∀ j, j < F.n → (iat d j = F.floor ∨ ∃ p ∈ F.ties.zip s, ∃ w, R p.1 j = some w ∧ iat d j = p.2 + w) ∧ iat d j ≤ F.floor ∧ ∀ p ∈ F.ties.zip s, ∀ w, R p.1 j = some w → iat d j ≤ p.2 + w := by
    intro j hj
    obtain ⟨h1, h2⟩ := lmin_spec (hd j hj)
    unfold reachL at h1 h2
    refine ⟨?_, h2 _ (by simp), fun p hp w hw => h2 _ (List.mem_append_left _ (List.mem_filterMap.mpr ⟨p, hp, by rw [hw]; rfl⟩))⟩
    rcases List.mem_append.mp h1 with h1 | h1
    · obtain ⟨p, hp, e⟩ := List.mem_filterMap.mp h1
      obtain ⟨w, hw, e⟩ := Option.map_eq_some_iff.mp e
      exact .inr ⟨p, hp, w, hw, e.symm⟩
    · exact .inl (List.mem_singleton.mp h1)
  have tieN : ∀ p ∈ F.ties.zip s, p.1 < F.n ∧ 0 ≤ p.2 := fun p hp => ⟨h.tie _ (List.of_mem_zip hp).1, (hs.2 _ (List.of_mem_zip hp).2).1⟩
  have f1 := h.f1
  have step : ∀ a b c, a < F.n → b < F.n → (∃ x, R b a = some x ∧ x ≤ c) → 0 ≤ c → iat d a ≤ iat d b + c := by
    intro a b c ha hb ⟨x, hx, hc⟩ c0
    obtain ⟨w1, w2, w3⟩ := wit b hb
    obtain ⟨v1, v2, v3⟩ := wit a ha
    rcases w1 with e | ⟨p, hp, w, hw, e⟩
    · omega
    · obtain ⟨z, hz, hz2⟩ := t b hb p.1 a (tieN p hp).1 ha w x hw hx
      have := v3 p hp z hz
      omega
  refine ⟨hl, fun j hj => ?_, ⟨fun j hj => (wit j hj).2.1, fun l hl => ?_, fun p hp => ?_⟩, fun f hf j hj => ?_⟩
  · rcases (wit j hj).1 with e | ⟨p, hp, w, hw, e⟩
    · omega
    · have := g.nn _ _ _ hw
      have := (tieN p hp).2
      omega
  · obtain ⟨h1, h2, h3, h4⟩ := h.limb l hl
    obtain ⟨e1, e2⟩ := g.edge l hl
    exact ⟨step _ _ _ (by omega) (by omega) e2 (by omega), step _ _ _ (by omega) (by omega) e1 (by omega)⟩
  · have := (wit p.1 (tieN p hp).1).2.2 p hp 0 (g.diag _ (tieN p hp).1)
    omega
  · rcases (wit j hj).1 with e | ⟨p, hp, w, hw, e⟩
    · rw [e]; exact hf.1 j hj
    · have a := g.sound f hf.2.1 _ _ _ hw
      have b := hf.2.2 p hp
      omega

/-! ### lengths made less, turn by turn -/
def cnt (n : Nat) (P d : Nat → Int) : Nat := (List.range n).countP fun i => decide (d i = P i)
theorem countP_lt {p q : Nat → Bool} : ∀ {l : List Nat}, (∀ i ∈ l, p i = true → q i = true) → (∃ i ∈ l, q i = true ∧ p i = false) → l.countP p < l.countP q
  | [], _, ⟨i, hi, _⟩ => by cases hi
  | a :: l, h, ⟨i, hi, hq, hp⟩ => by
    have hm : l.countP p ≤ l.countP q := List.countP_mono_left fun x hx => h x (List.mem_cons_of_mem _ hx)
    rw [List.countP_cons, List.countP_cons]
    rcases List.mem_cons.mp hi with e | hi
    · subst e
      rw [if_pos hq, if_neg (by rw [hp]; decide)]
      omega
    · have := countP_lt (fun x hx => h x (List.mem_cons_of_mem _ hx)) ⟨i, hi, hq, hp⟩
      have ha := h a List.mem_cons_self
      by_cases pa : p a = true
      · rw [if_pos pa, if_pos (ha pa)]
        omega
      · rw [if_neg pa]
        omega
theorem least_of (P : Nat → Int) (Q : Nat → Prop) (hP : ∀ v, Q v → 0 ≤ P v) : ∀ (m : Nat) (v : Nat), (P v).toNat = m → Q v → ∃ u, Q u ∧ ∀ w, Q w → P u ≤ P w := by
  intro m
  induction m using Nat.strongRecOn with
  | ind m ih =>
    intro v hv hq
    by_cases h : ∃ w, Q w ∧ P w < P v
    · obtain ⟨w, hw, hlt⟩ := h
      have := hP w hw
      exact ih (P w).toNat (by omega) w rfl hw
    · exact ⟨v, hq, fun w hw => by
        refine Classical.byContradiction fun z => h ⟨w, hw, by omega⟩⟩
theorem turn_up {F : Fig} {s : List Int} {p : List Int} {d d' : Nat → Int} (hF : F.Ok) (hp : IsPose F s p) (hle : ∀ i, i < F.n → iat p i ≤ d i) (hfl : ∀ i, i < F.n → d i ≤ F.floor) (hti : ∀ q ∈ F.ties.zip s, d q.1 ≤ q.2)
    (h' : ∀ i, i < F.n → iat p i ≤ d' i ∧ d' i ≤ d i) (hlimb : ∀ l ∈ F.limbs, d' l.1 ≤ d l.2.1 + l.2.2 ∧ d' l.2.1 ≤ d l.1 + l.2.2) : (∀ i, i < F.n → d' i = iat p i) ∨ cnt F.n (iat p) d < cnt F.n (iat p) d' := by
  by_cases hall : ∀ i, i < F.n → d i = iat p i
  · refine .inl fun i hi => ?_
    have := h' i hi
    have := hall i hi
    omega
  · refine .inr ?_
    obtain ⟨v0, hv0⟩ := Classical.not_forall.mp hall
    have hv0 : v0 < F.n ∧ d v0 ≠ iat p v0 := by
      refine ⟨Classical.byContradiction fun z => hv0 fun y => absurd y z, fun z => hv0 fun _ => z⟩
    obtain ⟨v, ⟨hv, hne⟩, hmin⟩ := least_of (iat p) (fun v => v < F.n ∧ d v ≠ iat p v) (fun v hv => hp.nn v hv.1) _ v0 rfl hv0
    have hlt : iat p v < d v := by
      have := hle v hv
      omega
    have tight : ∃ u c, u < F.n ∧ iat p v = iat p u + c ∧ 1 ≤ c ∧ d' v ≤ d u + c := by
      refine Classical.byContradiction fun no => ?_
      have hst : St F s (fun i => if i = v then iat p v + 1 else iat p i) := by
        refine ⟨fun i hi => ?_, fun l hl => ?_, fun q hq => ?_⟩
        · by_cases e : i = v
          · subst e
            have := hfl i hi
            simp only [if_true]
            omega
          · simp only [if_neg e]
            exact hp.st.1 i hi
        · obtain ⟨l1, l2, l3, l4⟩ := hF.limb l hl
          obtain ⟨s1, s2⟩ := hp.st.2.1 l hl
          obtain ⟨t1, t2⟩ := hlimb l hl
          constructor
          · by_cases e : l.1 = v
            · have e2 : ¬ l.2.1 = v := by omega
              simp only [if_pos e, if_neg e2]
              rw [e] at s1 t1
              refine Classical.byContradiction fun z => no ⟨l.2.1, l.2.2, by omega, by omega, by omega, by omega⟩
            · simp only [if_neg e]
              split
              · rename_i e3; rw [e3] at s1; omega
              · exact s1
          · by_cases e : l.2.1 = v
            · have e2 : ¬ l.1 = v := by omega
              simp only [if_pos e, if_neg e2]
              rw [e] at s2 t2
              refine Classical.byContradiction fun z => no ⟨l.1, l.2.2, by omega, by omega, by omega, by omega⟩
            · simp only [if_neg e]
              split
              · rename_i e3; rw [e3] at s2; omega
              · exact s2
        · have a := hp.st.2.2 q hq
          have b := hti q hq
          by_cases e : q.1 = v
          · simp only [if_pos e]
            rw [e] at b
            omega
          · simp only [if_neg e]
            exact a
      have := hp.top _ hst v hv
      simp only [if_true] at this
      omega
    obtain ⟨u, c, hu, e1, hc, e2⟩ := tight
    have eu : d u = iat p u := by
      refine Classical.byContradiction fun z => ?_
      have := hmin u ⟨hu, z⟩
      omega
    have ev : d' v = iat p v := by
      have := h' v hv
      omega
    refine countP_lt (fun i hi q => ?_) ⟨v, List.mem_range.mpr hv, decide_eq_true ev, decide_eq_false hne⟩
    have := of_decide_eq_true q
    have := h' i (List.mem_range.mp hi)
    exact decide_eq_true (by omega)
theorem cnt_le (n : Nat) (P d : Nat → Int) : cnt n P d ≤ n := by
  have := List.countP_le_length (l := List.range n) (p := fun i => decide (d i = P i))
  rw [List.length_range] at this
  exact this
theorem cnt_full {n : Nat} {P d : Nat → Int} (h : n ≤ cnt n P d) : ∀ i, i < n → d i = P i := by
  intro i hi
  have e : cnt n P d = (List.range n).length := by
    have := cnt_le n P d
    rw [List.length_range]
    omega
  have := List.countP_eq_length.mp e i (List.mem_range.mpr hi)
  exact of_decide_eq_true this
end DM

/-! DM: distances and poses, as the program reckons them. -/
namespace DM
open DL L2
open PySem (Paired)
theorem rng_nat (n : Nat) : rng 0 (n : Int) = (List.range n).map natD := by
  unfold rng natD
  simp
theorem rng1_nat {n : Nat} (h : n ≤ 1000000) : dRng1 (.int (n : Int)) = some ((List.range n).map natD) := by
  unfold dRng1
  dsimp only
  rw [if_pos (by rw [decide_eq_true (by omega), decide_eq_true (by omega)]; rfl), rng_nat]
theorem ix_lst {xs : List D} {i : Nat} {d : D} (h : xs[i]? = some d) : dIx (.lst xs) (natD i) = some d := by
  have hi : i < xs.length := by
    refine Classical.byContradiction fun z => ?_
    rw [List.getElem?_eq_none (by omega)] at h
    cases h
  unfold natD dIx atI ixN
  dsimp only
  rw [if_pos (by omega), if_pos (by omega)]
  exact h
theorem ix_tup {xs : List D} {i : Nat} {d : D} (h : xs[i]? = some d) : dIx (.tup xs) (natD i) = some d := by
  have hi : i < xs.length := by
    refine Classical.byContradiction fun z => ?_
    rw [List.getElem?_eq_none (by omega)] at h
    cases h
  unfold natD dIx atI ixN
  dsimp only
  rw [if_pos (by omega), if_pos (by omega)]
  exact h
theorem ixN_nat {n i : Nat} (h : i < n) : ixN n (i : Int) = some i := by
  unfold ixN
  rw [if_pos (by omega), if_pos (by omega)]
  simp
theorem eq_nat (i j : Nat) : dEq (natD i) (natD j) = some (.bl (decide (i = j))) := by
  have h1 : ∀ k : Int, PySem.SeqAt.shaped (.int k) = true := fun k => rfl
  show (if (PySem.SeqAt.shaped (.int (i : Int)) && PySem.SeqAt.shaped (.int (j : Int))) = true then some (PySem.PyData.eqv (.int (i : Int)) (.int (j : Int))) else none).map D.bl = _
  rw [h1, h1]
  have h2 : PySem.PyData.eqv (.int (i : Int)) (.int (j : Int)) = decide (i = j) := by
    show ((i : Int) == (j : Int)) = _
    by_cases h : i = j
    · simp [h]
    · rw [decide_eq_false h]
      exact beq_eq_false_iff_ne.mpr (by omega)
  rw [h2]
  rfl
section
variable {α : Type} {vs : List Nat} {tg : SG} {ρ : List Sl} {it : SA} {G : Gs}
theorem mLcN_map {te : SE} (xs : List α) (e : α → D) (f : α → D) (hi : it ρ G = some (xs.map e, ρ, G)) (hw : okW ρ vs = true) (hz : xs.length ≤ 1000000)
    (h : ∀ d ∈ xs, ∃ ρ1, tg (e d) (wipeS ρ vs) = some ρ1 ∧ te ρ1 G = some (f d, ρ1, G) ∧ wipeS ρ1 vs = wipeS ρ vs) :
    mLcN vs it tg (DL.ret true) te ρ G = some (.m1 (xs.map f), ρ, G) := by
  have a := mLc_map (tg := tg) (te := te) xs e f hi hw hz h
  unfold mLc bnd at a
  unfold mLcN bnd
  rw [hi] at a ⊢
  dsimp only at a ⊢
  split at a
  · rename_i hc
    rw [if_pos hc]
    split at a
    · cases a
    · rename_i ys ρ' G' e1
      have a := Option.some.inj a
      have a1 := (Prod.mk.inj a).1
      have a2 := (Prod.mk.inj (Prod.mk.inj a).2)
      rw [D.lst.inj a1, a2.1, a2.2]
  · cases a
theorem lc2_map {te : SF} (e : α → D) (f : α → List D) : ∀ (ds : List α) (acc : List (List D)) (ρ0 : List Sl), wipeS ρ0 vs = wipeS ρ vs →
    (∀ d ∈ ds, ∃ ρ1, tg (e d) (wipeS ρ vs) = some ρ1 ∧ te ρ1 G = some (.m1 (f d), ρ1, G) ∧ wipeS ρ1 vs = wipeS ρ vs) →
    ∃ ρ', lcLoop2 vs tg (DL.ret true) te (ds.map e) acc ρ0 G = some (acc ++ ds.map f, ρ', G) ∧ wipeS ρ' vs = wipeS ρ vs
  | [], acc, ρ0, hw, _ => ⟨ρ0, by rw [show acc ++ List.map f [] = acc from List.append_nil acc]; rfl, hw⟩
  | d :: ds, acc, ρ0, hw, h => by
    obtain ⟨ρ1, e1, e2, e3⟩ := h d List.mem_cons_self
    obtain ⟨ρ', e4, e5⟩ := lc2_map e f ds (acc ++ [f d]) ρ1 e3 fun d hd => h d (List.mem_cons_of_mem _ hd)
    refine ⟨ρ', ?_, e5⟩
    have : acc ++ (d :: ds).map f = acc ++ [f d] ++ ds.map f := by simp
    rw [this, ← e4]
    show (match tg (e d) (wipeS ρ0 vs) with
      | none => none
      | some ρ1 => bnd (DL.ret true) (fun k => if k = true then bnd te fun y => (match y with
        | .m1 ys => lcLoop2 vs tg (DL.ret true) te (ds.map e) (acc ++ [ys])
        | _ => fun _ _ => none) else lcLoop2 vs tg (DL.ret true) te (ds.map e) acc) ρ1 G) = _
    rw [hw, e1]
    show bnd te _ ρ1 G = _
    unfold bnd
    rw [e2]
theorem mLcN2_map {te : SF} (xs : List α) (e : α → D) (f : α → List D) (hi : it ρ G = some (xs.map e, ρ, G)) (hw : okW ρ vs = true) (hz : xs.length ≤ 1000000)
    (h : ∀ d ∈ xs, ∃ ρ1, tg (e d) (wipeS ρ vs) = some ρ1 ∧ te ρ1 G = some (.m1 (f d), ρ1, G) ∧ wipeS ρ1 vs = wipeS ρ vs) :
    mLcN2 vs it tg (DL.ret true) te ρ G = some (.m2 (xs.map f), ρ, G) := by
  obtain ⟨ρ', e1, e2⟩ := lc2_map (tg := tg) (te := te) e f xs [] ρ rfl h
  unfold mLcN2 bnd
  rw [hi]
  dsimp only
  rw [if_pos (by rw [hw, szOk, List.length_map, decide_eq_true hz]; rfl), e1]
  show some (Sl.m2 ([] ++ _), backS ρ ρ' vs, G) = _
  rw [back_wipe e2, List.nil_append]
end

/-! ### tables -/
def cellD : Option Int → D
  | none => .non
  | some x => .int x
structure Tbl (n : Nat) (dss : List (List D)) (R : Tab) : Prop where
  len : dss.length = n
  row : ∀ i, i < n → ∃ row, dss[i]? = some row ∧ row.length = n ∧ ∀ j, j < n → row[j]? = some (cellD (R i j))
theorem Tbl.congr {n : Nat} {dss : List (List D)} {R T : Tab} (t : Tbl n dss R) (h : ∀ i j, i < n → j < n → R i j = T i j) : Tbl n dss T :=
  ⟨t.len, fun i hi => let ⟨row, e1, e2, e3⟩ := t.row i hi; ⟨row, e1, e2, fun j hj => by rw [e3 j hj, h i j hi hj]⟩⟩
theorem cell_solid (o : Option Int) : (cellD o).solid = true := by cases o <;> rfl
theorem cell_isN (o : Option Int) : (cellD o).isN = o.isNone := by cases o <;> rfl
theorem Tbl.cell {n : Nat} {dss : List (List D)} {R : Tab} (t : Tbl n dss R) {i j a b : Nat} (hi : i < n) (hj : j < n) {ρ : List Sl} {G : Gs} (h2 : ρ[2]? = some (.m2 dss)) (ha : ρ[a]? = some (.im (natD i))) (hb : ρ[b]? = some (.im (natD j))) :
    mSolid (mBin dIx (mBin dIx (mPeek 2) (mVar a)) (mVar b)) ρ G = some (cellD (R i j), ρ, G) := by
  obtain ⟨row, e1, e2, e3⟩ := t.row i hi
  have f1 : dIx (.lst (dss.map D.lst)) (natD i) = some (.lst row) := ix_lst (by rw [List.getElem?_map, e1]; rfl)
  have f2 := ix_lst (e3 j hj)
  simp [mSolid_ap, mBin_ap, bnd_ap, lft_ap, mPeek, mVar, h2, ha, hb, Sl.d, f1, f2, cell_solid]
def updT (R : Tab) (i j : Nat) (c : Int) : Tab := fun a b => if a = i ∧ b = j then some c else R a b
theorem Tbl.put {n : Nat} {dss : List (List D)} {R : Tab} (t : Tbl n dss R) {i j sa sb : Nat} (hi : i < n) (hj : j < n) (c : Int) {ρ : List Sl} {G : Gs} (h2 : ρ[2]? = some (.m2 dss)) (hsa : ρ[sa]? = some (.im (natD i))) (hsb : ρ[sb]? = some (.im (natD j))) :
    ∃ dss', xIx2 2 (mVar sa) (mVar sb) (.int c) ρ G = some (ρ.set 2 (.m2 dss'), G) ∧ Tbl n dss' (updT R i j c) := by
  obtain ⟨row, e1, e2, e3⟩ := t.row i hi
  have f1 : ixN dss.length (i : Int) = some i := ixN_nat (by rw [t.len]; exact hi)
  have f2 : ixN row.length (j : Int) = some j := ixN_nat (by rw [e2]; exact hj)
  refine ⟨dss.set i (row.set j (.int c)), ?_, by rw [List.length_set]; exact t.len, fun a ha => ?_⟩
  · unfold natD at hsa hsb
    simp [xIx2, has, isM2, setIx2, mVar, h2, hsa, hsb, f1, f2, e1]
  · by_cases e : a = i
    · subst e
      refine ⟨row.set j (.int c), by rw [List.getElem?_set_self (by rw [t.len]; exact hi)], by rw [List.length_set]; exact e2, fun b hb => ?_⟩
      by_cases e4 : b = j
      · subst e4
        rw [List.getElem?_set_self (by rw [e2]; exact hb)]
        unfold updT
        rw [if_pos ⟨rfl, rfl⟩]
        rfl
      · rw [List.getElem?_set_ne (Ne.symm e4), e3 b hb]
        unfold updT
        rw [if_neg fun z => e4 z.2]
    · obtain ⟨r2, g1, g2, g3⟩ := t.row a ha
      refine ⟨r2, by rw [List.getElem?_set_ne (Ne.symm e)]; exact g1, g2, fun b hb => ?_⟩
      rw [g3 b hb]
      unfold updT
      rw [if_neg fun z => e z.1]
def mix (R : Tab) (k i j : Nat) : Tab := fun a b => if a < i ∨ (a = i ∧ b < j) then pass R k a b else R a b
theorem get_range {n i : Nat} {d : D} (h : ((List.range n).map natD)[i]? = some d) : i < n ∧ d = natD i := by
  have hi : i < n := by
    refine Classical.byContradiction fun z => ?_
    rw [List.getElem?_eq_none (by rw [List.length_map, List.length_range]; omega)] at h
    cases h
  rw [List.getElem?_map, List.getElem?_eq_getElem (by rw [List.length_range]; exact hi), List.getElem_range] at h
  cases h
  exact ⟨hi, rfl⟩
/-- one pair of joints -/
theorem fw_cell {F : Fig} {R : Tab} {k i j : Nat} (g : Good F R) (hk : k < F.n) (hi : i < F.n) (hj : j < F.n) {dss : List (List D)} (t : Tbl F.n dss (mix R k i j)) (f n : D) (a5 a7 : Sl) (G : Gs) :
    ∃ dss' a7', (sIf (mAnd (mTestN (fun d => !d.isN) (mSolid (mBin dIx (mBin dIx (mPeek 2) (mVar 3)) (mVar 6)))) (mTestN (fun d => !d.isN) (mSolid (mBin dIx (mBin dIx (mPeek 2) (mVar 6)) (mVar 4))))) (sSeq (sSet 7 (mIm (mBin dAdd (mSolid (mBin dIx (mBin dIx (mPeek 2) (mVar 3)) (mVar 6))) (mSolid (mBin dIx (mBin dIx (mPeek 2) (mVar 6)) (mVar 4))))))
  (sAsg (mIf (mTestN D.isN (mSolid (mBin dIx (mBin dIx (mPeek 2) (mVar 3)) (mVar 4)))) (mVar 7) (mCall dMin2 (mCons (mVar 7) (mCons (mSolid (mBin dIx (mBin dIx (mPeek 2) (mVar 3)) (mVar 4))) mNil)))) (xIx2 2 (mVar 3) (mVar 4)))) sNext)
      [.im f, .im n, .m2 dss, .im (natD i), .im (natD j), a5, .im (natD k), a7] G = some (.nx [.im f, .im n, .m2 dss', .im (natD i), .im (natD j), a5, .im (natD k), a7'], G) ∧ Tbl F.n dss' (mix R k i (j + 1)) := by
  have m1 : mix R k i j i k = R i k := by unfold mix; split; exact pass_col g hk i; rfl
  have m2 : mix R k i j k j = R k j := by unfold mix; split; exact pass_row g hk j; rfl
  have m3 : mix R k i j i j = R i j := by unfold mix; rw [if_neg (by omega)]
  have same : (∀ a b, a < F.n → b < F.n → (a = i → b = j → comb (R i j) (R i k) (R k j) = R i j)) → Tbl F.n dss (mix R k i (j + 1)) := fun h => t.congr fun a b ha hb => by
    unfold mix
    by_cases e : a < i ∨ (a = i ∧ b < j)
    · rw [if_pos e, if_pos (by omega)]
    · rw [if_neg e]
      by_cases e2 : a = i ∧ b = j
      · obtain ⟨rfl, rfl⟩ := e2
        rw [if_pos (by omega)]
        exact (h _ _ ha hb rfl rfl).symm
      · rw [if_neg (by omega)]
  have c1 := t.cell (a := 3) (b := 6) hi hk (ρ := [.im f, .im n, .m2 dss, .im (natD i), .im (natD j), a5, .im (natD k), a7]) (G := G) rfl rfl rfl
  have c2 := t.cell (a := 6) (b := 4) hk hj (ρ := [.im f, .im n, .m2 dss, .im (natD i), .im (natD j), a5, .im (natD k), a7]) (G := G) rfl rfl rfl
  rw [m1] at c1
  rw [m2] at c2
  cases q1 : R i k with
  | none =>
    refine ⟨dss, a7, ?_, same fun _ _ _ _ _ _ => by rw [q1]; rfl⟩
    rw [q1] at c1
    simp [sIf, mAnd_ap, mTestN_ap, bnd_ap, ret_ap, c1, cellD, D.isN, sNext]
  | some x =>
    rw [q1] at c1
    cases q2 : R k j with
    | none =>
      refine ⟨dss, a7, ?_, same fun _ _ _ _ _ _ => by rw [q1, q2]; rfl⟩
      rw [q2] at c2
      simp [sIf, mAnd_ap, mTestN_ap, bnd_ap, ret_ap, c1, c2, cellD, D.isN, sNext]
    | some y =>
      rw [q2] at c2
      have c3 := t.cell (a := 3) (b := 4) hi hj (ρ := [.im f, .im n, .m2 dss, .im (natD i), .im (natD j), a5, .im (natD k), .im (.int (x + y))]) (G := G) rfl rfl rfl
      rw [m3] at c3
      obtain ⟨dss', p1, p2⟩ := t.put (sa := 3) (sb := 4) hi hj (match R i j with | none => x + y | some z => if z < x + y then z else x + y) (ρ := [.im f, .im n, .m2 dss, .im (natD i), .im (natD j), a5, .im (natD k), .im (.int (x + y))]) (G := G) rfl rfl rfl
      refine ⟨dss', .im (.int (x + y)), ?_, p2.congr fun a b ha hb => ?_⟩
      · cases q3 : R i j with
        | none =>
          rw [q3] at c3 p1
          dsimp only at p1
          simp [sIf, mAnd_ap, mTestN_ap, mIf_ap, bnd_ap, ret_ap, lft_ap, c1, c2, c3, cellD, D.isN, sSeq, sSet, mIm_ap, mBin_ap, dAdd, sAsg, mVar, p1]
        | some z =>
          rw [q3] at c3 p1
          dsimp only at p1
          simp [sIf, mAnd_ap, mTestN_ap, mIf_ap, bnd_ap, ret_ap, lft_ap, c1, c2, c3, cellD, D.isN, sSeq, sSet, mIm_ap, mBin_ap, dAdd, sAsg, mVar, mCall_ap, mCons_ap, mNil_ap, dMin2, p1]
      · unfold updT mix pass
        by_cases e2 : a = i ∧ b = j
        · obtain ⟨rfl, rfl⟩ := e2
          rw [if_pos ⟨rfl, rfl⟩, if_pos (by omega), q1, q2]
          rfl
        · rw [if_neg e2]
          by_cases e : a < i ∨ (a = i ∧ b < j)
          · rw [if_pos e, if_pos (by omega)]
          · rw [if_neg e, if_neg (by omega)]
end DM

/-! DM: distances and poses, as the program reckons them, whole. -/
namespace DM
open DL L2
open PySem (Paired)
def startT : Tab := fun i j => if i = j then some 0 else none
theorem start_tbl (n : Nat) : Tbl n ((List.range n).map fun i => (List.range n).map fun j => if i = j then D.int 0 else .non) startT := by
  refine ⟨by simp, fun i hi => ⟨(List.range n).map fun j => if i = j then D.int 0 else .non, ?_, by simp, fun j hj => ?_⟩⟩
  · rw [List.getElem?_map, List.getElem?_eq_getElem (by rw [List.length_range]; exact hi), List.getElem_range]
    rfl
  · rw [List.getElem?_map, List.getElem?_eq_getElem (by rw [List.length_range]; exact hj), List.getElem_range]
    unfold startT
    show some (if i = j then D.int 0 else D.non) = _
    by_cases e : i = j
    · rw [if_pos e, if_pos e]; rfl
    · rw [if_neg e, if_neg e]; rfl
/-- the limbs of the first k are in -/
structure Pre (F : Fig) (k : Nat) (R : Tab) : Prop where
  nn : ∀ i j x, R i j = some x → 0 ≤ x
  diag : ∀ i, i < F.n → R i i = some 0
  sound : ∀ f : Nat → Int, LimbsOk F f → ∀ i j x, R i j = some x → f j ≤ f i + x
  edge : ∀ l ∈ F.limbs.take k, R l.1 l.2.1 = some l.2.2 ∧ R l.2.1 l.1 = some l.2.2
theorem pre_start (F : Fig) : Pre F 0 startT where
  nn := fun i j x h => by unfold startT at h; split at h <;> cases h; omega
  diag := fun i _ => by unfold startT; rw [if_pos rfl]
  sound := fun f _ i j x h => by
    unfold startT at h
    split at h <;> cases h
    rename_i e
    rw [e]; omega
  edge := fun l hl => by simp at hl
theorem pre_step {F : Fig} (hF : F.Ok) {k : Nat} {R : Tab} {l : Nat × Nat × Int} (hl : F.limbs[k]? = some l) (p : Pre F k R) : Pre F (k + 1) (updT (updT R l.1 l.2.1 l.2.2) l.2.1 l.1 l.2.2) := by
  have hm : l ∈ F.limbs := List.mem_of_getElem? hl
  obtain ⟨h1, h2, h3, h4⟩ := hF.limb l hm
  have cases4 : ∀ {i j : Nat} {x : Int}, updT (updT R l.1 l.2.1 l.2.2) l.2.1 l.1 l.2.2 i j = some x → (i = l.2.1 ∧ j = l.1 ∧ x = l.2.2) ∨ (i = l.1 ∧ j = l.2.1 ∧ x = l.2.2) ∨ R i j = some x := by
    intro i j x h
    unfold updT at h
    split at h
    · rename_i e; cases h; exact .inl ⟨e.1, e.2, rfl⟩
    · split at h
      · rename_i e; cases h; exact .inr (.inl ⟨e.1, e.2, rfl⟩)
      · exact .inr (.inr h)
  refine ⟨fun i j x h => ?_, fun i hi => ?_, fun f hf i j x h => ?_, fun q hq => ?_⟩
  · rcases cases4 h with ⟨_, _, e⟩ | ⟨_, _, e⟩ | h
    · omega
    · omega
    · exact p.nn _ _ _ h
  · unfold updT
    rw [if_neg (by omega), if_neg (by omega)]
    exact p.diag i hi
  · have := hf l hm
    rcases cases4 h with ⟨e1, e2, e⟩ | ⟨e1, e2, e⟩ | h
    · rw [e1, e2, e]; omega
    · rw [e1, e2, e]; omega
    · exact p.sound f hf _ _ _ h
  · rw [List.take_add_one, hl] at hq
    rcases List.mem_append.mp hq with hq | hq
    · obtain ⟨g1, g2⟩ := p.edge q hq
      obtain ⟨q1, q2, _, _⟩ := hF.limb q (List.mem_of_mem_take hq)
      have hlex : LexL q l := by
        obtain ⟨i, hi, e⟩ := List.getElem_of_mem hq
        have hk : k < F.limbs.length := by
          refine Classical.byContradiction fun z => ?_
          rw [List.getElem?_eq_none (by omega)] at hl
          cases hl
        have hik : i < k := by
          rw [List.length_take] at hi
          omega
        have := List.pairwise_iff_getElem.mp hF.lex i k (by omega) hk hik
        rw [List.getElem_take] at e
        rw [e] at this
        rw [List.getElem?_eq_getElem hk] at hl
        rw [Option.some.inj hl] at this
        exact this
      unfold LexL at hlex
      unfold updT
      constructor
      · rw [if_neg (by omega), if_neg (by omega)]; exact g1
      · rw [if_neg (by omega), if_neg (by omega)]; exact g2
    · have : q = l := by simpa using hq
      subst this
      unfold updT
      constructor
      · rw [if_neg (by omega), if_pos ⟨rfl, rfl⟩]
      · rw [if_pos ⟨rfl, rfl⟩]
theorem pre_good {F : Fig} {R : Tab} (p : Pre F F.limbs.length R) : Good F R :=
  ⟨p.nn, p.diag, p.sound, fun l hl => by
    obtain ⟨h1, h2⟩ := p.edge l (by rw [List.take_length]; exact hl)
    exact ⟨⟨_, h1, Int.le_refl _⟩, _, h2, Int.le_refl _⟩⟩
theorem get_limb {F : Fig} {i : Nat} {d : D} (h : (F.limbs.map limbD)[i]? = some d) : ∃ l, F.limbs[i]? = some l ∧ d = limbD l := by
  rw [List.getElem?_map] at h
  obtain ⟨l, e1, e2⟩ := Option.map_eq_some_iff.mp h
  exact ⟨l, e1, e2.symm⟩
theorem rng1_at {n i : Nat} {ρ : List Sl} (G : Gs) (hn : n ≤ 1000000) (h : ρ[i]? = some (.im (.int (n : Int)))) : mRng1 (mVar i) ρ G = some ((List.range n).map natD, ρ, G) := by
  have e : mVar i ρ G = some (.int (n : Int), ρ, G) := by unfold mVar; rw [h]
  unfold mRng1 bnd
  rw [e]
  show lft (dRng1 (.int (n : Int))) ρ G = _
  rw [rng1_nat hn]
  rfl
theorem rng1_ev {n : Nat} {a : SE} {ρ : List Sl} {G : Gs} (hn : n ≤ 1000000) (h : a ρ G = some (.int (n : Int), ρ, G)) : mRng1 a ρ G = some ((List.range n).map natD, ρ, G) := by
  unfold mRng1 bnd
  rw [h]
  show lft (dRng1 (.int (n : Int))) ρ G = _
  rw [rng1_nat hn]
  rfl
theorem tab_empty {F : Fig} (n8 : F.n ≤ 8) (G : Gs) : mLcN2 [3] (mRng1 (mVar 1)) (gSet 3) (DL.ret true) (mLcN [4] (mRng1 (mVar 1)) (gSet 4) (DL.ret true) (mIf (mTest (mBin dEq (mVar 3) (mVar 4))) (DL.ret (.int 0)) (DL.ret .non)))
    [.im F.d, .im (.int F.n), .un, .un, .un, .un, .un, .un] G = some (.m2 ((List.range F.n).map fun i => (List.range F.n).map fun j => if i = j then D.int 0 else .non), [.im F.d, .im (.int F.n), .un, .un, .un, .un, .un, .un], G) := by
  have hl : (List.range F.n).length ≤ 1000000 := by rw [List.length_range]; omega
  refine mLcN2_map (List.range F.n) natD (fun i => (List.range F.n).map fun j => if i = j then D.int 0 else .non) (rng1_at G (by omega) rfl) rfl hl fun i hi => ⟨[.im F.d, .im (.int F.n), .un, .im (natD i), .un, .un, .un, .un], rfl, ?_, rfl⟩
  refine mLcN_map (List.range F.n) natD (fun j => if i = j then D.int 0 else .non) (rng1_at G (by omega) rfl) rfl hl fun j hj => ⟨[.im F.d, .im (.int F.n), .un, .im (natD i), .im (natD j), .un, .un, .un], rfl, ?_, rfl⟩
  by_cases e : i = j
  · simp [mDef, sSeq, sIf, sSet, sAsg, sAsg2, sPar, sAug, sApp, sPut, sNext, sBreak, sCont, sNever, sRet, sRetN, sShare, sExpr, xName, xIx, xIx2, xTup, xsCons, xsNil, setIx, setIx2, isM2, has, mIm_ap, mVar, mPeek, mSolid_ap, mBin_ap, mBinN_ap, mUn_ap, mCall_ap, mCallN_ap, mCons_ap, mNil_ap, mTup_ap, mLst_ap, mLstN_ap, mTest_ap, mTestN_ap, mAnd_ap, mOr_ap, mNot_ap, mAndV_ap, mOrV_ap, mIf_ap, mChain_ap, mIsi_ap, mLen_ap, mIxH, mSl_ap, mPart_ap, mItems_ap, mRng1_ap, mRng2_ap, mZip_ap, mFn, bnd_ap, lft_ap, ret_ap, dTup, dLst, dLstN, dAdd, dAddN, dSub, dMul, dMulN, dFdiv, dMod, dPow, dNeg, dNot, dLe, dLt, dGt, dGe, dIs, dIsNot, D.isN, D.isTy, dix4_0, dix4_1, dix4_2, dix4_3, dix3_0, dix3_1, dix3_2, atI, ixN, Sl.d, dLen1, dAbs, dMax2, dMin2, dInt, dTuple, dList, dListN, D.items, gSet, gTupS, gsCons, gsNil, D.solid, szOk, wipeS, mSortedD_ap, eq_nat, e]
  · simp [mDef, sSeq, sIf, sSet, sAsg, sAsg2, sPar, sAug, sApp, sPut, sNext, sBreak, sCont, sNever, sRet, sRetN, sShare, sExpr, xName, xIx, xIx2, xTup, xsCons, xsNil, setIx, setIx2, isM2, has, mIm_ap, mVar, mPeek, mSolid_ap, mBin_ap, mBinN_ap, mUn_ap, mCall_ap, mCallN_ap, mCons_ap, mNil_ap, mTup_ap, mLst_ap, mLstN_ap, mTest_ap, mTestN_ap, mAnd_ap, mOr_ap, mNot_ap, mAndV_ap, mOrV_ap, mIf_ap, mChain_ap, mIsi_ap, mLen_ap, mIxH, mSl_ap, mPart_ap, mItems_ap, mRng1_ap, mRng2_ap, mZip_ap, mFn, bnd_ap, lft_ap, ret_ap, dTup, dLst, dLstN, dAdd, dAddN, dSub, dMul, dMulN, dFdiv, dMod, dPow, dNeg, dNot, dLe, dLt, dGt, dGe, dIs, dIsNot, D.isN, D.isTy, dix4_0, dix4_1, dix4_2, dix4_3, dix3_0, dix3_1, dix3_2, atI, ixN, Sl.d, dLen1, dAbs, dMax2, dMin2, dInt, dTuple, dList, dListN, D.items, gSet, gTupS, gsCons, gsNil, D.solid, szOk, wipeS, mSortedD_ap, eq_nat, e]
theorem tab_limbs {F : Fig} (hF : F.Ok) (G : Gs) {dss0 : List (List D)} (t0 : Tbl F.n dss0 startT) : ∃ dss R a3 a4 a5, forLoop (xTup 3 (xsCons (xName 3) (xsCons (xName 4) (xsCons (xName 5) xsNil)))) (sAsg2 (mVar 5) (xIx2 2 (mVar 3) (mVar 4)) (xIx2 2 (mVar 4) (mVar 3))) (F.limbs.map limbD)
    [.im F.d, .im (.int F.n), .m2 dss0, .un, .un, .un, .un, .un] G = some (.nx [.im F.d, .im (.int F.n), .m2 dss, a3, a4, a5, .un, .un], G) ∧ Tbl F.n dss R ∧ Good F R := by
  obtain ⟨ρ3, G3, e3, hG3, dss3, R3, a3, a4, a5, hρ3, t3, p3⟩ := for_inv (tg := xTup 3 (xsCons (xName 3) (xsCons (xName 4) (xsCons (xName 5) xsNil)))) (body := sAsg2 (mVar 5) (xIx2 2 (mVar 3) (mVar 4)) (xIx2 2 (mVar 4) (mVar 3)))
    (F.limbs.map limbD) 0 (fun k ρ G' => G' = G ∧ ∃ dss R a3 a4 a5, ρ = [.im F.d, .im (.int F.n), .m2 dss, a3, a4, a5, .un, .un] ∧ Tbl F.n dss R ∧ Pre F k R)
    [.im F.d, .im (.int F.n), .m2 dss0, .un, .un, .un, .un, .un] G
    ⟨rfl, _, _, _, _, _, rfl, t0, pre_start F⟩ fun i d hd ρ G' hI => by
      obtain ⟨l, hl, rfl⟩ := get_limb hd
      obtain ⟨rfl, dss, R, a3, a4, a5, rfl, t, p⟩ := hI
      obtain ⟨h1, h2, h3, h4⟩ := hF.limb l (List.mem_of_getElem? hl)
      obtain ⟨d1, q1, t1⟩ := t.put (sa := 3) (sb := 4) (i := l.1) (j := l.2.1) (by omega) (by omega) l.2.2 (ρ := [.im F.d, .im (.int F.n), .m2 dss, .im (natD l.1), .im (natD l.2.1), .im (.int l.2.2), .un, .un]) (G := G') rfl rfl rfl
      obtain ⟨d2, q2, t2⟩ := t1.put (sa := 4) (sb := 3) (i := l.2.1) (j := l.1) (by omega) (by omega) l.2.2 (ρ := [.im F.d, .im (.int F.n), .m2 d1, .im (natD l.1), .im (natD l.2.1), .im (.int l.2.2), .un, .un]) (G := G') rfl rfl rfl
      refine ⟨[.im F.d, .im (.int F.n), .m2 dss, .im (natD l.1), .im (natD l.2.1), .im (.int l.2.2), .un, .un], G', [.im F.d, .im (.int F.n), .m2 d2, .im (natD l.1), .im (natD l.2.1), .im (.int l.2.2), .un, .un], G', ?_, ?_, rfl, d2, _, _, _, _, rfl, t2, ?_⟩
      · simp [xTup, xsCons, xsNil, xName, limbD, natD]
      · have v5 : mVar 5 [.im F.d, .im (.int F.n), .m2 dss, .im (natD l.1), .im (natD l.2.1), .im (.int l.2.2), .un, .un] G' = some (.int l.2.2, [.im F.d, .im (.int F.n), .m2 dss, .im (natD l.1), .im (natD l.2.1), .im (.int l.2.2), .un, .un], G') := rfl
        simp only [List.set_cons_succ, List.set_cons_zero] at q1 q2
        unfold sAsg2
        rw [v5]
        dsimp only
        rw [q1]
        simp only [Option.bind_some]
        rw [q2]
        simp only [Option.map_some]
      · rw [Nat.zero_add]
        rw [Nat.zero_add] at p
        exact pre_step hF hl p
  rw [List.length_map, Nat.zero_add] at p3
  rw [hρ3, hG3] at e3
  exact ⟨dss3, R3, a3, a4, a5, e3, t3, pre_good p3⟩
theorem fw_row {F : Fig} {R : Tab} {k i : Nat} (g : Good F R) (hk : k < F.n) (hi : i < F.n) {dss : List (List D)} (t : Tbl F.n dss (mix R k i 0)) (f n : D) (a4 a5 a7 : Sl) (G : Gs) :
    ∃ dss' a4' a7', forLoop (xName 4) (sIf (mAnd (mTestN (fun d => !d.isN) (mSolid (mBin dIx (mBin dIx (mPeek 2) (mVar 3)) (mVar 6)))) (mTestN (fun d => !d.isN) (mSolid (mBin dIx (mBin dIx (mPeek 2) (mVar 6)) (mVar 4))))) (sSeq (sSet 7 (mIm (mBin dAdd (mSolid (mBin dIx (mBin dIx (mPeek 2) (mVar 3)) (mVar 6))) (mSolid (mBin dIx (mBin dIx (mPeek 2) (mVar 6)) (mVar 4))))))
  (sAsg (mIf (mTestN D.isN (mSolid (mBin dIx (mBin dIx (mPeek 2) (mVar 3)) (mVar 4)))) (mVar 7) (mCall dMin2 (mCons (mVar 7) (mCons (mSolid (mBin dIx (mBin dIx (mPeek 2) (mVar 3)) (mVar 4))) mNil)))) (xIx2 2 (mVar 3) (mVar 4)))) sNext) ((List.range F.n).map natD) [.im f, .im n, .m2 dss, .im (natD i), a4, a5, .im (natD k), a7] G = some (.nx [.im f, .im n, .m2 dss', .im (natD i), a4', a5, .im (natD k), a7'], G) ∧ Tbl F.n dss' (mix R k (i + 1) 0) := by
  obtain ⟨ρ6, G6, e6, hG6, dss6, d4, d7, hρ6, t6⟩ := for_inv (tg := xName 4) (body := (sIf (mAnd (mTestN (fun d => !d.isN) (mSolid (mBin dIx (mBin dIx (mPeek 2) (mVar 3)) (mVar 6)))) (mTestN (fun d => !d.isN) (mSolid (mBin dIx (mBin dIx (mPeek 2) (mVar 6)) (mVar 4))))) (sSeq (sSet 7 (mIm (mBin dAdd (mSolid (mBin dIx (mBin dIx (mPeek 2) (mVar 3)) (mVar 6))) (mSolid (mBin dIx (mBin dIx (mPeek 2) (mVar 6)) (mVar 4))))))
  (sAsg (mIf (mTestN D.isN (mSolid (mBin dIx (mBin dIx (mPeek 2) (mVar 3)) (mVar 4)))) (mVar 7) (mCall dMin2 (mCons (mVar 7) (mCons (mSolid (mBin dIx (mBin dIx (mPeek 2) (mVar 3)) (mVar 4))) mNil)))) (xIx2 2 (mVar 3) (mVar 4)))) sNext))
    ((List.range F.n).map natD) 0 (fun j ρ G9 => G9 = G ∧ ∃ dss a4 a7, ρ = [.im f, .im n, .m2 dss, .im (natD i), a4, a5, .im (natD k), a7] ∧ Tbl F.n dss (mix R k i j))
    [.im f, .im n, .m2 dss, .im (natD i), a4, a5, .im (natD k), a7] G ⟨rfl, dss, _, _, rfl, t⟩ fun j d hd ρ G3 hI => by
      obtain ⟨hj, rfl⟩ := get_range hd
      obtain ⟨hG, dss, a4, a7, rfl, t⟩ := hI
      rw [Nat.zero_add] at t ⊢
      obtain ⟨dss', a7', q, t'⟩ := fw_cell g hk hi hj t f n a5 a7 G3
      exact ⟨[.im f, .im n, .m2 dss, .im (natD i), .im (natD j), a5, .im (natD k), a7], G3, [.im f, .im n, .m2 dss', .im (natD i), .im (natD j), a5, .im (natD k), a7'], G3, rfl, q, hG, dss', _, _, rfl, t'⟩
  rw [hρ6, hG6] at e6
  rw [List.length_map, List.length_range] at t6
  refine ⟨dss6, d4, d7, e6, t6.congr fun a b ha hb => ?_⟩
  unfold mix
  by_cases e : a < i ∨ (a = i ∧ b < 0 + F.n)
  · rw [if_pos e, if_pos (by omega)]
  · rw [if_neg e, if_neg (by omega)]
theorem fw_pass {F : Fig} {R : Tab} {k : Nat} (n8 : F.n ≤ 8) (g : Good F R) (hk : k < F.n) {dss : List (List D)} (t : Tbl F.n dss R) (f : D) (a3 a4 a5 a7 : Sl) (G : Gs) :
    ∃ dss' a3' a4' a7', forLoop (xName 3) (sFor (mRng1 (mVar 1)) (xName 4) (sIf (mAnd (mTestN (fun d => !d.isN) (mSolid (mBin dIx (mBin dIx (mPeek 2) (mVar 3)) (mVar 6)))) (mTestN (fun d => !d.isN) (mSolid (mBin dIx (mBin dIx (mPeek 2) (mVar 6)) (mVar 4))))) (sSeq (sSet 7 (mIm (mBin dAdd (mSolid (mBin dIx (mBin dIx (mPeek 2) (mVar 3)) (mVar 6))) (mSolid (mBin dIx (mBin dIx (mPeek 2) (mVar 6)) (mVar 4))))))
  (sAsg (mIf (mTestN D.isN (mSolid (mBin dIx (mBin dIx (mPeek 2) (mVar 3)) (mVar 4)))) (mVar 7) (mCall dMin2 (mCons (mVar 7) (mCons (mSolid (mBin dIx (mBin dIx (mPeek 2) (mVar 3)) (mVar 4))) mNil)))) (xIx2 2 (mVar 3) (mVar 4)))) sNext)) ((List.range F.n).map natD) [.im f, .im (.int F.n), .m2 dss, a3, a4, a5, .im (natD k), a7] G = some (.nx [.im f, .im (.int F.n), .m2 dss', a3', a4', a5, .im (natD k), a7'], G) ∧ Tbl F.n dss' (pass R k) := by
  obtain ⟨ρ6, G6, e6, hG6, dss6, d3, d4, d7, hρ6, t6⟩ := for_inv (tg := xName 3) (body := sFor (mRng1 (mVar 1)) (xName 4) (sIf (mAnd (mTestN (fun d => !d.isN) (mSolid (mBin dIx (mBin dIx (mPeek 2) (mVar 3)) (mVar 6)))) (mTestN (fun d => !d.isN) (mSolid (mBin dIx (mBin dIx (mPeek 2) (mVar 6)) (mVar 4))))) (sSeq (sSet 7 (mIm (mBin dAdd (mSolid (mBin dIx (mBin dIx (mPeek 2) (mVar 3)) (mVar 6))) (mSolid (mBin dIx (mBin dIx (mPeek 2) (mVar 6)) (mVar 4))))))
  (sAsg (mIf (mTestN D.isN (mSolid (mBin dIx (mBin dIx (mPeek 2) (mVar 3)) (mVar 4)))) (mVar 7) (mCall dMin2 (mCons (mVar 7) (mCons (mSolid (mBin dIx (mBin dIx (mPeek 2) (mVar 3)) (mVar 4))) mNil)))) (xIx2 2 (mVar 3) (mVar 4)))) sNext))
    ((List.range F.n).map natD) 0 (fun i ρ G9 => G9 = G ∧ ∃ dss a3 a4 a7, ρ = [.im f, .im (.int F.n), .m2 dss, a3, a4, a5, .im (natD k), a7] ∧ Tbl F.n dss (mix R k i 0))
    [.im f, .im (.int F.n), .m2 dss, a3, a4, a5, .im (natD k), a7] G ⟨rfl, dss, _, _, _, rfl, t.congr fun a b ha hb => by unfold mix; rw [if_neg (by omega)]⟩ fun i d hd ρ G3 hI => by
      obtain ⟨hi, rfl⟩ := get_range hd
      obtain ⟨hG, dss, a3, a4, a7, rfl, t⟩ := hI
      rw [Nat.zero_add] at t ⊢
      obtain ⟨dss', a4', a7', q, t'⟩ := fw_row g hk hi t f (.int F.n) a4 a5 a7 G3
      refine ⟨[.im f, .im (.int F.n), .m2 dss, .im (natD i), a4, a5, .im (natD k), a7], G3, [.im f, .im (.int F.n), .m2 dss', .im (natD i), a4', a5, .im (natD k), a7'], G3, rfl, ?_, hG, dss', _, _, _, rfl, t'⟩
      rw [for_run (ds := (List.range F.n).map natD) (ρ1 := [.im f, .im (.int F.n), .m2 dss, .im (natD i), a4, a5, .im (natD k), a7]) (G1 := G3) (rng1_at G3 (by omega) rfl)]
      exact q
  rw [hρ6, hG6] at e6
  rw [List.length_map, List.length_range] at t6
  refine ⟨dss6, d3, d4, d7, e6, t6.congr fun a b ha hb => ?_⟩
  unfold mix
  rw [if_pos (by omega)]
theorem fw_all {F : Fig} (n8 : F.n ≤ 8) {dss : List (List D)} {R : Tab} (t : Tbl F.n dss R) (g : Good F R) (f : D) (a3 a4 a5 a6 a7 : Sl) (G : Gs) :
    ∃ dss' R' b3 b4 b6 b7, forLoop (xName 6) (sFor (mRng1 (mVar 1)) (xName 3) (sFor (mRng1 (mVar 1)) (xName 4) (sIf (mAnd (mTestN (fun d => !d.isN) (mSolid (mBin dIx (mBin dIx (mPeek 2) (mVar 3)) (mVar 6)))) (mTestN (fun d => !d.isN) (mSolid (mBin dIx (mBin dIx (mPeek 2) (mVar 6)) (mVar 4))))) (sSeq (sSet 7 (mIm (mBin dAdd (mSolid (mBin dIx (mBin dIx (mPeek 2) (mVar 3)) (mVar 6))) (mSolid (mBin dIx (mBin dIx (mPeek 2) (mVar 6)) (mVar 4))))))
  (sAsg (mIf (mTestN D.isN (mSolid (mBin dIx (mBin dIx (mPeek 2) (mVar 3)) (mVar 4)))) (mVar 7) (mCall dMin2 (mCons (mVar 7) (mCons (mSolid (mBin dIx (mBin dIx (mPeek 2) (mVar 3)) (mVar 4))) mNil)))) (xIx2 2 (mVar 3) (mVar 4)))) sNext))) ((List.range F.n).map natD) [.im f, .im (.int F.n), .m2 dss, a3, a4, a5, a6, a7] G = some (.nx [.im f, .im (.int F.n), .m2 dss', b3, b4, a5, b6, b7], G) ∧ Tbl F.n dss' R' ∧ Good F R' ∧ Tri F.n F.n R' := by
  obtain ⟨ρ6, G6, e6, hG6, dss6, R6, d3, d4, d6, d7, hρ6, t6, g6, r6⟩ := for_inv (tg := xName 6) (body := sFor (mRng1 (mVar 1)) (xName 3) (sFor (mRng1 (mVar 1)) (xName 4) (sIf (mAnd (mTestN (fun d => !d.isN) (mSolid (mBin dIx (mBin dIx (mPeek 2) (mVar 3)) (mVar 6)))) (mTestN (fun d => !d.isN) (mSolid (mBin dIx (mBin dIx (mPeek 2) (mVar 6)) (mVar 4))))) (sSeq (sSet 7 (mIm (mBin dAdd (mSolid (mBin dIx (mBin dIx (mPeek 2) (mVar 3)) (mVar 6))) (mSolid (mBin dIx (mBin dIx (mPeek 2) (mVar 6)) (mVar 4))))))
  (sAsg (mIf (mTestN D.isN (mSolid (mBin dIx (mBin dIx (mPeek 2) (mVar 3)) (mVar 4)))) (mVar 7) (mCall dMin2 (mCons (mVar 7) (mCons (mSolid (mBin dIx (mBin dIx (mPeek 2) (mVar 3)) (mVar 4))) mNil)))) (xIx2 2 (mVar 3) (mVar 4)))) sNext)))
    ((List.range F.n).map natD) 0 (fun k ρ G9 => G9 = G ∧ ∃ dss R a3 a4 a6 a7, ρ = [.im f, .im (.int F.n), .m2 dss, a3, a4, a5, a6, a7] ∧ Tbl F.n dss R ∧ Good F R ∧ Tri k F.n R)
    [.im f, .im (.int F.n), .m2 dss, a3, a4, a5, a6, a7] G ⟨rfl, dss, R, _, _, _, _, rfl, t, g, fun b hb => absurd hb (Nat.not_lt_zero b)⟩ fun k d hd ρ G3 hI => by
      obtain ⟨hk, rfl⟩ := get_range hd
      obtain ⟨hG, dss, R, a3, a4, a6, a7, rfl, t, g, r⟩ := hI
      rw [Nat.zero_add] at r ⊢
      obtain ⟨dss', a3', a4', a7', q, t'⟩ := fw_pass n8 g hk t f a3 a4 a5 a7 G3
      refine ⟨[.im f, .im (.int F.n), .m2 dss, a3, a4, a5, .im (natD k), a7], G3, [.im f, .im (.int F.n), .m2 dss', a3', a4', a5, .im (natD k), a7'], G3, rfl, ?_, hG, dss', pass R k, _, _, _, _, rfl, t', pass_good g hk, pass_tri g hk r⟩
      rw [for_run (ds := (List.range F.n).map natD) (ρ1 := [.im f, .im (.int F.n), .m2 dss, a3, a4, a5, .im (natD k), a7]) (G1 := G3) (rng1_at G3 (by omega) rfl)]
      exact q
  rw [hρ6, hG6] at e6
  rw [List.length_map, List.length_range, Nat.zero_add] at r6
  exact ⟨dss6, R6, d3, d4, d6, d7, e6, t6, g6, r6⟩
theorem table_of_ok {F : Fig} (hF : F.Ok) (G : Gs) : ∃ dss R, table_of [F.d] G = some (.lst (dss.map D.lst), G) ∧ Tbl F.n dss R ∧ Good F R ∧ Tri F.n F.n R := by
  have n8 := hF.n8
  have a2 := tab_empty n8 G
  obtain ⟨dss3, R3, a3, a4, a5, e3, t3, g3⟩ := tab_limbs hF G (start_tbl F.n)
  obtain ⟨dss4, R4, b3, b4, b6, b7, e4, t4, g4, r4⟩ := fw_all n8 t3 g3 F.d a3 a4 a5 .un .un G
  refine ⟨dss4, R4, def_rt rfl ?_, t4, g4, r4⟩
  refine (seq_nx (ρ1 := [.im F.d, .im (.int F.n), .un, .un, .un, .un, .un, .un]) (G1 := G) (by simp [mDef, sSeq, sIf, sSet, sAsg, sAsg2, sPar, sAug, sApp, sPut, sNext, sBreak, sCont, sNever, sRet, sRetN, sShare, sExpr, xName, xIx, xIx2, xTup, xsCons, xsNil, setIx, setIx2, isM2, has, mIm_ap, mVar, mPeek, mSolid_ap, mBin_ap, mBinN_ap, mUn_ap, mCall_ap, mCallN_ap, mCons_ap, mNil_ap, mTup_ap, mLst_ap, mLstN_ap, mTest_ap, mTestN_ap, mAnd_ap, mOr_ap, mNot_ap, mAndV_ap, mOrV_ap, mIf_ap, mChain_ap, mIsi_ap, mLen_ap, mIxH, mSl_ap, mPart_ap, mItems_ap, mRng1_ap, mRng2_ap, mZip_ap, mFn, bnd_ap, lft_ap, ret_ap, dTup, dLst, dLstN, dAdd, dAddN, dSub, dMul, dMulN, dFdiv, dMod, dPow, dNeg, dNot, dLe, dLt, dGt, dGe, dIs, dIsNot, D.isN, D.isTy, dix4_0, dix4_1, dix4_2, dix4_3, dix3_0, dix3_1, dix3_2, atI, ixN, Sl.d, dLen1, dAbs, dMax2, dMin2, dInt, dTuple, dList, dListN, D.items, gSet, gTupS, gsCons, gsNil, D.solid, szOk, wipeS, mSortedD_ap, ixF0, ixF1, ixF2, ixF3])).trans ?_
  refine (seq_nx (ρ1 := [.im F.d, .im (.int F.n), .m2 ((List.range F.n).map fun i => (List.range F.n).map fun j => if i = j then D.int 0 else .non), .un, .un, .un, .un, .un]) (G1 := G) (set_run a2 (by simp))).trans ?_
  refine (seq_nx (ρ1 := [.im F.d, .im (.int F.n), .m2 dss3, a3, a4, a5, .un, .un]) (G1 := G) ((for_run (ds := F.limbs.map limbD) (ρ1 := [.im F.d, .im (.int F.n), .m2 ((List.range F.n).map fun i => (List.range F.n).map fun j => if i = j then D.int 0 else .non), .un, .un, .un, .un, .un]) (G1 := G) (by simp [mItems_ap, mBin_ap, bnd_ap, lft_ap, ret_ap, mVar, D.items, ixF1])).trans e3)).trans ?_
  refine (seq_nx (ρ1 := [.im F.d, .im (.int F.n), .m2 dss4, b3, b4, a5, b6, b7]) (G1 := G) ((for_run (rng1_at G (by omega) rfl)).trans e4)).trans ?_
  simp [sRet, mVar]
end DM

/-! DM: the program's pose. -/
namespace DM
open DL L2
open PySem (Paired)
theorem Tbl.ix {n : Nat} {dss : List (List D)} {R : Tab} (t : Tbl n dss R) {i j a b c : Nat} (hi : i < n) (hj : j < n) {ρ : List Sl} (G : Gs) (h2 : ρ[c]? = some (.im (.lst (dss.map D.lst)))) (ha : ρ[a]? = some (.im (natD i))) (hb : ρ[b]? = some (.im (natD j))) :
    mBin dIx (mBin dIx (mVar c) (mVar a)) (mVar b) ρ G = some (cellD (R i j), ρ, G) := by
  obtain ⟨row, e1, e2, e3⟩ := t.row i hi
  have f1 : dIx (.lst (dss.map D.lst)) (natD i) = some (.lst row) := ix_lst (by rw [List.getElem?_map, e1]; rfl)
  have f2 := ix_lst (e3 j hj)
  simp [mBin_ap, bnd_ap, lft_ap, mVar, h2, ha, hb, f1, f2]
theorem dMinL_ints {ns : List Int} {m : Int} (h : lmin ns = some m) : dMinL [.lst (ns.map D.int)] = some (.int m) := by
  unfold dMinL
  dsimp only
  rw [intsOf_map]
  show (lmin ns).map D.int = _
  rw [h]
  rfl
theorem zip_items {F : Fig} {s : List Int} : zipD (F.ties.map natD) (s.map D.int) = (F.ties.zip s).map fun p => D.tup [natD p.1, .int p.2] := by
  unfold zipD
  rw [List.zip_map, List.map_map]
  rfl
theorem app_run {i : Nat} {a : SE} {ρ : List Sl} {G : Gs} {ds : List D} {d : D} (h0 : ρ[i]? = some (.m1 ds)) (h : a ρ G = some (d, ρ, G)) (hz : ds.length ≤ 1000000) : sApp i a ρ G = some (.nx (ρ.set i (.m1 (ds ++ [d]))), G) := by
  unfold sApp
  rw [h0]
  dsimp only
  rw [h]
  dsimp only
  rw [h0]
  dsimp only
  rw [if_pos (show szOk ds.length = true from decide_eq_true hz)]
/-- one joint -/
theorem pose_joint {F : Fig} (hF : F.Ok) {s : List Int} (hs : InR F.ties.length F.floor s) {dss : List (List D)} {R : Tab} (t : Tbl F.n dss R) {j : Nat} (hj : j < F.n) (acc : List Int) (ha : acc.length ≤ 8) (a5 : Sl) (G : Gs) :
    ∃ m, lmin (reachL R F s j) = some m ∧ ∃ a5', (sSeq (sSet 5 (mIm (mLc [6, 7] (mZip (mBin dIx (mVar 0) (DL.ret (.int 2))) (mVar 1)) (gTupS 2 (gsCons (gSet 6) (gsCons (gSet 7) gsNil))) (mTestN (fun d => !d.isN) (mBin dIx (mBin dIx (mVar 2) (mVar 6)) (mVar 4))) (mBin dAdd (mVar 7) (mBin dIx (mBin dIx (mVar 2) (mVar 6)) (mVar 4))))))
  (sApp 3 (mCall dMinL (mCons (mBin dAdd (mVar 5) (mLst (mCons (mBin dIx (mVar 0) (DL.ret (.int 3))) mNil))) mNil))))
      [.im F.d, .im (intsD s), .im (.lst (dss.map D.lst)), .m1 (acc.map D.int), .im (natD j), a5, .un, .un] G = some (.nx [.im F.d, .im (intsD s), .im (.lst (dss.map D.lst)), .m1 ((acc ++ [m]).map D.int), .im (natD j), a5', .un, .un], G) := by
  have t6 := hF.t6
  have hsl := hs.1
  obtain ⟨m, hm⟩ := lmin_some (xs := reachL R F s j) (by unfold reachL; simp)
  have a1 := mLc_fm (vs := [6, 7]) (it := mZip (mBin dIx (mVar 0) (DL.ret (.int 2))) (mVar 1)) (tg := gTupS 2 (gsCons (gSet 6) (gsCons (gSet 7) gsNil))) (tt := mTestN (fun d => !d.isN) (mBin dIx (mBin dIx (mVar 2) (mVar 6)) (mVar 4))) (te := mBin dAdd (mVar 7) (mBin dIx (mBin dIx (mVar 2) (mVar 6)) (mVar 4))) (G := G)
    (ρ := [.im F.d, .im (intsD s), .im (.lst (dss.map D.lst)), .m1 (acc.map D.int), .im (natD j), a5, .un, .un]) (F.ties.zip s) (fun p => D.tup [natD p.1, .int p.2]) (fun p => ((R p.1 j).map (p.2 + ·)).map D.int)
    (by simp [mZip_ap, mBin_ap, bnd_ap, lft_ap, ret_ap, mVar, ixF2, dZip, intsD, zip_items]) rfl (by rw [List.length_zip]; omega) fun p hp => by
      have hp1 := hF.tie _ (List.of_mem_zip hp).1
      have c1 := t.ix (c := 2) (a := 6) (b := 4) hp1 hj (ρ := [.im F.d, .im (intsD s), .im (.lst (dss.map D.lst)), .m1 (acc.map D.int), .im (natD j), a5, .im (natD p.1), .im (.int p.2)]) G rfl rfl rfl
      refine ⟨[.im F.d, .im (intsD s), .im (.lst (dss.map D.lst)), .m1 (acc.map D.int), .im (natD j), a5, .im (natD p.1), .im (.int p.2)], rfl, rfl, ?_⟩
      cases q : R p.1 j with
      | none =>
        rw [q] at c1
        exact .inl ⟨rfl, by simp [mTestN_ap, bnd_ap, ret_ap, c1, cellD, D.isN]⟩
      | some w =>
        rw [q] at c1
        refine .inr ⟨.int (p.2 + w), rfl, by simp [mTestN_ap, bnd_ap, ret_ap, c1, cellD, D.isN], ?_⟩
        rw [mBin_ap]
        simp [bnd_ap, lft_ap, mVar, c1, cellD, dAdd]
  have e1 : (F.ties.zip s).filterMap (fun p => ((R p.1 j).map (p.2 + ·)).map D.int) = ((F.ties.zip s).filterMap fun p => (R p.1 j).map (p.2 + ·)).map D.int := by rw [List.map_filterMap]
  rw [e1] at a1
  generalize hr : ((F.ties.zip s).filterMap fun p => (R p.1 j).map (p.2 + ·)) = rs at a1
  have hrl : rs.length ≤ 6 := by
    rw [← hr]
    have := List.length_filterMap_le (fun p : Nat × Int => (R p.1 j).map (p.2 + ·)) (F.ties.zip s)
    rw [List.length_zip] at this
    omega
  have hm' : lmin (rs ++ [F.floor]) = some m := by rw [← hr]; exact hm
  have hd : dMinL [.lst (rs.map D.int ++ [.int F.floor])] = some (.int m) := by
    have := dMinL_ints hm'
    rw [List.map_append] at this
    exact this
  refine ⟨m, hm, .im (.lst (rs.map D.int)), ?_⟩
  have b1 : sSet 5 (mIm (mLc [6, 7] (mZip (mBin dIx (mVar 0) (DL.ret (.int 2))) (mVar 1)) (gTupS 2 (gsCons (gSet 6) (gsCons (gSet 7) gsNil))) (mTestN (fun d => !d.isN) (mBin dIx (mBin dIx (mVar 2) (mVar 6)) (mVar 4))) (mBin dAdd (mVar 7) (mBin dIx (mBin dIx (mVar 2) (mVar 6)) (mVar 4)))))
      [.im F.d, .im (intsD s), .im (.lst (dss.map D.lst)), .m1 (acc.map D.int), .im (natD j), a5, .un, .un] G = some (.nx [.im F.d, .im (intsD s), .im (.lst (dss.map D.lst)), .m1 (acc.map D.int), .im (natD j), .im (.lst (rs.map D.int)), .un, .un], G) := by
    refine set_run (ρ1 := [.im F.d, .im (intsD s), .im (.lst (dss.map D.lst)), .m1 (acc.map D.int), .im (natD j), a5, .un, .un]) ?_ (by simp)
    rw [mIm_ap, bnd_ap, a1]
    rfl
  refine (seq_nx b1).trans ?_
  have b2 := app_run (i := 3) (a := mCall dMinL (mCons (mBin dAdd (mVar 5) (mLst (mCons (mBin dIx (mVar 0) (DL.ret (.int 3))) mNil))) mNil)) (ρ := [.im F.d, .im (intsD s), .im (.lst (dss.map D.lst)), .m1 (acc.map D.int), .im (natD j), .im (.lst (rs.map D.int)), .un, .un]) (G := G) (ds := acc.map D.int) (d := .int m) rfl
    (by
      have h1 : rs.length + 1 ≤ 1000000 := by omega
      simp [mCall_ap, mCons_ap, mNil_ap, mBin_ap, mLst_ap, bnd_ap, lft_ap, ret_ap, mVar, ixF3, dLst, szOk, dAdd, hd, h1]) (by rw [List.length_map]; omega)
  rw [b2]
  simp
theorem pose_by_ok {F : Fig} (hF : F.Ok) {s : List Int} (hs : InR F.ties.length F.floor s) {dss : List (List D)} {R : Tab} (t : Tbl F.n dss R) (g : Good F R) (r : Tri F.n F.n R) (G : Gs) :
    ∃ d, pose_by [F.d, intsD s, .lst (dss.map D.lst)] G = some (intsD d, G) ∧ IsPose F s d := by
  have n8 := hF.n8
  obtain ⟨ρ6, G6, e6, hG6, acc, a4, a5, hρ6, hl, hd⟩ := for_inv (tg := xName 4) (body := (sSeq (sSet 5 (mIm (mLc [6, 7] (mZip (mBin dIx (mVar 0) (DL.ret (.int 2))) (mVar 1)) (gTupS 2 (gsCons (gSet 6) (gsCons (gSet 7) gsNil))) (mTestN (fun d => !d.isN) (mBin dIx (mBin dIx (mVar 2) (mVar 6)) (mVar 4))) (mBin dAdd (mVar 7) (mBin dIx (mBin dIx (mVar 2) (mVar 6)) (mVar 4))))))
  (sApp 3 (mCall dMinL (mCons (mBin dAdd (mVar 5) (mLst (mCons (mBin dIx (mVar 0) (DL.ret (.int 3))) mNil))) mNil)))))
    ((List.range F.n).map natD) 0 (fun k ρ G9 => G9 = G ∧ ∃ (acc : List Int) (a4 a5 : Sl), ρ = [.im F.d, .im (intsD s), .im (.lst (dss.map D.lst)), .m1 (acc.map D.int), a4, a5, .un, .un] ∧ acc.length = k ∧ ∀ j, j < k → lmin (reachL R F s j) = some (iat acc j))
    [.im F.d, .im (intsD s), .im (.lst (dss.map D.lst)), .m1 [], .un, .un, .un, .un] G ⟨rfl, [], _, _, rfl, rfl, fun j hj => absurd hj (Nat.not_lt_zero j)⟩ fun j d hd ρ G3 hI => by
      obtain ⟨hj, rfl⟩ := get_range hd
      obtain ⟨hG, acc, a4, a5, rfl, hl, hd⟩ := hI
      rw [Nat.zero_add] at hl hd ⊢
      obtain ⟨m, hm, a5', q⟩ := pose_joint hF hs t hj acc (by omega) a5 G3
      refine ⟨[.im F.d, .im (intsD s), .im (.lst (dss.map D.lst)), .m1 (acc.map D.int), .im (natD j), a5, .un, .un], G3, [.im F.d, .im (intsD s), .im (.lst (dss.map D.lst)), .m1 ((acc ++ [m]).map D.int), .im (natD j), a5', .un, .un], G3, rfl, q, hG, acc ++ [m], _, _, rfl, by rw [List.length_append, hl]; rfl, fun i hi => ?_⟩
      by_cases e : i = j
      · subst e
        rw [hm]
        unfold iat
        rw [List.getElem?_append_right (by omega), hl, Nat.sub_self]
        rfl
      · rw [hd i (by omega)]
        unfold iat
        rw [List.getElem?_append_left (by omega)]
  rw [hρ6, hG6] at e6
  rw [List.length_map, List.length_range, Nat.zero_add] at hl hd
  refine ⟨acc, def_rt rfl ?_, pose_math hF hs g r hl hd⟩
  have b0 : sSet 3 (mLstN mNil) ([F.d, intsD s, .lst (dss.map D.lst)].map Sl.im ++ List.replicate (8 - 3) .un) G = some (.nx [.im F.d, .im (intsD s), .im (.lst (dss.map D.lst)), .m1 [], .un, .un, .un, .un], G) := by
    refine set_run (ρ1 := [.im F.d, .im (intsD s), .im (.lst (dss.map D.lst)), .un, .un, .un, .un, .un]) ?_ (by simp)
    simp [mLstN_ap, mNil_ap, bnd_ap, lft_ap, dLstN, szOk]
  refine (seq_nx b0).trans ?_
  have b1 : mRng1 (mBin dIx (mVar 0) (DL.ret (.int 0))) [.im F.d, .im (intsD s), .im (.lst (dss.map D.lst)), .m1 [], .un, .un, .un, .un] G = some ((List.range F.n).map natD, [.im F.d, .im (intsD s), .im (.lst (dss.map D.lst)), .m1 [], .un, .un, .un, .un], G) := rng1_ev (by omega) (by simp [mBin_ap, bnd_ap, lft_ap, ret_ap, mVar, ixF0])
  refine (seq_nx ((for_run b1).trans e6)).trans ?_
  simp [sRet, mCall_ap, mCons_ap, mNil_ap, bnd_ap, lft_ap, ret_ap, mVar, dTuple, intsD]
theorem pose_in_ok {F : Fig} (hF : F.Ok) {s : List Int} (hs : InR F.ties.length F.floor s) (G : Gs) : ∃ d, pose_in [F.d, intsD s] G = some (intsD d, G) ∧ IsPose F s d := by
  obtain ⟨dss, R, e1, t, g, r⟩ := table_of_ok hF G
  obtain ⟨d, e2, hd⟩ := pose_by_ok hF hs t g r G
  refine ⟨d, def_rt rfl (ret_run (ρ1 := [.im F.d, .im (intsD s)]) ?_), hd⟩
  exact mFn_run (cons_run (var_run rfl) (cons_run (var_run rfl) (cons_run (mFn_run (cons_run (var_run rfl) mNil_ap) rfl e1) mNil_ap))) rfl e2
theorem pose_ok {F : Fig} (hF : F.Ok) {s : List Int} (hs : InR F.ties.length F.floor s) (G : Gs) : ∃ d, pose [F.d, intsD s] G = some (intsD d, G) ∧ IsPose F s d := by
  obtain ⟨d, e2, hd⟩ := pose_in_ok hF hs G
  refine ⟨d, def_rt rfl ((seq_nx (ρ1 := [.im F.d, .im (intsD s)]) (G1 := G) (expr_run (ρ1 := [.im F.d, .im (intsD s)]) (mFn_run (cons_run (var_run rfl) (cons_run (var_run rfl) mNil_ap)) rfl (need_set_ok hF hs)))).trans (ret_run (ρ1 := [.im F.d, .im (intsD s)]) ?_)), hd⟩
  exact mFn_run (cons_run (var_run rfl) (cons_run (var_run rfl) mNil_ap)) rfl e2
end DM

/-! DM: the law's pose. -/
namespace DM
open DL L2
open PySem (Paired)
theorem iat_set {d : List Int} {i j : Nat} {c : Int} (hi : i < d.length) : iat (d.set i c) j = if j = i then c else iat d j := by
  unfold iat
  by_cases e : j = i
  · subst e
    rw [if_pos rfl, List.getElem?_set_self hi]
    rfl
  · rw [if_neg e, List.getElem?_set_ne (Ne.symm e)]
theorem ix_intsL {d : List Int} {i : Nat} (h : i < d.length) : dIx (.lst (d.map D.int)) (natD i) = some (.int (iat d i)) := by
  refine ix_lst ?_
  rw [List.getElem?_map]
  unfold iat
  rw [List.getElem?_eq_getElem h]
  rfl
theorem cell1 {d : List Int} {i a : Nat} (hi : i < d.length) {ρ : List Sl} (G : Gs) (h2 : ρ[2]? = some (.m1 (d.map D.int))) (ha : ρ[a]? = some (.im (natD i))) : mSolid (mBin dIx (mPeek 2) (mVar a)) ρ G = some (.int (iat d i), ρ, G) := by
  have f1 := ix_intsL hi
  have e1 : mPeek 2 ρ G = some (.lst (d.map D.int), ρ, G) := by unfold mPeek; rw [h2]; rfl
  have e2 := bin_run e1 (var_run (G := G) ha) f1
  unfold mSolid bnd
  rw [e2]
  rfl
theorem put1 {d : List Int} {i a : Nat} (hi : i < d.length) (c : Int) {ρ : List Sl} (G : Gs) (h2 : ρ[2]? = some (.m1 (d.map D.int))) (ha : ρ[a]? = some (.im (natD i))) : xIx 2 (mVar a) (.int c) ρ G = some (ρ.set 2 (.m1 ((d.set i c).map D.int)), G) := by
  have f2 : ixN (d.map D.int).length (i : Int) = some i := ixN_nat (by rw [List.length_map]; exact hi)
  have ha' : mVar a ρ G = some (.int (i : Int), ρ, G) := var_run ha
  unfold xIx has
  rw [h2]
  dsimp only
  rw [if_pos rfl, ha']
  dsimp only
  unfold setIx
  rw [h2]
  dsimp only
  rw [f2, List.map_set]
  rfl
theorem min2_run {a b : SE} {ρ : List Sl} {G : Gs} {x y : Int} (h : a ρ G = some (.int x, ρ, G)) (h2 : b ρ G = some (.int y, ρ, G)) : mCall dMin2 (mCons a (mCons b mNil)) ρ G = some (.int (if y < x then y else x), ρ, G) :=
  call_run (cons_run h (cons_run h2 mNil_ap)) rfl
theorem xtup_run {n : Nat} {m : SXs} {ds : List D} {ρ ρ1 : List Sl} {G G1 : Gs} (hn : ds.length = n) (h : m ds ρ G = some (ρ1, G1)) : xTup n m (.tup ds) ρ G = some (ρ1, G1) := by
  unfold xTup
  dsimp only
  rw [if_pos hn]
  exact h
theorem xcons_run {g : SX} {m : SXs} {d : D} {ds : List D} {ρ ρ1 ρ2 : List Sl} {G G1 G2 : Gs} (h : g d ρ G = some (ρ1, G1)) (h2 : m ds ρ1 G1 = some (ρ2, G2)) : xsCons g m (d :: ds) ρ G = some (ρ2, G2) := by
  show (g d ρ G).bind (fun p => m ds p.1 p.2) = _
  rw [h]
  exact h2
theorem asg_run {a : SE} {g : SX} {ρ ρ1 ρ2 : List Sl} {G G1 G2 : Gs} {d : D} (h : a ρ G = some (d, ρ1, G1)) (h2 : g d ρ1 G1 = some (ρ2, G2)) : sAsg a g ρ G = some (.nx ρ2, G2) := by
  unfold sAsg
  rw [h]
  dsimp only
  rw [h2]
  rfl
theorem lp_ties {F : Fig} (hF : F.Ok) {s p : List Int} (hp : IsPose F s p) (G : Gs) : ∃ (d : List Int) (a3 a4 : Sl), forLoop (xTup 2 (xsCons (xName 3) (xsCons (xName 4) xsNil))) (sAsg (mCall dMin2 (mCons (mSolid (mBin dIx (mPeek 2) (mVar 3))) (mCons (mVar 4) mNil))) (xIx 2 (mVar 3))) ((F.ties.zip s).map fun p => D.tup [natD p.1, .int p.2])
    [.im F.d, .im (intsD s), .m1 ((List.replicate F.n F.floor).map D.int), .un, .un, .un, .un, .un] G = some (.nx [.im F.d, .im (intsD s), .m1 (d.map D.int), a3, a4, .un, .un, .un], G) ∧ d.length = F.n ∧ (∀ i, i < F.n → iat p i ≤ iat d i ∧ iat d i ≤ F.floor) ∧ ∀ q ∈ F.ties.zip s, iat d q.1 ≤ q.2 := by
  obtain ⟨ρ6, G6, e6, hG6, d, a3, a4, hρ6, hl, hb, ht⟩ := for_inv (tg := xTup 2 (xsCons (xName 3) (xsCons (xName 4) xsNil))) (body := sAsg (mCall dMin2 (mCons (mSolid (mBin dIx (mPeek 2) (mVar 3))) (mCons (mVar 4) mNil))) (xIx 2 (mVar 3)))
    ((F.ties.zip s).map fun p => D.tup [natD p.1, .int p.2]) 0 (fun k ρ G9 => G9 = G ∧ ∃ (d : List Int) (a3 a4 : Sl), ρ = [.im F.d, .im (intsD s), .m1 (d.map D.int), a3, a4, .un, .un, .un] ∧ d.length = F.n ∧ (∀ i, i < F.n → iat p i ≤ iat d i ∧ iat d i ≤ F.floor) ∧ ∀ q ∈ (F.ties.zip s).take k, iat d q.1 ≤ q.2)
    [.im F.d, .im (intsD s), .m1 ((List.replicate F.n F.floor).map D.int), .un, .un, .un, .un, .un] G ⟨rfl, _, _, _, rfl, by simp, fun i hi => by
      have : iat (List.replicate F.n F.floor) i = F.floor := by
        unfold iat
        rw [List.getElem?_replicate, if_pos hi]
        rfl
      rw [this]
      exact ⟨hp.st.1 i hi, Int.le_refl _⟩, fun q hq => by simp at hq⟩ fun k x hx ρ G3 hI => by
      rw [List.getElem?_map] at hx
      obtain ⟨q, hq, e⟩ := Option.map_eq_some_iff.mp hx
      subst e
      obtain ⟨hG, d, a3, a4, rfl, hl, hb, ht⟩ := hI
      have hm := List.mem_of_getElem? hq
      have hq1 : q.1 < F.n := hF.tie _ (List.of_mem_zip hm).1
      have hpq := hp.st.2.2 q hm
      have c1 := cell1 (a := 3) (by omega : q.1 < d.length) (ρ := [.im F.d, .im (intsD s), .m1 (d.map D.int), .im (natD q.1), .im (.int q.2), .un, .un, .un]) G3 rfl rfl
      have c2 := min2_run c1 (var_run (i := 4) (d := .int q.2) rfl)
      have c3 := put1 (a := 3) (by omega : q.1 < d.length) (if q.2 < iat d q.1 then q.2 else iat d q.1) (ρ := [.im F.d, .im (intsD s), .m1 (d.map D.int), .im (natD q.1), .im (.int q.2), .un, .un, .un]) G3 rfl rfl
      refine ⟨[.im F.d, .im (intsD s), .m1 (d.map D.int), .im (natD q.1), .im (.int q.2), .un, .un, .un], G3, _, G3, rfl, asg_run c2 c3, hG, d.set q.1 (if q.2 < iat d q.1 then q.2 else iat d q.1), _, _, rfl, by rw [List.length_set]; exact hl, fun i hi => ?_, fun r hr => ?_⟩
      · rw [iat_set (by omega)]
        have := hb i hi
        by_cases e : i = q.1
        · rw [if_pos e]
          rw [e] at this ⊢
          split <;> omega
        · rw [if_neg e]; exact this
      · rw [iat_set (by omega)]
        rw [Nat.zero_add] at ht hr
        rw [List.take_add_one, hq] at hr
        rcases List.mem_append.mp hr with hr | hr
        · have := ht r hr
          by_cases e : r.1 = q.1
          · rw [if_pos e]
            rw [e] at this
            split <;> omega
          · rw [if_neg e]; exact this
        · have er : r = q := by simpa using hr
          rw [er, if_pos rfl]
          split <;> omega
  rw [hρ6, hG6] at e6
  refine ⟨d, a3, a4, e6, hl, hb, fun q hq => ht q ?_⟩
  rw [List.length_map, Nat.zero_add, List.take_length]
  exact hq
theorem lp_limbs {F : Fig} (hF : F.Ok) {s p : List Int} (hp : IsPose F s p) {d0 : List Int} (h0 : d0.length = F.n) (hb0 : ∀ i, i < F.n → iat p i ≤ iat d0 i) (f : D) (a3 a4 a5 a6 a7 : Sl) (G : Gs) : ∃ (d : List Int) (a4' a6' a7' : Sl), forLoop (xTup 3 (xsCons (xName 6) (xsCons (xName 7) (xsCons (xName 4) xsNil)))) (sAsg (mTup (mCons (mCall dMin2 (mCons (mSolid (mBin dIx (mPeek 2) (mVar 6))) (mCons (mBin dAdd (mSolid (mBin dIx (mPeek 2) (mVar 7))) (mVar 4)) mNil))) (mCons (mCall dMin2 (mCons (mSolid (mBin dIx (mPeek 2) (mVar 7))) (mCons (mBin dAdd (mSolid (mBin dIx (mPeek 2) (mVar 6))) (mVar 4)) mNil))) mNil))) (xTup 2 (xsCons (xIx 2 (mVar 6)) (xsCons (xIx 2 (mVar 7)) xsNil)))) (F.limbs.map limbD)
    [.im F.d, .im f, .m1 (d0.map D.int), a3, a4, a5, a6, a7] G = some (.nx [.im F.d, .im f, .m1 (d.map D.int), a3, a4', a5, a6', a7'], G) ∧ d.length = F.n ∧ (∀ i, i < F.n → iat p i ≤ iat d i ∧ iat d i ≤ iat d0 i) ∧ ∀ l ∈ F.limbs, iat d l.1 ≤ iat d0 l.2.1 + l.2.2 ∧ iat d l.2.1 ≤ iat d0 l.1 + l.2.2 := by
  obtain ⟨ρ6, G6, e6, hG6, d, a4, a6, a7, hρ6, hl, hb, ht⟩ := for_inv (tg := xTup 3 (xsCons (xName 6) (xsCons (xName 7) (xsCons (xName 4) xsNil)))) (body := sAsg (mTup (mCons (mCall dMin2 (mCons (mSolid (mBin dIx (mPeek 2) (mVar 6))) (mCons (mBin dAdd (mSolid (mBin dIx (mPeek 2) (mVar 7))) (mVar 4)) mNil))) (mCons (mCall dMin2 (mCons (mSolid (mBin dIx (mPeek 2) (mVar 7))) (mCons (mBin dAdd (mSolid (mBin dIx (mPeek 2) (mVar 6))) (mVar 4)) mNil))) mNil))) (xTup 2 (xsCons (xIx 2 (mVar 6)) (xsCons (xIx 2 (mVar 7)) xsNil))))
    (F.limbs.map limbD) 0 (fun k ρ G9 => G9 = G ∧ ∃ (d : List Int) (a4 a6 a7 : Sl), ρ = [.im F.d, .im f, .m1 (d.map D.int), a3, a4, a5, a6, a7] ∧ d.length = F.n ∧ (∀ i, i < F.n → iat p i ≤ iat d i ∧ iat d i ≤ iat d0 i) ∧ ∀ l ∈ F.limbs.take k, iat d l.1 ≤ iat d0 l.2.1 + l.2.2 ∧ iat d l.2.1 ≤ iat d0 l.1 + l.2.2)
    [.im F.d, .im f, .m1 (d0.map D.int), a3, a4, a5, a6, a7] G ⟨rfl, _, _, _, _, rfl, h0, fun i hi => ⟨hb0 i hi, Int.le_refl _⟩, fun q hq => by simp at hq⟩ fun k x hx ρ G3 hI => by
      obtain ⟨l, hl, rfl⟩ := get_limb hx
      obtain ⟨hG, d, a4, a6, a7, rfl, hd, hb, ht⟩ := hI
      have hm := List.mem_of_getElem? hl
      obtain ⟨l1, l2, l3, l4⟩ := hF.limb l hm
      obtain ⟨p1, p2⟩ := hp.st.2.1 l hm
      have b1 := hb l.1 (by omega)
      have b2 := hb l.2.1 (by omega)
      have c6 := cell1 (a := 6) (by omega : l.1 < d.length) (ρ := [.im F.d, .im f, .m1 (d.map D.int), a3, .im (.int l.2.2), a5, .im (natD l.1), .im (natD l.2.1)]) G3 rfl rfl
      have c7 := cell1 (a := 7) (by omega : l.2.1 < d.length) (ρ := [.im F.d, .im f, .m1 (d.map D.int), a3, .im (.int l.2.2), a5, .im (natD l.1), .im (natD l.2.1)]) G3 rfl rfl
      have v4 := var_run (i := 4) (d := .int l.2.2) (ρ := [.im F.d, .im f, .m1 (d.map D.int), a3, .im (.int l.2.2), a5, .im (natD l.1), .im (natD l.2.1)]) (G := G3) rfl
      have m1 := min2_run c6 (bin_run c7 v4 (f := dAdd) rfl)
      have m2 := min2_run c7 (bin_run c6 v4 (f := dAdd) rfl)
      generalize hx1 : (if iat d l.2.1 + l.2.2 < iat d l.1 then iat d l.2.1 + l.2.2 else iat d l.1) = x1 at m1
      generalize hx2 : (if iat d l.1 + l.2.2 < iat d l.2.1 then iat d l.1 + l.2.2 else iat d l.2.1) = x2 at m2
      have k1 : x1 ≤ iat d l.2.1 + l.2.2 ∧ x1 ≤ iat d l.1 ∧ iat p l.1 ≤ x1 := by rw [← hx1]; split <;> omega
      have k2 : x2 ≤ iat d l.1 + l.2.2 ∧ x2 ≤ iat d l.2.1 ∧ iat p l.2.1 ≤ x2 := by rw [← hx2]; split <;> omega
      have tt := tup_run (cons_run m1 (cons_run m2 mNil_ap)) (by simp)
      have q1 := put1 (a := 6) (by omega : l.1 < d.length) x1 (ρ := [.im F.d, .im f, .m1 (d.map D.int), a3, .im (.int l.2.2), a5, .im (natD l.1), .im (natD l.2.1)]) G3 rfl rfl
      have q2 := put1 (d := d.set l.1 x1) (a := 7) (by rw [List.length_set]; omega : l.2.1 < (d.set l.1 x1).length) x2 (ρ := [.im F.d, .im f, .m1 ((d.set l.1 x1).map D.int), a3, .im (.int l.2.2), a5, .im (natD l.1), .im (natD l.2.1)]) G3 rfl rfl
      have xx : xTup 2 (xsCons (xIx 2 (mVar 6)) (xsCons (xIx 2 (mVar 7)) xsNil)) (.tup [.int x1, .int x2]) [.im F.d, .im f, .m1 (d.map D.int), a3, .im (.int l.2.2), a5, .im (natD l.1), .im (natD l.2.1)] G3 = some ([.im F.d, .im f, .m1 (((d.set l.1 x1).set l.2.1 x2).map D.int), a3, .im (.int l.2.2), a5, .im (natD l.1), .im (natD l.2.1)], G3) := by
        simp only [List.set_cons_succ, List.set_cons_zero] at q1 q2
        exact xtup_run rfl (xcons_run q1 (xcons_run q2 rfl))
      have at2 : ∀ j, iat ((d.set l.1 x1).set l.2.1 x2) j = if j = l.2.1 then x2 else if j = l.1 then x1 else iat d j := fun j => by
        rw [iat_set (by rw [List.length_set]; omega), iat_set (by omega)]
      refine ⟨[.im F.d, .im f, .m1 (d.map D.int), a3, .im (.int l.2.2), a5, .im (natD l.1), .im (natD l.2.1)], G3, _, G3, rfl, asg_run tt xx, hG, _, _, _, _, rfl, by rw [List.length_set, List.length_set]; exact hd, fun i hi => ?_, fun q hq => ?_⟩
      · rw [at2]
        have := hb i hi
        by_cases e1 : i = l.2.1
        · rw [if_pos e1]; rw [e1] at this ⊢; omega
        · rw [if_neg e1]
          by_cases e2 : i = l.1
          · rw [if_pos e2]; rw [e2] at this ⊢; omega
          · rw [if_neg e2]; exact this
      · rw [at2, at2]
        rw [Nat.zero_add] at ht hq
        rw [List.take_add_one, hl] at hq
        have dec : ∀ j c, iat d j ≤ c → (if j = l.2.1 then x2 else if j = l.1 then x1 else iat d j) ≤ c := fun j c h => by
          by_cases e1 : j = l.2.1
          · rw [if_pos e1]; rw [e1] at h; omega
          · rw [if_neg e1]
            by_cases e2 : j = l.1
            · rw [if_pos e2]; rw [e2] at h; omega
            · rw [if_neg e2]; exact h
        rcases List.mem_append.mp hq with hq | hq
        · obtain ⟨t1, t2⟩ := ht q hq
          exact ⟨dec _ _ t1, dec _ _ t2⟩
        · have er : q = l := by simpa using hq
          rw [er, if_neg (by omega : ¬ l.1 = l.2.1), if_pos rfl, if_pos rfl]
          omega
  rw [hρ6, hG6] at e6
  refine ⟨d, a4, a6, a7, e6, hl, hb, fun q hq => ht q ?_⟩
  rw [List.length_map, Nat.zero_add, List.take_length]
  exact hq
theorem lp_turns {F : Fig} (hF : F.Ok) {s p : List Int} (hp : IsPose F s p) {d0 : List Int} (h0 : d0.length = F.n) (hb0 : ∀ i, i < F.n → iat p i ≤ iat d0 i ∧ iat d0 i ≤ F.floor) (ht0 : ∀ q ∈ F.ties.zip s, iat d0 q.1 ≤ q.2) (a3 a4 : Sl) (G : Gs) : ∃ (a4' a5' a6' a7' : Sl), forLoop (xName 5) (sFor (mItems (mBin dIx (mVar 0) (DL.ret (.int 1)))) (xTup 3 (xsCons (xName 6) (xsCons (xName 7) (xsCons (xName 4) xsNil)))) (sAsg (mTup (mCons (mCall dMin2 (mCons (mSolid (mBin dIx (mPeek 2) (mVar 6))) (mCons (mBin dAdd (mSolid (mBin dIx (mPeek 2) (mVar 7))) (mVar 4)) mNil))) (mCons (mCall dMin2 (mCons (mSolid (mBin dIx (mPeek 2) (mVar 7))) (mCons (mBin dAdd (mSolid (mBin dIx (mPeek 2) (mVar 6))) (mVar 4)) mNil))) mNil))) (xTup 2 (xsCons (xIx 2 (mVar 6)) (xsCons (xIx 2 (mVar 7)) xsNil))))) ((List.range F.n).map natD)
    [.im F.d, .im (intsD s), .m1 (d0.map D.int), a3, a4, .un, .un, .un] G = some (.nx [.im F.d, .im (intsD s), .m1 (p.map D.int), a3, a4', a5', a6', a7'], G) := by
  obtain ⟨ρ6, G6, e6, hG6, d, a4, a5, a6, a7, hρ6, hl, hb, ht, hc⟩ := for_inv (tg := xName 5) (body := (sFor (mItems (mBin dIx (mVar 0) (DL.ret (.int 1)))) (xTup 3 (xsCons (xName 6) (xsCons (xName 7) (xsCons (xName 4) xsNil)))) (sAsg (mTup (mCons (mCall dMin2 (mCons (mSolid (mBin dIx (mPeek 2) (mVar 6))) (mCons (mBin dAdd (mSolid (mBin dIx (mPeek 2) (mVar 7))) (mVar 4)) mNil))) (mCons (mCall dMin2 (mCons (mSolid (mBin dIx (mPeek 2) (mVar 7))) (mCons (mBin dAdd (mSolid (mBin dIx (mPeek 2) (mVar 6))) (mVar 4)) mNil))) mNil))) (xTup 2 (xsCons (xIx 2 (mVar 6)) (xsCons (xIx 2 (mVar 7)) xsNil))))))
    ((List.range F.n).map natD) 0 (fun k ρ G9 => G9 = G ∧ ∃ (d : List Int) (a4 a5 a6 a7 : Sl), ρ = [.im F.d, .im (intsD s), .m1 (d.map D.int), a3, a4, a5, a6, a7] ∧ d.length = F.n ∧ (∀ i, i < F.n → iat p i ≤ iat d i ∧ iat d i ≤ F.floor) ∧ (∀ q ∈ F.ties.zip s, iat d q.1 ≤ q.2) ∧ ((∀ i, i < F.n → iat d i = iat p i) ∨ k ≤ cnt F.n (iat p) (iat d)))
    [.im F.d, .im (intsD s), .m1 (d0.map D.int), a3, a4, .un, .un, .un] G ⟨rfl, _, _, _, _, _, rfl, h0, hb0, ht0, .inr (Nat.zero_le _)⟩ fun k x hx ρ G3 hI => by
      obtain ⟨hk, rfl⟩ := get_range hx
      obtain ⟨hG, d, a4, a5, a6, a7, rfl, hd, hb, ht, hc⟩ := hI
      obtain ⟨d', a4', a6', a7', e, hd', hb', ht'⟩ := lp_limbs hF hp hd (fun i hi => (hb i hi).1) (intsD s) a3 a4 (.im (natD k)) a6 a7 G3
      have e1 : mItems (mBin dIx (mVar 0) (DL.ret (.int 1))) [.im F.d, .im (intsD s), .m1 (d.map D.int), a3, a4, .im (natD k), a6, a7] G3 = some (F.limbs.map limbD, [.im F.d, .im (intsD s), .m1 (d.map D.int), a3, a4, .im (natD k), a6, a7], G3) := by
        unfold mItems bnd
        rw [bin_run (var_run (i := 0) (d := F.d) rfl) ret_ap ixF1]
        rfl
      refine ⟨[.im F.d, .im (intsD s), .m1 (d.map D.int), a3, a4, .im (natD k), a6, a7], G3, _, G3, rfl, (for_run e1).trans e, hG, d', _, _, _, _, rfl, hd', fun i hi => ?_, fun q hq => ?_, ?_⟩
      · have := hb' i hi
        have := hb i hi
        omega
      · have := (hb' q.1 (hF.tie _ (List.of_mem_zip hq).1)).2
        have := ht q hq
        omega
      · rcases turn_up hF hp (fun i hi => (hb i hi).1) (fun i hi => (hb i hi).2) ht hb' ht' with h | h
        · exact .inl h
        · rcases hc with hc | hc
          · refine .inl fun i hi => ?_
            have := hb' i hi
            have := hc i hi
            omega
          · exact .inr (by omega)
  rw [hρ6, hG6] at e6
  rw [List.length_map, List.length_range, Nat.zero_add] at hc
  have eq : d = p := iat_ext (by rw [hl, hp.len]) fun i hi => by
    have hi : i < F.n := by rw [← hl]; exact hi
    rcases hc with hc | hc
    · exact hc i hi
    · exact cnt_full hc i hi
  rw [eq] at e6
  exact ⟨a4, a5, a6, a7, e6⟩
theorem law_pose_ok {F : Fig} (hF : F.Ok) {s p : List Int} (hp : IsPose F s p) (G : Gs) : law_pose [F.d, intsD s] G = some (intsD p, G) := by
  have n8 := hF.n8
  obtain ⟨d1, a3, a4, e1, hl1, hb1, ht1⟩ := lp_ties hF hp G
  obtain ⟨b4, b5, b6, b7, e2⟩ := lp_turns hF hp hl1 hb1 ht1 a3 a4 G
  refine def_rt rfl ?_
  have s0 : sSet 2 (mBinN dMulN (mLst (mCons (mBin dIx (mVar 0) (DL.ret (.int 3))) mNil)) (mBin dIx (mVar 0) (DL.ret (.int 0)))) ([F.d, intsD s].map Sl.im ++ List.replicate (8 - 2) .un) G = some (.nx [.im F.d, .im (intsD s), .m1 ((List.replicate F.n F.floor).map D.int), .un, .un, .un, .un, .un], G) := by
    refine set_run (ρ1 := [.im F.d, .im (intsD s), .un, .un, .un, .un, .un, .un]) ?_ (by simp)
    unfold mBinN bnd
    have q1 : mLst (mCons (mBin dIx (mVar 0) (DL.ret (.int 3))) mNil) ([F.d, intsD s].map Sl.im ++ List.replicate (8 - 2) .un) G = some (.lst [.int F.floor], [.im F.d, .im (intsD s), .un, .un, .un, .un, .un, .un], G) := by
      unfold mLst bnd
      rw [cons_run (bin_run (var_run (i := 0) (d := F.d) rfl) ret_ap ixF3) mNil_ap]
      rfl
    rw [q1]
    dsimp only
    rw [bin_run (var_run (i := 0) (d := F.d) rfl) ret_ap ixF0]
    dsimp only
    unfold lft dMulN
    dsimp only
    rw [if_pos (by
      rw [decide_eq_true (by omega : (F.n : Int) < 2 ^ 62), decide_eq_true (by omega : -(2 ^ 62) < (F.n : Int))]
      have : szOk ([D.int F.floor].length * (F.n : Int).toNat) = true := decide_eq_true (by simp; omega)
      rw [this]
      rfl)]
    dsimp only
    have : (List.replicate (F.n : Int).toNat [D.int F.floor]).flatten = (List.replicate F.n F.floor).map D.int := by simp
    rw [this]
  refine (seq_nx s0).trans ?_
  have i1 : mZip (mBin dIx (mVar 0) (DL.ret (.int 2))) (mVar 1) [.im F.d, .im (intsD s), .m1 ((List.replicate F.n F.floor).map D.int), .un, .un, .un, .un, .un] G = some ((F.ties.zip s).map (fun p => D.tup [natD p.1, .int p.2]), [.im F.d, .im (intsD s), .m1 ((List.replicate F.n F.floor).map D.int), .un, .un, .un, .un, .un], G) := by
    unfold mZip bnd
    rw [bin_run (var_run (i := 0) (d := F.d) rfl) ret_ap ixF2]
    dsimp only
    rw [var_run (i := 1) (d := intsD s) rfl]
    dsimp only
    rw [← zip_items]
    rfl
  refine (seq_nx ((for_run i1).trans e1)).trans ?_
  have i2 : mRng1 (mBin dIx (mVar 0) (DL.ret (.int 0))) [.im F.d, .im (intsD s), .m1 (d1.map D.int), a3, a4, .un, .un, .un] G = some ((List.range F.n).map natD, [.im F.d, .im (intsD s), .m1 (d1.map D.int), a3, a4, .un, .un, .un], G) := rng1_ev (by omega) (bin_run (var_run (i := 0) (d := F.d) rfl) ret_ap ixF0)
  refine (seq_nx ((for_run i2).trans e2)).trans ?_
  exact ret_run (call_run (ds := [.lst (p.map D.int)]) (ρ1 := [.im F.d, .im (intsD s), .im (.lst (p.map D.int)), a3, b4, b5, b6, b7]) (cons_run rfl mNil_ap) rfl)
end DM

/-! DM: told and due are the same. -/
namespace DM
open DL L2
open PySem (Paired)
theorem if_true {c : SB} {a b : SS} {ρ ρ1 : List Sl} {G G1 : Gs} (h : c ρ G = some (true, ρ1, G1)) : sIf c a b ρ G = a ρ1 G1 := by
  unfold sIf
  rw [h]
theorem if_false {c : SB} {a b : SS} {ρ ρ1 : List Sl} {G G1 : Gs} (h : c ρ G = some (false, ρ1, G1)) : sIf c a b ρ G = b ρ1 G1 := by
  unfold sIf
  rw [h]
def okD : Nat → D → Bool
  | 0, _ => false
  | j + 1, .tup ds => decide (ds.length ≤ 1000) && ds.all (okD j)
  | _ + 1, .non => true
  | _ + 1, .bl _ => true
  | _ + 1, .int _ => true
  | _ + 1, _ => false
theorem eqI (i j : Int) : dEq (.int i) (.int j) = some (.bl (decide (i = j))) := by
  have h1 : ∀ k : Int, PySem.SeqAt.shaped (.int k) = true := fun k => rfl
  show (if (PySem.SeqAt.shaped (.int i) && PySem.SeqAt.shaped (.int j)) = true then some (PySem.PyData.eqv (.int i) (.int j)) else none).map D.bl = _
  rw [h1, h1]
  have h2 : PySem.PyData.eqv (.int i) (.int j) = decide (i = j) := by
    show (i == j) = _
    by_cases h : i = j
    · simp [h]
    · rw [decide_eq_false h]
      exact beq_eq_false_iff_ne.mpr h
  rw [h2]
  rfl
theorem neI (i : Int) : dNe (.int i) (.int i) = some (.bl false) := by
  have := eqI i i
  unfold dEq at this
  unfold dNe
  obtain ⟨b, h1, h2⟩ := Option.map_eq_some_iff.mp this
  rw [h1]
  cases b with
  | false => simp at h2
  | true => rfl
theorem same_refl : ∀ (j : Nat) (d : D), okD j d = true → ∀ G, law_same j [d, d] G = some (.bl true, G)
  | 0, _, h, _ => by cases h
  | j + 1, .non, _, G => by
    rw [law_same]
    refine def_rt rfl ?_
    simp [mDef, sSeq, sIf, sSet, sAsg, sAsg2, sPar, sAug, sApp, sPut, sNext, sBreak, sCont, sNever, sRet, sRetN, sShare, sExpr, xName, xIx, xIx2, xTup, xsCons, xsNil, setIx, setIx2, isM2, has, mIm_ap, mVar, mPeek, mSolid_ap, mBin_ap, mBinN_ap, mUn_ap, mCall_ap, mCallN_ap, mCons_ap, mNil_ap, mTup_ap, mLst_ap, mLstN_ap, mTest_ap, mTestN_ap, mAnd_ap, mOr_ap, mNot_ap, mAndV_ap, mOrV_ap, mIf_ap, mChain_ap, mIsi_ap, mLen_ap, mIxH, mSl_ap, mPart_ap, mItems_ap, mRng1_ap, mRng2_ap, mZip_ap, mFn, bnd_ap, lft_ap, ret_ap, dTup, dLst, dLstN, dAdd, dAddN, dSub, dMul, dMulN, dFdiv, dMod, dPow, dNeg, dNot, dLe, dLt, dGt, dGe, dIs, dIsNot, D.isN, D.isTy, dix4_0, dix4_1, dix4_2, dix4_3, dix3_0, dix3_1, dix3_2, atI, ixN, Sl.d, dLen1, dAbs, dMax2, dMin2, dInt, dTuple, dList, dListN, D.items, gSet, gTupS, gsCons, gsNil, D.solid, szOk, wipeS, mSortedD_ap]
  | j + 1, .bl b, _, G => by
    rw [law_same]
    refine def_rt rfl ?_
    cases b <;> simp [mDef, sSeq, sIf, sSet, sAsg, sAsg2, sPar, sAug, sApp, sPut, sNext, sBreak, sCont, sNever, sRet, sRetN, sShare, sExpr, xName, xIx, xIx2, xTup, xsCons, xsNil, setIx, setIx2, isM2, has, mIm_ap, mVar, mPeek, mSolid_ap, mBin_ap, mBinN_ap, mUn_ap, mCall_ap, mCallN_ap, mCons_ap, mNil_ap, mTup_ap, mLst_ap, mLstN_ap, mTest_ap, mTestN_ap, mAnd_ap, mOr_ap, mNot_ap, mAndV_ap, mOrV_ap, mIf_ap, mChain_ap, mIsi_ap, mLen_ap, mIxH, mSl_ap, mPart_ap, mItems_ap, mRng1_ap, mRng2_ap, mZip_ap, mFn, bnd_ap, lft_ap, ret_ap, dTup, dLst, dLstN, dAdd, dAddN, dSub, dMul, dMulN, dFdiv, dMod, dPow, dNeg, dNot, dLe, dLt, dGt, dGe, dIs, dIsNot, D.isN, D.isTy, dix4_0, dix4_1, dix4_2, dix4_3, dix3_0, dix3_1, dix3_2, atI, ixN, Sl.d, dLen1, dAbs, dMax2, dMin2, dInt, dTuple, dList, dListN, D.items, gSet, gTupS, gsCons, gsNil, D.solid, szOk, wipeS, mSortedD_ap]
  | j + 1, .int i, _, G => by
    rw [law_same]
    refine def_rt rfl ?_
    simp [mDef, sSeq, sIf, sSet, sAsg, sAsg2, sPar, sAug, sApp, sPut, sNext, sBreak, sCont, sNever, sRet, sRetN, sShare, sExpr, xName, xIx, xIx2, xTup, xsCons, xsNil, setIx, setIx2, isM2, has, mIm_ap, mVar, mPeek, mSolid_ap, mBin_ap, mBinN_ap, mUn_ap, mCall_ap, mCallN_ap, mCons_ap, mNil_ap, mTup_ap, mLst_ap, mLstN_ap, mTest_ap, mTestN_ap, mAnd_ap, mOr_ap, mNot_ap, mAndV_ap, mOrV_ap, mIf_ap, mChain_ap, mIsi_ap, mLen_ap, mIxH, mSl_ap, mPart_ap, mItems_ap, mRng1_ap, mRng2_ap, mZip_ap, mFn, bnd_ap, lft_ap, ret_ap, dTup, dLst, dLstN, dAdd, dAddN, dSub, dMul, dMulN, dFdiv, dMod, dPow, dNeg, dNot, dLe, dLt, dGt, dGe, dIs, dIsNot, D.isN, D.isTy, dix4_0, dix4_1, dix4_2, dix4_3, dix3_0, dix3_1, dix3_2, atI, ixN, Sl.d, dLen1, dAbs, dMax2, dMin2, dInt, dTuple, dList, dListN, D.items, gSet, gTupS, gsCons, gsNil, D.solid, szOk, wipeS, mSortedD_ap, eqI]
  | j + 1, .tup ds, h, G => by
    obtain ⟨hl, ha⟩ := Bool.and_eq_true_iff.mp (show (decide (ds.length ≤ 1000) && ds.all (okD j)) = true from h)
    have hl := of_decide_eq_true hl
    have ha := List.all_eq_true.mp ha
    rw [law_same]
    refine def_rt rfl ?_
    have hlen : ∀ i, i < 2 → mLen (mPeek i) [.im (.tup ds), .im (.tup ds), .un] G = some (.int (ds.length : Int), [.im (.tup ds), .im (.tup ds), .un], G) := fun i hi => by
      have : i = 0 ∨ i = 1 := by omega
      rcases this with e | e <;> subst e <;> rfl
    have a1 := mLc_map (vs := [2]) (it := mRng1 (mLen (mPeek 1))) (tg := gSet 2) (te := mFn 2 (law_same j) (mCons (mBin dIx (mVar 0) (mVar 2)) (mCons (mBin dIx (mVar 1) (mVar 2)) mNil))) (G := G)
      (ρ := [.im (.tup ds), .im (.tup ds), .un]) (List.range ds.length) natD (fun _ => .bl true) (rng1_ev (by omega) (hlen 1 (by decide))) rfl (by rw [List.length_range]; omega) fun i hi => by
        have hi := List.mem_range.mp hi
        have e1 : dIx (.tup ds) (natD i) = some ds[i] := ix_tup (List.getElem?_eq_getElem hi)
        refine ⟨[.im (.tup ds), .im (.tup ds), .im (natD i)], rfl, ?_, rfl⟩
        exact mFn_run (cons_run (bin_run (var_run (i := 0) (d := .tup ds) rfl) (var_run (i := 2) (d := natD i) rfl) e1) (cons_run (bin_run (var_run (i := 1) (d := .tup ds) rfl) (var_run (i := 2) (d := natD i) rfl) e1) mNil_ap)) rfl (same_refl j _ (ha _ (List.getElem_mem hi)) G)
    have t1 : ∀ i, i < 2 → mTest (mIsi .tuple (mVar i)) [.im (.tup ds), .im (.tup ds), .un] G = some (true, [.im (.tup ds), .im (.tup ds), .un], G) := fun i hi => by
      have : i = 0 ∨ i = 1 := by omega
      rcases this with e | e <;> subst e <;> simp [mDef, sSeq, sIf, sSet, sAsg, sAsg2, sPar, sAug, sApp, sPut, sNext, sBreak, sCont, sNever, sRet, sRetN, sShare, sExpr, xName, xIx, xIx2, xTup, xsCons, xsNil, setIx, setIx2, isM2, has, mIm_ap, mVar, mPeek, mSolid_ap, mBin_ap, mBinN_ap, mUn_ap, mCall_ap, mCallN_ap, mCons_ap, mNil_ap, mTup_ap, mLst_ap, mLstN_ap, mTest_ap, mTestN_ap, mAnd_ap, mOr_ap, mNot_ap, mAndV_ap, mOrV_ap, mIf_ap, mChain_ap, mIsi_ap, mLen_ap, mIxH, mSl_ap, mPart_ap, mItems_ap, mRng1_ap, mRng2_ap, mZip_ap, mFn, bnd_ap, lft_ap, ret_ap, dTup, dLst, dLstN, dAdd, dAddN, dSub, dMul, dMulN, dFdiv, dMod, dPow, dNeg, dNot, dLe, dLt, dGt, dGe, dIs, dIsNot, D.isN, D.isTy, dix4_0, dix4_1, dix4_2, dix4_3, dix3_0, dix3_1, dix3_2, atI, ixN, Sl.d, dLen1, dAbs, dMax2, dMin2, dInt, dTuple, dList, dListN, D.items, gSet, gTupS, gsCons, gsNil, D.solid, szOk, wipeS, mSortedD_ap]
    refine (seq_rt (G1 := G) (d := .bl true) ?_)
    refine (if_true (t1 1 (by decide))).trans ?_
    have c1 : mOr (mNot (mTest (mIsi .tuple (mVar 0)))) (mTest (mBin dNe (mLen (mPeek 0)) (mLen (mPeek 1)))) [.im (.tup ds), .im (.tup ds), .un] G = some (false, [.im (.tup ds), .im (.tup ds), .un], G) := by
      have n1 : mNot (mTest (mIsi .tuple (mVar 0))) [.im (.tup ds), .im (.tup ds), .un] G = some (false, [.im (.tup ds), .im (.tup ds), .un], G) := by
        unfold mNot bnd
        rw [t1 0 (by decide)]
        rfl
      unfold mOr bnd
      rw [n1]
      dsimp only
      rw [if_neg (by decide)]
      exact test_run (bin_run (hlen 0 (by decide)) (hlen 1 (by decide)) (neI _))
    refine (seq_nx (ρ1 := [.im (.tup ds), .im (.tup ds), .un]) (G1 := G) ((if_false c1).trans rfl)).trans ?_
    exact ret_run (call_run (cons_run a1 mNil_ap) (dAll_true _))
theorem same_fn {j : Nat} {a b : SE} {d : D} {ρ ρ1 ρ2 : List Sl} {G G1 G2 : Gs} (hd : okD j d = true) (h1 : a ρ G = some (d, ρ1, G1)) (h2 : b ρ1 G1 = some (d, ρ2, G2)) : mFn 2 (law_same j) (mCons a (mCons b mNil)) ρ G = some (.bl true, ρ2, G2) :=
  mFn_run (cons_run h1 (cons_run h2 mNil_ap)) rfl (same_refl j d hd G2)
end DM

/-! DM: drawn figures and settings. -/
namespace DM
open DL L2
open PySem (Paired)
variable {hh : Nat}
section
variable {roll : Sf} {ρ : List Sl} {G G1 : Gs}
theorem roll_run (hr : RollOk roll) {a : SE} {m : Int} (h0 : ρ[0]? = some (.im (.hnd hh))) (h : a ρ G = some (.int m, ρ, G1)) (hG : Cup hh G1) (h1 : 0 < m) (h2 : m < 2 ^ 60) :
    ∃ r G', mFn 2 roll (mCons (mVar 0) (mCons a mNil)) ρ G = some (.int r, ρ, G') ∧ Cup hh G' ∧ 0 ≤ r ∧ r < m := by
  obtain ⟨r, G', e, hG', k1, k2⟩ := hr G1 m hG h1 h2
  exact ⟨r, G', mFn_run (cons_run (var_run h0) (cons_run h mNil_ap)) rfl e, hG', k1, k2⟩
theorem some_run (hr : RollOk roll) {l : SA} {xs : List D} (h0 : ρ[0]? = some (.im (.hnd hh))) (h : l ρ G = some (xs, ρ, G1)) (hx : xs ≠ []) (hz : xs.length ≤ 1000000) (hG : Cup hh G1) :
    ∃ x G', mFn 2 (law_some roll) (mCons (mVar 0) (mCons (mLst l) mNil)) ρ G = some (x, ρ, G') ∧ Cup hh G' ∧ x ∈ xs := by
  obtain ⟨x, G', e, hG', hm⟩ := law_some_ok hr xs hx hz G1 hG
  have e1 : mLst l ρ G = some (.lst xs, ρ, G1) := by
    unfold mLst bnd
    rw [h]
    dsimp only
    unfold lft dLst
    rw [if_pos (show szOk xs.length = true from decide_eq_true hz)]
  exact ⟨x, G', mFn_run (cons_run (var_run h0) (cons_run e1 mNil_ap)) rfl e, hG', hm⟩
theorem add_run {a b : SE} {x y : Int} {G2 : Gs} (h : a ρ G = some (.int x, ρ, G1)) (h2 : b ρ G1 = some (.int y, ρ, G2)) : mBin dAdd a b ρ G = some (.int (x + y), ρ, G2) := bin_run h h2 rfl
theorem put_run {i : Nat} {mk mv : SE} {k d : D} {ρ3 : List Sl} {G2 : Gs} (h : mv ρ G = some (d, ρ, G1)) (h0 : has ρ i = true) (h2 : mk ρ G1 = some (k, ρ, G2)) (h3 : putS i k d ρ = some ρ3) : sPut i mk mv ρ G = some (.nx ρ3, G2) := by
  unfold sPut
  rw [h]
  dsimp only
  rw [if_pos h0, h2]
  dsimp only
  rw [h3]
  rfl
theorem and_true {p q : SB} {b : Bool} {ρ1 ρ2 : List Sl} {G2 : Gs} (h : p ρ G = some (true, ρ1, G1)) (h2 : q ρ1 G1 = some (b, ρ2, G2)) : mAnd p q ρ G = some (b, ρ2, G2) := by
  unfold mAnd bnd
  rw [h]
  dsimp only
  rw [if_pos rfl]
  exact h2
theorem and_false {p q : SB} {ρ1 : List Sl} (h : p ρ G = some (false, ρ1, G1)) : mAnd p q ρ G = some (false, ρ1, G1) := by
  unfold mAnd bnd
  rw [h]
  dsimp only
  rw [if_neg (by decide)]
  rfl
end

/-! ### the dict of limbs -/
abbrev KP := (Int × Int) × Int
def kvsD (ks : List KP) : List (List L2.Key × D) := ks.map fun q => ([.inl q.1.1, .inl q.1.2], .int q.2)
structure KOk (n : Int) (ks : List KP) : Prop where
  rng : ∀ q ∈ ks, 0 ≤ q.1.1 ∧ q.1.1 < q.1.2 ∧ q.1.2 < n ∧ 1 ≤ q.2 ∧ q.2 ≤ 9
  nd : (ks.map (·.1)).Nodup
def putP (ks : List KP) (k : Int × Int) (c : Int) : List KP := if (ks.any fun q => decide (q.1 = k)) = true then ks.map (fun q => if q.1 = k then (q.1, c) else q) else ks ++ [(k, c)]
theorem key_eq (p k : Int × Int) : (([.inl p.1, .inl p.2] : List L2.Key) = [.inl k.1, .inl k.2]) ↔ p = k := by
  constructor
  · intro h
    have h1 := (List.cons.inj h).1
    have h2 := (List.cons.inj (List.cons.inj h).2).1
    exact Prod.ext (Sum.inl.inj h1) (Sum.inl.inj h2)
  · intro h; rw [h]
theorem put_kvs (ks : List KP) (k : Int × Int) (c : Int) : putD (kvsD ks) [.inl k.1, .inl k.2] (.int c) = kvsD (putP ks k c) := by
  unfold putD putP
  have e : ((kvsD ks).any fun kv => decide (kv.1 = [.inl k.1, .inl k.2])) = ks.any fun q => decide (q.1 = k) := by
    unfold kvsD
    rw [List.any_map]
    congr 1
    funext q
    show decide (([.inl q.1.1, .inl q.1.2] : List L2.Key) = [.inl k.1, .inl k.2]) = decide (q.1 = k)
    exact decide_eq_decide.mpr (key_eq q.1 k)
  rw [e]
  split
  · unfold kvsD
    rw [List.map_map, List.map_map]
    refine List.map_congr_left fun q _ => ?_
    show (if ([.inl q.1.1, .inl q.1.2] : List L2.Key) = [.inl k.1, .inl k.2] then _ else _) = _
    by_cases h : q.1 = k
    · rw [if_pos ((key_eq q.1 k).mpr h)]
      simp [h]
    · rw [if_neg fun z => h ((key_eq q.1 k).mp z)]
      simp [h]
  · unfold kvsD
    rw [List.map_append]
    rfl
theorem putP_ok {n : Int} {ks : List KP} {k : Int × Int} {c : Int} (h : KOk n ks) (h1 : 0 ≤ k.1) (h2 : k.1 < k.2) (h3 : k.2 < n) (h4 : 1 ≤ c) (h5 : c ≤ 9) : KOk n (putP ks k c) ∧ (putP ks k c).length ≤ ks.length + 1 := by
  unfold putP
  split
  · refine ⟨⟨fun q hq => ?_, ?_⟩, by rw [List.length_map]; omega⟩
    · obtain ⟨r, hr, e⟩ := List.mem_map.mp hq
      have := h.rng r hr
      split at e
      · rw [← e]; exact ⟨this.1, this.2.1, this.2.2.1, h4, h5⟩
      · rw [← e]; exact this
    · rw [List.map_map]
      have : ((fun q : KP => q.1) ∘ fun q => if q.1 = k then (q.1, c) else q) = fun q : KP => q.1 := by
        funext q
        show (if q.1 = k then (q.1, c) else q).1 = q.1
        split <;> rfl
      rw [this]
      exact h.nd
  · rename_i hn
    refine ⟨⟨fun q hq => ?_, ?_⟩, by rw [List.length_append]; exact Nat.le_refl _⟩
    · rcases List.mem_append.mp hq with hq | hq
      · exact h.rng q hq
      · rw [List.mem_singleton.mp hq]; exact ⟨h1, h2, h3, h4, h5⟩
    · rw [List.map_append]
      refine List.nodup_append.mpr ⟨h.nd, List.nodup_cons.mpr ⟨List.not_mem_nil, List.nodup_nil⟩, fun a ha b hb e => hn ?_⟩
      obtain ⟨q, hq, e2⟩ := List.mem_map.mp ha
      refine List.any_eq_true.mpr ⟨q, hq, decide_eq_true ?_⟩
      rw [e2, e]
      simpa using hb
def valP (ks : List KP) (p : Int × Int) : Int := ((ks.find? fun q => decide (q.1 = p)).map (·.2)).getD 0
theorem find_pos {α : Type} {f : α → Bool} {a : α} {l : List α} (h : f a = true) : (a :: l).find? f = some a := List.find?_cons_of_pos h
theorem find_neg {α : Type} {f : α → Bool} {a : α} {l : List α} (h : f a = false) : (a :: l).find? f = l.find? f := List.find?_cons_of_neg (by rw [h]; decide)
theorem val_kvs {p : Int × Int} : ∀ {ks : List KP}, p ∈ ks.map (·.1) → valD (kvsD ks) [.inl p.1, .inl p.2] = some (.int (valP ks p)) ∧ (p, valP ks p) ∈ ks
  | [], h => by simp at h
  | q :: ks, h => by
    by_cases e : q.1 = p
    · have e1 : valP (q :: ks) p = q.2 := by
        unfold valP
        rw [find_pos (f := fun q : KP => decide (q.1 = p)) (decide_eq_true e)]
        rfl
      refine ⟨?_, ?_⟩
      · rw [e1]
        unfold valD kvsD
        rw [List.map_cons, find_pos (f := fun kv : List L2.Key × D => decide (kv.1 = [.inl p.1, .inl p.2])) (decide_eq_true ((key_eq q.1 p).mpr e))]
        rfl
      · rw [e1, ← e]
        exact List.mem_cons_self
    · have hp : p ∈ ks.map (·.1) := by
        rw [List.map_cons] at h
        rcases List.mem_cons.mp h with z | z
        · exact absurd z.symm e
        · exact z
      obtain ⟨i1, i2⟩ := val_kvs hp
      have e2 : valP (q :: ks) p = valP ks p := by
        unfold valP
        rw [find_neg (f := fun q : KP => decide (q.1 = p)) (decide_eq_false e)]
      refine ⟨?_, by rw [e2]; exact List.mem_cons_of_mem _ i2⟩
      rw [e2, ← i1]
      unfold valD kvsD
      rw [List.map_cons, find_neg (f := fun kv : List L2.Key × D => decide (kv.1 = [.inl p.1, .inl p.2])) (decide_eq_false fun z => e ((key_eq q.1 p).mp z))]
theorem pairs_kvs (ks : List KP) : pairKeys (kvsD ks) = some (ks.map (·.1)) := by
  unfold pairKeys
  induction ks with
  | nil => rfl
  | cons q ks ih =>
    unfold kvsD at ih ⊢
    rw [List.map_cons, List.mapM_cons, ih]
    rfl
/-- the limbs, in order -/
def limbsOf (ks : List KP) : List (Nat × Nat × Int) := (srtD SrtO.lexB (ks.map (·.1))).map fun p => (p.1.toNat, p.2.toNat, valP ks p)
theorem limbs_ok {n : Nat} {ks : List KP} (h : KOk n ks) : (∀ l ∈ limbsOf ks, l.1 < l.2.1 ∧ l.2.1 < n ∧ 1 ≤ l.2.2 ∧ l.2.2 ≤ 9) ∧ (limbsOf ks).Pairwise LexL ∧ (limbsOf ks).length = ks.length := by
  have perm := srtD_perm (lt := SrtO.lexB) (ks.map (·.1))
  have mem : ∀ p ∈ srtD SrtO.lexB (ks.map (·.1)), 0 ≤ p.1 ∧ p.1 < p.2 ∧ p.2 < n ∧ 1 ≤ valP ks p ∧ valP ks p ≤ 9 := fun p hp => h.rng _ (val_kvs (perm.mem_iff.mp hp)).2
  refine ⟨fun l hl => ?_, ?_, ?_⟩
  · obtain ⟨p, hp, rfl⟩ := List.mem_map.mp hl
    have := mem p hp
    refine ⟨?_, ?_, this.2.2.2.1, this.2.2.2.2⟩
    · show p.1.toNat < p.2.toNat; omega
    · show p.2.toNat < n; omega
  · unfold limbsOf
    rw [List.pairwise_map]
    have nd : (srtD SrtO.lexB (ks.map (·.1))).Nodup := perm.symm.nodup h.nd
    have st := srtD_srtd lexB_swo (ks.map (·.1))
    have both := List.Pairwise.and st nd
    refine List.Pairwise.imp_of_mem (fun {a b} ha hb hab => ?_) both
    obtain ⟨h1, h2⟩ := hab
    have ma := mem a ha
    have mb := mem b hb
    have no := SrtO.lexB_no.mp h1
    have ne : ¬ (a.1 = b.1 ∧ a.2 = b.2) := fun z => h2 (Prod.ext z.1 z.2)
    unfold LexL
    show a.1.toNat < b.1.toNat ∨ (a.1.toNat = b.1.toNat ∧ a.2.toNat < b.2.toNat)
    omega
  · unfold limbsOf
    rw [List.length_map, perm.length_eq, List.length_map]
theorem limb_of {n : Nat} {ks : List KP} (h : KOk n ks) {p : Int × Int} (hp : p ∈ srtD SrtO.lexB (ks.map (·.1))) : limbD (p.1.toNat, p.2.toNat, valP ks p) = .tup [.int p.1, .int p.2, .int (valP ks p)] := by
  have perm := srtD_perm (lt := SrtO.lexB) (ks.map (·.1))
  have this : 0 ≤ p.1 ∧ p.1 < p.2 ∧ p.2 < n ∧ _ := h.rng _ (val_kvs (perm.mem_iff.mp hp)).2
  unfold limbD
  show D.tup [.int ((p.1.toNat : Nat) : Int), .int ((p.2.toNat : Nat) : Int), _] = _
  rw [Int.toNat_of_nonneg this.1, Int.toNat_of_nonneg (by omega)]
end DM

/-! DM: drawn figures and settings, whole. -/
namespace DM
open DL L2
open PySem (Paired)
variable {hh : Nat}
theorem putS_run {ρ : List Sl} {ks : List KP} (h : ρ[4]? = some (.mt (kvsD ks))) (hl : ks.length ≤ 1000) (k : Int × Int) (c : Int) : putS 4 (.tup [.int k.1, .int k.2]) (.int c) ρ = some (ρ.set 4 (.mt (kvsD (putP ks k c)))) := by
  unfold putS
  rw [h]
  dsimp only
  rw [if_pos (show szOk (kvsD ks).length = true from decide_eq_true (by unfold kvsD; rw [List.length_map]; omega))]
  show some (ρ.set 4 (.mt (putD (kvsD ks) [.inl k.1, .inl k.2] (.int c)))) = _
  rw [put_kvs]
theorem gt0_run {a : SE} {r : Int} {ρ ρ1 : List Sl} {G G1 : Gs} (h : a ρ G = some (.int r, ρ1, G1)) : mTest (mBin dGt a (DL.ret (.int 0))) ρ G = some (decide (0 < r), ρ1, G1) := test_run (bin_run h ret_ap rfl)
theorem get_rng {n : Int} {i : Nat} {d : D} (h : (rng 1 n)[i]? = some d) : d = .int (1 + (i : Int)) ∧ 1 + (i : Int) < n := by
  unfold rng at h
  have hi : i < (n - 1).toNat := by
    refine Classical.byContradiction fun z => ?_
    rw [List.getElem?_eq_none (by rw [List.length_map, List.length_range]; omega)] at h
    cases h
  rw [List.getElem?_map, List.getElem?_eq_getElem (by rw [List.length_range]; exact hi), List.getElem_range] at h
  cases h
  exact ⟨rfl, by omega⟩
theorem fig1 {roll : Sf} (hr : RollOk roll) {n : Int} (hn : 1 ≤ n) (hn8 : n ≤ 8) (a1 a2 : Sl) (G : Gs) (hG : Cup hh G) : ∃ (ks : List KP) (a5 : Sl) (G' : Gs),
    forLoop (xName 5) (sIf (mTest (mBin dGt (mFn 2 roll (mCons (mVar 0) (mCons (DL.ret (.int 7)) mNil))) (DL.ret (.int 0)))) (sPut 4 (mTup (mCons (mFn 2 roll (mCons (mVar 0) (mCons (mVar 5) mNil))) (mCons (mVar 5) mNil))) (mBin dAdd (DL.ret (.int 1)) (mFn 2 roll (mCons (mVar 0) (mCons (mFn 2 (law_some roll) (mCons (mVar 0) (mCons (mLst (mCons (DL.ret (.int 3)) (mCons (DL.ret (.int 9)) mNil))) mNil))) mNil))))) sNext) (rng 1 n)
      [.im (.hnd hh), a1, a2, .im (.int n), .mt [], .un, .un, .un, .un, .un, .un, .un] G = some (.nx [.im (.hnd hh), a1, a2, .im (.int n), .mt (kvsD ks), a5, .un, .un, .un, .un, .un, .un], G') ∧ Cup hh G' ∧ KOk n ks ∧ ks.length ≤ 7 := by
  obtain ⟨ρ6, G6, e6, hG6, ks, a5, hρ6, hk, hl⟩ := for_inv (tg := xName 5) (body := (sIf (mTest (mBin dGt (mFn 2 roll (mCons (mVar 0) (mCons (DL.ret (.int 7)) mNil))) (DL.ret (.int 0)))) (sPut 4 (mTup (mCons (mFn 2 roll (mCons (mVar 0) (mCons (mVar 5) mNil))) (mCons (mVar 5) mNil))) (mBin dAdd (DL.ret (.int 1)) (mFn 2 roll (mCons (mVar 0) (mCons (mFn 2 (law_some roll) (mCons (mVar 0) (mCons (mLst (mCons (DL.ret (.int 3)) (mCons (DL.ret (.int 9)) mNil))) mNil))) mNil))))) sNext))
    (rng 1 n) 0 (fun k ρ G9 => Cup hh G9 ∧ ∃ (ks : List KP) (a5 : Sl), ρ = [.im (.hnd hh), a1, a2, .im (.int n), .mt (kvsD ks), a5, .un, .un, .un, .un, .un, .un] ∧ KOk n ks ∧ ks.length ≤ k)
    [.im (.hnd hh), a1, a2, .im (.int n), .mt [], .un, .un, .un, .un, .un, .un, .un] G ⟨hG, [], .un, rfl, ⟨fun q hq => (by cases hq), List.nodup_nil⟩, Nat.le_refl _⟩ fun i d hd ρ G3 hI => by
      obtain ⟨rfl, hj⟩ := get_rng hd
      obtain ⟨hG3, ks, a5, rfl, hk, hl⟩ := hI
      refine ⟨[.im (.hnd hh), a1, a2, .im (.int n), .mt (kvsD ks), .im (.int (1 + (i : Int))), .un, .un, .un, .un, .un, .un], G3, ?_⟩
      obtain ⟨r, G4, e4, hG4, r0, r1⟩ := roll_run hr (ρ := [.im (.hnd hh), a1, a2, .im (.int n), .mt (kvsD ks), .im (.int (1 + (i : Int))), .un, .un, .un, .un, .un, .un]) (a := DL.ret (.int 7)) (G := G3) rfl ret_ap hG3 (by omega) (by omega)
      have c1 := gt0_run e4
      by_cases hp : 0 < r
      · rw [decide_eq_true hp] at c1
        obtain ⟨x, G5, e5, hG5, hx⟩ := some_run hr (ρ := [.im (.hnd hh), a1, a2, .im (.int n), .mt (kvsD ks), .im (.int (1 + (i : Int))), .un, .un, .un, .un, .un, .un]) (l := mCons (DL.ret (.int 3)) (mCons (DL.ret (.int 9)) mNil)) (xs := [.int 3, .int 9]) (G := G4) rfl (cons_run ret_ap (cons_run ret_ap mNil_ap)) (by simp) (by simp) hG4
        obtain ⟨m, rfl, m1, m2⟩ : ∃ m, x = .int m ∧ 0 < m ∧ m ≤ 9 := by
          simp only [List.mem_cons, List.not_mem_nil, or_false] at hx
          rcases hx with e | e
          · exact ⟨3, e, by omega, by omega⟩
          · exact ⟨9, e, by omega, by omega⟩
        obtain ⟨v, G6, e6, hG6, v0, v1⟩ := roll_run hr rfl e5 hG5 m1 (by omega)
        have e7 := add_run (ret_ap (d := D.int 1)) e6
        obtain ⟨t, G7, e8, hG7, t0, t1⟩ := roll_run hr (ρ := [.im (.hnd hh), a1, a2, .im (.int n), .mt (kvsD ks), .im (.int (1 + (i : Int))), .un, .un, .un, .un, .un, .un]) (a := mVar 5) (m := 1 + (i : Int)) (G := G6) rfl (var_run rfl) hG6 (by omega) (by omega)
        have e9 := tup_run (cons_run e8 (cons_run (var_run (i := 5) (d := .int (1 + (i : Int))) rfl) mNil_ap)) (by simp)
        have e10 := put_run e7 rfl e9 (putS_run (ρ := [.im (.hnd hh), a1, a2, .im (.int n), .mt (kvsD ks), .im (.int (1 + (i : Int))), .un, .un, .un, .un, .un, .un]) rfl (by omega) (t, 1 + (i : Int)) (1 + v))
        obtain ⟨k1, k2⟩ := putP_ok (k := (t, 1 + (i : Int))) (c := 1 + v) hk t0 t1 hj (by omega) (by omega)
        exact ⟨_, G7, rfl, (if_true c1).trans e10, hG7, _, _, rfl, k1, by omega⟩
      · rw [decide_eq_false hp] at c1
        exact ⟨_, G4, rfl, (if_false c1).trans rfl, hG4, _, _, rfl, hk, by omega⟩
  rw [hρ6] at e6
  refine ⟨ks, a5, G6, e6, hG6, hk, ?_⟩
  have : (rng 1 n).length = (n - 1).toNat := by unfold rng; rw [List.length_map, List.length_range]
  omega
theorem fig2 {roll : Sf} (hr : RollOk roll) {n : Int} (hn : 1 ≤ n) (hn8 : n ≤ 8) (a1 a2 a5 : Sl) {ks0 : List KP} (hk0 : KOk n ks0) (hl0 : ks0.length ≤ 12) (c : Nat) (G : Gs) (hG : Cup hh G) : ∃ (ks : List KP) (a6 a7 a8 : Sl) (G' : Gs),
    forLoop (xName 6) (sSeq (sPar 7 8 (mIm (mFn 2 roll (mCons (mVar 0) (mCons (mVar 3) mNil)))) (mIm (mFn 2 roll (mCons (mVar 0) (mCons (mVar 3) mNil)))))
  (sIf (mAnd (mTest (mBin dLt (mVar 7) (mVar 8))) (mTest (mBin dLt (mLen (mPeek 4)) (DL.ret (.int 12))))) (sPut 4 (mTup (mCons (mVar 7) (mCons (mVar 8) mNil))) (mBin dAdd (DL.ret (.int 1)) (mFn 2 roll (mCons (mVar 0) (mCons (DL.ret (.int 9)) mNil))))) sNext)) ((List.range c).map natD)
      [.im (.hnd hh), a1, a2, .im (.int n), .mt (kvsD ks0), a5, .un, .un, .un, .un, .un, .un] G = some (.nx [.im (.hnd hh), a1, a2, .im (.int n), .mt (kvsD ks), a5, a6, a7, a8, .un, .un, .un], G') ∧ Cup hh G' ∧ KOk n ks ∧ ks.length ≤ 12 ∧ (a6 = .un ∨ ∃ d, a6 = .im d) := by
  obtain ⟨ρ6, G6, e6, hG6, ks, a6, a7, a8, hρ6, hk, hl, h6⟩ := for_inv (tg := xName 6) (body := (sSeq (sPar 7 8 (mIm (mFn 2 roll (mCons (mVar 0) (mCons (mVar 3) mNil)))) (mIm (mFn 2 roll (mCons (mVar 0) (mCons (mVar 3) mNil)))))
  (sIf (mAnd (mTest (mBin dLt (mVar 7) (mVar 8))) (mTest (mBin dLt (mLen (mPeek 4)) (DL.ret (.int 12))))) (sPut 4 (mTup (mCons (mVar 7) (mCons (mVar 8) mNil))) (mBin dAdd (DL.ret (.int 1)) (mFn 2 roll (mCons (mVar 0) (mCons (DL.ret (.int 9)) mNil))))) sNext)))
    ((List.range c).map natD) 0 (fun k ρ G9 => Cup hh G9 ∧ ∃ (ks : List KP) (a6 a7 a8 : Sl), ρ = [.im (.hnd hh), a1, a2, .im (.int n), .mt (kvsD ks), a5, a6, a7, a8, .un, .un, .un] ∧ KOk n ks ∧ ks.length ≤ 12 ∧ (a6 = .un ∨ ∃ d, a6 = .im d))
    [.im (.hnd hh), a1, a2, .im (.int n), .mt (kvsD ks0), a5, .un, .un, .un, .un, .un, .un] G ⟨hG, ks0, .un, .un, .un, rfl, hk0, hl0, .inl rfl⟩ fun i d hd ρ G3 hI => by
      obtain ⟨_, rfl⟩ := get_range hd
      obtain ⟨hG3, ks, a6, a7, a8, rfl, hk, hl, _⟩ := hI
      refine ⟨[.im (.hnd hh), a1, a2, .im (.int n), .mt (kvsD ks), a5, .im (natD i), a7, a8, .un, .un, .un], G3, ?_⟩
      obtain ⟨r, G4, e4, hG4, r0, r1⟩ := roll_run hr (ρ := [.im (.hnd hh), a1, a2, .im (.int n), .mt (kvsD ks), a5, .im (natD i), a7, a8, .un, .un, .un]) (a := mVar 3) (m := n) (G := G3) rfl (var_run rfl) hG3 (by omega) (by omega)
      obtain ⟨t, G5, e5, hG5, t0, t1⟩ := roll_run hr (ρ := [.im (.hnd hh), a1, a2, .im (.int n), .mt (kvsD ks), a5, .im (natD i), a7, a8, .un, .un, .un]) (a := mVar 3) (m := n) (G := G4) rfl (var_run rfl) hG4 (by omega) (by omega)
      have p1 : sPar 7 8 (mIm (mFn 2 roll (mCons (mVar 0) (mCons (mVar 3) mNil)))) (mIm (mFn 2 roll (mCons (mVar 0) (mCons (mVar 3) mNil)))) [.im (.hnd hh), a1, a2, .im (.int n), .mt (kvsD ks), a5, .im (natD i), a7, a8, .un, .un, .un] G3 = some (.nx [.im (.hnd hh), a1, a2, .im (.int n), .mt (kvsD ks), a5, .im (natD i), .im (.int r), .im (.int t), .un, .un, .un], G5) := by
        unfold sPar
        rw [im_run e4]
        dsimp only
        rw [im_run e5]
        dsimp only
        rw [if_pos (by simp)]
        rfl
      have c1 : mTest (mBin dLt (mVar 7) (mVar 8)) [.im (.hnd hh), a1, a2, .im (.int n), .mt (kvsD ks), a5, .im (natD i), .im (.int r), .im (.int t), .un, .un, .un] G5 = some (decide (r < t), [.im (.hnd hh), a1, a2, .im (.int n), .mt (kvsD ks), a5, .im (natD i), .im (.int r), .im (.int t), .un, .un, .un], G5) :=
        test_run (bin_run (var_run (i := 7) (d := .int r) rfl) (var_run (i := 8) (d := .int t) rfl) rfl)
      have lk : mLen (mPeek 4) [.im (.hnd hh), a1, a2, .im (.int n), .mt (kvsD ks), a5, .im (natD i), .im (.int r), .im (.int t), .un, .un, .un] G5 = some (.int (ks.length : Int), [.im (.hnd hh), a1, a2, .im (.int n), .mt (kvsD ks), a5, .im (natD i), .im (.int r), .im (.int t), .un, .un, .un], G5) := by
        show some (D.int ((kvsD ks).length : Int), _, G5) = _
        unfold kvsD
        rw [List.length_map]
      have c2 : mTest (mBin dLt (mLen (mPeek 4)) (DL.ret (.int 12))) [.im (.hnd hh), a1, a2, .im (.int n), .mt (kvsD ks), a5, .im (natD i), .im (.int r), .im (.int t), .un, .un, .un] G5 = some (decide ((ks.length : Int) < 12), [.im (.hnd hh), a1, a2, .im (.int n), .mt (kvsD ks), a5, .im (natD i), .im (.int r), .im (.int t), .un, .un, .un], G5) :=
        test_run (bin_run lk ret_ap rfl)
      by_cases h1 : r < t
      · rw [decide_eq_true h1] at c1
        by_cases h2 : (ks.length : Int) < 12
        · rw [decide_eq_true h2] at c2
          obtain ⟨v, G6, e6, hG6, v0, v1⟩ := roll_run hr (ρ := [.im (.hnd hh), a1, a2, .im (.int n), .mt (kvsD ks), a5, .im (natD i), .im (.int r), .im (.int t), .un, .un, .un]) (a := DL.ret (.int 9)) (G := G5) rfl ret_ap hG5 (by omega) (by omega)
          have e7 := add_run (ret_ap (d := D.int 1)) e6
          have e9 := tup_run (cons_run (var_run (ρ := [.im (.hnd hh), a1, a2, .im (.int n), .mt (kvsD ks), a5, .im (natD i), .im (.int r), .im (.int t), .un, .un, .un]) (G := G6) (i := 7) (d := .int r) rfl) (cons_run (var_run (i := 8) (d := .int t) rfl) mNil_ap)) (by simp)
          have e10 := put_run e7 rfl e9 (putS_run (ρ := [.im (.hnd hh), a1, a2, .im (.int n), .mt (kvsD ks), a5, .im (natD i), .im (.int r), .im (.int t), .un, .un, .un]) rfl (by omega) (r, t) (1 + v))
          obtain ⟨k1, k2⟩ := putP_ok (k := (r, t)) (c := 1 + v) hk r0 h1 t1 (by omega) (by omega)
          exact ⟨_, G6, rfl, (seq_nx p1).trans ((if_true (and_true c1 c2)).trans e10), hG6, _, _, _, _, rfl, k1, by omega, .inr ⟨_, rfl⟩⟩
        · rw [decide_eq_false h2] at c2
          exact ⟨_, G5, rfl, (seq_nx p1).trans ((if_false (and_true c1 c2)).trans rfl), hG5, _, _, _, _, rfl, hk, hl, .inr ⟨_, rfl⟩⟩
      · rw [decide_eq_false h1] at c1
        exact ⟨_, G5, rfl, (seq_nx p1).trans ((if_false (and_false c1)).trans rfl), hG5, _, _, _, _, rfl, hk, hl, .inr ⟨_, rfl⟩⟩
  rw [hρ6] at e6
  exact ⟨ks, a6, a7, a8, G6, e6, hG6, hk, hl, h6⟩
end DM

/-! DM: drawn figures and settings, put together. -/
namespace DM
open DL L2
open PySem (Paired)
variable {hh : Nat}
theorem rng2_ok {i j : Int} (h1 : -(2 ^ 62) ≤ i) (h2 : i < 2 ^ 62) (h3 : -(2 ^ 62) ≤ j) (h4 : j < 2 ^ 62) : dRng2 (.int i) (.int j) = some (rng i j) := by
  unfold dRng2
  dsimp only
  rw [if_pos (by rw [decide_eq_true h1, decide_eq_true h2, decide_eq_true h3, decide_eq_true h4]; rfl)]
theorem rng2_run {a b : SE} {i j : Int} {ρ ρ1 ρ2 : List Sl} {G G1 G2 : Gs} (h : a ρ G = some (.int i, ρ1, G1)) (h' : b ρ1 G1 = some (.int j, ρ2, G2)) (h1 : -(2 ^ 62) ≤ i) (h2 : i < 2 ^ 62) (h3 : -(2 ^ 62) ≤ j) (h4 : j < 2 ^ 62) : mRng2 a b ρ G = some (rng i j, ρ2, G2) := by
  unfold mRng2 bnd
  rw [h]
  dsimp only
  rw [h']
  show lft (dRng2 (.int i) (.int j)) _ _ = _
  rw [rng2_ok h1 h2 h3 h4]
  rfl
theorem peek_mt {ρ : List Sl} {G : Gs} {i : Nat} {kvs : List (List L2.Key × D)} (h : ρ[i]? = some (.mt kvs)) : mPeek i ρ G = some (.dt kvs, ρ, G) := by
  unfold mPeek
  rw [h]
  rfl
theorem fig3 {n : Nat} {ks : List KP} (hk : KOk n ks) (hl : ks.length ≤ 12) {ρ : List Sl} (G : Gs) (h4 : ρ[4]? = some (.mt (kvsD ks))) (h11 : ρ[11]? = some .un) (hn : ρ.length = 12) :
    mIm (mCall dTuple (mCons (mLc [11] (mItems (mSortedD (mPeek 4))) (gSet 11) (DL.ret true) (mBin dAdd (mVar 11) (mTup (mCons (mSolid (mBin dIxD (mPeek 4) (mVar 11))) mNil)))) mNil)) ρ G = some (.im (.tup ((limbsOf ks).map limbD)), ρ, G) := by
  have perm := srtD_perm (lt := SrtO.lexB) (ks.map (·.1))
  have len : (srtD SrtO.lexB (ks.map (·.1))).length = ks.length := by rw [perm.length_eq, List.length_map]
  have it : mItems (mSortedD (mPeek 4)) ρ G = some ((srtD SrtO.lexB (ks.map (·.1))).map dPair, ρ, G) := by
    have e1 : mSortedD (mPeek 4) ρ G = some (.lst ((srtD SrtO.lexB (ks.map (·.1))).map dPair), ρ, G) := by
      unfold mSortedD bnd
      rw [peek_mt h4]
      dsimp only
      unfold lft dSortedD
      dsimp only
      rw [if_pos (show szOk (kvsD ks).length = true from decide_eq_true (by unfold kvsD; rw [List.length_map]; omega)), pairs_kvs]
      rfl
    unfold mItems bnd
    rw [e1]
    rfl
  have hw : okW ρ [11] = true := by
    unfold okW
    rw [List.all_cons, List.all_nil, h11]
    rfl
  have w : wipeS ρ [11] = ρ := by
    show ρ.set 11 .un = ρ
    apply List.ext_getElem?
    intro i
    by_cases e : i = 11
    · subst e; rw [List.getElem?_set_self (by omega), h11]
    · rw [List.getElem?_set_ne (Ne.symm e)]
  have a1 := mLc_map (vs := [11]) (tg := gSet 11) (te := mBin dAdd (mVar 11) (mTup (mCons (mSolid (mBin dIxD (mPeek 4) (mVar 11))) mNil))) (srtD SrtO.lexB (ks.map (·.1))) dPair (fun p => limbD (p.1.toNat, p.2.toNat, valP ks p)) it hw (by omega) fun p hp => by
    have hv := val_kvs (perm.mem_iff.mp hp)
    have g11 : (ρ.set 11 (.im (dPair p)))[11]? = some (.im (dPair p)) := List.getElem?_set_self (by omega)
    have g4 : (ρ.set 11 (.im (dPair p)))[4]? = some (.mt (kvsD ks)) := by rw [List.getElem?_set_ne (by decide)]; exact h4
    refine ⟨ρ.set 11 (.im (dPair p)), ?_, ?_, ?_⟩
    · rw [w]
      unfold gSet
      rw [if_pos (by omega)]
    · have f1 : dIxD (.dt (kvsD ks)) (dPair p) = some (.int (valP ks p)) := by
        show (some (valD (kvsD ks) [.inl p.1, .inl p.2])).bind id = _
        rw [hv.1]
        rfl
      have c1 : mSolid (mBin dIxD (mPeek 4) (mVar 11)) (ρ.set 11 (.im (dPair p))) G = some (.int (valP ks p), ρ.set 11 (.im (dPair p)), G) := by
        unfold mSolid bnd
        rw [bin_run (peek_mt g4) (var_run g11) f1]
        rfl
      have c2 := tup_run (cons_run c1 mNil_ap) (by simp)
      refine (bin_run (var_run g11) c2 ?_)
      rw [limb_of hk hp]
      rfl
    · show ((ρ.set 11 (.im (dPair p))).set 11 .un) = wipeS ρ [11]
      rw [List.set_set]
      rfl
  have e : (srtD SrtO.lexB (ks.map (·.1))).map (fun p => limbD (p.1.toNat, p.2.toNat, valP ks p)) = (limbsOf ks).map limbD := by
    unfold limbsOf
    rw [List.map_map]
    rfl
  rw [e] at a1
  exact im_run (call_run (cons_run a1 mNil_ap) rfl)
theorem paired_ex {α β : Type} {P : β → D → Prop} {xs : List α} {ys : List D} (h : Paired (fun _ y => ∃ t : β, P t y) xs ys) : ∃ ts : List β, ts.length = xs.length ∧ Paired P ts ys := by
  induction h with
  | nil => exact ⟨[], rfl, .nil⟩
  | cons h t ih =>
    obtain ⟨b, hb⟩ := h
    obtain ⟨ts, e, p⟩ := ih
    exact ⟨b :: ts, by rw [List.length_cons, List.length_cons, e], .cons hb p⟩
theorem paired_eq {β : Type} {Q : β → Prop} {f : β → D} {ts : List β} {ys : List D} (h : Paired (fun t y => y = f t ∧ Q t) ts ys) : ys = ts.map f ∧ ∀ t ∈ ts, Q t := by
  induction h with
  | nil => exact ⟨rfl, fun t h => by cases h⟩
  | cons h t ih =>
    obtain ⟨e, q⟩ := h
    refine ⟨by rw [List.map_cons, ← ih.1, e], fun t ht => ?_⟩
    rcases List.mem_cons.mp ht with z | z
    · rw [z]; exact q
    · exact ih.2 t z
theorem fig4 {roll : Sf} (hr : RollOk roll) {n : Nat} {stn : Int} (hn : 1 ≤ n) (hn8 : n ≤ 8) (hs : 1 ≤ stn) (hs6 : stn ≤ 6) {ρ : List Sl} (G : Gs) (hG : Cup hh G) (h0 : ρ[0]? = some (.im (.hnd hh))) (h2 : ρ[2]? = some (.im (.int stn))) (h3 : ρ[3]? = some (.im (.int (n : Int)))) (h6 : ρ[6]? = some .un ∨ ∃ d, ρ[6]? = some (.im d)) :
    ∃ (ties : List Nat) (G' : Gs), mIm (mCall dTuple (mCons (mLc [6] (mRng1 (mBin dAdd (DL.ret (.int 1)) (mFn 2 roll (mCons (mVar 0) (mCons (mVar 2) mNil))))) (gSet 6) (DL.ret true) (mFn 2 roll (mCons (mVar 0) (mCons (mVar 3) mNil)))) mNil)) ρ G = some (.im (.tup (ties.map natD)), ρ, G') ∧ Cup hh G' ∧ 1 ≤ ties.length ∧ ties.length ≤ stn ∧ ∀ t ∈ ties, t < n := by
  have l6 : 6 < ρ.length := by
    refine Classical.byContradiction fun z => ?_
    rw [List.getElem?_eq_none (by omega)] at h6
    rcases h6 with h | ⟨d, h⟩ <;> cases h
  have hw : okW ρ [6] = true := by
    unfold okW
    rw [List.all_cons, List.all_nil]
    rcases h6 with h | ⟨d, h⟩ <;> rw [h] <;> rfl
  obtain ⟨r, G1, e1, hG1, r0, r1⟩ := roll_run hr (a := mVar 2) h0 (var_run h2) hG (by omega) (by omega)
  have e2 := add_run (ret_ap (d := D.int 1)) e1
  have ec : (1 + r : Int) = ((1 + r.toNat : Nat) : Int) := by omega
  rw [ec] at e2
  have it : mRng1 (mBin dAdd (DL.ret (.int 1)) (mFn 2 roll (mCons (mVar 0) (mCons (mVar 2) mNil)))) ρ G = some ((List.range (1 + r.toNat)).map natD, ρ, G1) := by
    unfold mRng1 bnd
    rw [e2]
    show lft (dRng1 (.int ((1 + r.toNat : Nat) : Int))) ρ G1 = _
    rw [rng1_nat (by omega)]
    rfl
  obtain ⟨ys, G2, e3, hG2, hp⟩ := mLc_inv (vs := [6]) (tg := gSet 6) (te := mFn 2 roll (mCons (mVar 0) (mCons (mVar 3) mNil))) (List.range (1 + r.toNat)) natD (Cup hh) (fun _ y => ∃ t : Nat, y = natD t ∧ t < n) it hw (by rw [List.length_range]; omega) hG1 fun i hi G9 hG9 => by
    obtain ⟨t, G', e, hG', t0, t1⟩ := roll_run hr (ρ := ρ.set 6 (.im (natD i))) (a := mVar 3) (m := n) (G := G9) (by rw [List.getElem?_set_ne (by decide)]; exact h0) (var_run (by rw [List.getElem?_set_ne (by decide)]; exact h3)) hG9 (by omega) (by omega)
    refine ⟨ρ.set 6 (.im (natD i)), .int t, G', ?_, e, ?_, hG', t.toNat, ?_, by omega⟩
    · show gSet 6 (natD i) (ρ.set 6 .un) = _
      unfold gSet
      rw [if_pos (by rw [List.length_set]; exact l6), List.set_set]
    · show (ρ.set 6 (.im (natD i))).set 6 .un = ρ.set 6 .un
      rw [List.set_set]
    · unfold natD
      rw [Int.toNat_of_nonneg t0]
  obtain ⟨ts, et, pt⟩ := paired_ex hp
  obtain ⟨ey, ht⟩ := paired_eq pt
  subst ey
  rw [List.length_range] at et
  exact ⟨ts, G2, im_run (call_run (cons_run e3 mNil_ap) rfl), hG2, by omega, by omega, ht⟩
theorem law_figure_ok2 {roll : Sf} (hr : RollOk roll) {most stn : Int} (h1 : 1 ≤ most) (h8 : most ≤ 8) (hs : 1 ≤ stn) (hs6 : stn ≤ 6) (G : Gs) (hG : Cup hh G) : ∃ (F : Fig) (G' : Gs), law_figure roll [.hnd hh, .int most, .int stn] G = some (F.d, G') ∧ Cup hh G' ∧ F.Ok ∧ (F.n : Int) ≤ most ∧ (F.ties.length : Int) ≤ stn := by
  obtain ⟨r, G1, e1, hG1, r0, r1⟩ := roll_run hr (ρ := [.im (.hnd hh), .im (.int most), .im (.int stn), .un, .un, .un, .un, .un, .un, .un, .un, .un]) (a := mVar 1) (m := most) (G := G) rfl (var_run rfl) hG (by omega) (by omega)
  have e2 := add_run (ret_ap (d := D.int 1)) e1
  obtain ⟨n, hn⟩ : ∃ n : Nat, (1 + r : Int) = (n : Int) := ⟨(1 + r).toNat, by omega⟩
  rw [hn] at e2
  have n1 : 1 ≤ n := by omega
  have n8 : n ≤ 8 := by omega
  have s3 := set_run (i := 3) (im_run e2) (by simp)
  obtain ⟨ks1, a5, G2, e3, hG2, hk1, hl1⟩ := fig1 hr (n := n) (by omega) (by omega) (.im (.int most)) (.im (.int stn)) G1 hG1
  -- how many turns
  obtain ⟨c, G3, e4, hG3, hc⟩ : ∃ (c : Nat) (G3 : Gs), mIf (mTest (mBin dGt (mVar 3) (DL.ret (.int 2)))) (mFn 2 roll (mCons (mVar 0) (mCons (DL.ret (.int 4)) mNil))) (DL.ret (.int 0)) [.im (.hnd hh), .im (.int most), .im (.int stn), .im (.int n), .mt (kvsD ks1), a5, .un, .un, .un, .un, .un, .un] G2
      = some (.int (c : Int), [.im (.hnd hh), .im (.int most), .im (.int stn), .im (.int n), .mt (kvsD ks1), a5, .un, .un, .un, .un, .un, .un], G3) ∧ Cup hh G3 ∧ c ≤ 4 := by
    have t1 : mTest (mBin dGt (mVar 3) (DL.ret (.int 2))) [.im (.hnd hh), .im (.int most), .im (.int stn), .im (.int n), .mt (kvsD ks1), a5, .un, .un, .un, .un, .un, .un] G2 = some (decide ((2 : Int) < n), [.im (.hnd hh), .im (.int most), .im (.int stn), .im (.int n), .mt (kvsD ks1), a5, .un, .un, .un, .un, .un, .un], G2) := test_run (bin_run (var_run (i := 3) (d := .int n) rfl) ret_ap rfl)
    by_cases h : (2 : Int) < n
    · rw [decide_eq_true h] at t1
      obtain ⟨q, G3, e, hG3, q0, q1⟩ := roll_run hr (ρ := [.im (.hnd hh), .im (.int most), .im (.int stn), .im (.int n), .mt (kvsD ks1), a5, .un, .un, .un, .un, .un, .un]) (a := DL.ret (.int 4)) (m := 4) (G := G2) rfl ret_ap hG2 (by omega) (by omega)
      refine ⟨q.toNat, G3, ?_, hG3, by omega⟩
      unfold mIf bnd
      rw [t1]
      dsimp only
      rw [if_pos rfl, e, Int.toNat_of_nonneg q0]
    · rw [decide_eq_false h] at t1
      refine ⟨0, G2, ?_, hG2, by omega⟩
      unfold mIf bnd
      rw [t1]
      dsimp only
      rw [if_neg (by decide)]
      rfl
  have it2 : mRng1 (mIf (mTest (mBin dGt (mVar 3) (DL.ret (.int 2)))) (mFn 2 roll (mCons (mVar 0) (mCons (DL.ret (.int 4)) mNil))) (DL.ret (.int 0))) [.im (.hnd hh), .im (.int most), .im (.int stn), .im (.int n), .mt (kvsD ks1), a5, .un, .un, .un, .un, .un, .un] G2 = some ((List.range c).map natD, [.im (.hnd hh), .im (.int most), .im (.int stn), .im (.int n), .mt (kvsD ks1), a5, .un, .un, .un, .un, .un, .un], G3) := by
    unfold mRng1 bnd
    rw [e4]
    show lft (dRng1 (.int (c : Int))) _ G3 = _
    rw [rng1_nat (by omega)]
    rfl
  obtain ⟨ks, a6, a7, a8, G4, e5, hG4, hk, hl, h6⟩ := fig2 hr (n := n) (by omega) (by omega) (.im (.int most)) (.im (.int stn)) a5 hk1 (by omega) c G3 hG3
  obtain ⟨L1, L2, L3⟩ := limbs_ok hk
  have s9 := set_run (i := 9) (fig3 (n := n) hk hl (ρ := [.im (.hnd hh), .im (.int most), .im (.int stn), .im (.int n), .mt (kvsD ks), a5, a6, a7, a8, .un, .un, .un]) G4 rfl rfl rfl) (by simp)
  obtain ⟨ties, G5, e6, hG5, t1, t2, t3⟩ := fig4 hr (n := n) (stn := stn) n1 n8 hs hs6 (ρ := [.im (.hnd hh), .im (.int most), .im (.int stn), .im (.int n), .mt (kvsD ks), a5, a6, a7, a8, .im (.tup ((limbsOf ks).map limbD)), .un, .un]) G4 hG4 rfl rfl rfl (by
    rcases h6 with e | ⟨d, e⟩
    · exact .inl (by rw [e]; rfl)
    · exact .inr ⟨d, by rw [e]; rfl⟩)
  have s10 := set_run (i := 10) e6 (by simp)
  obtain ⟨x, G6, e7, hG6, hx⟩ := some_run hr (ρ := [.im (.hnd hh), .im (.int most), .im (.int stn), .im (.int n), .mt (kvsD ks), a5, a6, a7, a8, .im (.tup ((limbsOf ks).map limbD)), .im (.tup (ties.map natD)), .un]) (l := mCons (DL.ret (.int 1)) (mCons (DL.ret (.int 4)) (mCons (DL.ret (.int 9)) (mCons (DL.ret (.int 15)) (mCons (DL.ret (.int 22)) (mCons (DL.ret (.int 30)) mNil)))))) (xs := [.int 1, .int 4, .int 9, .int 15, .int 22, .int 30]) (G := G5) rfl
    (cons_run ret_ap (cons_run ret_ap (cons_run ret_ap (cons_run ret_ap (cons_run ret_ap (cons_run ret_ap mNil_ap)))))) (by simp) (by simp) hG5
  obtain ⟨f, rfl, f1, f30⟩ : ∃ f, x = .int f ∧ 1 ≤ f ∧ f ≤ 30 := by
    simp only [List.mem_cons, List.not_mem_nil, or_false] at hx
    rcases hx with e | e | e | e | e | e
    · exact ⟨1, e, by omega, by omega⟩
    · exact ⟨4, e, by omega, by omega⟩
    · exact ⟨9, e, by omega, by omega⟩
    · exact ⟨15, e, by omega, by omega⟩
    · exact ⟨22, e, by omega, by omega⟩
    · exact ⟨30, e, by omega, by omega⟩
  refine ⟨⟨n, limbsOf ks, ties, f⟩, G6, def_rt rfl ?_, hG6, ⟨n1, n8, by show (limbsOf ks).length ≤ 12; omega, L1, L2, t1, by show ties.length ≤ 6; omega, t3, f1, f30⟩, by show (n : Int) ≤ most; omega, by show (ties.length : Int) ≤ stn; omega⟩
  refine (seq_nx s3).trans ?_
  refine (seq_nx (ρ1 := [.im (.hnd hh), .im (.int most), .im (.int stn), .im (.int n), .mt [], .un, .un, .un, .un, .un, .un, .un]) (G1 := G1) (set_run (i := 4) (ρ1 := [.im (.hnd hh), .im (.int most), .im (.int stn), .im (.int n), .un, .un, .un, .un, .un, .un, .un, .un]) ret_ap (by simp))).trans ?_
  have it1 : mRng2 (DL.ret (.int 1)) (mVar 3) [.im (.hnd hh), .im (.int most), .im (.int stn), .im (.int n), .mt [], .un, .un, .un, .un, .un, .un, .un] G1 = some (rng 1 n, [.im (.hnd hh), .im (.int most), .im (.int stn), .im (.int n), .mt [], .un, .un, .un, .un, .un, .un, .un], G1) := rng2_run ret_ap (var_run rfl) (by omega) (by omega) (by omega) (by omega)
  refine (seq_nx ((for_run it1).trans e3)).trans ?_
  refine (seq_nx ((for_run it2).trans e5)).trans ?_
  refine (seq_nx s9).trans ?_
  refine (seq_nx s10).trans ?_
  exact ret_run (tup_run (cons_run (var_run (i := 3) (d := .int n) rfl) (cons_run (var_run (i := 9) (d := .tup ((limbsOf ks).map limbD)) rfl) (cons_run (var_run (i := 10) (d := .tup (ties.map natD)) rfl) (cons_run e7 mNil_ap)))) (by simp))
theorem law_figure_ok {roll : Sf} (hr : RollOk roll) {most stn : Int} (h1 : 1 ≤ most) (h8 : most ≤ 8) (hs : 1 ≤ stn) (hs6 : stn ≤ 6) (G : Gs) (hG : Cup hh G) : ∃ (F : Fig) (G' : Gs), law_figure roll [.hnd hh, .int most, .int stn] G = some (F.d, G') ∧ Cup hh G' ∧ F.Ok := by
  obtain ⟨F, G', e, h1, h2, _⟩ := law_figure_ok2 hr h1 h8 hs hs6 G hG
  exact ⟨F, G', e, h1, h2⟩
theorem law_setting_ok {roll : Sf} (hr : RollOk roll) {F : Fig} (hF : F.Ok) (G : Gs) (hG : Cup hh G) : ∃ (s : List Int) (G' : Gs), law_setting roll [.hnd hh, F.d] G = some (intsD s, G') ∧ Cup hh G' ∧ InR F.ties.length F.floor s := by
  have f1 := hF.f1
  have f30 := hF.f30
  have t6 := hF.t6
  have it : mItems (mBin dIx (mVar 1) (DL.ret (.int 2))) [.im (.hnd hh), .im F.d, .im (.int F.floor), .un] G = some (F.ties.map natD, [.im (.hnd hh), .im F.d, .im (.int F.floor), .un], G) := by
    unfold mItems bnd
    rw [bin_run (var_run (i := 1) (d := F.d) rfl) ret_ap ixF2]
    rfl
  obtain ⟨ys, G2, e3, hG2, hp⟩ := mLc_inv (vs := [3]) (tg := gSet 3) (te := mFn 2 (law_some roll) (mCons (mVar 0) (mCons (mLst (mCons (mVar 2) (mCons (DL.ret (.int 0)) (mCons (mFn 2 roll (mCons (mVar 0) (mCons (mBin dAdd (mVar 2) (DL.ret (.int 1))) mNil))) (mCons (mFn 2 roll (mCons (mVar 0) (mCons (mBin dAdd (mVar 2) (DL.ret (.int 1))) mNil))) (mCons (mFn 2 roll (mCons (mVar 0) (mCons (mBin dAdd (mVar 2) (DL.ret (.int 1))) mNil))) mNil)))))) mNil))) F.ties natD (Cup hh) (fun _ y => ∃ t : Int, y = .int t ∧ (0 ≤ t ∧ t ≤ F.floor)) it rfl (by omega) hG fun i hi G9 hG9 => by
    have fl : ∀ G, mBin dAdd (mVar 2) (DL.ret (.int 1)) [.im (.hnd hh), .im F.d, .im (.int F.floor), .im (natD i)] G = some (.int (F.floor + 1), [.im (.hnd hh), .im F.d, .im (.int F.floor), .im (natD i)], G) := fun G => add_run (var_run rfl) ret_ap
    obtain ⟨q1, H1, e1, g1, q10, q11⟩ := roll_run hr (ρ := [.im (.hnd hh), .im F.d, .im (.int F.floor), .im (natD i)]) (G := G9) rfl (fl G9) hG9 (by omega) (by omega)
    obtain ⟨q2, H2, e2, g2, q20, q21⟩ := roll_run hr (ρ := [.im (.hnd hh), .im F.d, .im (.int F.floor), .im (natD i)]) (G := H1) rfl (fl H1) g1 (by omega) (by omega)
    obtain ⟨q3, H3, e3, g3, q30, q31⟩ := roll_run hr (ρ := [.im (.hnd hh), .im F.d, .im (.int F.floor), .im (natD i)]) (G := H2) rfl (fl H2) g2 (by omega) (by omega)
    obtain ⟨x, H4, e4, g4, hx⟩ := some_run hr (ρ := [.im (.hnd hh), .im F.d, .im (.int F.floor), .im (natD i)]) (G := G9) rfl (cons_run (var_run (i := 2) (d := .int F.floor) rfl) (cons_run (ret_ap (d := D.int 0)) (cons_run e1 (cons_run e2 (cons_run e3 mNil_ap))))) (by simp) (by simp) g3
    refine ⟨[.im (.hnd hh), .im F.d, .im (.int F.floor), .im (natD i)], x, H4, rfl, e4, rfl, g4, ?_⟩
    simp only [List.mem_cons, List.not_mem_nil, or_false] at hx
    rcases hx with e | e | e | e | e
    · exact ⟨F.floor, e, by omega, by omega⟩
    · exact ⟨0, e, by omega, by omega⟩
    · exact ⟨q1, e, by omega, by omega⟩
    · exact ⟨q2, e, by omega, by omega⟩
    · exact ⟨q3, e, by omega, by omega⟩
  obtain ⟨ts, et, pt⟩ := paired_ex hp
  obtain ⟨ey, ht⟩ := paired_eq pt
  subst ey
  refine ⟨ts, G2, def_rt rfl ?_, hG2, et, ht⟩
  refine (seq_nx (set_run (i := 2) (im_run (bin_run (var_run (i := 1) (d := F.d) rfl) ret_ap ixF3)) (by simp))).trans ?_
  exact ret_run (call_run (cons_run e3 mNil_ap) rfl)
end DM

/-! DM: equal tuples of ints, poses given by formulas. -/
namespace DM
open DL L2
open PySem (Paired PyData)
theorem py_ints : ∀ a : List Int, pyL (a.map D.int) = some (a.map PyData.int)
  | [] => by simp [pyL]
  | x :: a => by
    rw [List.map_cons, List.map_cons]
    unfold pyL
    rw [py_ints a]
    rfl
theorem lay_ints : ∀ a : List Int, PyData.canLayAll0 (a.map PyData.int) = true
  | [] => by simp [PyData.canLayAll0]
  | x :: a => by
    rw [List.map_cons]
    unfold PyData.canLayAll0
    rw [lay_ints a]
    rfl
theorem depth_ints : ∀ a : List Int, PyData.depthAll (a.map PyData.int) = 0
  | [] => by simp [PyData.depthAll]
  | x :: a => by
    rw [List.map_cons]
    unfold PyData.depthAll
    rw [depth_ints a]
    rfl
theorem eqv_ints : ∀ a b : List Int, PyData.eqvAll (a.map PyData.int) (b.map PyData.int) = decide (a = b)
  | [], [] => by simp [PyData.eqvAll]
  | [], y :: b => by simp [PyData.eqvAll]
  | x :: a, [] => by simp [PyData.eqvAll]
  | x :: a, y :: b => by
    rw [List.map_cons, List.map_cons]
    unfold PyData.eqvAll
    rw [eqv_ints a b]
    have : PyData.eqv (.int x) (.int y) = decide (x = y) := by
      show (x == y) = _
      by_cases h : x = y
      · simp [h]
      · rw [decide_eq_false h]
        exact beq_eq_false_iff_ne.mpr h
    rw [this]
    by_cases h : x = y <;> by_cases h2 : a = b <;> simp [h, h2]
theorem shaped_ints (a : List Int) : PySem.SeqAt.shaped (.tuple (a.map PyData.int)) = true := by
  unfold PySem.SeqAt.shaped
  have h1 : PyData.canLay0 (.tuple (a.map PyData.int)) = true := by
    unfold PyData.canLay0
    exact lay_ints a
  have h2 : PyData.depth (.tuple (a.map PyData.int)) = 1 := by
    unfold PyData.depth
    rw [depth_ints]
  rw [h1, h2]
  rfl
theorem eq_ints (a b : List Int) : dEq (intsD a) (intsD b) = some (.bl (decide (a = b))) := by
  have p : ∀ a : List Int, (intsD a).py = some (.tuple (a.map PyData.int)) := fun a => by
    unfold intsD D.py
    rw [py_ints a]
    rfl
  unfold dEq dEqB
  rw [p a, p b]
  dsimp only
  rw [shaped_ints a, shaped_ints b]
  have : PyData.eqv (.tuple (a.map PyData.int)) (.tuple (b.map PyData.int)) = decide (a = b) := by
    unfold PyData.eqv
    exact eqv_ints a b
  rw [this]
  rfl
theorem ok_ints (j : Nat) {a : List Int} (h : a.length ≤ 1000) : okD (j + 2) (intsD a) = true := by
  show (decide ((a.map D.int).length ≤ 1000) && (a.map D.int).all (okD (j + 1))) = true
  rw [List.length_map, decide_eq_true h, Bool.true_and, List.all_eq_true]
  intro d hd
  obtain ⟨x, _, rfl⟩ := List.mem_map.mp hd
  rfl
theorem iat_map {f : Int → Int} {d : List Int} {i : Nat} (h : i < d.length) : iat (d.map f) i = f (iat d i) := by
  unfold iat
  rw [List.getElem?_map, List.getElem?_eq_getElem h]
  rfl
theorem iat_fn {f : Nat → Int} {n i : Nat} (h : i < n) : iat ((List.range n).map f) i = f i := by
  unfold iat
  rw [List.getElem?_map, List.getElem?_eq_getElem (by rw [List.length_range]; exact h), List.getElem_range]
  rfl
/-- a stance that is the pose or more is no stance but the pose -/
theorem more_iff {F : Fig} {s p d : List Int} (hp : IsPose F s p) (hd : d.length = F.n) (h : ∀ i, i < F.n → iat p i ≤ iat d i) : St F s (iat d) ↔ d = p := by
  constructor
  · intro hs
    refine iat_ext (by rw [hd, hp.len]) fun i hi => ?_
    have hi : i < F.n := by rw [← hd]; exact hi
    have := hp.top _ hs i hi
    have := h i hi
    omega
  · intro e
    rw [e]
    exact hp.st
/-! ### chains -/
def chainL (m : Nat) (c : Int) : List (Nat × Nat × Int) := (List.range m).map fun i => (i, i + 1, c)
theorem chain_ok {m : Nat} {c : Int} (h1 : 1 ≤ c) (h9 : c ≤ 9) {n : Nat} (hn : m < n) : (∀ l ∈ chainL m c, l.1 < l.2.1 ∧ l.2.1 < n ∧ 1 ≤ l.2.2 ∧ l.2.2 ≤ 9) ∧ (chainL m c).Pairwise LexL ∧ (chainL m c).length = m := by
  refine ⟨fun l hl => ?_, ?_, by unfold chainL; rw [List.length_map, List.length_range]⟩
  · obtain ⟨i, hi, rfl⟩ := List.mem_map.mp hl
    have := List.mem_range.mp hi
    exact ⟨Nat.lt_succ_self i, by show i + 1 < n; omega, h1, h9⟩
  · unfold chainL
    rw [List.pairwise_map]
    exact List.Pairwise.imp (fun {a b} h => Or.inl h) List.pairwise_lt_range
theorem chain_mem {m : Nat} {c : Int} {l : Nat × Nat × Int} (h : l ∈ chainL m c) : ∃ i, i < m ∧ l = (i, i + 1, c) := by
  obtain ⟨i, hi, rfl⟩ := List.mem_map.mp h
  exact ⟨i, List.mem_range.mp hi, rfl⟩
theorem chain_in {m : Nat} {c : Int} {i : Nat} (h : i < m) : (i, i + 1, c) ∈ chainL m c := List.mem_map.mpr ⟨i, List.mem_range.mpr h, rfl⟩
/-- along a chain -/
theorem chain_le {m : Nat} {c : Int} {f : Nat → Int} (h : ∀ l ∈ chainL m c, f l.1 ≤ f l.2.1 + l.2.2 ∧ f l.2.1 ≤ f l.1 + l.2.2) : ∀ i, i ≤ m → f i ≤ f 0 + i * c
  | 0, _ => by simp
  | i + 1, hi => by
    have := chain_le h i (by omega)
    have h2 : f (i + 1) ≤ f i + c := (h _ (chain_in (i := i) (by omega))).2
    have e : ((i + 1 : Nat) : Int) * c = i * c + c := by rw [Int.natCast_succ, Int.add_mul, Int.one_mul]
    omega
theorem chain_back {m : Nat} {c : Int} {f : Nat → Int} (h : ∀ l ∈ chainL m c, f l.1 ≤ f l.2.1 + l.2.2 ∧ f l.2.1 ≤ f l.1 + l.2.2) : ∀ j, j ≤ m → f (m - j) ≤ f m + j * c
  | 0, _ => by simp
  | j + 1, hj => by
    have := chain_back h j (by omega)
    have h2 : f (m - (j + 1)) ≤ f (m - (j + 1) + 1) + c := (h _ (chain_in (i := m - (j + 1)) (by omega))).1
    rw [show m - (j + 1) + 1 = m - j by omega] at h2
    have e : ((j + 1 : Nat) : Int) * c = j * c + c := by rw [Int.natCast_succ, Int.add_mul, Int.one_mul]
    omega
def mn (f x : Int) : Int := if x < f then x else f
theorem mn_le (f x : Int) : mn f x ≤ f ∧ mn f x ≤ x := by
  unfold mn
  split <;> omega
theorem mn_ge {f x y : Int} (h1 : y ≤ f) (h2 : y ≤ x) : y ≤ mn f x := by
  unfold mn
  split <;> omega
/-- a chain that hangs at its first joint, a joint beside -/
def fig5 (m : Nat) (c f : Int) : Fig := ⟨m + 1, chainL (m - 1) c, [0], f⟩
def due5 (m : Nat) (c f z : Int) : List Int := (List.range m).map (fun i : Nat => mn f (z + (i : Int) * c)) ++ [f]
theorem due5_at {m : Nat} {c f z : Int} {i : Nat} : (i < m → iat (due5 m c f z) i = mn f (z + i * c)) ∧ iat (due5 m c f z) m = f := by
  constructor
  · intro hi
    unfold due5 iat
    rw [List.getElem?_append_left (by rw [List.length_map, List.length_range]; exact hi)]
    exact iat_fn (f := fun i : Nat => mn f (z + (i : Int) * c)) hi
  · unfold due5 iat
    rw [List.getElem?_append_right (by rw [List.length_map, List.length_range]; exact Nat.le_refl _), List.length_map, List.length_range, Nat.sub_self]
    rfl
theorem fig5_ok {m : Nat} {c f : Int} (h1 : 1 ≤ m) (h7 : m ≤ 7) (c1 : 1 ≤ c) (c9 : c ≤ 9) (f1 : 1 ≤ f) (f30 : f ≤ 30) : (fig5 m c f).Ok := by
  obtain ⟨L1, L2, L3⟩ := chain_ok (m := m - 1) c1 c9 (n := m + 1) (by omega)
  exact ⟨by show 1 ≤ m + 1; omega, by show m + 1 ≤ 8; omega, by show (chainL (m - 1) c).length ≤ 12; omega, L1, L2, Nat.le_refl 1, (by show 1 ≤ 6; omega), fun t ht => by rw [List.mem_singleton.mp ht]; exact Nat.succ_pos m, f1, f30⟩
theorem fig5_pose {m : Nat} {c f z : Int} (h1 : 1 ≤ m) (c1 : 1 ≤ c) (z0 : 0 ≤ z) (f0 : 0 ≤ f) : IsPose (fig5 m c f) [z] (due5 m c f z) := by
  have nnm : ∀ i : Nat, 0 ≤ (i : Int) * c := fun i => Int.mul_nonneg (by omega) (by omega)
  refine ⟨by unfold due5 fig5; simp, fun i hi => ?_, ⟨fun i hi => ?_, fun l hl => ?_, fun q hq => ?_⟩, fun g hg i hi => ?_⟩
  · have hi : i < m + 1 := hi
    by_cases e : i < m
    · rw [due5_at.1 e]
      have := nnm i
      exact mn_ge f0 (by omega)
    · rw [show i = m by omega, (due5_at (i := 0)).2]; exact f0
  · have hi : i < m + 1 := hi
    show _ ≤ f
    by_cases e : i < m
    · rw [due5_at.1 e]; exact (mn_le _ _).1
    · rw [show i = m by omega, (due5_at (i := 0)).2]; exact Int.le_refl _
  · obtain ⟨i, hi, rfl⟩ := chain_mem hl
    have e : ((i + 1 : Nat) : Int) * c = i * c + c := by rw [Int.natCast_succ, Int.add_mul, Int.one_mul]
    show iat _ i ≤ iat _ (i + 1) + c ∧ iat _ (i + 1) ≤ iat _ i + c
    rw [due5_at.1 (by omega), due5_at.1 (by omega), e]
    unfold mn
    constructor <;> (split <;> split <;> omega)
  · have hq : q = (0, z) := by simpa [fig5] using hq
    rw [hq]
    show iat _ 0 ≤ z
    rw [due5_at.1 (by omega)]
    have := (mn_le f (z + ((0 : Nat) : Int) * c)).2
    simp at this ⊢
    exact this
  · have hi : i < m + 1 := hi
    have g0 : g 0 ≤ z := hg.2.2 (0, z) (by simp [fig5])
    have gf : g i ≤ f := hg.1 i hi
    by_cases e : i < m
    · rw [due5_at.1 e]
      have := chain_le hg.2.1 i (by omega)
      exact mn_ge gf (by omega)
    · rw [show i = m by omega, (due5_at (i := 0)).2, show m = i by omega]; exact gf

/-- a chain that hangs at both ends -/
def fig6 (m : Nat) (c f : Int) : Fig := ⟨m, chainL (m - 1) c, [0, m - 1], f⟩
def kk (m i : Nat) : Int := if (m : Int) - 1 - (i : Int) < (i : Int) then (m : Int) - 1 - (i : Int) else (i : Int)
def due6 (m : Nat) (c f z : Int) : List Int := (List.range m).map fun i : Nat => mn f (z + kk m i * c)
theorem due6_at {m : Nat} {c f z : Int} {i : Nat} (h : i < m) : iat (due6 m c f z) i = mn f (z + kk m i * c) := iat_fn (f := fun i : Nat => mn f (z + kk m i * c)) h
theorem fig6_ok {m : Nat} {c f : Int} (h1 : 2 ≤ m) (h7 : m ≤ 8) (c1 : 1 ≤ c) (c9 : c ≤ 9) (f1 : 1 ≤ f) (f30 : f ≤ 30) : (fig6 m c f).Ok := by
  obtain ⟨L1, L2, L3⟩ := chain_ok (m := m - 1) c1 c9 (n := m) (by omega)
  refine ⟨by show 1 ≤ m; omega, h7, by show (chainL (m - 1) c).length ≤ 12; omega, L1, L2, (by show 1 ≤ 2; omega), (by show 2 ≤ 6; omega), fun t ht => ?_, f1, f30⟩
  have ht : t = 0 ∨ t = m - 1 := by simpa [fig6] using ht
  show t < m
  omega
theorem fig6_pose {m : Nat} {c f z : Int} (h1 : 2 ≤ m) (c1 : 1 ≤ c) (z0 : 0 ≤ z) (f0 : 0 ≤ f) : IsPose (fig6 m c f) [z, z] (due6 m c f z) := by
  have kn : ∀ i : Nat, i < m → 0 ≤ kk m i := fun i hi => by unfold kk; split <;> omega
  have nnm : ∀ i : Nat, i < m → 0 ≤ kk m i * c := fun i hi => Int.mul_nonneg (kn i hi) (by omega)
  refine ⟨by unfold due6 fig6; simp, fun i hi => ?_, ⟨fun i hi => ?_, fun l hl => ?_, fun q hq => ?_⟩, fun g hg i hi => ?_⟩
  · have hi : i < m := hi
    rw [due6_at hi]
    have := nnm i hi
    exact mn_ge f0 (by omega)
  · have hi : i < m := hi
    show _ ≤ f
    rw [due6_at hi]; exact (mn_le _ _).1
  · obtain ⟨i, hi, rfl⟩ := chain_mem hl
    show iat _ i ≤ iat _ (i + 1) + c ∧ iat _ (i + 1) ≤ iat _ i + c
    rw [due6_at (by omega), due6_at (by omega)]
    have a1 : kk m i ≤ kk m (i + 1) + 1 := by unfold kk; split <;> split <;> omega
    have a2 : kk m (i + 1) ≤ kk m i + 1 := by unfold kk; split <;> split <;> omega
    have b1 := Int.mul_le_mul_of_nonneg_right a1 (by omega : 0 ≤ c)
    have b2 := Int.mul_le_mul_of_nonneg_right a2 (by omega : 0 ≤ c)
    rw [Int.add_mul, Int.one_mul] at b1 b2
    unfold mn
    constructor <;> (split <;> split <;> omega)
  · have hq : q = (0, z) ∨ q = (m - 1, z) := by simpa [fig6] using hq
    have k0 : kk m 0 = 0 := by unfold kk; split <;> omega
    have k1 : kk m (m - 1) = 0 := by unfold kk; split <;> omega
    rcases hq with e | e
    · rw [e]
      show iat _ 0 ≤ z
      rw [due6_at (by omega), k0]
      have := (mn_le f (z + 0 * c)).2
      omega
    · rw [e]
      show iat _ (m - 1) ≤ z
      rw [due6_at (by omega), k1]
      have := (mn_le f (z + 0 * c)).2
      omega
  · have hi : i < m := hi
    have g0 : g 0 ≤ z := hg.2.2 (0, z) (by simp [fig6])
    have g1 : g (m - 1) ≤ z := hg.2.2 (m - 1, z) (by simp [fig6])
    have gf : g i ≤ f := hg.1 i hi
    rw [due6_at hi]
    have c0 := chain_le hg.2.1 i (by show i ≤ m - 1; omega)
    have cb := chain_back hg.2.1 (m - 1 - i) (by show m - 1 - i ≤ m - 1; omega)
    rw [show m - 1 - (m - 1 - i) = i by omega] at cb
    refine mn_ge gf ?_
    unfold kk
    split
    · rw [show ((m - 1 - i : Nat) : Int) = (m : Int) - 1 - i by omega] at cb
      omega
    · omega
/-- two strings at one joint -/
def fig7 (f : Int) : Fig := ⟨1, [], [0, 0], f⟩
theorem fig7_ok {f : Int} (f1 : 1 ≤ f) (f30 : f ≤ 30) : (fig7 f).Ok :=
  ⟨Nat.le_refl 1, (by show 1 ≤ 8; omega), Nat.zero_le _, fun l hl => (by cases hl), List.Pairwise.nil, (by show 1 ≤ 2; omega), (by show 2 ≤ 6; omega), fun t ht => (by
    have ht : t = 0 := by simpa [fig7] using ht
    show t < 1
    omega), f1, f30⟩
theorem fig7_pose {f a b : Int} (a0 : 0 ≤ a) (af : a ≤ f) (b0 : 0 ≤ b) (bf : b ≤ f) : IsPose (fig7 f) [a, b] [if b < a then b else a] := by
  refine ⟨rfl, fun i hi => ?_, ⟨fun i hi => ?_, fun l hl => (by cases hl), fun q hq => ?_⟩, fun g hg i hi => ?_⟩
  · have hi : i < 1 := hi
    rw [show i = 0 by omega]
    show 0 ≤ if b < a then b else a
    split <;> omega
  · have hi : i < 1 := hi
    rw [show i = 0 by omega]
    show (if b < a then b else a) ≤ f
    split <;> omega
  · have hq : q = (0, a) ∨ q = (0, b) := by simpa [fig7] using hq
    rcases hq with e | e
    · rw [e]
      show (if b < a then b else a) ≤ a
      split <;> omega
    · rw [e]
      show (if b < a then b else a) ≤ b
      split <;> omega
  · have hi : i < 1 := hi
    rw [show i = 0 by omega]
    have g0 : g 0 ≤ a := hg.2.2 (0, a) (by simp [fig7])
    have g1 : g 0 ≤ b := hg.2.2 (0, b) (by simp [fig7])
    show g 0 ≤ if b < a then b else a
    split <;> omega
/-- strings as long as the floor is deep -/
def fig8 (m : Nat) (c f : Int) : Fig := ⟨m, chainL (m - 1) c, [0, 0, m - 1], f⟩
theorem fig8_ok {m : Nat} {c f : Int} (h1 : 2 ≤ m) (h7 : m ≤ 8) (c1 : 1 ≤ c) (c9 : c ≤ 9) (f1 : 1 ≤ f) (f30 : f ≤ 30) : (fig8 m c f).Ok := by
  obtain ⟨L1, L2, L3⟩ := chain_ok (m := m - 1) c1 c9 (n := m) (by omega)
  refine ⟨by show 1 ≤ m; omega, h7, by show (chainL (m - 1) c).length ≤ 12; omega, L1, L2, (by show 1 ≤ 3; omega), (by show 3 ≤ 6; omega), fun t ht => ?_, f1, f30⟩
  have ht : t = 0 ∨ t = m - 1 := by simpa [fig8] using ht
  show t < m
  omega
theorem iat_rep {n : Nat} {x : Int} {i : Nat} (h : i < n) : iat (List.replicate n x) i = x := by
  unfold iat
  rw [List.getElem?_replicate, if_pos h]
  rfl
theorem fig8_pose {m : Nat} {c f : Int} (h1 : 2 ≤ m) (c1 : 1 ≤ c) (f0 : 0 ≤ f) : IsPose (fig8 m c f) [f, f, f] (List.replicate m f) := by
  refine ⟨by unfold fig8; simp, fun i hi => ?_, ⟨fun i hi => ?_, fun l hl => ?_, fun q hq => ?_⟩, fun g hg i hi => ?_⟩
  · have hi : i < m := hi
    rw [iat_rep hi]; exact f0
  · have hi : i < m := hi
    rw [iat_rep hi]; exact Int.le_refl _
  · obtain ⟨i, hi, rfl⟩ := chain_mem hl
    show iat _ i ≤ iat _ (i + 1) + c ∧ iat _ (i + 1) ≤ iat _ i + c
    rw [iat_rep (by omega), iat_rep (by omega)]
    omega
  · have hq : q = (0, f) ∨ q = (m - 1, f) := by simpa [fig8] using hq
    rcases hq with e | e
    · rw [e]
      show iat _ 0 ≤ f
      rw [iat_rep (by omega)]; exact Int.le_refl _
    · rw [e]
      show iat _ (m - 1) ≤ f
      rw [iat_rep (by omega)]; exact Int.le_refl _
  · have hi' : i < m := hi
    rw [iat_rep hi']; exact hg.1 i hi
/-- strings alone -/
def fig9 (m : Nat) (f : Int) : Fig := ⟨m, [], [0, 0], f⟩
theorem fig9_ok {m : Nat} {f : Int} (h1 : 1 ≤ m) (h8 : m ≤ 8) (f1 : 1 ≤ f) (f30 : f ≤ 30) : (fig9 m f).Ok :=
  ⟨h1, h8, Nat.zero_le _, fun l hl => (by cases hl), List.Pairwise.nil, (by show 1 ≤ 2; omega), (by show 2 ≤ 6; omega), fun t ht => (by
    have ht : t = 0 := by simpa [fig9] using ht
    show t < m
    omega), f1, f30⟩
theorem fig9_pose {m : Nat} {f b : Int} (h1 : 1 ≤ m) (f0 : 0 ≤ f) (b0 : 0 ≤ b) : IsPose (fig9 m f) [0, b] (0 :: List.replicate (m - 1) f) := by
  have at9 : ∀ i, i < m → iat (0 :: List.replicate (m - 1) f) i = if i = 0 then 0 else f := fun i hi => by
    cases i with
    | zero => rfl
    | succ i =>
      rw [if_neg (by omega)]
      exact iat_rep (by omega)
  refine ⟨by unfold fig9; simp; omega, fun i hi => ?_, ⟨fun i hi => ?_, fun l hl => (by cases hl), fun q hq => ?_⟩, fun g hg i hi => ?_⟩
  · rw [at9 i hi]; split <;> omega
  · rw [at9 i hi]
    show (if i = 0 then (0 : Int) else f) ≤ f
    split <;> omega
  · have hq : q = (0, 0) ∨ q = (0, b) := by simpa [fig9] using hq
    rcases hq with e | e
    · rw [e]; exact Int.le_refl _
    · rw [e]; exact b0
  · rw [at9 i hi]
    have g0 : g 0 ≤ 0 := hg.2.2 (0, 0) (by simp [fig9])
    have gf : g i ≤ f := hg.1 i hi
    split
    · rename_i e; rw [e]; exact g0
    · exact gf
end DM

/-! DM: poses of lesser, longer, shifted settings. -/
namespace DM
open DL L2
theorem tie_at {F : Fig} {s : List Int} {i : Nat} {t : Nat} {x : Int} (ht : F.ties[i]? = some t) (hx : s[i]? = some x) : (t, x) ∈ F.ties.zip s := by
  refine List.mem_of_getElem? (i := i) ?_
  rw [List.getElem?_zip_eq_some]
  exact ⟨ht, hx⟩
theorem tie_mem {F : Fig} {s : List Int} {q : Nat × Int} (h : q ∈ F.ties.zip s) : ∃ i : Nat, F.ties[i]? = some q.1 ∧ s[i]? = some q.2 := by
  obtain ⟨i, hi⟩ := List.getElem?_of_mem h
  rw [List.getElem?_zip_eq_some] at hi
  exact ⟨i, hi⟩
/-- stances of a setting, string by string -/
theorem st_ties {F : Fig} {s : List Int} {f : Nat → Int} : (∀ q ∈ F.ties.zip s, f q.1 ≤ q.2) ↔ ∀ (i t : Nat) (x : Int), F.ties[i]? = some t → s[i]? = some x → f t ≤ x := by
  constructor
  · intro h i t x ht hx
    exact h (t, x) (tie_at ht hx)
  · intro h q hq
    obtain ⟨i, h1, h2⟩ := tie_mem hq
    exact h i _ _ h1 h2
/-- the least of two settings, string by string: the least of the two poses -/
theorem pose_mix {F : Fig} {s t u p q r : List Int} (hp : IsPose F s p) (hq : IsPose F t q) (hr : r.length = F.n) (hi : ∀ i, i < F.n → iat r i = min (iat p i) (iat q i))
    (hu : ∀ (i : Nat) (z : Int), u[i]? = some z → ∃ x y, s[i]? = some x ∧ t[i]? = some y ∧ z = min x y) (hu2 : ∀ (i : Nat) (x : Int), s[i]? = some x → ∃ z, u[i]? = some z ∧ z ≤ x) (hu3 : ∀ (i : Nat) (x : Int), t[i]? = some x → ∃ z, u[i]? = some z ∧ z ≤ x)
    (hF : F.Ok) : IsPose F u r := by
  have n1 : ∀ l ∈ F.limbs, l.1 < F.n ∧ l.2.1 < F.n := fun l hl => by
    have := hF.limb l hl
    omega
  refine ⟨hr, fun i h => ?_, ⟨fun i h => ?_, fun l hl => ?_, st_ties.mpr fun i a z ha hz => ?_⟩, fun f hf i h => ?_⟩
  · rw [hi i h]
    have := hp.nn i h
    have := hq.nn i h
    omega
  · rw [hi i h]
    have := hp.st.1 i h
    omega
  · obtain ⟨h1, h2⟩ := n1 l hl
    rw [hi _ h1, hi _ h2]
    have a := hp.st.2.1 l hl
    have b := hq.st.2.1 l hl
    omega
  · obtain ⟨x, y, hx, hy, e⟩ := hu i z hz
    have a := st_ties.mp hp.st.2.2 i a x ha hx
    have b := st_ties.mp hq.st.2.2 i _ y ha hy
    rw [hi _ (hF.tie _ (List.mem_of_getElem? ha))]
    omega
  · rw [hi i h]
    have a := hp.top f ⟨hf.1, hf.2.1, st_ties.mpr fun j a x ha hx => by
      obtain ⟨z, hz, hle⟩ := hu2 j x hx
      have := st_ties.mp hf.2.2 j a z ha hz
      omega⟩ i h
    have b := hq.top f ⟨hf.1, hf.2.1, st_ties.mpr fun j a x ha hx => by
      obtain ⟨z, hz, hle⟩ := hu3 j x hx
      have := st_ties.mp hf.2.2 j a z ha hz
      omega⟩ i h
    omega
/-- strings that are longer by at most so much -/
theorem pose_longer {F : Fig} {s u p r : List Int} {m : Int} (hp : IsPose F s p) (hr : IsPose F u r) (m0 : 0 ≤ m) (hu : ∀ (i : Nat) (z : Int), u[i]? = some z → ∃ x, s[i]? = some x ∧ x ≤ z) (hu2 : ∀ (i : Nat) (x : Int), s[i]? = some x → ∃ z, u[i]? = some z ∧ z ≤ x + m) :
    ∀ i, i < F.n → iat p i ≤ iat r i ∧ iat r i ≤ iat p i + m := by
  intro i h
  constructor
  · refine hr.top _ ⟨hp.st.1, hp.st.2.1, st_ties.mpr fun j a z ha hz => ?_⟩ i h
    obtain ⟨x, hx, hle⟩ := hu j z hz
    have := st_ties.mp hp.st.2.2 j a x ha hx
    omega
  · have := hp.top (fun i => iat r i - m) ⟨fun i h => by dsimp only; have := hr.st.1 i h; omega, fun l hl => by dsimp only; have := hr.st.2.1 l hl; omega, (st_ties (f := fun i => iat r i - m)).mpr fun j a x ha hx => by
      obtain ⟨z, hz, hle⟩ := hu2 j x hx
      have := st_ties.mp hr.st.2.2 j a z ha hz
      omega⟩ i h
    omega
/-- all strings let out by m -/
theorem pose_shift {F : Fig} {s p : List Int} {m : Int} (hF : F.Ok) (hp : IsPose F s p) (m0 : 0 ≤ m) : IsPose F (s.map fun x => mn F.floor (x + m)) (p.map fun x => mn F.floor (x + m)) := by
  have at' : ∀ i, i < F.n → iat (p.map fun x => mn F.floor (x + m)) i = mn F.floor (iat p i + m) := fun i h => iat_map (f := fun x => mn F.floor (x + m)) (by rw [hp.len]; exact h)
  have f1 := hF.f1
  have sm : ∀ (j : Nat) (z : Int), (s.map fun x => mn F.floor (x + m))[j]? = some z → ∃ x, s[j]? = some x ∧ z = mn F.floor (x + m) := fun j z hz => by
    rw [List.getElem?_map] at hz
    obtain ⟨x, hx, e⟩ := Option.map_eq_some_iff.mp hz
    exact ⟨x, hx, e.symm⟩
  refine ⟨by rw [List.length_map]; exact hp.len, fun i h => ?_, ⟨fun i h => ?_, fun l hl => ?_, st_ties.mpr fun j a z ha hz => ?_⟩, fun f hf i h => ?_⟩
  · rw [at' i h]
    have := hp.nn i h
    exact mn_ge (by omega) (by omega)
  · rw [at' i h]; exact (mn_le _ _).1
  · have b := hF.limb l hl
    have c := hp.st.2.1 l hl
    rw [at' _ (by omega), at' _ (by omega)]
    unfold mn
    constructor <;> (split <;> split <;> omega)
  · obtain ⟨x, hx, e⟩ := sm j z hz
    have := st_ties.mp hp.st.2.2 j a x ha hx
    rw [at' _ (hF.tie _ (List.mem_of_getElem? ha)), e]
    unfold mn
    split <;> split <;> omega
  · rw [at' i h]
    refine mn_ge (hf.1 i h) ?_
    have := hp.top (fun i => f i - m) ⟨fun i h => by dsimp only; have := hf.1 i h; omega, fun l hl => by dsimp only; have := hf.2.1 l hl; omega, (st_ties (f := fun i => f i - m)).mpr fun j a x ha hx => by
      have := st_ties.mp hf.2.2 j a (mn F.floor (x + m)) ha (by rw [List.getElem?_map, hx]; rfl)
      have := (mn_le F.floor (x + m)).2
      omega⟩ i h
    omega
end DM

/-! DM: one item changed, two tuples side by side. -/
namespace DM
open DL L2
section
variable {ρ : List Sl} {G : Gs}
/-- d[:k] + (x,) + d[k + 1:] -/
theorem splice_run {i j : Nat} {d : List Int} {k : Nat} {x : Int} {e : SA} (hk : k < d.length) (hl : d.length ≤ 1000) (hi : ρ[i]? = some (.im (intsD d))) (hj : ρ[j]? = some (.im (natD k))) (he : e ρ G = some ([.int x], ρ, G)) :
    mBin dAdd (mBin dAdd (mSl (mVar i) (DL.ret none) (mPart (mVar j))) (mTup e)) (mSl (mVar i) (mPart (mBin dAdd (mVar j) (DL.ret (.int 1)))) (DL.ret none)) ρ G = some (intsD (d.set k x), ρ, G) := by
  have v1 := var_run (G := G) hi
  have v2 := var_run (G := G) hj
  have p1 : mPart (mVar j) ρ G = some (some (k : Int), ρ, G) := by
    unfold mPart bnd
    rw [v2]
    rfl
  have p2 : mPart (mBin dAdd (mVar j) (DL.ret (.int 1))) ρ G = some (some ((k + 1 : Nat) : Int), ρ, G) := by
    unfold mPart bnd
    rw [bin_run (z := .int ((k + 1 : Nat) : Int)) v2 (ret_ap (d := D.int 1)) rfl]
    rfl
  have q1 : mSl (mVar i) (DL.ret none) (mPart (mVar j)) ρ G = some (intsD (d.take k), ρ, G) := by
    unfold mSl bnd
    rw [v1]
    dsimp only
    rw [ret_ap]
    dsimp only
    rw [p1]
    show some (D.tup (cutD (d.map D.int) none (some (k : Int))), ρ, G) = _
    rw [cut_to, ← List.map_take]
    rfl
  have q2 : mSl (mVar i) (mPart (mBin dAdd (mVar j) (DL.ret (.int 1)))) (DL.ret none) ρ G = some (intsD (d.drop (k + 1)), ρ, G) := by
    unfold mSl bnd
    rw [v1]
    dsimp only
    rw [p2]
    dsimp only
    rw [ret_ap]
    show some (D.tup (cutD (d.map D.int) (some ((k + 1 : Nat) : Int)) none), ρ, G) = _
    rw [cut_from, ← List.map_drop]
    rfl
  have q3 : mTup e ρ G = some (intsD [x], ρ, G) := tup_run he (by simp)
  have add : ∀ a b : List Int, a.length + b.length ≤ 1000 → dAdd (intsD a) (intsD b) = some (intsD (a ++ b)) := fun a b h => by
    unfold intsD dAdd
    dsimp only
    rw [if_pos (show szOk _ = true from decide_eq_true (by rw [List.length_map, List.length_map]; omega)), List.map_append]
  have l1 : (d.take k).length = k := by rw [List.length_take]; omega
  have l2 : (d.drop (k + 1)).length = d.length - (k + 1) := List.length_drop
  have e2 : d.set k x = d.take k ++ [x] ++ d.drop (k + 1) := by
    rw [List.set_eq_take_append_cons_drop, if_pos hk]
    simp
  rw [e2]
  exact bin_run (bin_run q1 q3 (add _ _ (by rw [l1]; show k + 1 ≤ 1000; omega))) q2 (add _ _ (by rw [List.length_append, l1, l2]; show k + 1 + _ ≤ 1000; omega))
def pairD (x : Int × Int) : D := .tup [.int x.1, .int x.2]
theorem zip_ints (p q : List Int) : zipD (p.map D.int) (q.map D.int) = (p.zip q).map pairD := by
  unfold zipD
  rw [List.zip_map, List.map_map]
  rfl
theorem zip_run {i j : Nat} {p q : List Int} (hi : ρ[i]? = some (.im (intsD p))) (hj : ρ[j]? = some (.im (intsD q))) : mZip (mVar i) (mVar j) ρ G = some ((p.zip q).map pairD, ρ, G) := by
  unfold mZip bnd
  rw [var_run hi]
  dsimp only
  rw [var_run hj]
  show some (zipD (p.map D.int) (q.map D.int), ρ, G) = _
  rw [zip_ints]
theorem zipN_run {i j : Nat} {p q : List Int} (hi : ρ[i]? = some (.im (intsD p))) (hj : ρ[j]? = some (.im (intsD q))) : mZipN (mVar i) (mVar j) ρ G = some ((p.zip q).map pairD, ρ, G) := by
  unfold mZipN bnd
  rw [var_run hi]
  dsimp only
  rw [var_run hj]
  show some (zipD (p.map D.int) (q.map D.int), ρ, G) = _
  rw [zip_ints]
theorem dMinA_pair (x : Int × Int) : dMinA [pairD x] = some (.int (min x.1 x.2)) := rfl
theorem dMaxA_pair (x : Int × Int) : dMaxA [pairD x] = some (.int (max x.1 x.2)) := rfl
end
end DM

/-! DM: a runner: what a text ends in, step by step. -/
namespace DM
open DL L2
section
variable {α : Type} {x y : α} {l l' : List α} {i n : Nat}
theorem at0 : (x :: l)[0]? = some x := rfl
theorem atS (h : l[i]? = some x) : (y :: l)[i + 1]? = some x := h
theorem st0 : (x :: l).set 0 y = y :: l := rfl
theorem stS (h : l.set i y = l') : (x :: l).set (i + 1) y = x :: l' := by rw [← h]; rfl
theorem lt0 : 0 < (x :: l).length := Nat.succ_pos _
theorem ltS (h : i < l.length) : i + 1 < (x :: l).length := Nat.succ_lt_succ h
end
section
variable {a b c : SE} {p q : SB} {r : SA} {ρ ρ1 ρ2 ρ3 : List Sl} {G G1 G2 G3 : Gs} {d d1 d2 : D} {ds : List D} {n i j : Nat} {S : Sf} {sl sl2 : Sl} {k k1 k2 : Bool}
theorem set_r {a : SF} (h : a ρ G = some (sl, ρ1, G1)) (he : ρ1.set i sl = ρ2) (hi : i < ρ1.length) : sSet i a ρ G = some (.nx ρ2, G1) := by
  rw [← he]
  exact set_run h hi
theorem par_r {a b : SF} (h : a ρ G = some (sl, ρ1, G1)) (h2 : b ρ1 G1 = some (sl2, ρ2, G2)) (he : ρ2.set i sl = ρ3) {ρ4 : List Sl} (he2 : ρ3.set j sl2 = ρ4) (hi : i < ρ2.length) (hj : j < ρ2.length) : sPar i j a b ρ G = some (.nx ρ4, G2) := by
  unfold sPar
  rw [h]
  dsimp only
  rw [h2]
  dsimp only
  rw [if_pos ⟨hi, hj⟩, he, he2]
theorem name_r (he : ρ.set i (.im d) = ρ1) (hi : i < ρ.length) : xName i d ρ G = some (ρ1, G) := by
  unfold xName
  rw [if_pos hi, he]
theorem xnil_r : xsNil [] ρ G = some (ρ, G) := rfl
theorem gset_r (he : ρ.set i (.im d) = ρ1) (hi : i < ρ.length) : gSet i d ρ = some ρ1 := by
  unfold gSet
  rw [if_pos hi, he]
theorem gtup_r {m : SGs} (hn : ds.length = n) (h : m ds ρ = some ρ1) : gTupS n m (.tup ds) ρ = some ρ1 := by
  unfold gTupS
  dsimp only
  rw [if_pos hn]
  exact h
theorem gcons_r {g : SG} {m : SGs} (h : g d ρ = some ρ1) (h2 : m ds ρ1 = some ρ2) : gsCons g m (d :: ds) ρ = some ρ2 := by
  show (g d ρ).bind (fun ρ1 => m ds ρ1) = _
  rw [h]
  exact h2
theorem gnil_r : gsNil [] ρ = some ρ := rfl
theorem lst_r (h : r ρ G = some (ds, ρ1, G1)) (hz : ds.length ≤ 1000000) : mLst r ρ G = some (.lst ds, ρ1, G1) := by
  unfold mLst bnd
  rw [h]
  dsimp only
  unfold lft dLst
  rw [if_pos (show szOk ds.length = true from decide_eq_true hz)]
theorem items_r (h : a ρ G = some (d, ρ1, G1)) (hd : d.items = some ds) : mItems a ρ G = some (ds, ρ1, G1) := by
  unfold mItems bnd
  rw [h]
  dsimp only
  rw [hd]
  rfl
theorem un_r {f : D → Option D} (h : a ρ G = some (d, ρ1, G1)) (hd : f d = some d1) : mUn f a ρ G = some (d1, ρ1, G1) := by
  unfold mUn bnd
  rw [h]
  dsimp only
  rw [hd]
  rfl
theorem peek_r (h : ρ[i]? = some (.im d)) : mPeek i ρ G = some (d, ρ, G) := by
  unfold mPeek
  rw [h]
  rfl
theorem peek1_r (h : ρ[i]? = some (.m1 ds)) : mPeek i ρ G = some (.lst ds, ρ, G) := by
  unfold mPeek
  rw [h]
  rfl
theorem len_r (h : a ρ G = some (d, ρ1, G1)) (hd : dLen1 d = some d1) : mLen a ρ G = some (d1, ρ1, G1) := by
  unfold mLen bnd
  rw [h]
  dsimp only
  rw [hd]
  rfl
theorem len_ints {s : List Int} : dLen1 (intsD s) = some (.int (s.length : Nat)) := by
  show some (D.int ((s.map D.int).length : Nat)) = _
  rw [List.length_map]
theorem dix2_0 {x y : D} : dIx (.tup [x, y]) (.int 0) = some x := rfl
theorem dix2_1 {x y : D} : dIx (.tup [x, y]) (.int 1) = some y := rfl
theorem part_r {a : SE} {z : Int} (h : a ρ G = some (.int z, ρ1, G1)) : mPart a ρ G = some (some z, ρ1, G1) := by
  unfold mPart bnd
  rw [h]
  rfl
theorem sl_r {a : SE} {l h : SO} {lo hi : Option Int} (ha : a ρ G = some (d, ρ1, G1)) (hl : l ρ1 G1 = some (lo, ρ1, G1)) (hh : h ρ1 G1 = some (hi, ρ2, G2)) (hs : dSl d lo hi = some d1) : mSl a l h ρ G = some (d1, ρ2, G2) := by
  unfold mSl bnd
  rw [ha]
  dsimp only
  rw [hl]
  dsimp only
  rw [hh]
  dsimp only
  rw [hs]
  rfl
theorem back_r {a : SE} {l : SO} {lo : Option Int} (ha : a ρ G = some (d, ρ1, G1)) (hl : l ρ1 G1 = some (lo, ρ1, G1)) (hs : dBack d lo = some d1) : mBack a l ρ G = some (d1, ρ1, G1) := by
  unfold mBack bnd
  rw [ha]
  dsimp only
  rw [hl]
  dsimp only
  rw [hs]
  rfl
theorem len_lst {xs : List D} : dLen1 (.lst xs) = some (.int (xs.length : Nat)) := rfl
theorem len_tup {xs : List D} : dLen1 (.tup xs) = some (.int (xs.length : Nat)) := rfl
theorem tup_ints {α : Type} {f : α → Int} {xs : List α} : D.tup (xs.map fun x => D.int (f x)) = intsD (xs.map f) := by
  unfold intsD
  rw [List.map_map]
  rfl
theorem lst_ints {α : Type} {f : α → Int} {xs : List α} : D.lst (xs.map fun x => D.int (f x)) = .lst ((xs.map f).map D.int) := by
  rw [List.map_map]
  rfl
theorem dtuple_i {α : Type} {f : α → Int} {xs : List α} : dTuple [.lst (xs.map fun x => D.int (f x))] = some (intsD (xs.map f)) := congrArg some tup_ints
theorem dtuple_n {α : Type} {f : α → Nat} {xs : List α} : dTuple [.lst (xs.map fun x => natD (f x))] = some (.tup ((xs.map f).map natD)) := by
  rw [List.map_map]
  rfl
theorem dmaxL_i {α : Type} {f : α → Int} {xs : List α} {m : Int} (h : lmax (xs.map f) = some m) : dMaxL [.lst (xs.map fun x => D.int (f x))] = some (.int m) := by
  rw [lst_ints]
  unfold dMaxL
  dsimp only
  rw [intsOf_map]
  show (lmax (xs.map f)).map D.int = _
  rw [h]
  rfl
theorem dminL_i {α : Type} {f : α → Int} {xs : List α} {m : Int} (h : lmin (xs.map f) = some m) : dMinL [.lst (xs.map fun x => D.int (f x))] = some (.int m) := by
  rw [lst_ints]
  unfold dMinL
  dsimp only
  rw [intsOf_map]
  show (lmin (xs.map f)).map D.int = _
  rw [h]
  rfl
theorem items_ints {s : List Int} : (intsD s).items = some (s.map D.int) := rfl
theorem items_tup {xs : List D} : (D.tup xs).items = some xs := rfl
theorem items_lst {xs : List D} : (D.lst xs).items = some xs := rfl
theorem dmin2_mn {f x : Int} : dMin2 [.int f, .int x] = some (.int (mn f x)) := rfl
theorem dmina_2 {a b : Int} : dMinA [.tup [.int a, .int b]] = some (.int (min a b)) := rfl
theorem dmaxa_2 {a b : Int} : dMaxA [.tup [.int a, .int b]] = some (.int (max a b)) := rfl
theorem rng_k (m : Int) (n : Nat) (h : m = n) (hn : n ≤ 1000000) : mRng1 (DL.ret (.int m)) ρ G = some ((List.range n).map natD, ρ, G) := by
  subst h
  exact rng1_ev hn ret_ap
theorem zip_r (h : a ρ G = some (d, ρ1, G1)) (h2 : b ρ1 G1 = some (d1, ρ2, G2)) (hz : dZip d d1 = some ds) : mZip a b ρ G = some (ds, ρ2, G2) := by
  unfold mZip bnd
  rw [h]
  dsimp only
  rw [h2]
  dsimp only
  rw [hz]
  rfl
theorem zipn_r (h : a ρ G = some (d, ρ1, G1)) (h2 : b ρ1 G1 = some (d1, ρ2, G2)) (hz : dZipN d d1 = some ds) : mZipN a b ρ G = some (ds, ρ2, G2) := by
  unfold mZipN bnd
  rw [h]
  dsimp only
  rw [h2]
  dsimp only
  rw [hz]
  rfl
theorem dzip_ints {p q : List Int} : dZip (intsD p) (intsD q) = some ((p.zip q).map fun x => D.tup [.int x.1, .int x.2]) := congrArg some (zip_ints p q)
theorem dzipn_ints {p q : List Int} : dZipN (intsD p) (intsD q) = some ((p.zip q).map fun x => D.tup [.int x.1, .int x.2]) := congrArg some (zip_ints p q)
theorem rng_r (h : a ρ G = some (.int n, ρ1, G1)) (hn : n ≤ 1000000) : mRng1 a ρ G = some ((List.range n).map natD, ρ1, G1) := by
  unfold mRng1 bnd
  rw [h]
  show lft (dRng1 (.int (n : Int))) ρ1 G1 = _
  rw [rng1_nat hn]
  rfl
theorem not_r (h : p ρ G = some (k, ρ1, G1)) : mNot p ρ G = some (!k, ρ1, G1) := by
  unfold mNot bnd
  rw [h]
  rfl
theorem not_t (h : p ρ G = some (true, ρ1, G1)) : mNot p ρ G = some (false, ρ1, G1) := not_r h
theorem not_f (h : p ρ G = some (false, ρ1, G1)) : mNot p ρ G = some (true, ρ1, G1) := not_r h
theorem or_r (h : p ρ G = some (k1, ρ, G)) (h2 : q ρ G = some (k2, ρ, G)) : mOr p q ρ G = some (k1 || k2, ρ, G) := by
  unfold mOr bnd
  rw [h]
  cases k1
  · dsimp only
    rw [if_neg (by decide), h2]
    rfl
  · dsimp only
    rw [if_pos rfl]
    rfl
theorem and_r (h : p ρ G = some (k1, ρ, G)) (h2 : q ρ G = some (k2, ρ, G)) : mAnd p q ρ G = some (k1 && k2, ρ, G) := by
  unfold mAnd bnd
  rw [h]
  cases k1
  · dsimp only
    rw [if_neg (by decide)]
    rfl
  · dsimp only
    rw [if_pos rfl, h2]
    rfl
theorem andV_r (h : a ρ G = some (.bl k1, ρ, G)) (h2 : b ρ G = some (.bl k2, ρ, G)) : mAndV a b ρ G = some (.bl (k1 && k2), ρ, G) := by
  unfold mAndV bnd
  rw [h]
  cases k1
  · rfl
  · exact h2
theorem orV_r (h : a ρ G = some (.bl k1, ρ, G)) (h2 : b ρ G = some (.bl k2, ρ, G)) : mOrV a b ρ G = some (.bl (k1 || k2), ρ, G) := by
  unfold mOrV bnd
  rw [h]
  cases k1
  · exact h2
  · rfl
theorem chain_r {f g : D → D → Option D} {d3 : D} (h : a ρ G = some (d1, ρ, G)) (h2 : b ρ G = some (d2, ρ, G)) (h3 : c ρ G = some (d3, ρ, G)) (hf : f d1 d2 = some (.bl k1)) (hg : g d2 d3 = some (.bl k2)) : mChain f g a b c ρ G = some (.bl (k1 && k2), ρ, G) := by
  unfold mChain bnd
  rw [h]
  dsimp only
  rw [h2]
  dsimp only
  unfold lft
  rw [hf]
  dsimp only
  cases k1
  · rfl
  · dsimp only
    rw [h3]
    dsimp only
    rw [hg]
    rfl
theorem ifT_r (h : p ρ G = some (true, ρ1, G1)) (h2 : a ρ1 G1 = some (d, ρ2, G2)) : mIf p a b ρ G = some (d, ρ2, G2) := by
  unfold mIf bnd
  rw [h]
  exact h2
theorem ifF_r (h : p ρ G = some (false, ρ1, G1)) (h2 : b ρ1 G1 = some (d, ρ2, G2)) : mIf p a b ρ G = some (d, ρ2, G2) := by
  unfold mIf bnd
  rw [h]
  exact h2
theorem next_r : sNext ρ G = some (.nx ρ, G) := rfl
theorem test_n {g : D → Bool} (h : a ρ G = some (d, ρ1, G1)) : mTestN g a ρ G = some (g d, ρ1, G1) := by
  unfold mTestN bnd
  rw [h]
  rfl
/-! ### list displays by a loop -/
theorem wipe0 : wipeS ρ [] = ρ := rfl
theorem wipeC {v : Nat} {vs : List Nat} (h : wipeS ρ vs = ρ1) (h2 : ρ1.set v .un = ρ2) : wipeS ρ (v :: vs) = ρ2 := by
  unfold wipeS
  rw [h, h2]
theorem lc_r {α : Type} (xs : List α) (e f : α → D) {ρx : α → List Sl} {vs : List Nat} {it : SA} {tg : SG} {te : SE} {ρw : List Sl} (hi : it ρ G = some (xs.map e, ρ1, G1)) (hz : xs.length ≤ 1000000) (hk : okW ρ1 vs = true) (hw : wipeS ρ1 vs = ρw)
    (ht : ∀ d ∈ xs, tg (e d) ρw = some (ρx d)) (hx : ∀ d ∈ xs, wipeS (ρx d) vs = ρw) (h : ∀ d ∈ xs, te (ρx d) G1 = some (f d, ρx d, G1)) : mLc vs it tg (DL.ret true) te ρ G = some (.lst (xs.map f), ρ1, G1) := by
  have h0 := mLc_map (vs := vs) (it := DL.ret (xs.map e)) (tg := tg) (te := te) (ρ := ρ1) (G := G1) xs e f rfl hk hz fun d hd => ⟨ρx d, by rw [hw]; exact ht d hd, h d hd, by rw [hw]; exact hx d hd⟩
  unfold mLc bnd at h0 ⊢
  rw [hi]
  exact h0
theorem lcf_r {α : Type} (xs : List α) (e f : α → D) (t : α → Bool) {ρx : α → List Sl} {vs : List Nat} {it : SA} {tg : SG} {tt : SB} {te : SE} {ρw : List Sl} (hi : it ρ G = some (xs.map e, ρ1, G1)) (hz : xs.length ≤ 1000000) (hk : okW ρ1 vs = true) (hw : wipeS ρ1 vs = ρw)
    (ht : ∀ d ∈ xs, tg (e d) ρw = some (ρx d)) (hx : ∀ d ∈ xs, wipeS (ρx d) vs = ρw) (hq : ∀ d ∈ xs, tt (ρx d) G1 = some (t d, ρx d, G1)) (h : ∀ d ∈ xs, t d = true → te (ρx d) G1 = some (f d, ρx d, G1)) : mLc vs it tg tt te ρ G = some (.lst ((xs.filter t).map f), ρ1, G1) := by
  have h0 := mLc_fm (vs := vs) (it := DL.ret (xs.map e)) (tg := tg) (tt := tt) (te := te) (ρ := ρ1) (G := G1) xs e (fun d => if t d = true then some (f d) else none) rfl hk hz fun d hd => ⟨ρx d, by rw [hw]; exact ht d hd, by rw [hw]; exact hx d hd, by
    have := hq d hd
    cases q : t d with
    | false => rw [q] at this; exact .inl ⟨rfl, this⟩
    | true => rw [q] at this; exact .inr ⟨f d, rfl, this, h d hd q⟩⟩
  have e1 : ∀ xs : List α, (xs.filterMap fun d => if t d = true then some (f d) else none) = (xs.filter t).map f := fun xs => by
    induction xs with
    | nil => rfl
    | cons x xs ih =>
      cases q : t x with
      | false => rw [List.filterMap_cons_none (by rw [if_neg (by rw [q]; decide)]), List.filter_cons_of_neg (by rw [q]; decide), ih]
      | true => rw [List.filterMap_cons_some (by rw [if_pos q]), List.filter_cons_of_pos q, ih]; rfl
  rw [e1] at h0
  unfold mLc bnd at h0 ⊢
  rw [hi]
  exact h0
end
/-! ### what a text ends in -/
def Ends (o : Option (Fl × Gs)) (Q : Fl → Gs → Prop) : Prop := ∃ r G, o = some (r, G) ∧ Q r G
section
variable {Q : Fl → Gs → Prop} {a b : SS} {m m2 : SE} {c : SB} {ρ ρ1 ρ2 : List Sl} {G G1 G2 : Gs} {d : D} {ds : List D} {k : Bool} {it : SA} {tg : SX} {body : SS}
theorem Ends.nx (h : a ρ G = some (.nx ρ1, G1)) (hq : Q (.nx ρ1) G1) : Ends (a ρ G) Q := ⟨_, _, h, hq⟩
theorem Ends.seq (h : a ρ G = some (.nx ρ1, G1)) (h2 : Ends (b ρ1 G1) Q) : Ends (sSeq a b ρ G) Q := by
  rw [seq_nx h]
  exact h2
theorem Ends.seqE (h : Ends (a ρ G) fun r G1 => ∃ ρ1, r = .nx ρ1 ∧ Ends (b ρ1 G1) Q) : Ends (sSeq a b ρ G) Q := by
  obtain ⟨r, G1, e, ρ1, rfl, h2⟩ := h
  rw [seq_nx e]
  exact h2
theorem Ends.ret (h : m ρ G = some (d, ρ1, G1)) (hq : Q (.rt d) G1) : Ends (sRet m ρ G) Q := ⟨_, _, ret_run h, hq⟩
theorem Ends.no (h : c ρ G = some (k, ρ1, G1)) (hk : k = false) (h2 : Ends (b ρ1 G1) Q) : Ends (sIf c a b ρ G) Q := by
  subst hk
  rw [if_false h]
  exact h2
theorem Ends.yes (h : c ρ G = some (k, ρ1, G1)) (hk : k = true) (h2 : Ends (a ρ1 G1) Q) : Ends (sIf c a b ρ G) Q := by
  subst hk
  rw [if_true h]
  exact h2
theorem Ends.skip (h : c ρ G = some (k, ρ1, G1)) (hk : k = false) (h2 : Ends (b ρ1 G1) Q) : Ends (sSeq (sIf c a sNext) b ρ G) Q := by
  subst hk
  rw [seq_nx (ρ1 := ρ1) (G1 := G1) (by rw [if_false h]; rfl)]
  exact h2
theorem Ends.guard {m : SE} (h : c ρ G = some (k, ρ1, G1)) (h1 : k = true → Ends (sRet m ρ1 G1) Q) (h2 : k = false → Ends (b ρ1 G1) Q) : Ends (sSeq (sIf c (sRet m) sNext) b ρ G) Q := by
  cases k with
  | false => exact .skip h rfl (h2 rfl)
  | true =>
    obtain ⟨r, G2, e, hq⟩ := h1 rfl
    cases q : m ρ1 G1 with
    | none => unfold sRet at e; rw [q] at e; cases e
    | some z =>
      obtain ⟨d, ρ2, G3⟩ := z
      have e2 : sRet m ρ1 G1 = some (.rt d, G3) := ret_run q
      rw [e2] at e
      cases e
      exact ⟨_, _, seq_rt (by rw [if_true h]; exact e2), hq⟩
theorem Ends.ite (h : c ρ G = some (k, ρ1, G1)) (h1 : k = true → Ends (a ρ1 G1) Q) (h2 : k = false → Ends (b ρ1 G1) Q) : Ends (sIf c a b ρ G) Q := by
  cases k with
  | true => rw [if_true h]; exact h1 rfl
  | false => rw [if_false h]; exact h2 rfl
theorem Ends.loop (I : Nat → List Sl → Gs → Prop) (hit : it ρ G = some (ds, ρ1, G1)) (h0 : I 0 ρ1 G1) (hr : ∀ ρ' G', I ds.length ρ' G' → Q (.nx ρ') G')
    (hs : ∀ i d, ds[i]? = some d → ∀ ρ G, I i ρ G → ∃ ρ1 G1, tg d ρ G = some (ρ1, G1) ∧ Ends (body ρ1 G1) fun r G2 => ∃ ρ2, r = .nx ρ2 ∧ I (i + 1) ρ2 G2) : Ends (sFor it tg body ρ G) Q := by
  obtain ⟨ρ', G', e, h⟩ := for_inv (tg := tg) (body := body) ds 0 (fun k => I k) ρ1 G1 h0 fun i d hd ρ G hI => by
    rw [Nat.zero_add] at hI ⊢
    obtain ⟨ρ1, G1, e1, r, G2, e2, ρ2, rfl, h2⟩ := hs i d hd ρ G hI
    exact ⟨ρ1, G1, ρ2, G2, e1, e2, h2⟩
  rw [Nat.zero_add] at h
  exact ⟨.nx ρ', G', by rw [for_run hit]; exact e, hr ρ' G' h⟩
theorem Ends.for (I : Nat → List Sl → Gs → Prop) (hit : it ρ G = some (ds, ρ1, G1)) (h0 : I 0 ρ1 G1) (hr : ∀ ρ' G', I ds.length ρ' G' → Ends (b ρ' G') Q)
    (hs : ∀ i d, ds[i]? = some d → ∀ ρ G, I i ρ G → ∃ ρ1 G1, tg d ρ G = some (ρ1, G1) ∧ Ends (body ρ1 G1) fun r G2 => ∃ ρ2, r = .nx ρ2 ∧ I (i + 1) ρ2 G2) : Ends (sSeq (sFor it tg body) b ρ G) Q :=
  .seqE (.loop I hit h0 (fun ρ' G' h => ⟨ρ', rfl, hr ρ' G' h⟩) hs)
end
/-- what a def gives -/
theorem def_e {n N : Nat} {body : SS} {ds : List D} {G : Gs} {P : D → Gs → Prop} (hl : ds.length = n) (h : Ends (body (ds.map Sl.im ++ List.replicate (N - n) .un) G) fun r G1 => ∃ d, r = .rt d ∧ P d G1) : ∃ d G', mDef n N body ds G = some (d, G') ∧ P d G' := by
  obtain ⟨r, G1, e, d, rfl, hp⟩ := h
  exact ⟨d, G1, def_rt hl e, hp⟩
theorem def_v {n N : Nat} {body : SS} {ds : List D} {G G' : Gs} {d : D} (hl : ds.length = n) (h : Ends (body (ds.map Sl.im ++ List.replicate (N - n) .un) G) fun r G1 => r = .rt d ∧ G1 = G') : mDef n N body ds G = some (d, G') := by
  obtain ⟨r, G1, e, rfl, rfl⟩ := h
  exact def_rt hl e
theorem def_n {n N : Nat} {body : SS} {ds : List D} {G G' : Gs} (hl : ds.length = n) (h : Ends (body (ds.map Sl.im ++ List.replicate (N - n) .un) G) fun r G1 => (∃ ρ, r = .nx ρ) ∧ G1 = G') : mDef n N body ds G = some (.non, G') := by
  obtain ⟨r, G1, e, ⟨ρ, rfl⟩, rfl⟩ := h
  exact def_nx hl e
theorem def_t {n N : Nat} {body : SS} {ds : List D} {G : Gs} {d : D} (hl : ds.length = n) (h : Ends (body (ds.map Sl.im ++ List.replicate (N - n) .un) G) fun r _ => r = .rt d) : ∃ G', mDef n N body ds G = some (d, G') := by
  obtain ⟨r, G1, e, rfl⟩ := h
  exact ⟨G1, def_rt hl e⟩
/-- told and due are the same -/
def Same (S : Sf) : Prop := ∀ d, okD 8 d = true → ∀ G, S [d, d] G = some (.bl true, G)
theorem Ends.check {S : Sf} (hS : Same S) {Q : Fl → Gs → Prop} {a b : SE} {rest : SS} {ρ ρ1 ρ2 : List Sl} {G G1 G2 : Gs} {d d' : D} (h1 : a ρ G = some (d, ρ1, G1)) (h2 : b ρ1 G1 = some (d', ρ2, G2)) (he : d = d') (hd : okD 8 d' = true) (hr : Ends (rest ρ2 G2) Q) :
    Ends (sSeq (sIf (mNot (mTest (mFn 2 S (mCons a (mCons b mNil))))) (sRet (DL.ret (.bl false))) sNext) rest ρ G) Q := by
  subst he
  exact .skip (not_r (test_run (mFn_run (cons_run h1 (cons_run h2 mNil_ap)) rfl (hS d hd G2)))) rfl hr
theorem Ends.checkL {S : Sf} (hS : Same S) {Q : Fl → Gs → Prop} {a b : SE} {ρ ρ1 ρ2 : List Sl} {G G1 G2 : Gs} {d d' : D} (h1 : a ρ G = some (d, ρ1, G1)) (h2 : b ρ1 G1 = some (d', ρ2, G2)) (he : d = d') (hd : okD 8 d' = true) (hr : Q (.nx ρ2) G2) :
    Ends (sIf (mNot (mTest (mFn 2 S (mCons a (mCons b mNil))))) (sRet (DL.ret (.bl false))) sNext ρ G) Q := by
  subst he
  exact .no (not_r (test_run (mFn_run (cons_run h1 (cons_run h2 mNil_ap)) rfl (hS d hd G2)))) rfl (.nx next_r hr)
theorem same_r {S : Sf} (hS : Same S) {a b : SE} {ρ ρ1 ρ2 : List Sl} {G G1 G2 : Gs} {d d' : D} (h1 : a ρ G = some (d, ρ1, G1)) (h2 : b ρ1 G1 = some (d', ρ2, G2)) (he : d = d') (hd : okD 8 d' = true) : mFn 2 S (mCons a (mCons b mNil)) ρ G = some (.bl true, ρ2, G2) := by
  subst he
  exact mFn_run (cons_run h1 (cons_run h2 mNil_ap)) rfl (hS d hd G2)
end DM

/-! DM: two rows of ints, side by side. -/
namespace DM
open DL L2
theorem set_in {n : Nat} {f x : Int} {s : List Int} {k : Nat} (hs : InR n f s) (h0 : 0 ≤ x) (h1 : x ≤ f) : InR n f (s.set k x) := ⟨by rw [List.length_set]; exact hs.1, fun y hy => by
  rcases List.mem_or_eq_of_mem_set hy with h | h
  · exact hs.2 y h
  · rw [h]; exact ⟨h0, h1⟩⟩
theorem in1 {n : Nat} {f a : Int} (hn : n = 1) (a0 : 0 ≤ a) (af : a ≤ f) : InR n f [a] := ⟨hn.symm, fun x hx => by
  have : x = a := by simpa using hx
  omega⟩
theorem in2 {n : Nat} {f a b : Int} (hn : n = 2) (a0 : 0 ≤ a) (af : a ≤ f) (b0 : 0 ≤ b) (bf : b ≤ f) : InR n f [a, b] := ⟨hn.symm, fun x hx => by
  have : x = a ∨ x = b := by simpa using hx
  omega⟩
theorem zip_at {s t : List Int} {i : Nat} {z : Int} {f : Int × Int → Int} (h : ((s.zip t).map f)[i]? = some z) : ∃ x y, s[i]? = some x ∧ t[i]? = some y ∧ z = f (x, y) := by
  rw [List.getElem?_map] at h
  obtain ⟨⟨x, y⟩, hq, e⟩ := Option.map_eq_some_iff.mp h
  rw [List.getElem?_zip_eq_some] at hq
  exact ⟨x, y, hq.1, hq.2, e.symm⟩
theorem zip_eq {s t : List Int} {i : Nat} {x y : Int} (h : s[i]? = some x) (g : t[i]? = some y) : (s.zip t)[i]? = some (x, y) := List.getElem?_zip_eq_some.mpr ⟨h, g⟩
theorem zip_of {s t : List Int} {i : Nat} {x : Int} {f : Int × Int → Int} (hl : s.length = t.length) (h : s[i]? = some x) : ∃ y, t[i]? = some y ∧ ((s.zip t).map f)[i]? = some (f (x, y)) := by
  have hi : i < s.length := (List.getElem?_eq_some_iff.mp h).1
  refine ⟨t[i]'(by omega), List.getElem?_eq_getElem _, ?_⟩
  rw [List.getElem?_map, zip_eq h (List.getElem?_eq_getElem (by omega))]
  rfl
theorem zip_of2 {s t : List Int} {i : Nat} {y : Int} {f : Int × Int → Int} (hl : s.length = t.length) (h : t[i]? = some y) : ∃ x, s[i]? = some x ∧ ((s.zip t).map f)[i]? = some (f (x, y)) := by
  have hi : i < t.length := (List.getElem?_eq_some_iff.mp h).1
  refine ⟨s[i]'(by omega), List.getElem?_eq_getElem _, ?_⟩
  rw [List.getElem?_map, zip_eq (List.getElem?_eq_getElem (by omega)) h]
  rfl
theorem mem_at {s : List Int} {x : Int} (h : x ∈ s) : ∃ i : Nat, s[i]? = some x := List.getElem?_of_mem h
theorem zip_in {n : Nat} {lo : Int} {s t : List Int} {f : Int × Int → Int} (hs : InR n lo s) (ht : InR n lo t) (h : ∀ x y, 0 ≤ x → x ≤ lo → 0 ≤ y → y ≤ lo → 0 ≤ f (x, y) ∧ f (x, y) ≤ lo) : InR n lo ((s.zip t).map f) := ⟨by
    have h1 := hs.1
    have h2 := ht.1
    rw [List.length_map, List.length_zip]
    omega, fun z hz => by
    obtain ⟨i, hi⟩ := mem_at hz
    obtain ⟨x, y, hx, hy, e⟩ := zip_at hi
    rw [e]
    have a := hs.2 x (List.mem_of_getElem? hx)
    have b := ht.2 y (List.mem_of_getElem? hy)
    exact h x y a.1 a.2 b.1 b.2⟩
theorem iat_zip {p q : List Int} {f : Int × Int → Int} {i : Nat} (hi : i < p.length) (hl : p.length = q.length) : iat ((p.zip q).map f) i = f (iat p i, iat q i) := by
  obtain ⟨y, h1, h2⟩ := zip_of (f := f) (t := q) hl (List.getElem?_eq_getElem hi)
  unfold iat
  rw [h2, h1, List.getElem?_eq_getElem hi]
  rfl
end DM

/-! DM: judges of any data. -/
namespace DM
open DL L2
local macro_rules | `(tactic| trivial) => `(tactic| (first | (with_reducible apply var_run; (repeat (with_reducible apply atS)); with_reducible exact at0) | (with_reducible apply peek_r; (repeat (with_reducible apply atS)); with_reducible exact at0) | (with_reducible apply peek1_r; (repeat (with_reducible apply atS)); with_reducible exact at0) | (with_reducible apply peekT_r; (repeat (with_reducible apply atS)); with_reducible exact at0) | (with_reducible apply var1_r; focus ((repeat (with_reducible apply atS)); with_reducible exact at0)) | with_reducible exact mNil_ap | with_reducible exact ret_ap | with_reducible exact ixF0 | with_reducible exact ixF1 | with_reducible exact ixF2 | with_reducible exact ixF3 | with_reducible exact len_kvs | with_reducible exact len_ints | with_reducible exact len_lst | with_reducible exact len_tup | with_reducible exact dzip_ints | with_reducible exact dzipn_ints | with_reducible exact dtuple_i | with_reducible exact dtuple_n | with_reducible exact items_ints | with_reducible exact items_tup | with_reducible exact items_lst | with_reducible exact dmin2_mn | with_reducible exact dmina_2 | with_reducible exact dmaxa_2 | with_reducible exact dix2_0 | with_reducible exact dix2_1 | with_reducible exact dix3_0 | with_reducible exact dix3_1 | with_reducible exact dix3_2 | with_reducible exact dix4_0 | with_reducible exact dix4_1 | with_reducible exact dix4_2 | with_reducible exact dix4_3 | with_reducible exact st0 | with_reducible exact lt0 | with_reducible exact ne_nil | with_reducible exact eq_nil | with_reducible exact isis | with_reducible exact isnot | with_reducible exact at0 | with_reducible exact wipe0 | with_reducible exact xnil_r | with_reducible exact gnil_r | with_reducible exact next_r | with_reducible apply atS | with_reducible apply stS | with_reducible apply ltS | with_reducible apply wipeC | with_reducible apply cons_run | with_reducible apply tup_run | with_reducible apply lst_r | with_reducible apply bin_run | with_reducible apply mFn_run | with_reducible apply call_run | with_reducible apply im_run | with_reducible apply set_r | with_reducible apply par_r | with_reducible apply asg_run | with_reducible apply name_r | with_reducible apply xtup_run | with_reducible apply xcons_run | with_reducible apply gset_r | with_reducible apply gtup_r | with_reducible apply gcons_r | with_reducible apply items_r | with_reducible apply un_r | with_reducible apply len_r | with_reducible apply sl_r | with_reducible apply part_r | with_reducible apply back_r | with_reducible apply zip_r | with_reducible apply zipn_r | with_reducible apply rng_r | with_reducible apply test_run | with_reducible apply not_r | with_reducible apply not_t | with_reducible apply not_f | with_reducible apply test_n | with_reducible apply ret_run | with_reducible apply expr_run | with_reducible apply lstN_r | with_reducible apply binN_r | with_reducible apply dadd_lst | with_reducible apply daddN_lst | with_reducible apply lc_r | ((with_reducible show dNeg _ = _); exact rfl) | ((with_reducible show dAdd _ _ = _); exact rfl) | ((with_reducible show dSub _ _ = _); exact rfl) | ((with_reducible show dLt _ _ = _); exact rfl) | ((with_reducible show dLe _ _ = _); exact rfl) | ((with_reducible show dGt _ _ = _); exact rfl) | ((with_reducible show dGe _ _ = _); exact rfl) | ((with_reducible show dIs _ _ = _); exact rfl) | ((with_reducible show dIsNot _ _ = _); exact rfl) | ((with_reducible show dMin2 _ = _); exact rfl) | ((with_reducible show dMax2 _ = _); exact rfl) | ((with_reducible show dTuple _ = _); exact rfl) | ((with_reducible show dList _ = _); exact rfl) | ((with_reducible show dAbs _ = _); exact rfl) | ((with_reducible show D.items _ = _); exact rfl) | ((with_reducible show dLen1 _ = _); exact rfl) | ((with_reducible show List.length _ = _); exact rfl) | ((with_reducible show okW _ _ = _); exact rfl) | ((with_reducible show dIx _ _ = _); exact rfl) | ((with_reducible show szOk _ = _); exact rfl) | (show _ ≤ _; with_reducible assumption) | ((with_reducible show List.length _ + List.length _ ≤ 1000000); exact Nat.le_of_ble_eq_true rfl) | ((with_reducible show List.length _ ≤ 1000000); exact Nat.le_of_ble_eq_true rfl) | ((with_reducible show ∀ _ ∈ _, _ = _); intro _ _)))
section
variable {a b c : SE} {p q : SB} {r : SA} {ρ ρ1 ρ2 ρw : List Sl} {G G1 G2 : Gs} {d d1 d2 : D} {ds xs : List D} {n i j v : Nat} {k : Bool} {it : SA} {tt : SB} {te : SE} {tg : SG} {vs : List Nat}
theorem or_t (h : p ρ G = some (true, ρ1, G1)) : mOr p q ρ G = some (true, ρ1, G1) := by
  unfold mOr bnd
  rw [h]
  rfl
theorem or_ff (h : p ρ G = some (false, ρ1, G1)) (h2 : q ρ1 G1 = some (k, ρ2, G2)) : mOr p q ρ G = some (k, ρ2, G2) := by
  unfold mOr bnd
  rw [h]
  exact h2
theorem andV_t (h : a ρ G = some (.bl true, ρ1, G1)) (h2 : b ρ1 G1 = some (d, ρ2, G2)) : mAndV a b ρ G = some (d, ρ2, G2) := by
  unfold mAndV bnd
  rw [h]
  exact h2
theorem andV_f (h : a ρ G = some (.bl false, ρ1, G1)) : mAndV a b ρ G = some (.bl false, ρ1, G1) := by
  unfold mAndV bnd
  rw [h]
  rfl
/-- p or q, both told by what they say -/
theorem or_s {k1 k2 : Bool} (h : p ρ G = some (k1, ρ, G)) (h2 : k1 = false → q ρ G = some (k2, ρ, G)) : mOr p q ρ G = some (k1 || k2, ρ, G) := by
  cases k1 with
  | true => exact or_t h
  | false => exact or_ff h (h2 rfl)
theorem andV_s {k1 k2 : Bool} (h : a ρ G = some (.bl k1, ρ, G)) (h2 : k1 = true → b ρ G = some (.bl k2, ρ, G)) : mAndV a b ρ G = some (.bl (k1 && k2), ρ, G) := by
  cases k1 with
  | true => exact andV_t h (h2 rfl)
  | false => exact andV_f h
theorem lcd_r (xs : List D) (f : D → D) {ρx : D → List Sl} (hi : it ρ G = some (xs, ρ1, G1)) (hz : xs.length ≤ 1000000) (hk : okW ρ1 vs = true) (hw : wipeS ρ1 vs = ρw)
    (ht : ∀ d ∈ xs, tg d ρw = some (ρx d)) (hx : ∀ d ∈ xs, wipeS (ρx d) vs = ρw) (h : ∀ d ∈ xs, te (ρx d) G1 = some (f d, ρx d, G1)) : mLc vs it tg (DL.ret true) te ρ G = some (.lst (xs.map f), ρ1, G1) :=
  lc_r xs id f (by rw [List.map_id]; exact hi) hz hk hw ht hx h
theorem lcfd_r (xs : List D) (f : D → D) (t : D → Bool) {ρx : D → List Sl} (hi : it ρ G = some (xs, ρ1, G1)) (hz : xs.length ≤ 1000000) (hk : okW ρ1 vs = true) (hw : wipeS ρ1 vs = ρw)
    (ht : ∀ d ∈ xs, tg d ρw = some (ρx d)) (hx : ∀ d ∈ xs, wipeS (ρx d) vs = ρw) (hq : ∀ d ∈ xs, tt (ρx d) G1 = some (t d, ρx d, G1)) (h : ∀ d ∈ xs, t d = true → te (ρx d) G1 = some (f d, ρx d, G1)) : mLc vs it tg tt te ρ G = some (.lst ((xs.filter t).map f), ρ1, G1) :=
  lcf_r xs id f t (by rw [List.map_id]; exact hi) hz hk hw ht hx hq h
/-- [odd for odd in odds if judge(odd) is not b]: none -/
theorem none_r {b : Bool} {ρx : D → List Sl} (hi : it ρ G = some (xs, ρ1, G1)) (hz : xs.length ≤ 1000000) (hk : okW ρ1 vs = true) (hw : wipeS ρ1 vs = ρw)
    (ht : ∀ d ∈ xs, tg d ρw = some (ρx d)) (hx : ∀ d ∈ xs, wipeS (ρx d) vs = ρw) (hc : ∀ d ∈ xs, c (ρx d) G1 = some (.bl b, ρx d, G1)) : mLc vs it tg (mTest (mBin dIsNot c (DL.ret (.bl b)))) te ρ G = some (.lst [], ρ1, G1) := by
  have := lcfd_r (te := te) (tt := mTest (mBin dIsNot c (DL.ret (.bl b)))) xs id (fun _ => false) hi hz hk hw ht hx (fun d hd => test_run (bin_run (hc d hd) (ret_ap (d := D.bl b)) (by cases b <;> rfl))) (fun d _ h => by cases h)
  have e : xs.filter (fun _ => false) = [] := List.filter_eq_nil_iff.mpr fun _ _ => by simp
  rw [e] at this
  exact this
theorem all_map {α : Type} {xs : List α} {f : α → Bool} : dAll [.lst (xs.map fun x => .bl (f x))] = some (.bl (xs.all f)) := dAll_map xs f
end
/-! ### whole numbers, tuples -/
def Sh : D → Bool
  | .scr _ => false
  | .hnd _ => false
  | .dk _ => false
  | .dt _ => false
  | _ => true
def wholeB (lo hi : Int) : D → Bool
  | .int v => decide (lo ≤ v) && decide (v ≤ hi)
  | _ => false
def tupB (lo hi : Int) : D → Bool
  | .tup xs => decide (lo ≤ xs.length) && decide ((xs.length : Int) ≤ hi)
  | _ => false
section
variable {G : Gs}
theorem is_whole_any {d : D} (h : Sh d = true) (lo hi : Int) : is_whole [d, .int lo, .int hi] G = some (.bl (wholeB lo hi d), G) := by
  cases d with
  | int v => exact is_whole_int v lo hi
  | scr _ => cases h
  | hnd _ => cases h
  | dk _ => cases h
  | dt _ => cases h
  | _ => simp [is_whole, mDef, sSeq, sIf, sSet, sAsg, sAsg2, sPar, sAug, sApp, sPut, sNext, sBreak, sCont, sNever, sRet, sRetN, sShare, sExpr, xName, xIx, xIx2, xTup, xsCons, xsNil, setIx, setIx2, isM2, has, mIm_ap, mVar, mPeek, mSolid_ap, mBin_ap, mBinN_ap, mUn_ap, mCall_ap, mCallN_ap, mCons_ap, mNil_ap, mTup_ap, mLst_ap, mLstN_ap, mTest_ap, mTestN_ap, mAnd_ap, mOr_ap, mNot_ap, mAndV_ap, mOrV_ap, mIf_ap, mChain_ap, mIsi_ap, mLen_ap, mIxH, mSl_ap, mPart_ap, mItems_ap, mRng1_ap, mRng2_ap, mZip_ap, mFn, bnd_ap, lft_ap, ret_ap, dTup, dLst, dLstN, dAdd, dAddN, dSub, dMul, dMulN, dFdiv, dMod, dPow, dNeg, dNot, dLe, dLt, dGt, dGe, dIs, dIsNot, D.isN, D.isTy, dix4_0, dix4_1, dix4_2, dix4_3, dix3_0, dix3_1, dix3_2, atI, ixN, Sl.d, dLen1, dAbs, dMax2, dMin2, dInt, dTuple, dList, dListN, D.items, gSet, gTupS, gsCons, gsNil, D.solid, szOk, wipeS, mSortedD_ap, wholeB]
theorem is_tuple_any {d : D} (h : Sh d = true) (lo hi : Int) : is_tuple_of [d, .int lo, .int hi] G = some (.bl (tupB lo hi d), G) := by
  cases d with
  | tup xs => exact is_tuple_of_tup xs lo hi
  | scr _ => cases h
  | hnd _ => cases h
  | dk _ => cases h
  | dt _ => cases h
  | _ => simp [is_tuple_of, mDef, sSeq, sIf, sSet, sAsg, sAsg2, sPar, sAug, sApp, sPut, sNext, sBreak, sCont, sNever, sRet, sRetN, sShare, sExpr, xName, xIx, xIx2, xTup, xsCons, xsNil, setIx, setIx2, isM2, has, mIm_ap, mVar, mPeek, mSolid_ap, mBin_ap, mBinN_ap, mUn_ap, mCall_ap, mCallN_ap, mCons_ap, mNil_ap, mTup_ap, mLst_ap, mLstN_ap, mTest_ap, mTestN_ap, mAnd_ap, mOr_ap, mNot_ap, mAndV_ap, mOrV_ap, mIf_ap, mChain_ap, mIsi_ap, mLen_ap, mIxH, mSl_ap, mPart_ap, mItems_ap, mRng1_ap, mRng2_ap, mZip_ap, mFn, bnd_ap, lft_ap, ret_ap, dTup, dLst, dLstN, dAdd, dAddN, dSub, dMul, dMulN, dFdiv, dMod, dPow, dNeg, dNot, dLe, dLt, dGt, dGe, dIs, dIsNot, D.isN, D.isTy, dix4_0, dix4_1, dix4_2, dix4_3, dix3_0, dix3_1, dix3_2, atI, ixN, Sl.d, dLen1, dAbs, dMax2, dMin2, dInt, dTuple, dList, dListN, D.items, gSet, gTupS, gsCons, gsNil, D.solid, szOk, wipeS, mSortedD_ap, tupB]
end
theorem tupB_iff {lo hi : Int} {d : D} (h : tupB lo hi d = true) : ∃ xs, d = .tup xs ∧ lo ≤ xs.length ∧ (xs.length : Int) ≤ hi := by
  cases d with
  | tup xs =>
    have := Bool.and_eq_true_iff.mp (show (decide (lo ≤ xs.length) && decide ((xs.length : Int) ≤ hi)) = true from h)
    exact ⟨xs, rfl, of_decide_eq_true this.1, of_decide_eq_true this.2⟩
  | _ => cases h
theorem wholeB_iff {lo hi : Int} {d : D} (h : wholeB lo hi d = true) : ∃ v, d = .int v ∧ lo ≤ v ∧ v ≤ hi := by
  cases d with
  | int v =>
    have := Bool.and_eq_true_iff.mp (show (decide (lo ≤ v) && decide (v ≤ hi)) = true from h)
    exact ⟨v, rfl, of_decide_eq_true this.1, of_decide_eq_true this.2⟩
  | _ => cases h
theorem len2 {α : Type} {xs : List α} (h : xs.length = 2) : ∃ a b, xs = [a, b] := by
  match xs, h with
  | [a, b], _ => exact ⟨a, b, rfl⟩
theorem len3 {α : Type} {xs : List α} (h : xs.length = 3) : ∃ a b c, xs = [a, b, c] := by
  match xs, h with
  | [a, b, c], _ => exact ⟨a, b, c, rfl⟩
theorem len4 {α : Type} {xs : List α} (h : xs.length = 4) : ∃ a b c d, xs = [a, b, c, d] := by
  match xs, h with
  | [a, b, c, d], _ => exact ⟨a, b, c, d, rfl⟩
/-- plain to some depth -/
def Pl : Nat → D → Bool
  | 0, _ => false
  | j + 1, .tup ds => decide (ds.length ≤ 1000) && ds.all (Pl j)
  | j + 1, .lst ds => decide (ds.length ≤ 1000) && ds.all (Pl j)
  | _ + 1, .scr _ => false
  | _ + 1, .hnd _ => false
  | _ + 1, .dk _ => false
  | _ + 1, .dt _ => false
  | _ + 1, _ => true
theorem Pl.sh {j : Nat} {d : D} (h : Pl j d = true) : Sh d = true := by
  cases j with
  | zero => cases h
  | succ j =>
    cases d with
    | scr _ => cases h
    | hnd _ => cases h
    | dk _ => cases h
    | dt _ => cases h
    | _ => rfl
theorem Pl.tup {j : Nat} {ds : List D} (h : Pl (j + 1) (.tup ds) = true) : ds.length ≤ 1000 ∧ ∀ d ∈ ds, Pl j d = true := by
  have := Bool.and_eq_true_iff.mp (show (decide (ds.length ≤ 1000) && ds.all (Pl j)) = true from h)
  exact ⟨of_decide_eq_true this.1, List.all_eq_true.mp this.2⟩
/-! ### limbs, figures -/
def ltB : D → D → Bool
  | .int a, .int b => decide (a < b)
  | _, _ => false
def limbB (n : Int) : D → Bool
  | .tup [a, b, c] => wholeB 0 (n - 1) a && wholeB 0 (n - 1) b && ltB a b && wholeB 1 9 c
  | _ => false
section
variable {G : Gs}
theorem limbB_no {n : Int} {d : D} (h : tupB 3 3 d = false) : limbB n d = false := by
  unfold limbB
  split
  · cases h
  · rfl
theorem fits_limb_any {n : Int} {d : D} (h : Pl 2 d = true) : fits_limb [.int n, d] G = some (.bl (limbB n d), G) := by
  have e1 := is_tuple_any (G := G) (Pl.sh h) 3 3
  unfold fits_limb
  refine def_v rfl ?_
  simp only [List.map_cons, List.map_nil, Nat.reduceSub, List.replicate, List.cons_append, List.nil_append]
  cases q : tupB 3 3 d with
  | false =>
    rw [q] at e1
    rw [limbB_no q]
    apply Ends.guard
    · apply or_t
      (repeat' (first | (show _ = _; with_reducible assumption) | trivial))
    · intro _
      exact .ret ret_ap ⟨rfl, rfl⟩
    · intro z; cases z
  | true =>
    rw [q] at e1
    obtain ⟨xs, rfl, l1, l2⟩ := tupB_iff q
    obtain ⟨x, y, z, rfl⟩ := len3 (xs := xs) (by omega)
    obtain ⟨_, hp⟩ := Pl.tup h
    have e2 := is_whole_any (G := G) (Pl.sh (hp x (by simp))) 0 (n - 1)
    have e3 := is_whole_any (G := G) (Pl.sh (hp y (by simp))) 0 (n - 1)
    have e4 := is_whole_any (G := G) (Pl.sh (hp z (by simp))) 1 9
    apply Ends.guard (k := !wholeB 0 (n - 1) x || !wholeB 0 (n - 1) y)
    · apply or_ff
      · (repeat' (first | (show _ = _; with_reducible assumption) | trivial))
      · apply or_s
        · (repeat' (first | (show _ = _; with_reducible assumption) | trivial))
        · intro _
          (repeat' (first | (show _ = _; with_reducible assumption) | trivial))
    · intro hk
      refine .ret ret_ap ⟨?_, rfl⟩
      have : limbB n (.tup [x, y, z]) = false := by
        show (wholeB 0 (n - 1) x && wholeB 0 (n - 1) y && ltB x y && wholeB 1 9 z) = false
        revert hk
        cases wholeB 0 (n - 1) x <;> cases wholeB 0 (n - 1) y <;> simp
      rw [this]
    · intro hk
      have wx : wholeB 0 (n - 1) x = true := by revert hk; cases wholeB 0 (n - 1) x <;> simp
      have wy : wholeB 0 (n - 1) y = true := by revert hk; cases wholeB 0 (n - 1) y <;> simp
      obtain ⟨i, rfl, _⟩ := wholeB_iff wx
      obtain ⟨j, rfl, _⟩ := wholeB_iff wy
      apply Ends.ret
      · apply andV_s (k1 := ltB (.int i) (.int j)) (k2 := wholeB 1 9 z)
        · (repeat' (first | (show _ = _; with_reducible assumption) | trivial))
        · intro _
          (repeat' (first | (show _ = _; with_reducible assumption) | trivial))
      · refine ⟨?_, rfl⟩
        show _ = Fl.rt (.bl (wholeB 0 (n - 1) (.int i) && wholeB 0 (n - 1) (.int j) && ltB (.int i) (.int j) && wholeB 1 9 z))
        rw [wx, wy]
        rfl
def fstI : D → Int
  | .int v => v
  | _ => 0
def fst2 : D → List Int
  | .tup (.int a :: .int b :: _) => [a, b]
  | _ => []
def risB (xs : List D) : Bool := (xs.zip xs.tail).all fun p => HT.lexLt (fst2 p.1) (fst2 p.2)
def figB : D → Bool
  | .tup [a, .tup ls, .tup ts, f] => wholeB 1 8 a && wholeB 1 30 f && tupB 0 12 (.tup ls) && ls.all (limbB (fstI a)) && risB ls && tupB 1 6 (.tup ts) && ts.all (wholeB 0 (fstI a - 1))
  | _ => false
theorem limbB_iff {n : Int} {d : D} (h : limbB n d = true) : ∃ a b c : Int, d = .tup [.int a, .int b, .int c] ∧ 0 ≤ a ∧ a < b ∧ b < n ∧ 1 ≤ c ∧ c ≤ 9 := by
  unfold limbB at h
  split at h
  · rename_i a b c
    simp only [Bool.and_eq_true] at h
    obtain ⟨⟨⟨h1, h2⟩, h3⟩, h4⟩ := h
    obtain ⟨i, rfl, p1, p2⟩ := wholeB_iff h1
    obtain ⟨j, rfl, q1, q2⟩ := wholeB_iff h2
    obtain ⟨c, rfl, r1, r2⟩ := wholeB_iff h4
    have : i < j := of_decide_eq_true h3
    exact ⟨i, j, c, rfl, p1, this, by omega, r1, r2⟩
  · cases h
theorem figB_no1 {d : D} (h : tupB 4 4 d = false) : figB d = false := by
  unfold figB
  split
  · cases h
  · rfl
theorem dsl_tail {ls : List D} : dSl (.tup ls) (some 1) none = some (.tup ls.tail) := by
  show some (D.tup (cutD ls (some 1) none)) = _
  rw [cut1]
theorem dsl_two {a b c : D} : dSl (.tup [a, b, c]) none (some 2) = some (.tup [a, b]) := rfl
theorem dzip_tup {xs ys : List D} : dZip (.tup xs) (.tup ys) = some ((xs.zip ys).map fun p => .tup [p.1, p.2]) := rfl
theorem dlt_two {a b c d : Int} : dLt (.tup [.int a, .int b]) (.tup [.int c, .int d]) = some (.bl (HT.lexLt [a, b] [c, d])) := rfl
theorem zip_tail_mem {α : Type} {ls : List α} {p : α × α} (h : p ∈ ls.zip ls.tail) : p.1 ∈ ls ∧ p.2 ∈ ls := ⟨(List.of_mem_zip h).1, List.mem_of_mem_tail (List.of_mem_zip h).2⟩
theorem fits_figure_any {d : D} (h : Pl 4 d = true) : fits_figure [d] G = some (.bl (figB d), G) := by
  have e1 := is_tuple_any (G := G) (Pl.sh h) 4 4
  unfold fits_figure
  refine def_v rfl ?_
  simp only [List.map_cons, List.map_nil, Nat.reduceSub, List.replicate, List.cons_append, List.nil_append]
  cases q : tupB 4 4 d with
  | false =>
    rw [q] at e1
    rw [figB_no1 q]
    apply Ends.guard
    · apply or_t
      (repeat' (first | (show _ = _; with_reducible assumption) | trivial))
    · intro _
      exact .ret ret_ap ⟨rfl, rfl⟩
    · intro z; cases z
  | true =>
    rw [q] at e1
    obtain ⟨xs, rfl, l1, l2⟩ := tupB_iff q
    obtain ⟨a, b, c, f, rfl⟩ := len4 (xs := xs) (by omega)
    obtain ⟨_, hp⟩ := Pl.tup h
    have pb := hp b (by simp)
    have pc := hp c (by simp)
    have e2 := is_whole_any (G := G) (Pl.sh (hp a (by simp))) 1 8
    have e3 := is_whole_any (G := G) (Pl.sh (hp f (by simp))) 1 30
    have e4 := is_tuple_any (G := G) (Pl.sh pb) 0 12
    have e5 := is_tuple_any (G := G) (Pl.sh pc) 1 6
    have no : ∀ {k : Bool}, (wholeB 1 8 a && wholeB 1 30 f) = false → figB (.tup [a, b, c, f]) = false := fun z => by
      unfold figB
      split
      · rename_i e
        cases e
        rw [z]
        simp
      · rfl
    apply Ends.guard (k := !wholeB 1 8 a || !wholeB 1 30 f)
    · apply or_ff
      · (repeat' (first | (show _ = _; with_reducible assumption) | trivial))
      · apply or_s
        · (repeat' (first | (show _ = _; with_reducible assumption) | trivial))
        · intro _
          (repeat' (first | (show _ = _; with_reducible assumption) | trivial))
    · intro hk
      refine .ret ret_ap ⟨?_, rfl⟩
      rw [no (k := true) (by revert hk; cases wholeB 1 8 a <;> cases wholeB 1 30 f <;> simp)]
    · intro hk
      have wa : wholeB 1 8 a = true := by revert hk; cases wholeB 1 8 a <;> simp
      have wf : wholeB 1 30 f = true := by revert hk; cases wholeB 1 30 f <;> simp
      obtain ⟨n, rfl, n1, n8⟩ := wholeB_iff wa
      apply Ends.seq
      · (repeat' (first | (show _ = _; with_reducible assumption) | trivial))
      cases qb : tupB 0 12 b with
      | false =>
        rw [qb] at e4
        have : figB (.tup [.int n, b, c, f]) = false := by
          unfold figB
          split
          · rename_i e
            cases e
            rw [qb]
            simp
          · rfl
        rw [this]
        apply Ends.guard
        · apply or_t
          (repeat' (first | (show _ = _; with_reducible assumption) | trivial))
        · intro _
          exact .ret ret_ap ⟨rfl, rfl⟩
        · intro z; cases z
      | true =>
        rw [qb] at e4
        obtain ⟨ls, rfl, m1, m2⟩ := tupB_iff qb
        obtain ⟨hl, hls⟩ := Pl.tup pb
        have hz : ls.length ≤ 1000000 := by omega
        have hz2 : (ls.zip ls.tail).length ≤ 1000000 := by rw [List.length_zip]; omega
        apply Ends.guard (k := !ls.all (limbB n))
        · apply or_ff
          · (repeat' (first | (show _ = _; with_reducible assumption) | trivial))
          · apply not_r
            apply test_run
            apply call_run
            · apply cons_run
              · apply lcd_r ls (fun d => .bl (limbB n d))
                · (repeat' (first | (show _ = _; with_reducible assumption) | trivial))
                · exact hz
                · (repeat' (first | (show _ = _; with_reducible assumption) | trivial))
                · (repeat' (first | (show _ = _; with_reducible assumption) | trivial))
                · (repeat' (first | (show _ = _; with_reducible assumption) | trivial))
                · (repeat' (first | (show _ = _; with_reducible assumption) | trivial))
                · intro x hx
                  (repeat' (first | (show _ = _; with_reducible assumption) | with_reducible exact fits_limb_any (hls x hx) | trivial))
              · exact mNil_ap
            · exact all_map
        · intro hk
          refine .ret ret_ap ⟨?_, rfl⟩
          have : figB (.tup [.int n, .tup ls, c, f]) = false := by
            unfold figB
            split
            · rename_i e
              cases e
              have : ls.all (limbB n) = false := by revert hk; cases ls.all (limbB n) <;> simp
              show (_ && ls.all (limbB n) && _ && _ && _) = false
              rw [this]
              simp
            · rfl
          rw [this]
        · intro hk
          have al : ls.all (limbB n) = true := by revert hk; cases ls.all (limbB n) <;> simp
          have hlm := List.all_eq_true.mp al
          apply Ends.guard (k := !risB ls)
          · apply not_r
            apply test_run
            apply call_run
            · apply cons_run
              · apply lc_r (ls.zip ls.tail) (fun p => .tup [p.1, p.2]) (fun p => .bl (HT.lexLt (fst2 p.1) (fst2 p.2)))
                · (repeat' (first | (show _ = _; with_reducible assumption) | with_reducible exact dsl_tail | with_reducible exact dzip_tup | trivial))
                · exact hz2
                · (repeat' (first | (show _ = _; with_reducible assumption) | trivial))
                · (repeat' (first | (show _ = _; with_reducible assumption) | trivial))
                · (repeat' (first | (show _ = _; with_reducible assumption) | trivial))
                · (repeat' (first | (show _ = _; with_reducible assumption) | trivial))
                · intro p hp
                  obtain ⟨h1, h2⟩ := zip_tail_mem hp
                  obtain ⟨a1, b1, c1, e1, _⟩ := limbB_iff (hlm _ h1)
                  obtain ⟨a2, b2, c2, e2, _⟩ := limbB_iff (hlm _ h2)
                  rw [e1, e2]
                  (repeat' (first | (show _ = _; with_reducible assumption) | with_reducible exact dsl_two | with_reducible exact dlt_two | trivial))
              · exact mNil_ap
            · exact all_map
          · intro hk2
            refine .ret ret_ap ⟨?_, rfl⟩
            have : figB (.tup [.int n, .tup ls, c, f]) = false := by
              unfold figB
              split
              · rename_i e
                cases e
                have : risB ls = false := by revert hk2; cases risB ls <;> simp
                rw [this]
                simp
              · rfl
            rw [this]
          · intro hk2
            have ar : risB ls = true := by revert hk2; cases risB ls <;> simp
            cases qc : tupB 1 6 c with
            | false =>
              rw [qc] at e5
              apply Ends.ret
              · apply andV_f
                (repeat' (first | (show _ = _; with_reducible assumption) | trivial))
              · refine ⟨?_, rfl⟩
                have : figB (.tup [.int n, .tup ls, c, f]) = false := by
                  unfold figB
                  split
                  · rename_i e
                    cases e
                    rw [qc]
                    simp
                  · rfl
                rw [this]
            | true =>
              rw [qc] at e5
              obtain ⟨ts, rfl, t1, t2⟩ := tupB_iff qc
              obtain ⟨ht, hts⟩ := Pl.tup pc
              have hz3 : ts.length ≤ 1000000 := by omega
              apply Ends.ret
              · apply andV_t
                · (repeat' (first | (show _ = _; with_reducible assumption) | trivial))
                · apply call_run
                  · apply cons_run
                    · apply lcd_r ts (fun d => .bl (wholeB 0 (n - 1) d))
                      · (repeat' (first | (show _ = _; with_reducible assumption) | trivial))
                      · exact hz3
                      · (repeat' (first | (show _ = _; with_reducible assumption) | trivial))
                      · (repeat' (first | (show _ = _; with_reducible assumption) | trivial))
                      · (repeat' (first | (show _ = _; with_reducible assumption) | trivial))
                      · (repeat' (first | (show _ = _; with_reducible assumption) | trivial))
                      · intro x hx
                        (repeat' (first | (show _ = _; with_reducible assumption) | with_reducible exact is_whole_any (Pl.sh (hts x hx)) 0 (n - 1) | trivial))
                    · exact mNil_ap
                  · exact all_map
              · refine ⟨?_, rfl⟩
                show _ = Fl.rt (.bl (wholeB 1 8 (.int n) && wholeB 1 30 f && tupB 0 12 (.tup ls) && ls.all (limbB n) && risB ls && tupB 1 6 (.tup ts) && ts.all (wholeB 0 (n - 1))))
                rw [wa, wf, qb, al, ar, qc]
                rfl
/-! ### settings, depths -/
def setB (many : Nat) (f : Int) : D → Bool
  | .tup xs => decide (xs.length = many) && xs.all (wholeB 0 f)
  | _ => false
theorem tup_many {many : Nat} {d : D} (h : tupB many many d = false) {f : Int} : setB many f d = false := by
  cases d with
  | tup xs =>
    show (decide (xs.length = many) && xs.all (wholeB 0 f)) = false
    have : ¬ xs.length = many := fun e => by
      have : tupB many many (.tup xs) = true := by
        show (decide ((many : Int) ≤ xs.length) && decide ((xs.length : Int) ≤ many)) = true
        rw [e]
        simp
      rw [h] at this
      cases this
    rw [decide_eq_false this]
    rfl
  | _ => rfl
theorem fits_setting_any {F : Fig} {d : D} {j : Nat} (h : Pl (j + 2) d = true) : fits_setting [F.d, d] G = some (.bl (setB F.ties.length F.floor d), G) := by
  have e1 := is_tuple_any (G := G) (Pl.sh h) F.ties.length F.ties.length
  have el : dLen1 (.tup (F.ties.map natD)) = some (.int (F.ties.length : Nat)) := by
    rw [← List.length_map (f := natD) (as := F.ties)]
    rfl
  unfold fits_setting
  refine def_v rfl ?_
  simp only [List.map_cons, List.map_nil, Nat.reduceSub, List.replicate, List.cons_append, List.nil_append]
  apply Ends.seq
  · (repeat' (first | (show _ = _; with_reducible assumption) | with_reducible exact el | trivial))
  cases q : tupB F.ties.length F.ties.length d with
  | false =>
    rw [q] at e1
    rw [tup_many q]
    apply Ends.ret
    · apply andV_f
      (repeat' (first | (show _ = _; with_reducible assumption) | trivial))
    · exact ⟨rfl, rfl⟩
  | true =>
    rw [q] at e1
    obtain ⟨xs, rfl, l1, l2⟩ := tupB_iff q
    obtain ⟨hl, hx⟩ := Pl.tup h
    have hz : xs.length ≤ 1000000 := by omega
    apply Ends.ret
    · apply andV_t
      · (repeat' (first | (show _ = _; with_reducible assumption) | trivial))
      · apply call_run
        · apply cons_run
          · apply lcd_r xs (fun d => .bl (wholeB 0 F.floor d))
            · (repeat' (first | (show _ = _; with_reducible assumption) | trivial))
            · exact hz
            · (repeat' (first | (show _ = _; with_reducible assumption) | trivial))
            · (repeat' (first | (show _ = _; with_reducible assumption) | trivial))
            · (repeat' (first | (show _ = _; with_reducible assumption) | trivial))
            · (repeat' (first | (show _ = _; with_reducible assumption) | trivial))
            · intro x hx'
              (repeat' (first | (show _ = _; with_reducible assumption) | with_reducible exact is_whole_any (Pl.sh (hx x hx')) 0 F.floor | trivial))
          · exact mNil_ap
        · exact all_map
    · refine ⟨?_, rfl⟩
      show _ = Fl.rt (.bl (decide (xs.length = F.ties.length) && xs.all (wholeB 0 F.floor)))
      rw [decide_eq_true (by omega), Bool.true_and]
theorem fits_depths_any {F : Fig} {d : D} {j : Nat} (h : Pl (j + 2) d = true) : fits_depths [F.d, d] G = some (.bl (setB F.n F.floor d), G) := by
  have e1 := is_tuple_any (G := G) (Pl.sh h) F.n F.n
  unfold fits_depths
  refine def_v rfl ?_
  simp only [List.map_cons, List.map_nil, Nat.reduceSub, List.replicate, List.cons_append, List.nil_append]
  cases q : tupB F.n F.n d with
  | false =>
    rw [q] at e1
    rw [tup_many q]
    apply Ends.ret
    · apply andV_f
      (repeat' (first | (show _ = _; with_reducible assumption) | trivial))
    · exact ⟨rfl, rfl⟩
  | true =>
    rw [q] at e1
    obtain ⟨xs, rfl, l1, l2⟩ := tupB_iff q
    obtain ⟨hl, hx⟩ := Pl.tup h
    have hz : xs.length ≤ 1000000 := by omega
    apply Ends.ret
    · apply andV_t
      · (repeat' (first | (show _ = _; with_reducible assumption) | trivial))
      · apply call_run
        · apply cons_run
          · apply lcd_r xs (fun d => .bl (wholeB 0 F.floor d))
            · (repeat' (first | (show _ = _; with_reducible assumption) | trivial))
            · exact hz
            · (repeat' (first | (show _ = _; with_reducible assumption) | trivial))
            · (repeat' (first | (show _ = _; with_reducible assumption) | trivial))
            · (repeat' (first | (show _ = _; with_reducible assumption) | trivial))
            · (repeat' (first | (show _ = _; with_reducible assumption) | trivial))
            · intro x hx'
              (repeat' (first | (show _ = _; with_reducible assumption) | with_reducible exact is_whole_any (Pl.sh (hx x hx')) 0 F.floor | trivial))
          · exact mNil_ap
        · exact all_map
    · refine ⟨?_, rfl⟩
      show _ = Fl.rt (.bl (decide (xs.length = F.n) && xs.all (wholeB 0 F.floor)))
      rw [decide_eq_true (by omega), Bool.true_and]
theorem is_stance_no {F : Fig} (hF : F.Ok) {s : List Int} (hs : InR F.ties.length F.floor s) {d : D} {j : Nat} (h : Pl (j + 2) d = true) (hd : setB F.n F.floor d = false) : is_stance [F.d, intsD s, d] G = some (.bl false, G) := by
  have e1 := fits_depths_any (F := F) (G := G) h
  rw [hd] at e1
  have e0 := need_set_ok hF hs (G := G)
  unfold is_stance
  refine def_v rfl ?_
  simp only [List.map_cons, List.map_nil, Nat.reduceSub, List.replicate, List.cons_append, List.nil_append]
  apply Ends.seq
  · (repeat' (first | (show _ = _; with_reducible assumption) | trivial))
  apply Ends.ret
  · apply andV_f
    (repeat' (first | (show _ = _; with_reducible assumption) | trivial))
  · exact ⟨rfl, rfl⟩
end
end DM

/-! DM: rows of data with one changed, rows of one, rows against the empty one. -/
namespace DM
open DL L2
open PySem (PyData)
section
variable {a b : SE} {r : SA} {ρ ρ1 ρ2 : List Sl} {G G1 G2 : Gs} {d d1 d2 : D} {ds xs ys : List D} {n i j v : Nat} {sl : Sl}
theorem var1_r (h : ρ[i]? = some (.m1 ds)) (he : ρ.set i (.im (.lst ds)) = ρ1) : mVar i ρ G = some (.lst ds, ρ1, G) := by
  unfold mVar
  rw [h, ← he]
theorem lstN_r (h : r ρ G = some (ds, ρ1, G1)) (hz : ds.length ≤ 1000000) : mLstN r ρ G = some (.m1 ds, ρ1, G1) := by
  unfold mLstN bnd
  rw [h]
  dsimp only
  unfold lft dLstN
  rw [if_pos (show szOk ds.length = true from decide_eq_true hz)]
theorem binN_r {g : D → D → Option Sl} (h : a ρ G = some (d1, ρ1, G1)) (h2 : b ρ1 G1 = some (d2, ρ2, G2)) (hs : g d1 d2 = some sl) : mBinN g a b ρ G = some (sl, ρ2, G2) := by
  unfold mBinN bnd
  rw [h]
  dsimp only
  rw [h2]
  dsimp only
  rw [hs]
  rfl
theorem app_r (h0 : ρ[i]? = some (.m1 ds)) (h : a ρ G = some (d, ρ, G)) (hz : ds.length ≤ 1000000) (he : ρ.set i (.m1 (ds ++ [d])) = ρ1) : sApp i a ρ G = some (.nx ρ1, G) := by
  rw [← he]
  exact app_run h0 h hz
theorem dadd_lst (h : xs.length + ys.length ≤ 1000000) : dAdd (.lst xs) (.lst ys) = some (.lst (xs ++ ys)) := by
  unfold dAdd
  dsimp only
  rw [if_pos (show szOk _ = true from decide_eq_true h)]
theorem dadd_tup (h : xs.length + ys.length ≤ 1000000) : dAdd (.tup xs) (.tup ys) = some (.tup (xs ++ ys)) := by
  unfold dAdd
  dsimp only
  rw [if_pos (show szOk _ = true from decide_eq_true h)]
theorem daddN_lst (h : xs.length + ys.length ≤ 1000000) : dAddN (.lst xs) (.lst ys) = some (.m1 (xs ++ ys)) := by
  unfold dAddN
  dsimp only
  rw [if_pos (show szOk _ = true from decide_eq_true h)]
theorem dmul_one (hn : n ≤ 1000) : dMul (.tup [d]) (.int (n : Nat)) = some (.tup (List.replicate n d)) := by
  unfold dMul
  dsimp only
  rw [if_pos (by
    rw [decide_eq_true (by omega : -(2 ^ 62) < (n : Int)), decide_eq_true (by omega : (n : Int) ≤ 1000)]
    rfl)]
  simp
theorem dmul_k (k : Int) (hk : k = (n : Nat)) (hn : n ≤ 1000) : dMul (.tup [d]) (.int k) = some (.tup (List.replicate n d)) := by
  subst hk
  exact dmul_one hn
/-- a row with one item changed for anything -/
def splD (s : List Int) (k : Nat) (d : D) : D := .tup ((s.map D.int).take k ++ [d] ++ (s.map D.int).drop (k + 1))
theorem spl_run {k : Nat} {s : List Int} {e : SA} (hl : s.length ≤ 1000) (hi : ρ[i]? = some (.im (intsD s))) (hj : ρ[j]? = some (.im (natD k))) (he : e ρ G = some ([d], ρ, G)) :
    mBin dAdd (mBin dAdd (mSl (mVar i) (DL.ret none) (mPart (mVar j))) (mTup e)) (mSl (mVar i) (mPart (mBin dAdd (mVar j) (DL.ret (.int 1)))) (DL.ret none)) ρ G = some (splD s k d, ρ, G) := by
  have l1 : ((s.map D.int).take k).length ≤ 1000 := by rw [List.length_take, List.length_map]; omega
  have l2 : ((s.map D.int).drop (k + 1)).length ≤ 1000 := by rw [List.length_drop, List.length_map]; omega
  have c1 : dSl (intsD s) none (some (k : Int)) = some (.tup ((s.map D.int).take k)) := by
    show some (D.tup (cutD (s.map D.int) none (some (k : Int)))) = _
    rw [cut_to]
  have c2 : dSl (intsD s) (some ((k + 1 : Nat) : Int)) none = some (.tup ((s.map D.int).drop (k + 1))) := by
    show some (D.tup (cutD (s.map D.int) (some ((k + 1 : Nat) : Int)) none)) = _
    rw [cut_from]
  have q3 : mTup e ρ G = some (.tup [d], ρ, G) := tup_run he (Nat.le_of_ble_eq_true rfl)
  exact bin_run (bin_run (sl_r (var_run hi) ret_ap (part_r (var_run hj)) c1) q3 (dadd_tup (by show _ + 1 ≤ 1000000; omega)))
    (sl_r (var_run hi) (part_r (bin_run (z := .int ((k + 1 : Nat) : Int)) (var_run hj) (ret_ap (d := D.int 1)) rfl)) ret_ap c2) (dadd_tup (by rw [List.length_append]; show _ + 1 + _ ≤ 1000000; omega))
theorem splD_int {s : List Int} {k : Nat} (hk : k < s.length) {x : Int} : splD s k (.int x) = intsD (s.set k x) := by
  unfold splD intsD
  rw [List.set_eq_take_append_cons_drop, if_pos hk, List.map_append, List.map_cons, List.map_take, List.map_drop]
  simp
end
/-! ### what is no row of whole numbers -/
theorem setB_len {many : Nat} {f : Int} {xs : List D} (h : xs.length ≠ many) : setB many f (.tup xs) = false := by
  show (decide (xs.length = many) && xs.all (wholeB 0 f)) = false
  rw [decide_eq_false h]
  rfl
theorem setB_mem {many : Nat} {f : Int} {xs : List D} {x : D} (h : x ∈ xs) (hx : wholeB 0 f x = false) : setB many f (.tup xs) = false := by
  show (decide (xs.length = many) && xs.all (wholeB 0 f)) = false
  have : xs.all (wholeB 0 f) = false := by
    rw [List.all_eq_false]
    exact ⟨x, h, by rw [hx]; decide⟩
  rw [this, Bool.and_false]
theorem setB_spl {many : Nat} {f : Int} {s : List Int} {k : Nat} {d : D} (hx : wholeB 0 f d = false) : setB many f (splD s k d) = false := setB_mem (x := d) (by simp) hx
theorem setB_rep {many n : Nat} {f : Int} {d : D} (hn : 0 < n) (hx : wholeB 0 f d = false) : setB many f (.tup (List.replicate n d)) = false := setB_mem (x := d) (List.mem_replicate.mpr ⟨by omega, rfl⟩) hx
theorem setB_ints {many : Nat} {f : Int} {s : List Int} (h : InR many f s) : setB many f (intsD s) = true := by
  show (decide ((s.map D.int).length = many) && (s.map D.int).all (wholeB 0 f)) = true
  rw [List.length_map, decide_eq_true h.1, Bool.true_and, List.all_eq_true]
  intro d hd
  obtain ⟨x, hx, rfl⟩ := List.mem_map.mp hd
  obtain ⟨h1, h2⟩ := h.2 x hx
  show (decide (0 ≤ x) && decide (x ≤ f)) = true
  rw [decide_eq_true h1, decide_eq_true h2]
  rfl
theorem setB_yes {many : Nat} {f : Int} {d : D} (h : setB many f d = true) : ∃ s : List Int, d = intsD s ∧ InR many f s := by
  cases d with
  | tup xs =>
    have := Bool.and_eq_true_iff.mp (show (decide (xs.length = many) && xs.all (wholeB 0 f)) = true from h)
    have hl := of_decide_eq_true this.1
    have ha := List.all_eq_true.mp this.2
    have : ∀ xs : List D, (∀ x ∈ xs, wholeB 0 f x = true) → ∃ s : List Int, xs = s.map D.int ∧ ∀ x ∈ s, 0 ≤ x ∧ x ≤ f := fun xs => by
      induction xs with
      | nil => exact fun _ => ⟨[], rfl, fun x hx => by cases hx⟩
      | cons x xs ih =>
        intro h
        obtain ⟨s, rfl, hs⟩ := ih fun y hy => h y (List.mem_cons_of_mem _ hy)
        obtain ⟨v, rfl, h1, h2⟩ := wholeB_iff (h x List.mem_cons_self)
        exact ⟨v :: s, rfl, fun y hy => by
          rcases List.mem_cons.mp hy with e | hy
          · rw [e]; exact ⟨h1, h2⟩
          · exact hs y hy⟩
    obtain ⟨s, rfl, hs⟩ := this xs ha
    exact ⟨s, rfl, by rw [← hl, List.length_map], hs⟩
  | _ => cases h
theorem Pl_mk {j : Nat} {ds : List D} (hl : ds.length ≤ 1000) (h : ∀ d ∈ ds, Pl j d = true) : Pl (j + 1) (.tup ds) = true := by
  show (decide (ds.length ≤ 1000) && ds.all (Pl j)) = true
  rw [decide_eq_true hl, List.all_eq_true.mpr h]
  rfl
theorem Pl_mkL {j : Nat} {ds : List D} (hl : ds.length ≤ 1000) (h : ∀ d ∈ ds, Pl j d = true) : Pl (j + 1) (.lst ds) = true := by
  show (decide (ds.length ≤ 1000) && ds.all (Pl j)) = true
  rw [decide_eq_true hl, List.all_eq_true.mpr h]
  rfl
theorem Pl_int {j : Nat} {x : Int} : Pl (j + 1) (.int x) = true := rfl
theorem Pl_intL {j : Nat} {s : List Int} : ∀ d ∈ s.map D.int, Pl (j + 1) d = true := fun d hd => by
  obtain ⟨x, _, rfl⟩ := List.mem_map.mp hd
  rfl
theorem Pl_spl {j : Nat} {s : List Int} {k : Nat} {d : D} (hl : s.length ≤ 499) (hd : Pl (j + 1) d = true) : Pl (j + 2) (splD s k d) = true := by
  refine Pl_mk ?_ fun x hx => ?_
  · rw [List.length_append, List.length_append, List.length_take, List.length_drop, List.length_map]
    show _ + 1 + _ ≤ 1000
    omega
  · rcases List.mem_append.mp hx with hx | hx
    · rcases List.mem_append.mp hx with hx | hx
      · exact Pl_intL x (List.mem_of_mem_take hx)
      · rw [List.mem_singleton.mp hx]; exact hd
    · exact Pl_intL x (List.mem_of_mem_drop hx)
theorem Pl_rep {j n : Nat} {d : D} (hn : n ≤ 1000) (hd : Pl j d = true) : Pl (j + 1) (.tup (List.replicate n d)) = true := Pl_mk (by rw [List.length_replicate]; exact hn) fun x hx => by rw [(List.mem_replicate.mp hx).2]; exact hd
/-! ### lists against the empty one -/
theorem shapedL (a : List Int) : PySem.SeqAt.shaped (.list (a.map PyData.int)) = true := by
  unfold PySem.SeqAt.shaped
  have h1 : PyData.canLay0 (.list (a.map PyData.int)) = true := by
    unfold PyData.canLay0
    exact lay_ints a
  have h2 : PyData.depth (.list (a.map PyData.int)) = 1 := by
    unfold PyData.depth
    rw [depth_ints]
  rw [h1, h2]
  rfl
theorem eq_intsL (a b : List Int) : dEqB (.lst (a.map D.int)) (.lst (b.map D.int)) = some (decide (a = b)) := by
  have p : ∀ a : List Int, (D.lst (a.map D.int)).py = some (.list (a.map PyData.int)) := fun a => by
    unfold D.py
    rw [py_ints a]
    rfl
  unfold dEqB
  rw [p a, p b]
  dsimp only
  rw [shapedL a, shapedL b]
  have : PyData.eqv (.list (a.map PyData.int)) (.list (b.map PyData.int)) = decide (a = b) := by
    unfold PyData.eqv
    exact eqv_ints a b
  rw [this]
  rfl
/-- [1 for .. in .. if ..] != [] -/
theorem ne_ones {α : Type} (xs : List α) : dNe (.lst (xs.map fun _ => D.int 1)) (.lst []) = some (.bl (!xs.isEmpty)) := by
  have := eq_intsL (xs.map fun _ => 1) []
  rw [List.map_map] at this
  unfold dNe
  have e : dEqB (.lst (xs.map fun _ => D.int 1)) (.lst []) = some (decide (xs.map (fun _ => (1 : Int)) = [])) := this
  rw [e]
  cases xs <;> simp
theorem eq_ones {α : Type} (xs : List α) : dEq (.lst (xs.map fun _ => D.int 1)) (.lst []) = some (.bl xs.isEmpty) := by
  have := eq_intsL (xs.map fun _ => 1) []
  rw [List.map_map] at this
  unfold dEq
  have e : dEqB (.lst (xs.map fun _ => D.int 1)) (.lst []) = some (decide (xs.map (fun _ => (1 : Int)) = [])) := this
  rw [e]
  cases xs <;> simp
theorem ne_nil : dNe (.lst []) (.lst []) = some (.bl false) := ne_ones (α := Nat) []
theorem eq_nil : dEq (.lst []) (.lst []) = some (.bl true) := eq_ones (α := Nat) []
theorem isis {k b : Bool} : dIs (.bl k) (.bl b) = some (.bl (decide (k = b))) := rfl
theorem isnot {k b : Bool} : dIsNot (.bl k) (.bl b) = some (.bl (!decide (k = b))) := rfl
end DM

/-! DM: poses by what holds each joint; judges of settings and depths by what stands at places; tuples against the empty one. -/
namespace DM
open DL L2
open PySem (PyData)
local macro_rules | `(tactic| trivial) => `(tactic| (first | (with_reducible apply var_run; (repeat (with_reducible apply atS)); with_reducible exact at0) | (with_reducible apply peek_r; (repeat (with_reducible apply atS)); with_reducible exact at0) | (with_reducible apply peek1_r; (repeat (with_reducible apply atS)); with_reducible exact at0) | (with_reducible apply peekT_r; (repeat (with_reducible apply atS)); with_reducible exact at0) | (with_reducible apply var1_r; focus ((repeat (with_reducible apply atS)); with_reducible exact at0)) | with_reducible exact mNil_ap | with_reducible exact ret_ap | with_reducible exact ixF0 | with_reducible exact ixF1 | with_reducible exact ixF2 | with_reducible exact ixF3 | with_reducible exact len_kvs | with_reducible exact len_ints | with_reducible exact len_lst | with_reducible exact len_tup | with_reducible exact dzip_ints | with_reducible exact dzipn_ints | with_reducible exact dtuple_i | with_reducible exact dtuple_n | with_reducible exact items_ints | with_reducible exact items_tup | with_reducible exact items_lst | with_reducible exact dmin2_mn | with_reducible exact dmina_2 | with_reducible exact dmaxa_2 | with_reducible exact dix2_0 | with_reducible exact dix2_1 | with_reducible exact dix3_0 | with_reducible exact dix3_1 | with_reducible exact dix3_2 | with_reducible exact dix4_0 | with_reducible exact dix4_1 | with_reducible exact dix4_2 | with_reducible exact dix4_3 | with_reducible exact st0 | with_reducible exact lt0 | with_reducible exact ne_nil | with_reducible exact eq_nil | with_reducible exact isis | with_reducible exact isnot | with_reducible exact at0 | with_reducible exact wipe0 | with_reducible exact xnil_r | with_reducible exact gnil_r | with_reducible exact next_r | with_reducible apply atS | with_reducible apply stS | with_reducible apply ltS | with_reducible apply wipeC | with_reducible apply cons_run | with_reducible apply tup_run | with_reducible apply lst_r | with_reducible apply bin_run | with_reducible apply mFn_run | with_reducible apply call_run | with_reducible apply im_run | with_reducible apply set_r | with_reducible apply par_r | with_reducible apply asg_run | with_reducible apply name_r | with_reducible apply xtup_run | with_reducible apply xcons_run | with_reducible apply gset_r | with_reducible apply gtup_r | with_reducible apply gcons_r | with_reducible apply items_r | with_reducible apply un_r | with_reducible apply len_r | with_reducible apply sl_r | with_reducible apply part_r | with_reducible apply back_r | with_reducible apply zip_r | with_reducible apply zipn_r | with_reducible apply rng_r | with_reducible apply test_run | with_reducible apply not_r | with_reducible apply not_t | with_reducible apply not_f | with_reducible apply test_n | with_reducible apply ret_run | with_reducible apply expr_run | with_reducible apply lstN_r | with_reducible apply binN_r | with_reducible apply dadd_lst | with_reducible apply daddN_lst | with_reducible apply lc_r | ((with_reducible show dNeg _ = _); exact rfl) | ((with_reducible show dAdd _ _ = _); exact rfl) | ((with_reducible show dSub _ _ = _); exact rfl) | ((with_reducible show dLt _ _ = _); exact rfl) | ((with_reducible show dLe _ _ = _); exact rfl) | ((with_reducible show dGt _ _ = _); exact rfl) | ((with_reducible show dGe _ _ = _); exact rfl) | ((with_reducible show dIs _ _ = _); exact rfl) | ((with_reducible show dIsNot _ _ = _); exact rfl) | ((with_reducible show dMin2 _ = _); exact rfl) | ((with_reducible show dMax2 _ = _); exact rfl) | ((with_reducible show dTuple _ = _); exact rfl) | ((with_reducible show dList _ = _); exact rfl) | ((with_reducible show dAbs _ = _); exact rfl) | ((with_reducible show D.items _ = _); exact rfl) | ((with_reducible show dLen1 _ = _); exact rfl) | ((with_reducible show List.length _ = _); exact rfl) | ((with_reducible show okW _ _ = _); exact rfl) | ((with_reducible show dIx _ _ = _); exact rfl) | ((with_reducible show szOk _ = _); exact rfl) | (show _ ≤ _; with_reducible assumption) | ((with_reducible show List.length _ + List.length _ ≤ 1000000); exact Nat.le_of_ble_eq_true rfl) | ((with_reducible show List.length _ ≤ 1000000); exact Nat.le_of_ble_eq_true rfl) | ((with_reducible show ∀ _ ∈ _, _ = _); intro _ _)))
/-- each joint is held: the greatest stance -/
theorem hold_pose {F : Fig} (hF : F.Ok) {s d : List Int} (hl : d.length = F.n) (h0 : ∀ i, i < F.n → 0 ≤ iat d i) (hs : St F s (iat d))
    (hh : ∀ i, i < F.n → iat d i = F.floor ∨ (∃ p ∈ F.ties.zip s, p.1 = i ∧ p.2 = iat d i) ∨ ∃ l ∈ F.limbs, (l.1 = i ∧ iat d i = iat d l.2.1 + l.2.2) ∨ (l.2.1 = i ∧ iat d i = iat d l.1 + l.2.2)) : IsPose F s d := by
  refine ⟨hl, h0, hs, fun f hf => ?_⟩
  have : ∀ m i, i < F.n → (iat d i).toNat = m → f i ≤ iat d i := by
    intro m
    induction m using Nat.strongRecOn with
    | ind m ih =>
      intro i hi hm
      rcases hh i hi with e | ⟨p, hp, e1, e2⟩ | ⟨l, hl, h⟩
      · rw [e]; exact hf.1 i hi
      · have := hf.2.2 p hp
        rw [e1] at this
        omega
      · obtain ⟨l1, l2, l3, l4⟩ := hF.limb l hl
        have g := hf.2.1 l hl
        rcases h with ⟨e1, e2⟩ | ⟨e1, e2⟩
        · have a := h0 l.2.1 (by omega)
          have := ih (iat d l.2.1).toNat (by omega) l.2.1 (by omega) rfl
          rw [e1] at g
          omega
        · have a := h0 l.1 (by omega)
          have := ih (iat d l.1).toNat (by omega) l.1 (by omega) rfl
          rw [e1] at g
          omega
  exact fun i hi => this _ i hi rfl
section
variable {G : Gs}
theorem fits_setting_at {fd d : D} {ts : List Nat} {f : Int} {j : Nat} (h2 : dIx fd (.int 2) = some (.tup (ts.map natD))) (h3 : dIx fd (.int 3) = some (.int f)) (h : Pl (j + 2) d = true) : fits_setting [fd, d] G = some (.bl (setB ts.length f d), G) := by
  have e1 := is_tuple_any (G := G) (Pl.sh h) ts.length ts.length
  have el : dLen1 (.tup (ts.map natD)) = some (.int (ts.length : Nat)) := by
    rw [← List.length_map (f := natD) (as := ts)]
    rfl
  unfold fits_setting
  refine def_v rfl ?_
  simp only [List.map_cons, List.map_nil, Nat.reduceSub, List.replicate, List.cons_append, List.nil_append]
  apply Ends.seq
  · (repeat' (first | (show _ = _; with_reducible assumption) | with_reducible exact el | trivial))
  cases q : tupB ts.length ts.length d with
  | false =>
    rw [q] at e1
    rw [tup_many q]
    apply Ends.ret
    · apply andV_f
      (repeat' (first | (show _ = _; with_reducible assumption) | trivial))
    · exact ⟨rfl, rfl⟩
  | true =>
    rw [q] at e1
    obtain ⟨xs, rfl, l1, l2⟩ := tupB_iff q
    obtain ⟨hl, hx⟩ := Pl.tup h
    have hz : xs.length ≤ 1000000 := by omega
    apply Ends.ret
    · apply andV_t
      · (repeat' (first | (show _ = _; with_reducible assumption) | trivial))
      · apply call_run
        · apply cons_run
          · apply lcd_r xs (fun d => .bl (wholeB 0 f d))
            · (repeat' (first | (show _ = _; with_reducible assumption) | trivial))
            · exact hz
            · (repeat' (first | (show _ = _; with_reducible assumption) | trivial))
            · (repeat' (first | (show _ = _; with_reducible assumption) | trivial))
            · (repeat' (first | (show _ = _; with_reducible assumption) | trivial))
            · (repeat' (first | (show _ = _; with_reducible assumption) | trivial))
            · intro x hx'
              (repeat' (first | (show _ = _; with_reducible assumption) | with_reducible exact is_whole_any (Pl.sh (hx x hx')) 0 f | trivial))
          · exact mNil_ap
        · exact all_map
    · refine ⟨?_, rfl⟩
      show _ = Fl.rt (.bl (decide (xs.length = ts.length) && xs.all (wholeB 0 f)))
      rw [decide_eq_true (by omega), Bool.true_and]
theorem fits_depths_at {fd d : D} {n : Nat} {f : Int} {j : Nat} (h0 : dIx fd (.int 0) = some (.int (n : Nat))) (h3 : dIx fd (.int 3) = some (.int f)) (h : Pl (j + 2) d = true) : fits_depths [fd, d] G = some (.bl (setB n f d), G) := by
  have e1 := is_tuple_any (G := G) (Pl.sh h) n n
  unfold fits_depths
  refine def_v rfl ?_
  simp only [List.map_cons, List.map_nil, Nat.reduceSub, List.replicate, List.cons_append, List.nil_append]
  cases q : tupB n n d with
  | false =>
    rw [q] at e1
    rw [tup_many q]
    apply Ends.ret
    · apply andV_f
      (repeat' (first | (show _ = _; with_reducible assumption) | trivial))
    · exact ⟨rfl, rfl⟩
  | true =>
    rw [q] at e1
    obtain ⟨xs, rfl, l1, l2⟩ := tupB_iff q
    obtain ⟨hl, hx⟩ := Pl.tup h
    have hz : xs.length ≤ 1000000 := by omega
    apply Ends.ret
    · apply andV_t
      · (repeat' (first | (show _ = _; with_reducible assumption) | trivial))
      · apply call_run
        · apply cons_run
          · apply lcd_r xs (fun d => .bl (wholeB 0 f d))
            · (repeat' (first | (show _ = _; with_reducible assumption) | trivial))
            · exact hz
            · (repeat' (first | (show _ = _; with_reducible assumption) | trivial))
            · (repeat' (first | (show _ = _; with_reducible assumption) | trivial))
            · (repeat' (first | (show _ = _; with_reducible assumption) | trivial))
            · (repeat' (first | (show _ = _; with_reducible assumption) | trivial))
            · intro x hx'
              (repeat' (first | (show _ = _; with_reducible assumption) | with_reducible exact is_whole_any (Pl.sh (hx x hx')) 0 f | trivial))
          · exact mNil_ap
        · exact all_map
    · refine ⟨?_, rfl⟩
      show _ = Fl.rt (.bl (decide (xs.length = n) && xs.all (wholeB 0 f)))
      rw [decide_eq_true (by omega), Bool.true_and]
end
/-! ### a tuple of tuples of ints against () -/
def pyI (s : List Int) : PyData := .tuple (s.map PyData.int)
theorem py_rows : ∀ a : List (List Int), pyL (a.map intsD) = some (a.map pyI)
  | [] => by simp [pyL]
  | x :: a => by
    rw [List.map_cons, List.map_cons]
    unfold pyL
    rw [py_rows a]
    have : (intsD x).py = some (pyI x) := by
      unfold intsD D.py
      rw [py_ints x]
      rfl
    rw [this]
    rfl
theorem lay_rows : ∀ a : List (List Int), PyData.canLayAll0 (a.map pyI) = true
  | [] => by simp [PyData.canLayAll0]
  | x :: a => by
    rw [List.map_cons]
    unfold PyData.canLayAll0
    rw [lay_rows a]
    have : PyData.canLay0 (pyI x) = true := by
      unfold pyI PyData.canLay0
      exact lay_ints x
    rw [this]
    rfl
theorem depth_rows : ∀ a : List (List Int), PyData.depthAll (a.map pyI) ≤ 1
  | [] => by simp [PyData.depthAll]
  | x :: a => by
    rw [List.map_cons]
    unfold PyData.depthAll
    have := depth_rows a
    have e : PyData.depth (pyI x) = 1 := by
      unfold pyI PyData.depth
      rw [depth_ints]
    rw [e]
    omega
theorem shaped_rows (a : List (List Int)) : PySem.SeqAt.shaped (.tuple (a.map pyI)) = true := by
  unfold PySem.SeqAt.shaped
  have h1 : PyData.canLay0 (.tuple (a.map pyI)) = true := by
    unfold PyData.canLay0
    exact lay_rows a
  have h2 : PyData.depth (.tuple (a.map pyI)) ≤ 2 := by
    unfold PyData.depth
    have := depth_rows a
    omega
  rw [h1, Bool.true_and]
  exact decide_eq_true (by omega)
theorem eq_rows0 (a : List (List Int)) : dEq (.tup (a.map intsD)) (.tup []) = some (.bl a.isEmpty) := by
  have p : (D.tup (a.map intsD)).py = some (.tuple (a.map pyI)) := by
    unfold D.py
    rw [py_rows a]
    rfl
  have p0 : (D.tup []).py = some (.tuple []) := by
    unfold D.py
    simp [pyL]
  unfold dEq dEqB
  rw [p, p0]
  dsimp only
  rw [shaped_rows a, show PySem.SeqAt.shaped (.tuple []) = true from shaped_rows []]
  have : PyData.eqv (.tuple (a.map pyI)) (.tuple []) = a.isEmpty := by
    unfold PyData.eqv
    cases a with
    | nil => simp [PyData.eqvAll]
    | cons x a => simp [PyData.eqvAll]
  rw [this]
  rfl
/-! ### drawn rows -/
section
open PySem (Paired)
variable {α β : Type} {vs : List Nat} {it : SA} {tg : SG} {te : SE} {ρ ρ1 ρw : List Sl} {G G1 : Gs}
theorem lci_r (xs : List α) (e : α → D) (f : β → D) (Q : β → Prop) (Inv : Gs → Prop) {ρx : α → List Sl} (hi : it ρ G = some (xs.map e, ρ1, G1)) (hz : xs.length ≤ 1000000) (hk : okW ρ1 vs = true) (hw : wipeS ρ1 vs = ρw)
    (ht : ∀ d ∈ xs, tg (e d) ρw = some (ρx d)) (hx : ∀ d ∈ xs, wipeS (ρx d) vs = ρw) (hG : Inv G1) (h : ∀ d ∈ xs, ∀ G, Inv G → ∃ t G', te (ρx d) G = some (f t, ρx d, G') ∧ Inv G' ∧ Q t) :
    ∃ (ts : List β) (G' : Gs), mLc vs it tg (DL.ret true) te ρ G = some (.lst (ts.map f), ρ1, G') ∧ Inv G' ∧ ts.length = xs.length ∧ ∀ t ∈ ts, Q t := by
  obtain ⟨ys, G2, e3, hG2, hp⟩ := mLc_inv (vs := vs) (it := DL.ret (xs.map e)) (tg := tg) (te := te) (ρ := ρ1) (G := G1) (G1 := G1) xs e Inv (fun _ y => ∃ t : β, y = f t ∧ Q t) rfl hk hz hG fun d hd G hG => by
    obtain ⟨t, G', e1, h1, h2⟩ := h d hd G hG
    exact ⟨ρx d, f t, G', by rw [hw]; exact ht d hd, e1, by rw [hw]; exact hx d hd, h1, t, rfl, h2⟩
  obtain ⟨ts, et, pt⟩ := paired_ex hp
  obtain ⟨ey, hq⟩ := paired_eq pt
  subst ey
  refine ⟨ts, G2, ?_, hG2, et, hq⟩
  unfold mLc bnd at e3 ⊢
  rw [hi]
  exact e3
theorem Ends.draw {Q : Fl → Gs → Prop} {b : SS} {i : Nat} {ρ2 : List β → List Sl} (xs : List α) (e : α → D) (f : β → D) (P : β → Prop) (Inv : Gs → Prop) {ρx : α → List Sl} (hi : it ρ G = some (xs.map e, ρ1, G1)) (hz : xs.length ≤ 1000000) (hk : okW ρ1 vs = true) (hw : wipeS ρ1 vs = ρw)
    (ht : ∀ d ∈ xs, tg (e d) ρw = some (ρx d)) (hx : ∀ d ∈ xs, wipeS (ρx d) vs = ρw) (hG : Inv G1) (h : ∀ d ∈ xs, ∀ G, Inv G → ∃ t G', te (ρx d) G = some (f t, ρx d, G') ∧ Inv G' ∧ P t)
    (he : ∀ ts : List β, ρ1.set i (.im (.tup (ts.map f))) = ρ2 ts) (hl : i < ρ1.length) (hb : ∀ (ts : List β) (G' : Gs), Inv G' → ts.length = xs.length → (∀ t ∈ ts, P t) → Ends (b (ρ2 ts) G') Q) :
    Ends (sSeq (sSet i (mIm (mCall dTuple (mCons (mLc vs it tg (DL.ret true) te) mNil)))) b ρ G) Q := by
  obtain ⟨ts, G2, e1, h1, h2, h3⟩ := lci_r xs e f P Inv hi hz hk hw ht hx hG h
  exact .seq (set_r (im_run (call_run (cons_run e1 mNil_ap) rfl)) (he ts) hl) (hb ts G2 h1 h2 h3)
end
theorem putS_at {i : Nat} {ρ : List Sl} {ks : List KP} (h : ρ[i]? = some (.mt (kvsD ks))) (hl : ks.length ≤ 1000) (k : Int × Int) (c : Int) : putS i (.tup [.int k.1, .int k.2]) (.int c) ρ = some (ρ.set i (.mt (kvsD (putP ks k c)))) := by
  unfold putS
  rw [h]
  dsimp only
  rw [if_pos (show szOk (kvsD ks).length = true from decide_eq_true (by unfold kvsD; rw [List.length_map]; omega))]
  show some (ρ.set i (.mt (putD (kvsD ks) [.inl k.1, .inl k.2] (.int c)))) = _
  rw [put_kvs]
theorem put_r {i : Nat} {mk mv : SE} {k d : D} {ρ ρ3 : List Sl} {G G1 G2 : Gs} (h : mv ρ G = some (d, ρ, G1)) (h0 : has ρ i = true) (h2 : mk ρ G1 = some (k, ρ, G2)) (h3 : putS i k d ρ = some ρ3) : sPut i mk mv ρ G = some (.nx ρ3, G2) := put_run h h0 h2 h3
theorem len_kvs {ks : List KP} : dLen1 (.dt (kvsD ks)) = some (.int (ks.length : Nat)) := by
  show some (D.int ((kvsD ks).length : Nat)) = _
  unfold kvsD
  rw [List.length_map]
theorem peekT_r {ρ : List Sl} {G : Gs} {i : Nat} {kvs : List (List L2.Key × D)} (h : ρ[i]? = some (.mt kvs)) : mPeek i ρ G = some (.dt kvs, ρ, G) := peek_mt h
theorem sortedD_r {a : SE} {ρ ρ1 : List Sl} {G G1 : Gs} {ks : List KP} (h : a ρ G = some (.dt (kvsD ks), ρ1, G1)) (hl : ks.length ≤ 1000) : mSortedD a ρ G = some (.lst ((srtD SrtO.lexB (ks.map (·.1))).map dPair), ρ1, G1) := by
  unfold mSortedD bnd
  rw [h]
  dsimp only
  unfold lft dSortedD
  dsimp only
  rw [if_pos (show szOk (kvsD ks).length = true from decide_eq_true (by unfold kvsD; rw [List.length_map]; omega)), pairs_kvs]
  rfl
end DM

/-! DM: distances from a joint, kept in a dict. -/
namespace DM
open DL L2
def law_from : Sf := mDef 2 9
  ((sSeq (sSet 2 (mDisp1 (mVar 1) (DL.ret (.int 0))))
  (sSeq (sFor (mRng1 (mBin dIx (mVar 0) (DL.ret (.int 0)))) (xName 3) (sFor (mItems (mBin dIx (mVar 0) (DL.ret (.int 1)))) (xTup 3 (xsCons (xName 4) (xsCons (xName 5) (xsCons (xName 6) xsNil)))) (sFor (mItems (mTup (mCons (mTup (mCons (mVar 4) (mCons (mVar 5) mNil))) (mCons (mTup (mCons (mVar 5) (mCons (mVar 4) mNil))) mNil)))) (xTup 2 (xsCons (xName 7) (xsCons (xName 8) xsNil))) (sIf (mAnd (mTest (mInD (fun z => z) (mVar 7) (mPeek 2))) (mTest (mBin dLt (mBin dAdd (mSolid (mBin dIxD (mPeek 2) (mVar 7))) (mVar 6)) (mSolid (mGet2 (mPeek 2) (mVar 8) (mBin dPow (DL.ret (.int 10)) (DL.ret (.int 6)))))))) (sPut 2 (mVar 8) (mBin dAdd (mSolid (mBin dIxD (mPeek 2) (mVar 7))) (mVar 6))) sNext))))
  (sRet (mVar 2)))))
/-! ### a dict of joints -/
abbrev JM := List (Nat × Int)
def kvsI (ms : JM) : List (L2.Key × D) := ms.map fun q => (.inl (q.1 : Int), .int q.2)
def getI (ms : JM) (j : Nat) : Option Int := (ms.find? fun q => decide (q.1 = j)).map (·.2)
def putI (ms : JM) (j : Nat) (c : Int) : JM := if (ms.any fun q => decide (q.1 = j)) = true then ms.map (fun q => if q.1 = j then (q.1, c) else q) else ms ++ [(j, c)]
theorem keyI {i j : Nat} : ((.inl (i : Int) : L2.Key) = .inl (j : Int)) ↔ i = j := by
  constructor
  · intro h
    have : (i : Int) = (j : Int) := Sum.inl.inj h
    omega
  · intro h; rw [h]
theorem val_kvsI (ms : JM) (j : Nat) : valD (kvsI ms) (.inl (j : Int)) = (getI ms j).map D.int := by
  unfold valD getI kvsI
  induction ms with
  | nil => rfl
  | cons q ms ih =>
    rw [List.map_cons]
    by_cases h : q.1 = j
    · rw [find_pos (f := fun kv : L2.Key × D => decide (kv.1 = .inl (j : Int))) (decide_eq_true (keyI.mpr h)), find_pos (f := fun q : Nat × Int => decide (q.1 = j)) (decide_eq_true h)]
      rfl
    · rw [find_neg (f := fun kv : L2.Key × D => decide (kv.1 = .inl (j : Int))) (decide_eq_false fun z => h (keyI.mp z)), find_neg (f := fun q : Nat × Int => decide (q.1 = j)) (decide_eq_false h)]
      exact ih
theorem put_kvsI (ms : JM) (j : Nat) (c : Int) : putD (kvsI ms) (.inl (j : Int)) (.int c) = kvsI (putI ms j c) := by
  unfold putD putI
  have e : ((kvsI ms).any fun kv => decide (kv.1 = (.inl (j : Int) : L2.Key))) = ms.any fun q => decide (q.1 = j) := by
    unfold kvsI
    rw [List.any_map]
    congr 1
    funext q
    exact decide_eq_decide.mpr keyI
  rw [e]
  split
  · unfold kvsI
    rw [List.map_map, List.map_map]
    refine List.map_congr_left fun q _ => ?_
    show (if ((.inl (q.1 : Int) : L2.Key)) = .inl (j : Int) then _ else _) = _
    by_cases h : q.1 = j
    · rw [if_pos (keyI.mpr h)]
      simp [h]
    · rw [if_neg fun z => h (keyI.mp z)]
      simp [h]
  · unfold kvsI
    rw [List.map_append]
    rfl
theorem get_put (ms : JM) (j k : Nat) (c : Int) : getI (putI ms j c) k = if k = j then some c else getI ms k := by
  unfold putI
  split
  · rename_i h
    unfold getI
    induction ms with
    | nil => cases h
    | cons q ms ih =>
      rw [List.map_cons]
      by_cases h1 : q.1 = j
      · rw [if_pos h1]
        by_cases h2 : k = j
        · rw [if_pos h2, find_pos (f := fun q : Nat × Int => decide (q.1 = k)) (decide_eq_true (by rw [h1, h2]))]
          rfl
        · rw [if_neg h2, find_neg (f := fun q : Nat × Int => decide (q.1 = k)) (decide_eq_false fun z => h2 (by rw [← z]; exact h1)), find_neg (f := fun q : Nat × Int => decide (q.1 = k)) (decide_eq_false fun z => h2 (by rw [← z]; exact h1))]
          by_cases h3 : (ms.any fun q => decide (q.1 = j)) = true
          · have := ih h3
            rw [if_neg h2] at this
            exact this
          · have : ms.map (fun q => if q.1 = j then (q.1, c) else q) = ms := by
              have : ∀ q ∈ ms, (if q.1 = j then (q.1, c) else q) = q := fun q hq => by
                have : ¬ q.1 = j := fun z => h3 (List.any_eq_true.mpr ⟨q, hq, decide_eq_true z⟩)
                rw [if_neg this]
              rw [List.map_congr_left this, List.map_id']
            rw [this]
      · rw [if_neg h1]
        have h3 : (ms.any fun q => decide (q.1 = j)) = true := by
          rw [List.any_cons, decide_eq_false h1, Bool.false_or] at h
          exact h
        by_cases h4 : q.1 = k
        · rw [find_pos (f := fun q : Nat × Int => decide (q.1 = k)) (decide_eq_true h4), if_neg (by omega), find_pos (f := fun q : Nat × Int => decide (q.1 = k)) (decide_eq_true h4)]
        · rw [find_neg (f := fun q : Nat × Int => decide (q.1 = k)) (decide_eq_false h4), find_neg (f := fun q : Nat × Int => decide (q.1 = k)) (decide_eq_false h4)]
          exact ih h3
  · rename_i h
    unfold getI
    rw [List.find?_append]
    by_cases h2 : k = j
    · rw [if_pos h2]
      have : (ms.find? fun q => decide (q.1 = k)) = none := List.find?_eq_none.mpr fun q hq z => h (List.any_eq_true.mpr ⟨q, hq, by rw [← h2]; exact z⟩)
      rw [this]
      simp [h2]
    · rw [if_neg h2]
      cases q : ms.find? fun q => decide (q.1 = k) with
      | some z => rfl
      | none =>
        have : ¬ j = k := fun z => h2 z.symm
        simp [this]
theorem put_len (ms : JM) (j : Nat) (c : Int) : (putI ms j c).length ≤ ms.length + 1 := by
  unfold putI
  split
  · rw [List.length_map]; omega
  · rw [List.length_append]; exact Nat.le_refl _
section
variable {a b c : SE} {ρ ρ1 ρ2 ρ3 : List Sl} {G G1 G2 G3 : Gs} {d : D} {i : Nat} {kvs : List (L2.Key × D)} {ms : JM} {j : Nat}
theorem peekK_r (h : ρ[i]? = some (.mk kvs)) : mPeek i ρ G = some (.dk kvs, ρ, G) := by
  unfold mPeek
  rw [h]
  rfl
theorem solid_r (h : a ρ G = some (d, ρ1, G1)) (hd : d.solid = true) : mSolid a ρ G = some (d, ρ1, G1) := by
  unfold mSolid bnd
  rw [h]
  dsimp only
  unfold lft
  rw [if_pos hd]
theorem inD_r {f : Bool → Bool} (h : a ρ G = some (natD j, ρ1, G1)) (h2 : b ρ1 G1 = some (.dk (kvsI ms), ρ2, G2)) : mInD f a b ρ G = some (.bl (f (getI ms j).isSome), ρ2, G2) := by
  unfold mInD bnd
  rw [h]
  dsimp only
  rw [h2]
  show lft ((some (valD (kvsI ms) (.inl (j : Int)))).map fun o => D.bl (f o.isSome)) ρ2 G2 = _
  rw [val_kvsI]
  cases getI ms j <;> rfl
theorem ixD_r {x : Int} (h : a ρ G = some (.dk (kvsI ms), ρ1, G1)) (h2 : b ρ1 G1 = some (natD j, ρ2, G2)) (hx : getI ms j = some x) : mSolid (mBin dIxD a b) ρ G = some (.int x, ρ2, G2) := by
  refine solid_r (bin_run h h2 ?_) rfl
  show (some (valD (kvsI ms) (.inl (j : Int)))).bind id = _
  rw [val_kvsI, hx]
  rfl
theorem get2_r {x : D} (h : a ρ G = some (.dk (kvsI ms), ρ1, G1)) (h2 : b ρ1 G1 = some (natD j, ρ2, G2)) (h3 : c ρ2 G2 = some (x, ρ3, G3)) (hs : x.solid = true) : mSolid (mGet2 a b c) ρ G = some (((getI ms j).map D.int).getD x, ρ3, G3) := by
  refine solid_r ?_ (by cases getI ms j with | none => exact hs | some y => rfl)
  unfold mGet2 bnd
  rw [h]
  dsimp only
  rw [h2]
  dsimp only
  rw [h3]
  show lft ((some (valD (kvsI ms) (.inl (j : Int)))).map fun o => o.getD x) ρ3 G3 = _
  rw [val_kvsI]
  rfl
theorem putK_r {e : Nat} {x : Int} (h : ρ[i]? = some (.mk (kvsI ms))) (hl : ms.length ≤ 1000) : putS i (natD e) (.int x) ρ = some (ρ.set i (.mk (kvsI (putI ms e x)))) := by
  unfold putS
  rw [h]
  dsimp only
  rw [if_pos (show szOk (kvsI ms).length = true from decide_eq_true (by unfold kvsI; rw [List.length_map]; omega))]
  show some (ρ.set i (.mk (putD (kvsI ms) (.inl (e : Int)) (.int x)))) = _
  rw [put_kvsI]
end
/-! ### one step -/
structure Far (F : Fig) (R : Tab) (i : Nat) (ms : JM) (k : Nat) : Prop where
  len : ms.length ≤ 1 + k
  val : ∀ j x, getI ms j = some x → x ≤ 9 * k ∧ j < F.n ∧ ∃ z, R i j = some z ∧ z ≤ x
  src : ∃ x, getI ms i = some x ∧ x ≤ 0
def Less (ms ms' : JM) : Prop := ∀ j x, getI ms j = some x → ∃ y, getI ms' j = some y ∧ y ≤ x
theorem Less.refl (ms : JM) : Less ms ms := fun j x h => ⟨x, h, Int.le_refl _⟩
theorem Less.trans {a b c : JM} (h : Less a b) (g : Less b c) : Less a c := fun j x hx => by
  obtain ⟨y, h1, h2⟩ := h j x hx
  obtain ⟨z, h3, h4⟩ := g j y h1
  exact ⟨z, h3, by omega⟩
theorem from_step {F : Fig} {R : Tab} {i b e k : Nat} {c : Int} {ms : JM} (hm : Far F R i ms k) (hk : k ≤ 900) (c0 : 0 ≤ c) (c9 : c ≤ 9) (hn : e < F.n) (htri : ∀ z, R i b = some z → ∃ w, R i e = some w ∧ w ≤ z + c) (f a1 : D) (a3 a4 a5 : Sl) (G : Gs) :
    ∃ ms', (sIf (mAnd (mTest (mInD (fun z => z) (mVar 7) (mPeek 2))) (mTest (mBin dLt (mBin dAdd (mSolid (mBin dIxD (mPeek 2) (mVar 7))) (mVar 6)) (mSolid (mGet2 (mPeek 2) (mVar 8) (mBin dPow (DL.ret (.int 10)) (DL.ret (.int 6)))))))) (sPut 2 (mVar 8) (mBin dAdd (mSolid (mBin dIxD (mPeek 2) (mVar 7))) (mVar 6))) sNext)
      [.im f, .im a1, .mk (kvsI ms), a3, a4, a5, .im (.int c), .im (natD b), .im (natD e)] G = some (.nx [.im f, .im a1, .mk (kvsI ms'), a3, a4, a5, .im (.int c), .im (natD b), .im (natD e)], G)
      ∧ Far F R i ms' (k + 1) ∧ Less ms ms' ∧ ∀ x, getI ms b = some x → ∃ y, getI ms' e = some y ∧ y ≤ x + c := by
  have hml := hm.len
  have up : Far F R i ms (k + 1) := ⟨by omega, fun j x h => by
    obtain ⟨h1, h2, h3⟩ := hm.val j x h
    exact ⟨by omega, h2, h3⟩, hm.src⟩
  cases hb : getI ms b with
  | none =>
    refine ⟨ms, ?_, up, Less.refl ms, fun x h => by cases h⟩
    refine (if_false (DM.and_false (test_run ?_))).trans rfl
    have := inD_r (f := fun z => z) (a := mVar 7) (b := mPeek 2) (ρ := [.im f, .im a1, .mk (kvsI ms), a3, a4, a5, .im (.int c), .im (natD b), .im (natD e)]) (G := G) (var_run rfl) (peekK_r rfl)
    rw [hb] at this
    exact this
  | some x =>
    obtain ⟨xk, bn, z, hz, zx⟩ := hm.val b x hb
    have t1 := inD_r (f := fun z => z) (a := mVar 7) (b := mPeek 2) (ρ := [.im f, .im a1, .mk (kvsI ms), a3, a4, a5, .im (.int c), .im (natD b), .im (natD e)]) (G := G) (var_run rfl) (peekK_r rfl)
    rw [hb] at t1
    have ix := ixD_r (a := mPeek 2) (b := mVar 7) (ρ := [.im f, .im a1, .mk (kvsI ms), a3, a4, a5, .im (.int c), .im (natD b), .im (natD e)]) (G := G) (peekK_r rfl) (var_run rfl) hb
    have sum := add_run ix (var_run (i := 6) (d := .int c) rfl)
    have p6 : dPow (.int 10) (.int 6) = some (.int (10 ^ 6)) := by
      unfold dPow
      dsimp only
      rw [if_pos (by decide)]
      rfl
    have g2 := get2_r (a := mPeek 2) (b := mVar 8) (c := mBin dPow (DL.ret (.int 10)) (DL.ret (.int 6))) (ρ := [.im f, .im a1, .mk (kvsI ms), a3, a4, a5, .im (.int c), .im (natD b), .im (natD e)]) (G := G) (peekK_r rfl) (var_run rfl) (bin_run ret_ap ret_ap p6) rfl
    have old : ∃ o : Int, ((getI ms e).map D.int).getD (.int (10 ^ 6)) = .int o ∧ (∀ y, getI ms e = some y → o = y) ∧ (getI ms e = none → o = 10 ^ 6) := by
      cases he : getI ms e with
      | none => exact ⟨10 ^ 6, rfl, (fun y h => by cases h), fun _ => rfl⟩
      | some y => exact ⟨y, rfl, (fun y' h => Option.some.inj h), fun h => by cases h⟩
    obtain ⟨o, ho, ho1, ho2⟩ := old
    rw [ho] at g2
    have t2 : mTest (mBin dLt (mBin dAdd (mSolid (mBin dIxD (mPeek 2) (mVar 7))) (mVar 6)) (mSolid (mGet2 (mPeek 2) (mVar 8) (mBin dPow (DL.ret (.int 10)) (DL.ret (.int 6)))))) [.im f, .im a1, .mk (kvsI ms), a3, a4, a5, .im (.int c), .im (natD b), .im (natD e)] G = some (decide (x + c < o), [.im f, .im a1, .mk (kvsI ms), a3, a4, a5, .im (.int c), .im (natD b), .im (natD e)], G) := test_run (bin_run sum g2 rfl)
    have t1' := test_run t1
    by_cases h : x + c < o
    · rw [decide_eq_true h] at t2
      refine ⟨putI ms e (x + c), ?_, ⟨?_, fun j y hj => ?_, ?_⟩, fun j y hj => ?_, fun y hy => ?_⟩
      · refine (if_true (DM.and_true t1' t2)).trans ?_
        exact put_run sum rfl (var_run (i := 8) (d := natD e) rfl) (putK_r rfl (by omega))
      · have := put_len ms e (x + c)
        omega
      · rw [get_put] at hj
        split at hj
        · rename_i q
          cases hj
          obtain ⟨w, h1, h2⟩ := htri z hz
          rw [q]
          exact ⟨by omega, hn, w, h1, by omega⟩
        · obtain ⟨h1, h2, h3⟩ := hm.val j y hj
          exact ⟨by omega, h2, h3⟩
      · obtain ⟨s, h1, h2⟩ := hm.src
        rw [get_put]
        split
        · rename_i q
          refine ⟨_, rfl, ?_⟩
          have := ho1 s (by rw [← q]; exact h1)
          omega
        · exact ⟨s, h1, h2⟩
      · rw [get_put]
        split
        · rename_i q
          refine ⟨_, rfl, ?_⟩
          have := ho1 y (by rw [← q]; exact hj)
          omega
        · exact ⟨y, hj, Int.le_refl _⟩
      · rw [get_put, if_pos rfl]
        cases hy
        exact ⟨_, rfl, Int.le_refl _⟩
    · rw [decide_eq_false h] at t2
      refine ⟨ms, (if_false (DM.and_true t1' t2)).trans rfl, up, Less.refl ms, fun y hy => ?_⟩
      cases hy
      cases he : getI ms e with
      | none =>
        have := ho2 he
        omega
      | some y =>
        have := ho1 y he
        exact ⟨y, rfl, by omega⟩
end DM

/-! DM: distances: what leads to them; law_from tells them. -/
namespace DM
open DL L2
local macro_rules | `(tactic| trivial) => `(tactic| (first | (with_reducible apply var_run; (repeat (with_reducible apply atS)); with_reducible exact at0) | (with_reducible apply peek_r; (repeat (with_reducible apply atS)); with_reducible exact at0) | (with_reducible apply peek1_r; (repeat (with_reducible apply atS)); with_reducible exact at0) | (with_reducible apply peekT_r; (repeat (with_reducible apply atS)); with_reducible exact at0) | (with_reducible apply var1_r; focus ((repeat (with_reducible apply atS)); with_reducible exact at0)) | with_reducible exact mNil_ap | with_reducible exact ret_ap | with_reducible exact ixF0 | with_reducible exact ixF1 | with_reducible exact ixF2 | with_reducible exact ixF3 | with_reducible exact len_kvs | with_reducible exact len_ints | with_reducible exact len_lst | with_reducible exact len_tup | with_reducible exact dzip_ints | with_reducible exact dzipn_ints | with_reducible exact dtuple_i | with_reducible exact dtuple_n | with_reducible exact items_ints | with_reducible exact items_tup | with_reducible exact items_lst | with_reducible exact dmin2_mn | with_reducible exact dmina_2 | with_reducible exact dmaxa_2 | with_reducible exact dix2_0 | with_reducible exact dix2_1 | with_reducible exact dix3_0 | with_reducible exact dix3_1 | with_reducible exact dix3_2 | with_reducible exact dix4_0 | with_reducible exact dix4_1 | with_reducible exact dix4_2 | with_reducible exact dix4_3 | with_reducible exact st0 | with_reducible exact lt0 | with_reducible exact ne_nil | with_reducible exact eq_nil | with_reducible exact isis | with_reducible exact isnot | with_reducible exact at0 | with_reducible exact wipe0 | with_reducible exact xnil_r | with_reducible exact gnil_r | with_reducible exact next_r | with_reducible apply atS | with_reducible apply stS | with_reducible apply ltS | with_reducible apply wipeC | with_reducible apply cons_run | with_reducible apply tup_run | with_reducible apply lst_r | with_reducible apply bin_run | with_reducible apply mFn_run | with_reducible apply call_run | with_reducible apply im_run | with_reducible apply set_r | with_reducible apply par_r | with_reducible apply asg_run | with_reducible apply name_r | with_reducible apply xtup_run | with_reducible apply xcons_run | with_reducible apply gset_r | with_reducible apply gtup_r | with_reducible apply gcons_r | with_reducible apply items_r | with_reducible apply un_r | with_reducible apply len_r | with_reducible apply sl_r | with_reducible apply part_r | with_reducible apply back_r | with_reducible apply zip_r | with_reducible apply zipn_r | with_reducible apply rng_r | with_reducible apply test_run | with_reducible apply not_r | with_reducible apply not_t | with_reducible apply not_f | with_reducible apply test_n | with_reducible apply ret_run | with_reducible apply expr_run | with_reducible apply lstN_r | with_reducible apply binN_r | with_reducible apply dadd_lst | with_reducible apply daddN_lst | with_reducible apply lc_r | ((with_reducible show dNeg _ = _); exact rfl) | ((with_reducible show dAdd _ _ = _); exact rfl) | ((with_reducible show dSub _ _ = _); exact rfl) | ((with_reducible show dLt _ _ = _); exact rfl) | ((with_reducible show dLe _ _ = _); exact rfl) | ((with_reducible show dGt _ _ = _); exact rfl) | ((with_reducible show dGe _ _ = _); exact rfl) | ((with_reducible show dIs _ _ = _); exact rfl) | ((with_reducible show dIsNot _ _ = _); exact rfl) | ((with_reducible show dMin2 _ = _); exact rfl) | ((with_reducible show dMax2 _ = _); exact rfl) | ((with_reducible show dTuple _ = _); exact rfl) | ((with_reducible show dList _ = _); exact rfl) | ((with_reducible show dAbs _ = _); exact rfl) | ((with_reducible show D.items _ = _); exact rfl) | ((with_reducible show dLen1 _ = _); exact rfl) | ((with_reducible show List.length _ = _); exact rfl) | ((with_reducible show okW _ _ = _); exact rfl) | ((with_reducible show dIx _ _ = _); exact rfl) | ((with_reducible show szOk _ = _); exact rfl) | (show _ ≤ _; with_reducible assumption) | ((with_reducible show List.length _ + List.length _ ≤ 1000000); exact Nat.le_of_ble_eq_true rfl) | ((with_reducible show List.length _ ≤ 1000000); exact Nat.le_of_ble_eq_true rfl) | ((with_reducible show ∀ _ ∈ _, _ = _); intro _ _)))
section
variable {F : Fig} {R : Tab} {i j v : Nat} {x : Int}
theorem comp_edge (hF : F.Ok) (g : Good F R) (t : Tri F.n F.n R) (hi : i < F.n) {l : Nat × Nat × Int} (hl : l ∈ F.limbs) : (∀ y, R i l.1 = some y → ∃ z, R i l.2.1 = some z ∧ z ≤ y + l.2.2) ∧ ∀ y, R i l.2.1 = some y → ∃ z, R i l.1 = some z ∧ z ≤ y + l.2.2 := by
  obtain ⟨h1, h2, h3, h4⟩ := hF.limb l hl
  obtain ⟨⟨a, ha, ha2⟩, b, hb, hb2⟩ := g.edge l hl
  refine ⟨fun y hy => ?_, fun y hy => ?_⟩
  · obtain ⟨z, hz, hz2⟩ := t l.1 (by omega) i l.2.1 hi (by omega) y a hy ha
    exact ⟨z, hz, by omega⟩
  · obtain ⟨z, hz, hz2⟩ := t l.2.1 (by omega) i l.1 hi (by omega) y b hy hb
    exact ⟨z, hz, by omega⟩
def dst (R : Tab) (i : Nat) (bad : Int) (j : Nat) : Int := match R i j with
  | none => bad
  | some x => x
theorem dst_some {bad : Int} (h : R i j = some x) : dst R i bad j = x := by unfold dst; rw [h]
theorem dst_none {bad : Int} (h : R i j = none) : dst R i bad j = bad := by unfold dst; rw [h]
theorem dst_limbs (hF : F.Ok) (g : Good F R) (t : Tri F.n F.n R) (hi : i < F.n) (bad : Int) : LimbsOk F (dst R i bad) := fun l hl => by
  obtain ⟨h1, h2⟩ := comp_edge hF g t hi hl
  have c1 := (hF.limb l hl).2.2.1
  cases q : R i l.1 with
  | some y =>
    obtain ⟨z, hz, hz2⟩ := h1 y q
    obtain ⟨w, hw, hw2⟩ := h2 z hz
    rw [q] at hw
    cases hw
    rw [dst_some q, dst_some hz]
    omega
  | none =>
    cases q2 : R i l.2.1 with
    | some z =>
      obtain ⟨w, hw, _⟩ := h2 z q2
      rw [q] at hw
      cases hw
    | none =>
      rw [dst_none q, dst_none q2]
      omega
theorem pred_ex (hF : F.Ok) (g : Good F R) (t : Tri F.n F.n R) (hi : i < F.n) (hne : v ≠ i) (hx : R i v = some x) : ∃ b c y, ((b, v, c) ∈ F.limbs ∨ (v, b, c) ∈ F.limbs) ∧ R i b = some y ∧ y + c = x ∧ b < F.n ∧ 1 ≤ c := by
  by_cases hh : ∃ b c y, ((b, v, c) ∈ F.limbs ∨ (v, b, c) ∈ F.limbs) ∧ R i b = some y ∧ y + c = x ∧ b < F.n ∧ 1 ≤ c
  · exact hh
  · exfalso
    have base := dst_limbs hF g t hi 0
    have ok : LimbsOk F fun k => if k = v then x + 1 else dst R i 0 k := fun l hl => by
      obtain ⟨l1, l2, l3, l4⟩ := hF.limb l hl
      obtain ⟨h1, h2⟩ := comp_edge hF g t hi hl
      dsimp only
      by_cases q1 : l.1 = v
      · rw [if_pos q1, if_neg (by omega)]
        obtain ⟨z, hz, hz2⟩ := h1 x (by rw [q1]; exact hx)
        obtain ⟨w, hw, hw2⟩ := h2 z hz
        rw [q1, hx] at hw
        cases hw
        rw [dst_some hz]
        have : ¬ z + l.2.2 = x := fun e => hh ⟨l.2.1, l.2.2, z, .inr (by rw [← q1]; exact hl), hz, e, l2, l3⟩
        omega
      · by_cases q2 : l.2.1 = v
        · rw [if_neg q1, if_pos q2]
          obtain ⟨z, hz, hz2⟩ := h2 x (by rw [q2]; exact hx)
          obtain ⟨w, hw, hw2⟩ := h1 z hz
          rw [q2, hx] at hw
          cases hw
          rw [dst_some hz]
          have : ¬ z + l.2.2 = x := fun e => hh ⟨l.1, l.2.2, z, .inl (by rw [← q2]; exact hl), hz, e, by omega, l3⟩
          omega
        · rw [if_neg q1, if_neg q2]
          exact base l hl
    have : (if v = v then x + 1 else dst R i 0 v) ≤ (if i = v then x + 1 else dst R i 0 i) + x := g.sound _ ok i v x hx
    rw [if_pos rfl, if_neg (fun z => hne z.symm), dst_some (g.diag i hi)] at this
    omega
theorem tab_sym_le (hF : F.Ok) (g : Good F R) (t : Tri F.n F.n R) (hj : j < F.n) (hx : R i j = some x) : ∃ y, R j i = some y ∧ y ≤ x := by
  have ok : LimbsOk F fun k => - dst R j (x + 1) k := fun l hl => by
    have := dst_limbs hF g t hj (x + 1) l hl
    show - dst R j (x + 1) l.1 ≤ - dst R j (x + 1) l.2.1 + l.2.2 ∧ - dst R j (x + 1) l.2.1 ≤ - dst R j (x + 1) l.1 + l.2.2
    omega
  have : - dst R j (x + 1) j ≤ - dst R j (x + 1) i + x := g.sound _ ok i j x hx
  rw [dst_some (g.diag j hj)] at this
  cases q : R j i with
  | none => rw [dst_none q] at this; omega
  | some y => rw [dst_some q] at this; exact ⟨y, rfl, by omega⟩
theorem tab_sym (hF : F.Ok) (g : Good F R) (t : Tri F.n F.n R) (hi : i < F.n) (hj : j < F.n) : R j i = R i j := by
  cases q : R i j with
  | none =>
    cases q2 : R j i with
    | none => rfl
    | some y =>
      obtain ⟨z, hz, _⟩ := tab_sym_le hF g t hi q2
      rw [q] at hz
      cases hz
  | some x =>
    obtain ⟨y, hy, h1⟩ := tab_sym_le hF g t hj q
    obtain ⟨z, hz, h2⟩ := tab_sym_le hF g t hi hy
    rw [q] at hz
    cases hz
    rw [hy, show y = x by omega]
theorem tab_one (g : Good F R) (hi : i < F.n) (hj : j < F.n) (hx : R i j = some x) (h0 : x ≤ 0) (hF : F.Ok) (t : Tri F.n F.n R) : j = i := by
  by_cases h : j = i
  · exact h
  · obtain ⟨b, c, y, _, h2, h3, _, h5⟩ := pred_ex hF g t hi h hx
    have := g.nn _ _ _ h2
    omega
end
/-! ### the dict -/
def body4 : SS := (sFor (mItems (mTup (mCons (mTup (mCons (mVar 4) (mCons (mVar 5) mNil))) (mCons (mTup (mCons (mVar 5) (mCons (mVar 4) mNil))) mNil)))) (xTup 2 (xsCons (xName 7) (xsCons (xName 8) xsNil))) (sIf (mAnd (mTest (mInD (fun z => z) (mVar 7) (mPeek 2))) (mTest (mBin dLt (mBin dAdd (mSolid (mBin dIxD (mPeek 2) (mVar 7))) (mVar 6)) (mSolid (mGet2 (mPeek 2) (mVar 8) (mBin dPow (DL.ret (.int 10)) (DL.ret (.int 6)))))))) (sPut 2 (mVar 8) (mBin dAdd (mSolid (mBin dIxD (mPeek 2) (mVar 7))) (mVar 6))) sNext))
theorem two_run {tg : SX} {body : SS} {a b : D} {ρ ρ1 ρ2 ρ3 ρ4 : List Sl} {G G1 G2 G3 G4 : Gs} (h1 : tg a ρ G = some (ρ1, G1)) (h2 : body ρ1 G1 = some (.nx ρ2, G2)) (h3 : tg b ρ2 G2 = some (ρ3, G3)) (h4 : body ρ3 G3 = some (.nx ρ4, G4)) : forLoop tg body [a, b] ρ G = some (.nx ρ4, G4) := by
  unfold forLoop
  rw [h1]
  dsimp only
  rw [h2]
  dsimp only
  unfold forLoop
  rw [h3]
  dsimp only
  rw [h4]
  rfl
section
variable {F : Fig} {R : Tab} {i k : Nat}
theorem Far.get {ms : JM} (h : Far F R i ms k) (hi : i < F.n) (g : Good F R) : getI ms i = some 0 := by
  obtain ⟨x, h1, h2⟩ := h.src
  obtain ⟨_, _, z, h3, h4⟩ := h.val i x h1
  rw [g.diag i hi] at h3
  cases h3
  rw [h1, show x = 0 by omega]
theorem from_limb {ms : JM} (hF : F.Ok) (g : Good F R) (t : Tri F.n F.n R) (hi : i < F.n) (hm : Far F R i ms k) (hk : k ≤ 800) {l : Nat × Nat × Int} (hl : l ∈ F.limbs) (f a1 : D) (a3 a7 a8 : Sl) (G : Gs) :
    ∃ ms' b7 b8, body4 [.im f, .im a1, .mk (kvsI ms), a3, .im (natD l.1), .im (natD l.2.1), .im (.int l.2.2), a7, a8] G = some (.nx [.im f, .im a1, .mk (kvsI ms'), a3, .im (natD l.1), .im (natD l.2.1), .im (.int l.2.2), b7, b8], G)
      ∧ Far F R i ms' (k + 2) ∧ Less ms ms' ∧ (∀ x, getI ms l.1 = some x → ∃ y, getI ms' l.2.1 = some y ∧ y ≤ x + l.2.2) ∧ ∀ x, getI ms l.2.1 = some x → ∃ y, getI ms' l.1 = some y ∧ y ≤ x + l.2.2 := by
  obtain ⟨l1, l2, l3, l4⟩ := hF.limb l hl
  obtain ⟨c1, c2⟩ := comp_edge hF g t hi hl
  obtain ⟨ms1, e1, f1, le1, s1⟩ := from_step (b := l.1) (e := l.2.1) (c := l.2.2) hm (by omega) (by omega) l4 l2 c1 f a1 a3 (.im (natD l.1)) (.im (natD l.2.1)) G
  obtain ⟨ms2, e2, f2, le2, s2⟩ := from_step (b := l.2.1) (e := l.1) (c := l.2.2) f1 (by omega) (by omega) l4 (by omega) c2 f a1 a3 (.im (natD l.1)) (.im (natD l.2.1)) G
  refine ⟨ms2, .im (natD l.2.1), .im (natD l.1), ?_, f2, le1.trans le2, fun x h => ?_, fun x h => ?_⟩
  · unfold body4
    refine (for_run (ds := [.tup [natD l.1, natD l.2.1], .tup [natD l.2.1, natD l.1]]) (ρ1 := [.im f, .im a1, .mk (kvsI ms), a3, .im (natD l.1), .im (natD l.2.1), .im (.int l.2.2), a7, a8]) (G1 := G) ?_).trans ?_
    · (repeat' (first | (show _ = _; with_reducible assumption) | trivial))
    · refine two_run ?_ e1 ?_ e2
      · (repeat' (first | (show _ = _; with_reducible assumption) | trivial))
      · (repeat' (first | (show _ = _; with_reducible assumption) | trivial))
  · obtain ⟨y, h1, h2⟩ := s1 x h
    obtain ⟨z, h3, h4⟩ := le2 _ _ h1
    exact ⟨z, h3, by omega⟩
  · obtain ⟨y, h1, h2⟩ := le1 _ _ h
    obtain ⟨z, h3, h4⟩ := s2 _ h1
    exact ⟨z, h3, by omega⟩
def cntG (R : Tab) (i n : Nat) (ms : JM) : Nat := (List.range n).countP fun j => decide (getI ms j = R i j)
theorem good_mono {ms ms' : JM} {k' : Nat} (hl : Less ms ms') (h' : Far F R i ms' k') {j : Nat} (h : getI ms j = R i j) : getI ms' j = R i j := by
  cases q : R i j with
  | none =>
    cases q2 : getI ms' j with
    | none => rfl
    | some y =>
      obtain ⟨_, _, z, h1, _⟩ := h'.val j y q2
      rw [q] at h1
      cases h1
  | some x =>
    rw [q] at h
    obtain ⟨y, h1, h2⟩ := hl j x h
    obtain ⟨_, _, z, h3, h4⟩ := h'.val j y h1
    rw [q] at h3
    cases h3
    rw [h1, show y = x by omega]
theorem far_none {ms : JM} (h : Far F R i ms k) {j : Nat} (q : R i j = none) : getI ms j = none := by
  cases q2 : getI ms j with
  | none => rfl
  | some y =>
    obtain ⟨_, _, z, h1, _⟩ := h.val j y q2
    rw [q] at h1
    cases h1
theorem up_one {ms ms' : JM} {k' m : Nat} (hF : F.Ok) (g : Good F R) (t : Tri F.n F.n R) (hi : i < F.n) (hm : Far F R i ms k) (hm' : Far F R i ms' k') (hle : Less ms ms')
    (hed : ∀ l ∈ F.limbs, (∀ x, getI ms l.1 = some x → ∃ y, getI ms' l.2.1 = some y ∧ y ≤ x + l.2.2) ∧ ∀ x, getI ms l.2.1 = some x → ∃ y, getI ms' l.1 = some y ∧ y ≤ x + l.2.2)
    (hc : min F.n (m + 1) ≤ cntG R i F.n ms) : min F.n (m + 2) ≤ cntG R i F.n ms' := by
  by_cases all : ∀ j, j < F.n → getI ms j = R i j
  · have : cntG R i F.n ms' = F.n := by
      unfold cntG
      have := List.countP_eq_length (p := fun j => decide (getI ms' j = R i j)) (l := List.range F.n)
      rw [List.length_range] at this
      exact this.mpr fun j hj => decide_eq_true (good_mono hle hm' (all j (List.mem_range.mp hj)))
    omega
  · have h1 : ∃ j, j < F.n ∧ getI ms j ≠ R i j := by
      by_cases h : ∃ j, j < F.n ∧ getI ms j ≠ R i j
      · exact h
      · exact (all fun j hj => by
          by_cases q : getI ms j = R i j
          · exact q
          · exact (h ⟨j, hj, q⟩).elim).elim
    obtain ⟨j0, hj0, hb0⟩ := h1
    obtain ⟨v, ⟨hv, hbad⟩, hmin⟩ := least_of (dst R i 0) (fun j => j < F.n ∧ getI ms j ≠ R i j) (fun v hv => by
      cases q : R i v with
      | none => rw [dst_none q]; exact Int.le_refl 0
      | some x => rw [dst_some q]; exact g.nn _ _ _ q) _ j0 rfl ⟨hj0, hb0⟩
    have vx : ∃ x, R i v = some x := by
      cases q : R i v with
      | none => rw [q] at hbad; exact (hbad (far_none hm q)).elim
      | some x => exact ⟨x, rfl⟩
    obtain ⟨x, hx⟩ := vx
    have vi : v ≠ i := fun e => by
      subst e
      exact hbad (by rw [hm.get hi g, g.diag v hi])
    obtain ⟨b, c, y, hl, hy, hyc, hb, c1⟩ := pred_ex hF g t hi vi hx
    have gb : getI ms b = some y := by
      by_cases q : getI ms b = R i b
      · rw [q]; exact hy
      · have := hmin b ⟨hb, q⟩
        rw [dst_some hx, dst_some hy] at this
        omega
    have gv : ∃ z, getI ms' v = some z ∧ z ≤ x := by
      rcases hl with hl | hl
      · obtain ⟨z, h1, h2⟩ := (hed _ hl).1 y gb
        exact ⟨z, h1, by dsimp only at h2; omega⟩
      · obtain ⟨z, h1, h2⟩ := (hed _ hl).2 y gb
        exact ⟨z, h1, by dsimp only at h2; omega⟩
    obtain ⟨z, hz, hzx⟩ := gv
    have gv2 : getI ms' v = R i v := by
      obtain ⟨_, _, w, h3, h4⟩ := hm'.val v z hz
      rw [hx] at h3
      cases h3
      rw [hz, hx, show z = x by omega]
    have : cntG R i F.n ms < cntG R i F.n ms' := by
      unfold cntG
      refine countP_lt (fun j _ h => decide_eq_true (good_mono hle hm' (of_decide_eq_true h))) ⟨v, List.mem_range.mpr hv, decide_eq_true gv2, decide_eq_false hbad⟩
    omega
theorem far_start (hi : i < F.n) (g : Good F R) : Far F R i [(i, 0)] 0 where
  len := Nat.le_refl _
  val := fun j x h => by
    by_cases q : i = j
    · subst q
      have : getI [(i, 0)] i = some 0 := by
        unfold getI
        rw [find_pos (f := fun q : Nat × Int => decide (q.1 = i)) (decide_eq_true rfl)]
        rfl
      rw [this] at h
      cases h
      exact ⟨by omega, hi, 0, g.diag i hi, Int.le_refl _⟩
    · have : getI [(i, 0)] j = none := by
        unfold getI
        rw [find_neg (f := fun q : Nat × Int => decide (q.1 = j)) (decide_eq_false q)]
        rfl
      rw [this] at h
      cases h
  src := ⟨0, by
    unfold getI
    rw [find_pos (f := fun q : Nat × Int => decide (q.1 = i)) (decide_eq_true rfl)]
    rfl, Int.le_refl _⟩
theorem varK_r {ρ ρ1 : List Sl} {G : Gs} {kvs : List (L2.Key × D)} (h : ρ[i]? = some (.mk kvs)) (he : ρ.set i (.im (.dk kvs)) = ρ1) : mVar i ρ G = some (.dk kvs, ρ1, G) := by
  unfold mVar
  rw [h, ← he]
theorem disp_r {a b : SE} {ρ ρ1 ρ2 : List Sl} {G G1 G2 : Gs} {d : D} (h : a ρ G = some (natD i, ρ1, G1)) (h2 : b ρ1 G1 = some (d, ρ2, G2)) : mDisp1 a b ρ G = some (.mk [(.inl (i : Int), d)], ρ2, G2) := by
  unfold mDisp1 bnd
  rw [h]
  dsimp only
  rw [h2]
  rfl
/-- law_from tells the distances from a joint -/
def Dists (R : Tab) (n i : Nat) (ms : JM) : Prop := ∀ j, j < n → getI ms j = R i j
theorem law_from_ok (hF : F.Ok) (g : Good F R) (t : Tri F.n F.n R) (hi : i < F.n) (G : Gs) : ∃ ms, law_from [F.d, natD i] G = some (.dk (kvsI ms), G) ∧ Dists R F.n i ms := by
  have n8 := hF.n8
  have few := hF.few
  have key : ∃ d G', law_from [F.d, natD i] G = some (d, G') ∧ ∃ ms, d = .dk (kvsI ms) ∧ G' = G ∧ Dists R F.n i ms := by
    unfold law_from
    refine def_e rfl ?_
    simp only [List.map_cons, List.map_nil, Nat.reduceSub, List.replicate, List.cons_append, List.nil_append]
    apply Ends.seq
    · apply set_r
      · apply disp_r
        · (repeat' (first | (show _ = _; with_reducible assumption) | trivial))
        · (repeat' (first | (show _ = _; with_reducible assumption) | trivial))
      · rfl
      · (repeat' (first | (show _ = _; with_reducible assumption) | trivial))
    apply Ends.for (fun q ρ G9 => G9 = G ∧ ∃ (ms : JM) (a3 a4 a5 a6 a7 a8 : Sl), ρ = [.im F.d, .im (natD i), .mk (kvsI ms), a3, a4, a5, a6, a7, a8] ∧ Far F R i ms (24 * q) ∧ min F.n (q + 1) ≤ cntG R i F.n ms)
    · apply rng_r
      · (repeat' (first | (show _ = _; with_reducible assumption) | trivial))
      · omega
    · refine ⟨rfl, [(i, 0)], _, _, _, _, _, _, rfl, far_start hi g, ?_⟩
      have : 0 < cntG R i F.n [(i, 0)] := by
        unfold cntG
        exact List.countP_pos_iff.mpr ⟨i, List.mem_range.mpr hi, decide_eq_true (by rw [(far_start hi g).get hi g, g.diag i hi])⟩
      omega
    · rintro ρ G' ⟨rfl, ms, a3, a4, a5, a6, a7, a8, rfl, hm, hc⟩
      rw [List.length_map, List.length_range] at hc hm
      apply Ends.ret
      · apply varK_r
        · rfl
        · rfl
      · refine ⟨_, rfl, ms, rfl, rfl, fun j hj => ?_⟩
        have : cntG R i F.n ms = F.n := by
          have : cntG R i F.n ms ≤ F.n := by
            have := List.countP_le_length (p := fun j => decide (getI ms j = R i j)) (l := List.range F.n)
            rw [List.length_range] at this
            exact this
          omega
        unfold cntG at this
        have h2 := List.countP_eq_length (p := fun j => decide (getI ms j = R i j)) (l := List.range F.n)
        rw [List.length_range] at h2
        exact of_decide_eq_true (h2.mp this j (List.mem_range.mpr hj))
    · rintro q d hd ρ G' ⟨rfl, ms, a3, a4, a5, a6, a7, a8, rfl, hm, hc⟩
      obtain ⟨hq, rfl⟩ := get_range hd
      refine ⟨_, _, by (repeat' (first | (show _ = _; with_reducible assumption) | trivial)), ?_⟩
      apply Ends.loop (fun p ρ G9 => G9 = G' ∧ ∃ (ms' : JM) (b4 b5 b6 b7 b8 : Sl), ρ = [.im F.d, .im (natD i), .mk (kvsI ms'), .im (natD q), b4, b5, b6, b7, b8] ∧ Far F R i ms' (24 * q + 2 * p) ∧ Less ms ms' ∧
        ∀ l ∈ F.limbs.take p, (∀ x, getI ms l.1 = some x → ∃ y, getI ms' l.2.1 = some y ∧ y ≤ x + l.2.2) ∧ ∀ x, getI ms l.2.1 = some x → ∃ y, getI ms' l.1 = some y ∧ y ≤ x + l.2.2)
      · apply items_r
        · (repeat' (first | (show _ = _; with_reducible assumption) | trivial))
        · exact rfl
      · exact ⟨rfl, ms, _, _, _, _, _, rfl, hm, Less.refl ms, fun l hl => by cases hl⟩
      · rintro ρ G2 ⟨rfl, ms', b4, b5, b6, b7, b8, rfl, hm', hle, hed⟩
        rw [List.length_map] at hm' hed
        rw [List.take_length] at hed
        refine ⟨_, rfl, rfl, ms', _, _, _, _, _, _, rfl, ⟨?_, fun j x h => ?_, hm'.src⟩, up_one hF g t hi hm hm' hle hed hc⟩
        · have := hm'.len
          omega
        · obtain ⟨h1, h2⟩ := hm'.val j x h
          exact ⟨by omega, h2⟩
      · rintro p d hd ρ G2 ⟨rfl, ms', b4, b5, b6, b7, b8, rfl, hm', hle, hed⟩
        obtain ⟨l, hl, rfl⟩ := get_limb hd
        have hp : p < F.limbs.length := (List.getElem?_eq_some_iff.mp hl).1
        have lm : l ∈ F.limbs := List.mem_of_getElem? hl
        obtain ⟨ms2, c7, c8, e, f2, le2, s1, s2⟩ := from_limb hF g t hi hm' (by omega) lm F.d (natD i) (.im (natD q)) b7 b8 G2
        refine ⟨[.im F.d, .im (natD i), .mk (kvsI ms'), .im (natD q), .im (natD l.1), .im (natD l.2.1), .im (.int l.2.2), b7, b8], G2, by unfold limbD; (repeat' (first | (show _ = _; with_reducible assumption) | trivial)), ?_⟩
        refine ⟨_, _, e, _, rfl, rfl, ms2, _, _, _, _, _, rfl, f2, hle.trans le2, fun l' hl' => ?_⟩
        have tk : F.limbs.take (p + 1) = F.limbs.take p ++ [l] := by rw [List.take_add_one, hl]; rfl
        rw [tk] at hl'
        rcases List.mem_append.mp hl' with hl' | hl'
        · refine ⟨fun x h => ?_, fun x h => ?_⟩
          · obtain ⟨y, h1, h2⟩ := (hed l' hl').1 x h
            obtain ⟨z, h3, h4⟩ := le2 _ _ h1
            exact ⟨z, h3, by omega⟩
          · obtain ⟨y, h1, h2⟩ := (hed l' hl').2 x h
            obtain ⟨z, h3, h4⟩ := le2 _ _ h1
            exact ⟨z, h3, by omega⟩
        · rw [List.mem_singleton.mp hl']
          refine ⟨fun x h => ?_, fun x h => ?_⟩
          · obtain ⟨x', h1, h2⟩ := hle _ _ h
            obtain ⟨y, h3, h4⟩ := s1 _ h1
            exact ⟨y, h3, by omega⟩
          · obtain ⟨x', h1, h2⟩ := hle _ _ h
            obtain ⟨y, h3, h4⟩ := s2 _ h1
            exact ⟨y, h3, by omega⟩
  obtain ⟨d, G', e, ms, rfl, rfl, h⟩ := key
  exact ⟨ms, e, h⟩
end
end DM

/-! DM: the joints beside a joint. -/
namespace DM
open DL L2
open PySem (Paired)
local macro_rules | `(tactic| trivial) => `(tactic| (first | (with_reducible apply var_run; (repeat (with_reducible apply atS)); with_reducible exact at0) | (with_reducible apply peek_r; (repeat (with_reducible apply atS)); with_reducible exact at0) | (with_reducible apply peek1_r; (repeat (with_reducible apply atS)); with_reducible exact at0) | (with_reducible apply peekT_r; (repeat (with_reducible apply atS)); with_reducible exact at0) | (with_reducible apply var1_r; focus ((repeat (with_reducible apply atS)); with_reducible exact at0)) | with_reducible exact mNil_ap | with_reducible exact ret_ap | with_reducible exact ixF0 | with_reducible exact ixF1 | with_reducible exact ixF2 | with_reducible exact ixF3 | with_reducible exact len_kvs | with_reducible exact len_ints | with_reducible exact len_lst | with_reducible exact len_tup | with_reducible exact dzip_ints | with_reducible exact dzipn_ints | with_reducible exact dtuple_i | with_reducible exact dtuple_n | with_reducible exact items_ints | with_reducible exact items_tup | with_reducible exact items_lst | with_reducible exact dmin2_mn | with_reducible exact dmina_2 | with_reducible exact dmaxa_2 | with_reducible exact dix2_0 | with_reducible exact dix2_1 | with_reducible exact dix3_0 | with_reducible exact dix3_1 | with_reducible exact dix3_2 | with_reducible exact dix4_0 | with_reducible exact dix4_1 | with_reducible exact dix4_2 | with_reducible exact dix4_3 | with_reducible exact st0 | with_reducible exact lt0 | with_reducible exact ne_nil | with_reducible exact eq_nil | with_reducible exact isis | with_reducible exact isnot | with_reducible exact at0 | with_reducible exact wipe0 | with_reducible exact xnil_r | with_reducible exact gnil_r | with_reducible exact next_r | with_reducible apply atS | with_reducible apply stS | with_reducible apply ltS | with_reducible apply wipeC | with_reducible apply cons_run | with_reducible apply tup_run | with_reducible apply lst_r | with_reducible apply bin_run | with_reducible apply mFn_run | with_reducible apply call_run | with_reducible apply im_run | with_reducible apply set_r | with_reducible apply par_r | with_reducible apply asg_run | with_reducible apply name_r | with_reducible apply xtup_run | with_reducible apply xcons_run | with_reducible apply gset_r | with_reducible apply gtup_r | with_reducible apply gcons_r | with_reducible apply items_r | with_reducible apply un_r | with_reducible apply len_r | with_reducible apply sl_r | with_reducible apply part_r | with_reducible apply back_r | with_reducible apply zip_r | with_reducible apply zipn_r | with_reducible apply rng_r | with_reducible apply test_run | with_reducible apply not_r | with_reducible apply not_t | with_reducible apply not_f | with_reducible apply test_n | with_reducible apply ret_run | with_reducible apply expr_run | with_reducible apply lstN_r | with_reducible apply binN_r | with_reducible apply dadd_lst | with_reducible apply daddN_lst | with_reducible apply lc_r | ((with_reducible show dNeg _ = _); exact rfl) | ((with_reducible show dAdd _ _ = _); exact rfl) | ((with_reducible show dSub _ _ = _); exact rfl) | ((with_reducible show dLt _ _ = _); exact rfl) | ((with_reducible show dLe _ _ = _); exact rfl) | ((with_reducible show dGt _ _ = _); exact rfl) | ((with_reducible show dGe _ _ = _); exact rfl) | ((with_reducible show dIs _ _ = _); exact rfl) | ((with_reducible show dIsNot _ _ = _); exact rfl) | ((with_reducible show dMin2 _ = _); exact rfl) | ((with_reducible show dMax2 _ = _); exact rfl) | ((with_reducible show dTuple _ = _); exact rfl) | ((with_reducible show dList _ = _); exact rfl) | ((with_reducible show dAbs _ = _); exact rfl) | ((with_reducible show D.items _ = _); exact rfl) | ((with_reducible show dLen1 _ = _); exact rfl) | ((with_reducible show List.length _ = _); exact rfl) | ((with_reducible show okW _ _ = _); exact rfl) | ((with_reducible show dIx _ _ = _); exact rfl) | ((with_reducible show szOk _ = _); exact rfl) | (show _ ≤ _; with_reducible assumption) | ((with_reducible show List.length _ + List.length _ ≤ 1000000); exact Nat.le_of_ble_eq_true rfl) | ((with_reducible show List.length _ ≤ 1000000); exact Nat.le_of_ble_eq_true rfl) | ((with_reducible show ∀ _ ∈ _, _ = _); intro _ _)))
theorem eqv_same {x y : Int × Int} (h : SrtO.eqv SrtO.lexB x y = true) : y = x := by
  obtain ⟨h1, h2⟩ := SrtO.eqv_iff.mp h
  have a := SrtO.lexB_no.mp h1
  have b := SrtO.lexB_no.mp h2
  exact Prod.ext (by omega) (by omega)
theorem cls_perm {l m : List (Int × Int)} (h : l.Perm m) (x : Int × Int) : l.filter (SrtO.eqv SrtO.lexB x) = m.filter (SrtO.eqv SrtO.lexB x) := by
  have a : ∀ l : List (Int × Int), l.filter (SrtO.eqv SrtO.lexB x) = List.replicate (l.filter (SrtO.eqv SrtO.lexB x)).length x := fun l =>
    List.eq_replicate_iff.mpr ⟨rfl, fun y hy => eqv_same (List.mem_filter.mp hy).2⟩
  rw [a l, a m, (h.filter _).length_eq]
theorem srt_perm {l m : List (Int × Int)} (h : l.Perm m) : srtD SrtO.lexB l = srtD SrtO.lexB m :=
  srtD_uniq lexB_swo (srtD_srtd lexB_swo l) ⟨(srtD_perm l).trans h, fun x => cls_perm ((srtD_perm l).trans h) x⟩
theorem sorted_r {a : SE} {ρ ρ1 : List Sl} {G G1 : Gs} {ds : List D} {ps : List (Int × Int)} (h : a ρ G = some (.lst ds, ρ1, G1)) (he : ds = ps.map dPair) : mSorted a ρ G = some (.lst ((srtD SrtO.lexB ps).map dPair), ρ1, G1) := by
  subst he
  unfold mSorted bnd
  rw [h]
  dsimp only
  unfold lft dSortedL
  dsimp only
  rw [pairsOf_map]
  rfl
/-- the other ends of a joint's limbs, as they stand -/
def endP (j : Nat) (l : Nat × Nat × Int) : List (Int × Int) := if l.1 = j then [((l.2.1 : Int), l.2.2)] else if l.2.1 = j then [((l.1 : Int), l.2.2)] else []
def bes (F : Fig) (j : Nat) : List (Int × Int) := srtD SrtO.lexB (F.limbs.flatMap (endP j))
theorem ends_perm (j : Nat) : ∀ ls : List (Nat × Nat × Int), (∀ l ∈ ls, l.1 < l.2.1) → ((ls.filter fun l => decide (l.1 = j)).map (fun l => ((l.2.1 : Int), l.2.2)) ++ (ls.filter fun l => decide (l.2.1 = j)).map (fun l => ((l.1 : Int), l.2.2))).Perm (ls.flatMap (endP j))
  | [], _ => List.Perm.refl _
  | l :: ls, h => by
    have ih := ends_perm j ls fun x hx => h x (List.mem_cons_of_mem _ hx)
    have hl := h l List.mem_cons_self
    rw [List.flatMap_cons]
    by_cases h1 : l.1 = j
    · have h2 : ¬ l.2.1 = j := by omega
      rw [List.filter_cons_of_pos (by simpa using h1), List.filter_cons_of_neg (by simpa using h2), List.map_cons, List.cons_append]
      have : endP j l = [((l.2.1 : Int), l.2.2)] := by unfold endP; rw [if_pos h1]
      rw [this]
      exact ih.cons _
    · by_cases h2 : l.2.1 = j
      · rw [List.filter_cons_of_neg (by simpa using h1), List.filter_cons_of_pos (by simpa using h2), List.map_cons]
        have : endP j l = [((l.1 : Int), l.2.2)] := by unfold endP; rw [if_neg h1, if_pos h2]
        rw [this]
        exact List.perm_middle.trans (ih.cons _)
      · rw [List.filter_cons_of_neg (by simpa using h1), List.filter_cons_of_neg (by simpa using h2)]
        have : endP j l = [] := by unfold endP; rw [if_neg h1, if_neg h2]
        rw [this]
        exact ih
theorem items_limbs {F : Fig} : (D.tup (F.limbs.map limbD)).items = some (F.limbs.map fun l => D.tup [.int (l.1 : Int), .int (l.2.1 : Int), .int l.2.2]) := rfl
theorem eqn_r {i j : Nat} : dEq (.int (i : Int)) (natD j) = some (.bl (decide (i = j))) := by
  have := eqI (i : Int) (j : Int)
  rw [show decide ((i : Int) = (j : Int)) = decide (i = j) from decide_eq_decide.mpr (by omega)] at this
  exact this
def beside : Sf := mDef 2 6
  ((sSeq (sSet 2 (mIm (mLc [3, 4, 5] (mItems (mBin dIx (mVar 0) (DL.ret (.int 1)))) (gTupS 3 (gsCons (gSet 3) (gsCons (gSet 4) (gsCons (gSet 5) gsNil)))) (mTest (mBin dEq (mVar 3) (mVar 1))) (mTup (mCons (mVar 4) (mCons (mVar 5) mNil))))))
  (sRet (mSorted (mBin dAdd (mVar 2) (mLc [3, 4, 5] (mItems (mBin dIx (mVar 0) (DL.ret (.int 1)))) (gTupS 3 (gsCons (gSet 3) (gsCons (gSet 4) (gsCons (gSet 5) gsNil)))) (mTest (mBin dEq (mVar 4) (mVar 1))) (mTup (mCons (mVar 3) (mCons (mVar 5) mNil)))))))))
def law_beside : Sf := mDef 2 6
  ((sSeq (sSet 2 (mIm (mLst mNil)))
  (sSeq (sFor (mItems (mBin dIx (mVar 0) (DL.ret (.int 1)))) (xTup 3 (xsCons (xName 3) (xsCons (xName 4) (xsCons (xName 5) xsNil)))) (sSet 2 (mIm (mBin dAdd (mVar 2) (mIf (mTest (mBin dEq (mVar 3) (mVar 1))) (mLst (mCons (mTup (mCons (mVar 4) (mCons (mVar 5) mNil))) mNil)) (mIf (mTest (mBin dEq (mVar 4) (mVar 1))) (mLst (mCons (mTup (mCons (mVar 3) (mCons (mVar 5) mNil))) mNil)) (mLst mNil)))))))
  (sRet (mSorted (mVar 2))))))
theorem beside_ok {F : Fig} (hF : F.Ok) {j : Nat} (G : Gs) : beside [F.d, natD j] G = some (.lst ((bes F j).map dPair), G) := by
  have few := hF.few
  unfold beside
  refine def_v rfl ?_
  simp only [List.map_cons, List.map_nil, Nat.reduceSub, List.replicate, List.cons_append, List.nil_append]
  apply Ends.seq
  · apply set_r
    · apply im_run
      apply lcf_r F.limbs (fun l => D.tup [.int (l.1 : Int), .int (l.2.1 : Int), .int l.2.2]) (fun l => dPair ((l.2.1 : Int), l.2.2)) (fun l => decide (l.1 = j))
      · (repeat' (first | (show _ = _; with_reducible assumption) | with_reducible exact items_limbs | trivial))
      · omega
      · (repeat' (first | (show _ = _; with_reducible assumption) | trivial))
      · (repeat' (first | (show _ = _; with_reducible assumption) | trivial))
      · (repeat' (first | (show _ = _; with_reducible assumption) | trivial))
      · (repeat' (first | (show _ = _; with_reducible assumption) | trivial))
      · intro l hl
        (repeat' (first | (show _ = _; with_reducible assumption) | with_reducible exact eqn_r | trivial))
      · intro l hl _
        refine tup_run ?_ (Nat.le_of_ble_eq_true rfl)
        (repeat' (first | (show _ = _; with_reducible assumption) | trivial))
    · (repeat' (first | (show _ = _; with_reducible assumption) | trivial))
    · (repeat' (first | (show _ = _; with_reducible assumption) | trivial))
  apply Ends.ret
  · apply sorted_r (ps := (F.limbs.filter fun l => decide (l.1 = j)).map (fun l => ((l.2.1 : Int), l.2.2)) ++ (F.limbs.filter fun l => decide (l.2.1 = j)).map (fun l => ((l.1 : Int), l.2.2)))
    · apply bin_run
      · (repeat' (first | (show _ = _; with_reducible assumption) | trivial))
      · apply lcf_r F.limbs (fun l => D.tup [.int (l.1 : Int), .int (l.2.1 : Int), .int l.2.2]) (fun l => dPair ((l.1 : Int), l.2.2)) (fun l => decide (l.2.1 = j))
        · (repeat' (first | (show _ = _; with_reducible assumption) | with_reducible exact items_limbs | trivial))
        · omega
        · (repeat' (first | (show _ = _; with_reducible assumption) | trivial))
        · (repeat' (first | (show _ = _; with_reducible assumption) | trivial))
        · (repeat' (first | (show _ = _; with_reducible assumption) | trivial))
        · (repeat' (first | (show _ = _; with_reducible assumption) | trivial))
        · intro l hl
          (repeat' (first | (show _ = _; with_reducible assumption) | with_reducible exact eqn_r | trivial))
        · intro l hl _
          refine tup_run ?_ (Nat.le_of_ble_eq_true rfl)
          (repeat' (first | (show _ = _; with_reducible assumption) | trivial))
      · apply dadd_lst
        rw [List.length_map, List.length_map]
        have a := List.length_filter_le (fun l : Nat × Nat × Int => decide (l.1 = j)) F.limbs
        have b := List.length_filter_le (fun l : Nat × Nat × Int => decide (l.2.1 = j)) F.limbs
        omega
    · rw [List.map_append, List.map_map, List.map_map]
      rfl
  · refine ⟨?_, rfl⟩
    unfold bes
    rw [srt_perm (ends_perm j F.limbs fun l hl => (hF.limb l hl).1)]
theorem if_t {p : SB} {a b : SE} {ρ ρ1 ρ2 : List Sl} {G G1 G2 : Gs} {k : Bool} {d : D} (h : p ρ G = some (k, ρ1, G1)) (hk : k = true) (h2 : a ρ1 G1 = some (d, ρ2, G2)) : mIf p a b ρ G = some (d, ρ2, G2) := by
  subst hk
  exact ifT_r h h2
theorem if_f {p : SB} {a b : SE} {ρ ρ1 ρ2 : List Sl} {G G1 G2 : Gs} {k : Bool} {d : D} (h : p ρ G = some (k, ρ1, G1)) (hk : k = false) (h2 : b ρ1 G1 = some (d, ρ2, G2)) : mIf p a b ρ G = some (d, ρ2, G2) := by
  subst hk
  exact ifF_r h h2
theorem law_beside_ok {F : Fig} (hF : F.Ok) {j : Nat} (G : Gs) : law_beside [F.d, natD j] G = some (.lst ((bes F j).map dPair), G) := by
  have few := hF.few
  unfold law_beside
  refine def_v rfl ?_
  simp only [List.map_cons, List.map_nil, Nat.reduceSub, List.replicate, List.cons_append, List.nil_append]
  apply Ends.seq
  · (repeat' (first | (show _ = _; with_reducible assumption) | trivial))
  apply Ends.for (fun i ρ G9 => G9 = G ∧ ∃ (a3 a4 a5 : Sl), ρ = [.im F.d, .im (natD j), .im (.lst (((F.limbs.take i).flatMap (endP j)).map dPair)), a3, a4, a5] ∧ ((F.limbs.take i).flatMap (endP j)).length ≤ i)
  · (repeat' (first | (show _ = _; with_reducible assumption) | with_reducible exact items_limbs | trivial))
  · exact ⟨rfl, _, _, _, rfl, Nat.le_refl _⟩
  · rintro ρ G' ⟨rfl, a3, a4, a5, rfl, hl⟩
    apply Ends.ret
    · apply sorted_r
      · (repeat' (first | (show _ = _; with_reducible assumption) | trivial))
      · rfl
    · refine ⟨?_, rfl⟩
      rw [List.length_map, List.take_length]
      rfl
  · rintro i d hd ρ G' ⟨rfl, a3, a4, a5, rfl, hl⟩
    rw [List.getElem?_map] at hd
    obtain ⟨l, hl1, e⟩ := Option.map_eq_some_iff.mp hd
    subst e
    have hi : i < F.limbs.length := (List.getElem?_eq_some_iff.mp hl1).1
    refine ⟨_, _, by (repeat' (first | (show _ = _; with_reducible assumption) | trivial)), ?_⟩
    have tk : F.limbs.take (i + 1) = F.limbs.take i ++ [l] := by rw [List.take_add_one, hl1]; rfl
    have key : ∀ es : List (Int × Int), endP j l = es → (((F.limbs.take (i + 1)).flatMap (endP j)).map dPair) = (((F.limbs.take i).flatMap (endP j)).map dPair) ++ es.map dPair := fun es he => by
      rw [tk, List.flatMap_append, List.flatMap_cons, List.flatMap_nil, List.append_nil, he, List.map_append]
    have le1 : (endP j l).length ≤ 1 := by
      unfold endP
      split
      · exact Nat.le_refl 1
      · split
        · exact Nat.le_refl 1
        · exact Nat.zero_le 1
    have hlen : ((F.limbs.take (i + 1)).flatMap (endP j)).length ≤ i + 1 := by
      rw [tk, List.flatMap_append, List.flatMap_cons, List.flatMap_nil, List.append_nil, List.length_append]
      omega
    have add : ∀ ys : List D, ys.length ≤ 1 → dAdd (.lst (((F.limbs.take i).flatMap (endP j)).map dPair)) (.lst ys) = some (.lst (((F.limbs.take i).flatMap (endP j)).map dPair ++ ys)) := fun ys h => dadd_lst (by rw [List.length_map]; omega)
    by_cases h1 : l.1 = j
    · have e1 := key [((l.2.1 : Int), l.2.2)] (by unfold endP; rw [if_pos h1])
      apply DM.Ends.nx (ρ1 := [.im F.d, .im (natD j), .im (.lst (((F.limbs.take (i + 1)).flatMap (endP j)).map dPair)), .im (.int (l.1 : Int)), .im (.int (l.2.1 : Int)), .im (.int l.2.2)]) (G1 := G')
      · rw [e1]
        apply set_r
        · apply im_run
          apply bin_run
          · (repeat' (first | (show _ = _; with_reducible assumption) | trivial))
          · apply if_t
            · (repeat' (first | (show _ = _; with_reducible assumption) | with_reducible exact eqn_r | trivial))
            · exact decide_eq_true h1
            · (repeat' (first | (show _ = _; with_reducible assumption) | trivial))
          · exact add _ (Nat.le_refl 1)
        · rfl
        · (repeat' (first | (show _ = _; with_reducible assumption) | trivial))
      · exact ⟨_, rfl, rfl, _, _, _, rfl, hlen⟩
    · by_cases h2 : l.2.1 = j
      · have e1 := key [((l.1 : Int), l.2.2)] (by unfold endP; rw [if_neg h1, if_pos h2])
        apply DM.Ends.nx (ρ1 := [.im F.d, .im (natD j), .im (.lst (((F.limbs.take (i + 1)).flatMap (endP j)).map dPair)), .im (.int (l.1 : Int)), .im (.int (l.2.1 : Int)), .im (.int l.2.2)]) (G1 := G')
        · rw [e1]
          apply set_r
          · apply im_run
            apply bin_run
            · (repeat' (first | (show _ = _; with_reducible assumption) | trivial))
            · apply if_f
              · (repeat' (first | (show _ = _; with_reducible assumption) | with_reducible exact eqn_r | trivial))
              · exact decide_eq_false h1
              · apply if_t
                · (repeat' (first | (show _ = _; with_reducible assumption) | with_reducible exact eqn_r | trivial))
                · exact decide_eq_true h2
                · (repeat' (first | (show _ = _; with_reducible assumption) | trivial))
            · exact add _ (Nat.le_refl 1)
          · rfl
          · (repeat' (first | (show _ = _; with_reducible assumption) | trivial))
        · exact ⟨_, rfl, rfl, _, _, _, rfl, hlen⟩
      · have e1 := key [] (by unfold endP; rw [if_neg h1, if_neg h2])
        apply DM.Ends.nx (ρ1 := [.im F.d, .im (natD j), .im (.lst (((F.limbs.take (i + 1)).flatMap (endP j)).map dPair)), .im (.int (l.1 : Int)), .im (.int (l.2.1 : Int)), .im (.int l.2.2)]) (G1 := G')
        · rw [e1]
          apply set_r
          · apply im_run
            apply bin_run
            · (repeat' (first | (show _ = _; with_reducible assumption) | trivial))
            · apply if_f
              · (repeat' (first | (show _ = _; with_reducible assumption) | with_reducible exact eqn_r | trivial))
              · exact decide_eq_false h1
              · apply if_f
                · (repeat' (first | (show _ = _; with_reducible assumption) | with_reducible exact eqn_r | trivial))
                · exact decide_eq_false h2
                · (repeat' (first | (show _ = _; with_reducible assumption) | trivial))
            · exact add _ (Nat.zero_le 1)
          · rfl
          · (repeat' (first | (show _ = _; with_reducible assumption) | trivial))
        · exact ⟨_, rfl, rfl, _, _, _, rfl, hlen⟩
theorem okD_map {α : Type} {j : Nat} {xs : List α} {f : α → D} (hl : xs.length ≤ 1000) (h : ∀ x ∈ xs, okD j (f x) = true) : okD (j + 1) (.tup (xs.map f)) = true := by
  show (decide ((xs.map f).length ≤ 1000) && (xs.map f).all (okD j)) = true
  rw [List.length_map, decide_eq_true hl, Bool.true_and, List.all_eq_true]
  intro d hd
  obtain ⟨x, hx, rfl⟩ := List.mem_map.mp hd
  exact h x hx
theorem ends_len (j : Nat) : ∀ ls : List (Nat × Nat × Int), (ls.flatMap (endP j)).length ≤ ls.length
  | [] => Nat.le_refl 0
  | l :: ls => by
    have := ends_len j ls
    have le1 : (endP j l).length ≤ 1 := by
      unfold endP
      split
      · exact Nat.le_refl 1
      · split
        · exact Nat.le_refl 1
        · exact Nat.zero_le 1
    rw [List.flatMap_cons, List.length_append, List.length_cons]
    omega
theorem bes_len {F : Fig} (hF : F.Ok) (j : Nat) : (bes F j).length ≤ 12 := by
  unfold bes
  rw [(srtD_perm (lt := SrtO.lexB) _).length_eq]
  have := ends_len j F.limbs
  have := hF.few
  omega
theorem rng2_k {i j : Int} {ds : List D} {ρ : List Sl} {G : Gs} (h : rng i j = ds) (h1 : -(2 ^ 62) ≤ i) (h2 : i < 2 ^ 62) (h3 : -(2 ^ 62) ≤ j) (h4 : j < 2 ^ 62) : mRng2 (DL.ret (.int i)) (DL.ret (.int j)) ρ G = some (ds, ρ, G) := by
  rw [← h]
  exact rng2_run ret_ap ret_ap h1 h2 h3 h4
end DM

/-! DM: first shortest ways. -/
namespace DM
open DL L2
section
variable {F : Fig} {R : Tab} {i j u : Nat} {x : Int}
theorem tab_uniq_le {T : Tab} (hF : F.Ok) (g : Good F R) (g' : Good F T) (t' : Tri F.n F.n T) (hi : i < F.n) (hx : R i j = some x) : ∃ y, T i j = some y ∧ y ≤ x := by
  have : dst T i (x + 1) j ≤ dst T i (x + 1) i + x := g.sound _ (dst_limbs hF g' t' hi (x + 1)) i j x hx
  rw [dst_some (g'.diag i hi)] at this
  cases q : T i j with
  | none => rw [dst_none q] at this; omega
  | some y => rw [dst_some q] at this; exact ⟨y, rfl, by omega⟩
theorem tab_uniq {T : Tab} (hF : F.Ok) (g : Good F R) (t : Tri F.n F.n R) (g' : Good F T) (t' : Tri F.n F.n T) (hi : i < F.n) (hj : j < F.n) : R i j = T i j := by
  cases q : R i j with
  | none =>
    cases q2 : T i j with
    | none => rfl
    | some y =>
      obtain ⟨z, hz, _⟩ := tab_uniq_le hF g' g t hi q2
      rw [q] at hz
      cases hz
  | some x =>
    obtain ⟨y, hy, h1⟩ := tab_uniq_le hF g g' t' hi q
    obtain ⟨z, hz, h2⟩ := tab_uniq_le hF g' g t hi hy
    rw [q] at hz
    cases hz
    rw [hy, show y = x by omega]
/-- one table for all calls -/
theorem tab_ex (hF : F.Ok) : ∃ R, Good F R ∧ Tri F.n F.n R := by
  obtain ⟨dss, R, _, _, g, t⟩ := table_of_ok hF []
  exact ⟨R, g, t⟩
theorem tab_ok (hF : F.Ok) (g : Good F R) (t : Tri F.n F.n R) (G : Gs) : ∃ dss, table_of [F.d] G = some (.lst (dss.map D.lst), G) ∧ Tbl F.n dss R := by
  obtain ⟨dss, T, e, tb, g', t'⟩ := table_of_ok hF G
  exact ⟨dss, e, tb.congr fun i j hi hj => tab_uniq hF g' t' g t hi hj⟩
/-! ### beside -/
theorem bes_mem {q : Int × Int} : q ∈ bes F u ↔ ∃ b : Nat, q.1 = (b : Int) ∧ ∃ l ∈ F.limbs, l = (u, b, q.2) ∨ (l = (b, u, q.2) ∧ b ≠ u) := by
  unfold bes
  rw [(srtD_perm (lt := SrtO.lexB) _).mem_iff, List.mem_flatMap]
  constructor
  · rintro ⟨l, hl, hq⟩
    unfold endP at hq
    split at hq
    · rename_i h
      rw [List.mem_singleton.mp hq]
      exact ⟨l.2.1, rfl, l, hl, .inl (by rw [← h])⟩
    · rename_i h
      split at hq
      · rename_i h2
        rw [List.mem_singleton.mp hq]
        exact ⟨l.1, rfl, l, hl, .inr ⟨by rw [← h2], h⟩⟩
      · cases hq
  · rintro ⟨b, e, l, hl, h | ⟨h, hb⟩⟩
    · refine ⟨l, hl, ?_⟩
      unfold endP
      rw [h, if_pos rfl]
      exact List.mem_singleton.mpr (Prod.ext e rfl)
    · refine ⟨l, hl, ?_⟩
      unfold endP
      rw [h, if_neg hb, if_pos rfl]
      exact List.mem_singleton.mpr (Prod.ext e rfl)
theorem bes_up : (bes F u).Pairwise fun a b => a.1 ≤ b.1 := by
  have := srtD_srtd lexB_swo (F.limbs.flatMap (endP u))
  refine List.Pairwise.imp (fun {a b} h => ?_) this
  have := SrtO.lexB_no.mp h
  omega
theorem bes_to (hF : F.Ok) (g : Good F R) (t : Tri F.n F.n R) (hu : u < F.n) (hj : j < F.n) (hx : R u j = some x) {q : Int × Int} (hq : q ∈ bes F u) : ∃ (b : Nat) (y : Int), q.1 = (b : Int) ∧ b < F.n ∧ R b j = some y ∧ 1 ≤ q.2 ∧ x ≤ y + q.2 := by
  obtain ⟨b, e, l, hl, h⟩ := bes_mem.mp hq
  obtain ⟨l1, l2, l3, l4⟩ := hF.limb l hl
  obtain ⟨c1, c2⟩ := comp_edge hF g t hj hl
  rw [tab_sym hF g t hj hu] at hx
  rcases h with h | ⟨h, hb⟩
  · subst h
    dsimp only at l1 l2 l3 c1 c2
    obtain ⟨z, hz, _⟩ := c1 x hx
    obtain ⟨w, hw, h2⟩ := c2 z hz
    rw [hx] at hw
    cases hw
    exact ⟨b, z, e, l2, by rw [← tab_sym hF g t l2 hj]; exact hz, l3, h2⟩
  · subst h
    dsimp only at l1 l2 l3 c1 c2
    obtain ⟨z, hz, _⟩ := c2 x hx
    obtain ⟨w, hw, h2⟩ := c1 z hz
    rw [hx] at hw
    cases hw
    exact ⟨b, z, e, by omega, by rw [← tab_sym hF g t (by omega) hj]; exact hz, l3, h2⟩
/-- the ends through which shortest ways to j go -/
def selB (R : Tab) (j u : Nat) (q : Int × Int) : Bool := decide (q.2 + dst R q.1.toNat 0 j = dst R u 0 j)
def sel (F : Fig) (R : Tab) (j u : Nat) : List (Int × Int) := (bes F u).filter (selB R j u)
def nxt (F : Fig) (R : Tab) (j u : Nat) : Nat := match sel F R j u with
  | [] => u
  | q :: _ => q.1.toNat
theorem sel_head (hF : F.Ok) (g : Good F R) (t : Tri F.n F.n R) (hu : u < F.n) (hj : j < F.n) (hne : u ≠ j) (hx : R u j = some x) :
    ∃ q qs y, sel F R j u = q :: qs ∧ q.1 = (nxt F R j u : Nat) ∧ nxt F R j u < F.n ∧ R (nxt F R j u) j = some y ∧ y + q.2 = x ∧ y < x ∧ ∀ p ∈ qs, q.1 ≤ p.1 := by
  have hx' : R j u = some x := by rw [← tab_sym hF g t hj hu]; exact hx
  obtain ⟨b, c, y, hl, hy, hyc, hb, c1⟩ := pred_ex hF g t hj hne hx'
  have hy' : R b j = some y := by rw [← tab_sym hF g t hb hj]; exact hy
  have hm : ((b : Int), c) ∈ sel F R j u := by
    refine List.mem_filter.mpr ⟨bes_mem.mpr ⟨b, rfl, ?_⟩, ?_⟩
    · rcases hl with hl | hl
      · have := (hF.limb _ hl).1
        exact ⟨_, hl, .inr ⟨rfl, by dsimp only at this; omega⟩⟩
      · exact ⟨_, hl, .inl rfl⟩
    · unfold selB
      rw [decide_eq_true_eq]
      show c + dst R b 0 j = _
      rw [dst_some hy', dst_some hx]
      omega
  cases q : sel F R j u with
  | nil => rw [q] at hm; cases hm
  | cons p ps =>
    have hp : p ∈ sel F R j u := by rw [q]; exact List.mem_cons_self
    obtain ⟨h1, h2⟩ := List.mem_filter.mp hp
    obtain ⟨b', y', e, hb', hy2, hc, _⟩ := bes_to hF g t hu hj hx h1
    have en : nxt F R j u = b' := by
      unfold nxt
      rw [q]
      show p.1.toNat = b'
      rw [e]
      rfl
    unfold selB at h2
    rw [decide_eq_true_eq, e] at h2
    rw [show ((b' : Int)).toNat = b' from rfl, dst_some hy2, dst_some hx] at h2
    have up : (sel F R j u).Pairwise fun a b => a.1 ≤ b.1 := bes_up.filter _
    rw [q, List.pairwise_cons] at up
    rw [en]
    exact ⟨p, ps, y', rfl, e, hb', hy2, by omega, by omega, up.1⟩
/-! ### ways -/
def rk (n : Nat) (R : Tab) (j : Nat) (x : Int) : Nat := (List.range n).countP fun v => match R v j with
  | none => false
  | some y => decide (y < x)
theorem rk_lt {n v : Nat} {y : Int} (hv : v < n) (hy : R v j = some y) (h : y < x) : rk n R j y < rk n R j x := by
  unfold rk
  refine countP_lt (fun w _ hw => ?_) ⟨v, List.mem_range.mpr hv, ?_, ?_⟩
  · cases q : R w j with
    | none => rw [q] at hw; cases hw
    | some z =>
      rw [q] at hw
      have := of_decide_eq_true hw
      exact decide_eq_true (by omega)
  · rw [hy]; exact decide_eq_true h
  · rw [hy]; exact decide_eq_false (by omega)
theorem rk_n {n v : Nat} (hv : v < n) (hx : R v j = some x) : rk n R j x < n := by
  have : rk n R j x < (List.range n).countP fun _ => true := by
    unfold rk
    refine countP_lt (fun w _ hw => rfl) ⟨v, List.mem_range.mpr hv, rfl, ?_⟩
    rw [hx]
    exact decide_eq_false (by omega)
  rw [List.countP_true, List.length_range] at this
  exact this
def wayN (nx : Nat → Nat) (j : Nat) : Nat → Nat → List Nat
  | 0, u => [u]
  | k + 1, u => if u = j then [u] else u :: wayN nx j k (nx u)
theorem wayN_len (nx : Nat → Nat) (j : Nat) : ∀ k u, (wayN nx j k u).length ≤ k + 1
  | 0, u => Nat.le_refl _
  | k + 1, u => by
    show (if u = j then [u] else u :: wayN nx j k (nx u)).length ≤ _
    split
    · exact Nat.succ_le_succ (Nat.zero_le _)
    · exact Nat.succ_le_succ (wayN_len nx j k (nx u))
theorem wayN_more (hF : F.Ok) (g : Good F R) (t : Tri F.n F.n R) (hj : j < F.n) : ∀ (k u : Nat) (x : Int), u < F.n → R u j = some x → rk F.n R j x ≤ k → wayN (nxt F R j) j (k + 1) u = wayN (nxt F R j) j k u
  | 0, u, x, hu, hx, hk => by
    show (if u = j then [u] else _) = [u]
    by_cases e : u = j
    · rw [if_pos e]
    · obtain ⟨_, _, y, _, _, h3, h4, _, h6, _⟩ := sel_head hF g t hu hj e hx
      have := rk_lt h3 h4 h6
      omega
  | k + 1, u, x, hu, hx, hk => by
    show (if u = j then [u] else u :: wayN (nxt F R j) j (k + 1) (nxt F R j u)) = if u = j then [u] else u :: wayN (nxt F R j) j k (nxt F R j u)
    by_cases e : u = j
    · rw [if_pos e, if_pos e]
    · obtain ⟨_, _, y, _, _, h3, h4, _, h6, _⟩ := sel_head hF g t hu hj e hx
      have := rk_lt h3 h4 h6
      rw [if_neg e, if_neg e, wayN_more hF g t hj k _ y h3 h4 (by omega)]
def way (F : Fig) (R : Tab) (j u : Nat) : List Nat := wayN (nxt F R j) j F.n u
theorem way_len : (way F R j u).length ≤ F.n + 1 := wayN_len _ _ _ _
theorem way_j (hF : F.Ok) : way F R j j = [j] := by
  unfold way
  obtain ⟨k, hk⟩ : ∃ k, F.n = k + 1 := ⟨F.n - 1, by have := hF.n1; omega⟩
  rw [hk]
  show (if j = j then [j] else _) = [j]
  rw [if_pos rfl]
theorem way_step (hF : F.Ok) (g : Good F R) (t : Tri F.n F.n R) (hu : u < F.n) (hj : j < F.n) (hne : u ≠ j) (hx : R u j = some x) : way F R j u = u :: way F R j (nxt F R j u) := by
  obtain ⟨_, _, y, _, _, h3, h4, _, h6, _⟩ := sel_head hF g t hu hj hne hx
  have a := rk_lt h3 h4 h6
  have b := rk_n hu hx
  unfold way
  obtain ⟨k, hk⟩ : ∃ k, F.n = k + 1 := ⟨F.n - 1, by omega⟩
  rw [wayN_more hF g t hj F.n (nxt F R j u) y h3 h4 (by omega) |>.symm]
  rw [show wayN (nxt F R j) j (F.n + 1) (nxt F R j u) = wayN (nxt F R j) j F.n (nxt F R j u) from wayN_more hF g t hj F.n _ y h3 h4 (by omega)]
  have : wayN (nxt F R j) j F.n (nxt F R j u) = wayN (nxt F R j) j k (nxt F R j u) := by
    rw [hk]
    exact wayN_more hF g t hj k _ y h3 h4 (by omega)
  rw [this, hk]
  show (if u = j then [u] else _) = _
  rw [if_neg hne]
end
/-! ### places -/
def tie (F : Fig) (i : Nat) : Nat := (F.ties[i]?).getD 0
theorem tie_lt {F : Fig} (hF : F.Ok) {i : Nat} (hi : i < F.ties.length) : tie F i < F.n := by
  have e : F.ties[i]? = some (F.ties[i]) := List.getElem?_eq_getElem hi
  unfold tie
  rw [e]
  exact hF.tie _ (List.getElem_mem hi)
theorem tie_some {F : Fig} {i t : Nat} (h : F.ties[i]? = some t) : tie F i = t := by unfold tie; rw [h]; rfl
theorem ix_tie {F : Fig} {i : Nat} (hi : i < F.ties.length) : dIx (.tup (F.ties.map natD)) (natD i) = some (natD (tie F i)) := by
  refine ix_tup ?_
  have e : F.ties[i]? = some (F.ties[i]) := List.getElem?_eq_getElem hi
  rw [List.getElem?_map, tie_some e, e]
  rfl
theorem ix_intsN {d : List Int} {i : Nat} (h : i < d.length) : dIx (intsD d) (natD i) = some (.int (iat d i)) := ix_ints h
theorem ix_last {xs : List D} {d : D} : dIx (.tup (xs ++ [d])) (.int (-1)) = some d := by
  unfold dIx atI ixN
  dsimp only
  rw [if_neg (by omega), if_pos (by rw [List.length_append]; simp only [List.length_singleton]; omega)]
  have : ((-1 : Int) + ((xs ++ [d]).length : Nat)).toNat = xs.length := by rw [List.length_append]; simp only [List.length_singleton]; omega
  dsimp only [Option.bind]
  rw [this, List.getElem?_append_right (Nat.le_refl _), Nat.sub_self]
  rfl
end DM

/-! DM: limbs put together, the shortest of those between the same joints. -/
namespace DM
open DL L2
local macro_rules | `(tactic| trivial) => `(tactic| (first | (with_reducible apply var_run; (repeat (with_reducible apply atS)); with_reducible exact at0) | (with_reducible apply peek_r; (repeat (with_reducible apply atS)); with_reducible exact at0) | (with_reducible apply peek1_r; (repeat (with_reducible apply atS)); with_reducible exact at0) | (with_reducible apply peekT_r; (repeat (with_reducible apply atS)); with_reducible exact at0) | (with_reducible apply var1_r; focus ((repeat (with_reducible apply atS)); with_reducible exact at0)) | with_reducible exact mNil_ap | with_reducible exact ret_ap | with_reducible exact ixF0 | with_reducible exact ixF1 | with_reducible exact ixF2 | with_reducible exact ixF3 | with_reducible exact len_kvs | with_reducible exact len_ints | with_reducible exact len_lst | with_reducible exact len_tup | with_reducible exact dzip_ints | with_reducible exact dzipn_ints | with_reducible exact dtuple_i | with_reducible exact dtuple_n | with_reducible exact items_ints | with_reducible exact items_tup | with_reducible exact items_lst | with_reducible exact dmin2_mn | with_reducible exact dmina_2 | with_reducible exact dmaxa_2 | with_reducible exact dix2_0 | with_reducible exact dix2_1 | with_reducible exact dix3_0 | with_reducible exact dix3_1 | with_reducible exact dix3_2 | with_reducible exact dix4_0 | with_reducible exact dix4_1 | with_reducible exact dix4_2 | with_reducible exact dix4_3 | with_reducible exact st0 | with_reducible exact lt0 | with_reducible exact ne_nil | with_reducible exact eq_nil | with_reducible exact isis | with_reducible exact isnot | with_reducible exact at0 | with_reducible exact wipe0 | with_reducible exact xnil_r | with_reducible exact gnil_r | with_reducible exact next_r | with_reducible apply atS | with_reducible apply stS | with_reducible apply ltS | with_reducible apply wipeC | with_reducible apply cons_run | with_reducible apply tup_run | with_reducible apply lst_r | with_reducible apply bin_run | with_reducible apply mFn_run | with_reducible apply call_run | with_reducible apply im_run | with_reducible apply set_r | with_reducible apply par_r | with_reducible apply asg_run | with_reducible apply name_r | with_reducible apply xtup_run | with_reducible apply xcons_run | with_reducible apply gset_r | with_reducible apply gtup_r | with_reducible apply gcons_r | with_reducible apply items_r | with_reducible apply un_r | with_reducible apply len_r | with_reducible apply sl_r | with_reducible apply part_r | with_reducible apply back_r | with_reducible apply zip_r | with_reducible apply zipn_r | with_reducible apply rng_r | with_reducible apply test_run | with_reducible apply not_r | with_reducible apply not_t | with_reducible apply not_f | with_reducible apply test_n | with_reducible apply ret_run | with_reducible apply expr_run | with_reducible apply lstN_r | with_reducible apply binN_r | with_reducible apply dadd_lst | with_reducible apply daddN_lst | with_reducible apply lc_r | ((with_reducible show dNeg _ = _); exact rfl) | ((with_reducible show dAdd _ _ = _); exact rfl) | ((with_reducible show dSub _ _ = _); exact rfl) | ((with_reducible show dLt _ _ = _); exact rfl) | ((with_reducible show dLe _ _ = _); exact rfl) | ((with_reducible show dGt _ _ = _); exact rfl) | ((with_reducible show dGe _ _ = _); exact rfl) | ((with_reducible show dIs _ _ = _); exact rfl) | ((with_reducible show dIsNot _ _ = _); exact rfl) | ((with_reducible show dMin2 _ = _); exact rfl) | ((with_reducible show dMax2 _ = _); exact rfl) | ((with_reducible show dTuple _ = _); exact rfl) | ((with_reducible show dList _ = _); exact rfl) | ((with_reducible show dAbs _ = _); exact rfl) | ((with_reducible show D.items _ = _); exact rfl) | ((with_reducible show dLen1 _ = _); exact rfl) | ((with_reducible show List.length _ = _); exact rfl) | ((with_reducible show okW _ _ = _); exact rfl) | ((with_reducible show dIx _ _ = _); exact rfl) | ((with_reducible show szOk _ = _); exact rfl) | (show _ ≤ _; with_reducible assumption) | ((with_reducible show List.length _ + List.length _ ≤ 1000000); exact Nat.le_of_ble_eq_true rfl) | ((with_reducible show List.length _ ≤ 1000000); exact Nat.le_of_ble_eq_true rfl) | ((with_reducible show ∀ _ ∈ _, _ = _); intro _ _)))
def limbs_of : Sf := mDef 1 6
  ((sSeq (sSet 1 (DL.ret (.mt [])))
  (sSeq (sFor (mItems (mVar 0)) (xTup 3 (xsCons (xName 2) (xsCons (xName 3) (xsCons (xName 4) xsNil)))) (sSeq (sSet 5 (mIm (mTup (mCons (mCall dMin2 (mCons (mVar 2) (mCons (mVar 3) mNil))) (mCons (mCall dMax2 (mCons (mVar 2) (mCons (mVar 3) mNil))) mNil)))))
  (sIf (mTest (mBin dNe (mVar 2) (mVar 3))) (sPut 1 (mVar 5) (mCall dMin2 (mCons (mVar 4) (mCons (mSolid (mGet2 (mPeek 1) (mVar 5) (mVar 4))) mNil)))) sNext)))
  (sRet (mCall dTuple (mCons (mLc [5] (mItems (mSortedD (mPeek 1))) (gSet 5) (DL.ret true) (mBin dAdd (mVar 5) (mTup (mCons (mSolid (mBin dIxD (mPeek 1) (mVar 5))) mNil)))) mNil))))))
def law_limbs_of : Sf := mDef 1 6
  ((sSeq (sSet 1 (DL.ret (.mt [])))
  (sSeq (sFor (mItems (mVar 0)) (xTup 3 (xsCons (xName 2) (xsCons (xName 3) (xsCons (xName 4) xsNil)))) (sSeq (sSet 5 (mIm (mTup (mCons (mCall dMin2 (mCons (mVar 2) (mCons (mVar 3) mNil))) (mCons (mCall dMax2 (mCons (mVar 2) (mCons (mVar 3) mNil))) mNil)))))
  (sPut 1 (mVar 5) (mCall dMin2 (mCons (mVar 4) (mCons (mSolid (mGet2 (mPeek 1) (mVar 5) (DL.ret (.int 99)))) mNil))))))
  (sRet (mCall dTuple (mCons (mLc [5] (mItems (mSortedD (mPeek 1))) (gSet 5) (mTest (mBin dNe (mBin dIx (mVar 5) (DL.ret (.int 0))) (mBin dIx (mVar 5) (DL.ret (.int 1))))) (mBin dAdd (mVar 5) (mTup (mCons (mSolid (mBin dIxD (mPeek 1) (mVar 5))) mNil)))) mNil))))))
abbrev Tri3 := Nat × Nat × Int
def lo (a b : Nat) : Nat := if b < a then b else a
def hi (a b : Nat) : Nat := if a < b then b else a
theorem dmin_n {a b : Nat} : dMin2 [natD a, natD b] = some (natD (lo a b)) := by
  show some (D.int (if (b : Int) < (a : Int) then (b : Int) else (a : Int))) = some (D.int ((lo a b : Nat) : Int))
  unfold lo
  by_cases h : b < a
  · rw [if_pos h, if_pos (by omega)]
  · rw [if_neg h, if_neg (by omega)]
theorem dmax_n {a b : Nat} : dMax2 [natD a, natD b] = some (natD (hi a b)) := by
  show some (D.int (if (b : Int) > (a : Int) then (b : Int) else (a : Int))) = some (D.int ((hi a b : Nat) : Int))
  unfold hi
  by_cases h : a < b
  · rw [if_pos h, if_pos (by omega)]
  · rw [if_neg h, if_neg (by omega)]
def mnI (c x : Int) : Int := if x < c then x else c
theorem dmin_i {c x : Int} : dMin2 [.int c, .int x] = some (.int (mnI c x)) := rfl
def keyT (t : Tri3) : Int × Int := ((lo t.1 t.2.1 : Nat), (hi t.1 t.2.1 : Nat))
def getP (ks : List KP) (k : Int × Int) (d : Int) : Int := if k ∈ ks.map (·.1) then valP ks k else d
theorem val_none {p : Int × Int} : ∀ {ks : List KP}, ¬ p ∈ ks.map (·.1) → valD (kvsD ks) [.inl p.1, .inl p.2] = none
  | [], _ => rfl
  | q :: ks, h => by
    rw [List.map_cons, List.mem_cons] at h
    have e : ¬ q.1 = p := fun z => h (.inl z.symm)
    rw [← val_none (p := p) (ks := ks) fun z => h (.inr z)]
    unfold valD kvsD
    rw [List.map_cons, find_neg (f := fun kv : List L2.Key × D => decide (kv.1 = [.inl p.1, .inl p.2])) (decide_eq_false fun z => e ((key_eq q.1 p).mp z))]
theorem getP_r {a b c : SE} {ρ ρ1 ρ2 ρ3 : List Sl} {G G1 G2 G3 : Gs} {ks : List KP} {p : Int × Int} {d : Int} (h : a ρ G = some (.dt (kvsD ks), ρ1, G1)) (h2 : b ρ1 G1 = some (.tup [.int p.1, .int p.2], ρ2, G2)) (h3 : c ρ2 G2 = some (.int d, ρ3, G3)) : mSolid (mGet2 a b c) ρ G = some (.int (getP ks p d), ρ3, G3) := by
  refine solid_r ?_ (by unfold D.solid; rfl)
  unfold mGet2 bnd
  rw [h]
  dsimp only
  rw [h2]
  dsimp only
  rw [h3]
  show lft ((some (valD (kvsD ks) [.inl p.1, .inl p.2])).map fun o => o.getD (.int d)) ρ3 G3 = _
  unfold getP
  by_cases hm : p ∈ ks.map (·.1)
  · rw [if_pos hm, (val_kvs hm).1]
    rfl
  · rw [if_neg hm, val_none hm]
    rfl
theorem ixP_r {a b : SE} {ρ ρ1 ρ2 : List Sl} {G G1 G2 : Gs} {ks : List KP} {p : Int × Int} (h : a ρ G = some (.dt (kvsD ks), ρ1, G1)) (h2 : b ρ1 G1 = some (dPair p, ρ2, G2)) (hm : p ∈ ks.map (·.1)) : mSolid (mBin dIxD a b) ρ G = some (.int (valP ks p), ρ2, G2) := by
  refine solid_r (bin_run h h2 ?_) (by unfold D.solid; rfl)
  show (some (valD (kvsD ks) [.inl p.1, .inl p.2])).bind id = _
  rw [(val_kvs hm).1]
  rfl
/-! ### the steps -/
def stepP (ks : List KP) (t : Tri3) : List KP := if t.1 = t.2.1 then ks else putP ks (keyT t) (mnI t.2.2 (getP ks (keyT t) t.2.2))
def stepL (ks : List KP) (t : Tri3) : List KP := putP ks (keyT t) (mnI t.2.2 (getP ks (keyT t) 99))
def ksP (ts : List Tri3) : List KP := ts.foldl stepP []
def ksL (ts : List Tri3) : List KP := ts.foldl stepL []
def mrg (ts : List Tri3) : List Tri3 := limbsOf (ksP ts)
structure TOk (n : Nat) (ts : List Tri3) : Prop where
  few : ts.length ≤ 100
  each : ∀ t ∈ ts, t.1 < n ∧ t.2.1 < n ∧ 1 ≤ t.2.2 ∧ t.2.2 ≤ 9
theorem put_mem {ks : List KP} {k : Int × Int} {c : Int} {q : KP} (h : q ∈ putP ks k c) : (q ∈ ks ∧ q.1 ≠ k) ∨ q = (k, c) := by
  unfold putP at h
  split at h
  · obtain ⟨r, hr, e⟩ := List.mem_map.mp h
    by_cases hk : r.1 = k
    · rw [if_pos hk] at e
      rw [← e, hk]
      exact .inr rfl
    · rw [if_neg hk] at e
      rw [← e]
      exact .inl ⟨hr, hk⟩
  · rename_i hn
    rcases List.mem_append.mp h with h | h
    · exact .inl ⟨h, fun z => hn (List.any_eq_true.mpr ⟨q, h, decide_eq_true z⟩)⟩
    · exact .inr (List.mem_singleton.mp h)
theorem put_has {ks : List KP} {k : Int × Int} {c : Int} : (k, c) ∈ putP ks k c := by
  unfold putP
  split
  · rename_i h
    obtain ⟨q, hq, e⟩ := List.any_eq_true.mp h
    have e := of_decide_eq_true e
    exact List.mem_map.mpr ⟨q, hq, by rw [if_pos e, e]⟩
  · exact List.mem_append_right _ (List.mem_singleton.mpr rfl)
theorem put_keep {ks : List KP} {k : Int × Int} {c : Int} {q : KP} (h : q ∈ ks) (hk : q.1 ≠ k) : q ∈ putP ks k c := by
  unfold putP
  split
  · exact List.mem_map.mpr ⟨q, h, by rw [if_neg hk]⟩
  · exact List.mem_append_left _ h
theorem nd_val : ∀ {ks : List KP} {p q : KP}, (ks.map (·.1)).Nodup → p ∈ ks → q ∈ ks → p.1 = q.1 → p = q
  | [], _, _, _, hp, _, _ => by cases hp
  | r :: ks, p, q, h, hp, hq, e => by
    rw [List.map_cons, List.nodup_cons] at h
    rcases List.mem_cons.mp hp with hp | hp <;> rcases List.mem_cons.mp hq with hq | hq
    · rw [hp, hq]
    · exact absurd (List.mem_map.mpr ⟨q, hq, by rw [← e, hp]⟩) h.1
    · exact absurd (List.mem_map.mpr ⟨p, hp, by rw [e, hq]⟩) h.1
    · exact nd_val h.2 hp hq e
structure KInv (n : Nat) (ts : List Tri3) (ks : List KP) : Prop where
  ok : KOk n ks
  len : ks.length ≤ ts.length
  src : ∀ q ∈ ks, ∃ t ∈ ts, t.1 ≠ t.2.1 ∧ q = (keyT t, t.2.2)
  cov : ∀ t ∈ ts, t.1 ≠ t.2.1 → ∃ q ∈ ks, q.1 = keyT t ∧ q.2 ≤ t.2.2
theorem lo_hi {a b : Nat} (h : a ≠ b) : lo a b < hi a b := by
  unfold lo hi
  split <;> split <;> omega
theorem hi_lt {a b n : Nat} (ha : a < n) (hb : b < n) : hi a b < n := by
  unfold hi
  split <;> omega
theorem step_inv {n : Nat} {ts : List Tri3} {ks : List KP} (h : KInv n ts ks) {t : Tri3} (ht : t.1 < n ∧ t.2.1 < n ∧ 1 ≤ t.2.2 ∧ t.2.2 ≤ 9) : KInv n (ts ++ [t]) (stepP ks t) := by
  unfold stepP
  split
  · rename_i e
    refine ⟨h.ok, by rw [List.length_append]; have := h.len; omega, fun q hq => ?_, fun u hu hne => ?_⟩
    · obtain ⟨u, hu, r⟩ := h.src q hq
      exact ⟨u, List.mem_append_left _ hu, r⟩
    · rcases List.mem_append.mp hu with hu | hu
      · exact h.cov u hu hne
      · rw [List.mem_singleton.mp hu] at hne
        exact absurd e hne
  · rename_i hne
    have k1 := lo_hi hne
    have k2 := hi_lt ht.1 ht.2.1
    -- what is there
    have there : getP ks (keyT t) t.2.2 = t.2.2 ∨ (keyT t, getP ks (keyT t) t.2.2) ∈ ks := by
      unfold getP
      by_cases hm : keyT t ∈ ks.map (·.1)
      · rw [if_pos hm]
        exact .inr (val_kvs hm).2
      · rw [if_neg hm]
        exact .inl rfl
    have vcase : mnI t.2.2 (getP ks (keyT t) t.2.2) = t.2.2 ∨ (mnI t.2.2 (getP ks (keyT t) t.2.2) = getP ks (keyT t) t.2.2 ∧ (keyT t, getP ks (keyT t) t.2.2) ∈ ks) := by
      unfold mnI
      split
      · rcases there with e | e
        · omega
        · exact .inr ⟨rfl, e⟩
      · exact .inl rfl
    have vle : mnI t.2.2 (getP ks (keyT t) t.2.2) ≤ t.2.2 := by
      unfold mnI
      split <;> omega
    have vle2 : ∀ x, (keyT t, x) ∈ ks → mnI t.2.2 (getP ks (keyT t) t.2.2) ≤ x := fun x hx => by
      have hm : keyT t ∈ ks.map (·.1) := List.mem_map.mpr ⟨_, hx, rfl⟩
      have e1 : getP ks (keyT t) t.2.2 = valP ks (keyT t) := by
        unfold getP
        rw [if_pos hm]
      have e2 := nd_val h.ok.nd hx (val_kvs hm).2 rfl
      have e3 : x = valP ks (keyT t) := congrArg Prod.snd e2
      rw [e1, ← e3]
      unfold mnI
      split <;> omega
    have vr : 1 ≤ mnI t.2.2 (getP ks (keyT t) t.2.2) ∧ mnI t.2.2 (getP ks (keyT t) t.2.2) ≤ 9 := by
      rcases vcase with e | ⟨e, hm⟩
      · rw [e]; exact ht.2.2
      · rw [e]; exact (h.ok.rng _ hm).2.2.2
    obtain ⟨ok2, len2⟩ := putP_ok (n := (n : Int)) h.ok (k := keyT t) (c := mnI t.2.2 (getP ks (keyT t) t.2.2)) (by show (0 : Int) ≤ ((lo t.1 t.2.1 : Nat) : Int); omega) (by show ((lo t.1 t.2.1 : Nat) : Int) < ((hi t.1 t.2.1 : Nat) : Int); omega) (by show ((hi t.1 t.2.1 : Nat) : Int) < (n : Int); omega) vr.1 vr.2
    refine ⟨ok2, by rw [List.length_append, List.length_singleton]; have := h.len; omega, fun q hq => ?_, fun u hu hne2 => ?_⟩
    · rcases put_mem hq with ⟨hq, _⟩ | e
      · obtain ⟨u, hu, r⟩ := h.src q hq
        exact ⟨u, List.mem_append_left _ hu, r⟩
      · rcases vcase with e2 | ⟨e2, hm⟩
        · exact ⟨t, List.mem_append_right _ (List.mem_singleton.mpr rfl), hne, by rw [e, e2]⟩
        · obtain ⟨u, hu, r1, r2⟩ := h.src _ hm
          refine ⟨u, List.mem_append_left _ hu, r1, ?_⟩
          rw [e, e2]
          exact r2
    · rcases List.mem_append.mp hu with hu | hu
      · obtain ⟨q, hq, e1, e2⟩ := h.cov u hu hne2
        by_cases hk : q.1 = keyT t
        · refine ⟨_, put_has, by rw [← e1]; exact hk.symm, ?_⟩
          have := vle2 q.2 (by rw [← hk]; exact hq)
          show mnI t.2.2 (getP ks (keyT t) t.2.2) ≤ u.2.2
          omega
        · exact ⟨q, put_keep hq hk, e1, e2⟩
      · rw [List.mem_singleton.mp hu]
        exact ⟨_, put_has, rfl, vle⟩
theorem fold_inv {n : Nat} : ∀ (rest done : List Tri3) (ks : List KP), KInv n done ks → (∀ t ∈ rest, t.1 < n ∧ t.2.1 < n ∧ 1 ≤ t.2.2 ∧ t.2.2 ≤ 9) → KInv n (done ++ rest) (rest.foldl stepP ks)
  | [], done, ks, h, _ => by rw [List.append_nil]; exact h
  | t :: rest, done, ks, h, ht => by
    have := fold_inv rest (done ++ [t]) (stepP ks t) (step_inv h (ht t List.mem_cons_self)) fun u hu => ht u (List.mem_cons_of_mem _ hu)
    rw [List.append_assoc] at this
    exact this
theorem inv_nil {n : Nat} : KInv n [] [] := ⟨⟨(fun q hq => by cases hq), List.nodup_nil⟩, Nat.le_refl _, (fun q hq => by cases hq), (fun q hq => by cases hq)⟩
theorem ks_inv {n : Nat} {ts : List Tri3} (h : TOk n ts) : KInv n ts (ksP ts) := by
  have := fold_inv ts [] [] (inv_nil (n := n)) h.each
  exact this
theorem mrg_mem {n : Nat} {ts : List Tri3} (h : TOk n ts) {l : Tri3} : l ∈ mrg ts ↔ (((l.1 : Int), (l.2.1 : Int)), l.2.2) ∈ ksP ts := by
  have inv := ks_inv h
  have perm := srtD_perm (lt := SrtO.lexB) ((ksP ts).map (·.1))
  unfold mrg limbsOf
  constructor
  · intro hl
    obtain ⟨p, hp, e⟩ := List.mem_map.mp hl
    have hm := perm.mem_iff.mp hp
    have hv := (val_kvs hm).2
    have := inv.ok.rng _ hv
    rw [← e]
    show ((((p.1.toNat : Nat) : Int), ((p.2.toNat : Nat) : Int)), valP (ksP ts) p) ∈ ksP ts
    dsimp only at this
    rw [Int.toNat_of_nonneg this.1, Int.toNat_of_nonneg (by omega)]
    exact hv
  · intro hq
    have hm : (((l.1 : Int), (l.2.1 : Int)) : Int × Int) ∈ (ksP ts).map (·.1) := List.mem_map.mpr ⟨_, hq, rfl⟩
    have hv := (val_kvs hm).2
    have e := nd_val inv.ok.nd hq hv rfl
    refine List.mem_map.mpr ⟨_, perm.mem_iff.mpr hm, ?_⟩
    have e2 : l.2.2 = valP (ksP ts) ((l.1 : Int), (l.2.1 : Int)) := congrArg Prod.snd e
    show (((l.1 : Int)).toNat, ((l.2.1 : Int)).toNat, valP (ksP ts) ((l.1 : Int), (l.2.1 : Int))) = l
    rw [← e2]
    rfl
theorem mrg_src {n : Nat} {ts : List Tri3} (h : TOk n ts) {l : Tri3} (hl : l ∈ mrg ts) : ∃ t ∈ ts, t.1 ≠ t.2.1 ∧ l.1 = lo t.1 t.2.1 ∧ l.2.1 = hi t.1 t.2.1 ∧ l.2.2 = t.2.2 := by
  obtain ⟨t, ht, hne, e⟩ := (ks_inv h).src _ ((mrg_mem h).mp hl)
  have e1 : ((l.1 : Int), (l.2.1 : Int)) = keyT t := congrArg Prod.fst e
  have e2 : (l.1 : Int) = ((lo t.1 t.2.1 : Nat) : Int) := congrArg Prod.fst e1
  have e3 : (l.2.1 : Int) = ((hi t.1 t.2.1 : Nat) : Int) := congrArg Prod.snd e1
  have e4 : l.2.2 = t.2.2 := congrArg (fun q : (Int × Int) × Int => q.2) e
  exact ⟨t, ht, hne, by omega, by omega, e4⟩
theorem mrg_cov {n : Nat} {ts : List Tri3} (h : TOk n ts) {t : Tri3} (ht : t ∈ ts) (hne : t.1 ≠ t.2.1) : ∃ c, (lo t.1 t.2.1, hi t.1 t.2.1, c) ∈ mrg ts ∧ c ≤ t.2.2 := by
  obtain ⟨q, hq, e1, e2⟩ := (ks_inv h).cov t ht hne
  exact ⟨q.2, (mrg_mem h).mpr (by show (keyT t, q.2) ∈ _; rw [← e1]; exact hq), e2⟩
theorem mrg_ok {n : Nat} {ts : List Tri3} (h : TOk n ts) : (∀ l ∈ mrg ts, l.1 < l.2.1 ∧ l.2.1 < n ∧ 1 ≤ l.2.2 ∧ l.2.2 ≤ 9) ∧ (mrg ts).Pairwise LexL ∧ (mrg ts).length ≤ ts.length := by
  have inv := ks_inv h
  obtain ⟨a, b, c⟩ := limbs_ok inv.ok
  exact ⟨a, b, by have := inv.len; unfold mrg; omega⟩
/-! ### the law's steps -/
def neK (q : KP) : Bool := decide (q.1.1 ≠ q.1.2)
theorem put_out {ks : List KP} {k : Int × Int} {c : Int} (hk : k.1 = k.2) : (putP ks k c).filter neK = ks.filter neK := by
  have nk : ∀ c, neK (k, c) = false := fun c => decide_eq_false fun z => z hk
  unfold putP
  split
  · rw [List.filter_map]
    have e1 : ks.filter (neK ∘ fun q => if q.1 = k then (q.1, c) else q) = ks.filter neK := List.filter_congr fun q hq => by
      show neK (if q.1 = k then (q.1, c) else q) = neK q
      split <;> rfl
    rw [e1]
    have : ∀ q ∈ ks.filter neK, (if q.1 = k then (q.1, c) else q) = q := fun q hq => by
      have h2 := (List.mem_filter.mp hq).2
      rw [if_neg]
      intro z
      have : neK q = neK (k, c) := by unfold neK; rw [z]
      rw [this, nk] at h2
      cases h2
    rw [List.map_congr_left this, List.map_id']
  · rw [List.filter_append, List.filter_cons_of_neg (by rw [nk]; decide), List.filter_nil, List.append_nil]
theorem put_in {ks : List KP} {k : Int × Int} {c : Int} (hk : k.1 ≠ k.2) : (putP ks k c).filter neK = putP (ks.filter neK) k c := by
  have nk : ∀ c, neK (k, c) = true := fun c => decide_eq_true hk
  have ea : (ks.filter neK).any (fun q => decide (q.1 = k)) = ks.any fun q => decide (q.1 = k) := by
    rw [Bool.eq_iff_iff, List.any_eq_true, List.any_eq_true]
    constructor
    · rintro ⟨q, hq, e⟩
      exact ⟨q, (List.mem_filter.mp hq).1, e⟩
    · rintro ⟨q, hq, e⟩
      refine ⟨q, List.mem_filter.mpr ⟨hq, ?_⟩, e⟩
      have : neK q = neK (k, c) := by unfold neK; rw [of_decide_eq_true e]
      rw [this]
      exact nk c
  unfold putP
  rw [ea]
  split
  · rw [List.filter_map]
    have e1 : ks.filter (neK ∘ fun q => if q.1 = k then (q.1, c) else q) = ks.filter neK := List.filter_congr fun q hq => by
      show neK (if q.1 = k then (q.1, c) else q) = neK q
      split <;> rfl
    rw [e1]
  · rw [List.filter_append, List.filter_cons_of_pos (nk c), List.filter_nil]
theorem val_in {k : Int × Int} (hk : k.1 ≠ k.2) : ∀ ks : List KP, valP (ks.filter neK) k = valP ks k ∧ (k ∈ (ks.filter neK).map (·.1) ↔ k ∈ ks.map (·.1))
  | [] => ⟨rfl, Iff.rfl⟩
  | q :: ks => by
    obtain ⟨i1, i2⟩ := val_in hk ks
    cases h : neK q with
    | true =>
      rw [List.filter_cons_of_pos h, List.map_cons, List.map_cons, List.mem_cons, List.mem_cons, i2]
      refine ⟨?_, Iff.rfl⟩
      by_cases e : q.1 = k
      · unfold valP
        rw [find_pos (f := fun q : KP => decide (q.1 = k)) (decide_eq_true e), find_pos (f := fun q : KP => decide (q.1 = k)) (decide_eq_true e)]
      · unfold valP at i1 ⊢
        rw [find_neg (f := fun q : KP => decide (q.1 = k)) (decide_eq_false e), find_neg (f := fun q : KP => decide (q.1 = k)) (decide_eq_false e), i1]
    | false =>
      have e : ¬ q.1 = k := fun z => by
        have := of_decide_eq_false h
        rw [z] at this
        exact this hk
      rw [List.filter_cons_of_neg (by rw [h]; decide), List.map_cons, List.mem_cons, i2]
      refine ⟨?_, ⟨.inr, fun z => z.elim (fun w => absurd w.symm e) id⟩⟩
      unfold valP at i1 ⊢
      rw [find_neg (f := fun q : KP => decide (q.1 = k)) (decide_eq_false e), i1]
theorem step_LP {ks : List KP} {t : Tri3} (ht : t.2.2 ≤ 9) : (stepL ks t).filter neK = stepP (ks.filter neK) t := by
  unfold stepL stepP
  split
  · rename_i e
    refine put_out ?_
    show ((lo t.1 t.2.1 : Nat) : Int) = ((hi t.1 t.2.1 : Nat) : Int)
    rw [e]
    unfold lo hi
    rw [ite_self]
  · rename_i hne
    have k1 := lo_hi hne
    have hk : (keyT t).1 ≠ (keyT t).2 := by
      show ((lo t.1 t.2.1 : Nat) : Int) ≠ ((hi t.1 t.2.1 : Nat) : Int)
      omega
    rw [put_in hk]
    obtain ⟨v1, v2⟩ := val_in hk ks
    congr 1
    unfold getP
    by_cases hm : keyT t ∈ ks.map (·.1)
    · rw [if_pos hm, if_pos (v2.mpr hm), v1]
    · rw [if_neg hm, if_neg fun z => hm (v2.mp z)]
      unfold mnI
      rw [if_neg (by omega), if_neg (by omega)]
theorem fold_LP : ∀ (ts : List Tri3) (ks : List KP), (∀ t ∈ ts, t.2.2 ≤ 9) → (ts.foldl stepL ks).filter neK = ts.foldl stepP (ks.filter neK)
  | [], _, _ => rfl
  | t :: ts, ks, h => by
    rw [List.foldl_cons, List.foldl_cons, fold_LP ts _ fun u hu => h u (List.mem_cons_of_mem _ hu), step_LP (h t List.mem_cons_self)]
theorem ks_LP {n : Nat} {ts : List Tri3} (h : TOk n ts) : (ksL ts).filter neK = ksP ts := fold_LP ts [] fun t ht => (h.each t ht).2.2.2
theorem srt_filter {f : Int × Int → Bool} (l : List (Int × Int)) : (srtD SrtO.lexB l).filter f = srtD SrtO.lexB (l.filter f) :=
  srtD_uniq lexB_swo ((srtD_srtd lexB_swo l).filter f) ⟨(srtD_perm l).filter f, fun x => cls_perm ((srtD_perm l).filter f) x⟩
theorem key_filter (ks : List KP) : (ks.map (·.1)).filter (fun p => decide (p.1 ≠ p.2)) = (ks.filter neK).map (·.1) := by
  rw [List.filter_map]
  rfl
theorem put_lenP {ks : List KP} {k : Int × Int} {c : Int} : (putP ks k c).length ≤ ks.length + 1 := by
  unfold putP
  split
  · rw [List.length_map]; omega
  · rw [List.length_append, List.length_singleton]; omega
theorem ksL_len : ∀ (ts : List Tri3) (ks : List KP), (ts.foldl stepL ks).length ≤ ks.length + ts.length
  | [], _ => Nat.le_refl _
  | t :: ts, ks => by
    rw [List.foldl_cons, List.length_cons]
    have a := ksL_len ts (stepL ks t)
    have b := put_lenP (ks := ks) (k := keyT t) (c := mnI t.2.2 (getP ks (keyT t) 99))
    have : (stepL ks t).length ≤ ks.length + 1 := b
    omega
theorem ne_nat2 {a b : Nat} : dNe (natD a) (natD b) = some (.bl (!decide (a = b))) := by
  have := eq_nat a b
  unfold dEq at this
  obtain ⟨x, h1, h2⟩ := Option.map_eq_some_iff.mp this
  unfold dNe
  rw [h1]
  cases h2
  rfl
theorem ne_int2 {a b : Int} : dNe (.int a) (.int b) = some (.bl (decide (a ≠ b))) := by
  have := eqI a b
  unfold dEq at this
  obtain ⟨x, h1, h2⟩ := Option.map_eq_some_iff.mp this
  unfold dNe
  rw [h1]
  cases h2
  show some (D.bl (!decide (a = b))) = _
  congr 2
  by_cases h : a = b
  · rw [decide_eq_true h, decide_eq_false fun z => z h]; rfl
  · rw [decide_eq_false h, decide_eq_true h]; rfl
theorem take_fold {f : List KP → Tri3 → List KP} {ts : List Tri3} {i : Nat} {t : Tri3} (h : ts[i]? = some t) : (ts.take (i + 1)).foldl f [] = f ((ts.take i).foldl f []) t := by
  rw [List.take_add_one, h]
  show (ts.take i ++ [t]).foldl f [] = _
  rw [List.foldl_append]
  rfl
theorem len_foldP {n : Nat} {ts : List Tri3} (h : TOk n ts) (i : Nat) : ((ts.take i).foldl stepP []).length ≤ 100 := by
  have := (fold_inv (ts.take i) [] [] (inv_nil (n := n)) fun t ht => h.each t (List.mem_of_mem_take ht)).len
  have h2 := h.few
  rw [List.nil_append, List.length_take] at this
  omega
theorem limbs_of_ok {n : Nat} {ts : List Tri3} (h : TOk n ts) (G : Gs) : limbs_of [.lst (ts.map limbD)] G = some (.tup ((mrg ts).map limbD), G) := by
  have inv := ks_inv h
  have few := h.few
  unfold limbs_of
  refine def_v rfl ?_
  simp only [List.map_cons, List.map_nil, Nat.reduceSub, List.replicate, List.cons_append, List.nil_append]
  apply Ends.seq (ρ1 := [.im (.lst (ts.map limbD)), .mt (kvsD []), .un, .un, .un, .un]) (G1 := G)
  · (repeat' (first | (show _ = _; with_reducible assumption) | trivial))
  apply Ends.for (fun i ρ G' => G' = G ∧ ∃ (a2 a3 a4 a5 : Sl), ρ = [.im (.lst (ts.map limbD)), .mt (kvsD ((ts.take i).foldl stepP [])), a2, a3, a4, a5] ∧ (a5 = .un ∨ ∃ d, a5 = .im d)) (ds := ts.map limbD)
  · (repeat' (first | (show _ = _; with_reducible assumption) | trivial))
  · exact ⟨rfl, _, _, _, _, rfl, .inl rfl⟩
  · rintro ρ G' ⟨rfl, a2, a3, a4, a5, rfl, h5⟩
    rw [List.length_map, List.take_length]
    have perm := srtD_perm (lt := SrtO.lexB) ((ksP ts).map (·.1))
    have il := inv.len
    have len : (srtD SrtO.lexB ((ksP ts).map (·.1))).length ≤ 100 := by rw [perm.length_eq, List.length_map]; omega
    show DM.Ends (sRet _ [.im (.lst (ts.map limbD)), .mt (kvsD (ksP ts)), a2, a3, a4, a5] G') _
    apply Ends.ret (d := .tup ((mrg ts).map limbD))
    · apply call_run
      · apply cons_run
        · apply lc_r (srtD SrtO.lexB ((ksP ts).map (·.1))) dPair (fun p => limbD (p.1.toNat, p.2.toNat, valP (ksP ts) p)) (ρx := fun p => [.im (.lst (ts.map limbD)), .mt (kvsD (ksP ts)), a2, a3, a4, .im (dPair p)])
          · exact items_r (sortedD_r (peekT_r rfl) (by omega)) rfl
          · omega
          · rcases h5 with e | ⟨d, e⟩ <;> rw [e] <;> rfl
          · (repeat' (first | (show _ = _; with_reducible assumption) | trivial))
          · intro p hp
            rfl
          · intro p hp
            rfl
          · intro p hp
            rw [limb_of inv.ok hp]
            exact bin_run (var_run rfl) (tup_run (cons_run (ixP_r (peekT_r rfl) (var_run rfl) (perm.mem_iff.mp hp)) mNil_ap) (Nat.le_of_ble_eq_true rfl)) rfl
        · (repeat' (first | (show _ = _; with_reducible assumption) | trivial))
      · show some (D.tup _) = some (D.tup _)
        unfold mrg limbsOf
        rw [List.map_map]
        rfl
    · exact ⟨rfl, rfl⟩
  · rintro i d hd ρ G' ⟨rfl, a2, a3, a4, a5, rfl, h5⟩
    rw [List.getElem?_map] at hd
    obtain ⟨t, ht, rfl⟩ := Option.map_eq_some_iff.mp hd
    have lk := len_foldP h i
    rw [take_fold ht]
    obtain ⟨ks, eks⟩ : ∃ ks, ks = (ts.take i).foldl stepP [] := ⟨_, rfl⟩
    rw [← eks] at lk ⊢
    refine ⟨[.im (.lst (ts.map limbD)), .mt (kvsD ks), .im (natD t.1), .im (natD t.2.1), .im (.int t.2.2), a5], G', ?_, ?_⟩
    · show xTup 3 _ (.tup [natD t.1, natD t.2.1, .int t.2.2]) _ _ = _
      (repeat' (first | (show _ = _; with_reducible assumption) | trivial))
    have dm := dmin_n (a := t.1) (b := t.2.1)
    have dx := dmax_n (a := t.1) (b := t.2.1)
    apply Ends.seq (ρ1 := [.im (.lst (ts.map limbD)), .mt (kvsD ks), .im (natD t.1), .im (natD t.2.1), .im (.int t.2.2), .im (.tup [natD (lo t.1 t.2.1), natD (hi t.1 t.2.1)])]) (G1 := G')
    · (repeat' (first | (show _ = _; with_reducible assumption) | with_reducible exact dm | with_reducible exact dx | trivial))
    have nn := ne_nat2 (a := t.1) (b := t.2.1)
    apply Ends.ite (k := !decide (t.1 = t.2.1)) (ρ1 := [.im (.lst (ts.map limbD)), .mt (kvsD ks), .im (natD t.1), .im (natD t.2.1), .im (.int t.2.2), .im (.tup [natD (lo t.1 t.2.1), natD (hi t.1 t.2.1)])]) (G1 := G')
    · (repeat' (first | (show _ = _; with_reducible assumption) | with_reducible exact nn | trivial))
    · intro hne
      have hne : t.1 ≠ t.2.1 := by simpa using hne
      refine DM.Ends.nx (ρ1 := [.im (.lst (ts.map limbD)), .mt (kvsD (stepP ks t)), .im (natD t.1), .im (natD t.2.1), .im (.int t.2.2), .im (.tup [natD (lo t.1 t.2.1), natD (hi t.1 t.2.1)])]) (G1 := G') ?_ ⟨_, rfl, rfl, _, _, _, _, rfl, .inr ⟨_, rfl⟩⟩
      have es : stepP ks t = putP ks (keyT t) (mnI t.2.2 (getP ks (keyT t) t.2.2)) := if_neg hne
      rw [es]
      refine put_r (call_run (cons_run (var_run rfl) (cons_run (getP_r (p := keyT t) (peekT_r rfl) (var_run rfl) (var_run rfl)) mNil_ap)) dmin_i) rfl (var_run rfl) ?_
      exact putS_at (i := 1) rfl (by omega) (keyT t) _
    · intro he
      have he : t.1 = t.2.1 := by simpa using he
      have es : stepP ks t = ks := if_pos he
      rw [es]
      exact DM.Ends.nx next_r ⟨_, rfl, rfl, _, _, _, _, rfl, .inr ⟨_, rfl⟩⟩
theorem law_limbs_of_ok {n : Nat} {ts : List Tri3} (h : TOk n ts) (G : Gs) : law_limbs_of [.lst (ts.map limbD)] G = some (.tup ((mrg ts).map limbD), G) := by
  have inv := ks_inv h
  have few := h.few
  unfold law_limbs_of
  refine def_v rfl ?_
  simp only [List.map_cons, List.map_nil, Nat.reduceSub, List.replicate, List.cons_append, List.nil_append]
  apply Ends.seq (ρ1 := [.im (.lst (ts.map limbD)), .mt (kvsD []), .un, .un, .un, .un]) (G1 := G)
  · (repeat' (first | (show _ = _; with_reducible assumption) | trivial))
  apply Ends.for (fun i ρ G' => G' = G ∧ ∃ (a2 a3 a4 a5 : Sl), ρ = [.im (.lst (ts.map limbD)), .mt (kvsD ((ts.take i).foldl stepL [])), a2, a3, a4, a5] ∧ (a5 = .un ∨ ∃ d, a5 = .im d)) (ds := ts.map limbD)
  · (repeat' (first | (show _ = _; with_reducible assumption) | trivial))
  · exact ⟨rfl, _, _, _, _, rfl, .inl rfl⟩
  · rintro ρ G' ⟨rfl, a2, a3, a4, a5, rfl, h5⟩
    rw [List.length_map, List.take_length]
    have perm := srtD_perm (lt := SrtO.lexB) ((ksL ts).map (·.1))
    have il : (ksL ts).length ≤ ([] : List KP).length + ts.length := ksL_len ts []
    rw [List.length_nil] at il
    have len : (srtD SrtO.lexB ((ksL ts).map (·.1))).length ≤ 100 := by rw [perm.length_eq, List.length_map]; omega
    have ef : (srtD SrtO.lexB ((ksL ts).map (·.1))).filter (fun p => decide (p.1 ≠ p.2)) = srtD SrtO.lexB ((ksP ts).map (·.1)) := by
      rw [srt_filter, key_filter, ks_LP h]
    show DM.Ends (sRet _ [.im (.lst (ts.map limbD)), .mt (kvsD (ksL ts)), a2, a3, a4, a5] G') _
    apply Ends.ret (d := .tup ((mrg ts).map limbD))
    · apply call_run
      · apply cons_run
        · apply lcf_r (srtD SrtO.lexB ((ksL ts).map (·.1))) dPair (fun p => limbD (p.1.toNat, p.2.toNat, valP (ksP ts) p)) (fun p => decide (p.1 ≠ p.2)) (ρx := fun p => [.im (.lst (ts.map limbD)), .mt (kvsD (ksL ts)), a2, a3, a4, .im (dPair p)])
          · exact items_r (sortedD_r (peekT_r rfl) (by omega)) rfl
          · omega
          · rcases h5 with e | ⟨d, e⟩ <;> rw [e] <;> rfl
          · (repeat' (first | (show _ = _; with_reducible assumption) | trivial))
          · intro p hp
            rfl
          · intro p hp
            rfl
          · intro p hp
            have n2 := ne_int2 (a := p.1) (b := p.2)
            unfold dPair
            (repeat' (first | (show _ = _; with_reducible assumption) | with_reducible exact n2 | trivial))
          · intro p hp hne
            have hk := of_decide_eq_true hne
            have hp2 : p ∈ srtD SrtO.lexB ((ksP ts).map (·.1)) := by
              rw [← ef]
              exact List.mem_filter.mpr ⟨hp, hne⟩
            rw [limb_of inv.ok hp2]
            have ev : valP (ksP ts) p = valP (ksL ts) p := by
              rw [← ks_LP h]
              exact (val_in hk (ksL ts)).1
            rw [ev]
            exact bin_run (var_run rfl) (tup_run (cons_run (ixP_r (peekT_r rfl) (var_run rfl) (perm.mem_iff.mp hp)) mNil_ap) (Nat.le_of_ble_eq_true rfl)) rfl
        · (repeat' (first | (show _ = _; with_reducible assumption) | trivial))
      · rw [ef]
        show some (D.tup _) = some (D.tup _)
        unfold mrg limbsOf
        rw [List.map_map]
        rfl
    · exact ⟨rfl, rfl⟩
  · rintro i d hd ρ G' ⟨rfl, a2, a3, a4, a5, rfl, h5⟩
    rw [List.getElem?_map] at hd
    obtain ⟨t, ht, rfl⟩ := Option.map_eq_some_iff.mp hd
    have lk : ((ts.take i).foldl stepL []).length ≤ 100 := by
      have := ksL_len (ts.take i) []
      rw [List.length_nil, List.length_take] at this
      omega
    rw [take_fold ht]
    obtain ⟨ks, eks⟩ : ∃ ks, ks = (ts.take i).foldl stepL [] := ⟨_, rfl⟩
    rw [← eks] at lk ⊢
    refine ⟨[.im (.lst (ts.map limbD)), .mt (kvsD ks), .im (natD t.1), .im (natD t.2.1), .im (.int t.2.2), a5], G', ?_, ?_⟩
    · show xTup 3 _ (.tup [natD t.1, natD t.2.1, .int t.2.2]) _ _ = _
      (repeat' (first | (show _ = _; with_reducible assumption) | trivial))
    have dm := dmin_n (a := t.1) (b := t.2.1)
    have dx := dmax_n (a := t.1) (b := t.2.1)
    apply Ends.seq (ρ1 := [.im (.lst (ts.map limbD)), .mt (kvsD ks), .im (natD t.1), .im (natD t.2.1), .im (.int t.2.2), .im (.tup [natD (lo t.1 t.2.1), natD (hi t.1 t.2.1)])]) (G1 := G')
    · (repeat' (first | (show _ = _; with_reducible assumption) | with_reducible exact dm | with_reducible exact dx | trivial))
    refine DM.Ends.nx (ρ1 := [.im (.lst (ts.map limbD)), .mt (kvsD (stepL ks t)), .im (natD t.1), .im (natD t.2.1), .im (.int t.2.2), .im (.tup [natD (lo t.1 t.2.1), natD (hi t.1 t.2.1)])]) (G1 := G') ?_ ⟨_, rfl, rfl, _, _, _, _, rfl, .inr ⟨_, rfl⟩⟩
    refine put_r (call_run (cons_run (var_run rfl) (cons_run (getP_r (p := keyT t) (peekT_r rfl) (var_run rfl) ret_ap) mNil_ap)) dmin_i) rfl (var_run rfl) ?_
    exact putS_at (i := 1) rfl (by omega) (keyT t) _
end DM

namespace L_k59
open PySem PySem.Spec PyProof.Rows L2 DL
def S_is_whole : Sf := mDef 3 3
  ((sRet (mAndV (mIsi .int (mVar 0)) (mAndV (mUn dNot (mIsi .bool (mVar 0))) (mChain dLe dLe (mVar 1) (mVar 0) (mVar 2))))))

def S_is_tuple_of : Sf := mDef 3 3
  ((sRet (mAndV (mIsi .tuple (mVar 0)) (mChain dLe dLe (mVar 1) (mLen (mPeek 0)) (mVar 2)))))

def S_fits_limb : Sf := mDef 2 2
  ((sSeq (sIf (mOr (mNot (mTest (mFn 3 S_is_tuple_of (mCons (mVar 1) (mCons (ret (.int 3)) (mCons (ret (.int 3)) mNil)))))) (mOr (mNot (mTest (mFn 3 S_is_whole (mCons (mBin dIx (mVar 1) (ret (.int 0))) (mCons (ret (.int 0)) (mCons (mBin dSub (mVar 0) (ret (.int 1))) mNil)))))) (mNot (mTest (mFn 3 S_is_whole (mCons (mBin dIx (mVar 1) (ret (.int 1))) (mCons (ret (.int 0)) (mCons (mBin dSub (mVar 0) (ret (.int 1))) mNil)))))))) (sRet (ret (.bl false))) sNext)
  (sRet (mAndV (mBin dLt (mBin dIx (mVar 1) (ret (.int 0))) (mBin dIx (mVar 1) (ret (.int 1)))) (mFn 3 S_is_whole (mCons (mBin dIx (mVar 1) (ret (.int 2))) (mCons (ret (.int 1)) (mCons (ret (.int 9)) mNil))))))))

def S_fits_figure : Sf := mDef 1 9
  ((sSeq (sIf (mOr (mNot (mTest (mFn 3 S_is_tuple_of (mCons (mVar 0) (mCons (ret (.int 4)) (mCons (ret (.int 4)) mNil)))))) (mOr (mNot (mTest (mFn 3 S_is_whole (mCons (mBin dIx (mVar 0) (ret (.int 0))) (mCons (ret (.int 1)) (mCons (ret (.int 8)) mNil)))))) (mNot (mTest (mFn 3 S_is_whole (mCons (mBin dIx (mVar 0) (ret (.int 3))) (mCons (ret (.int 1)) (mCons (ret (.int 30)) mNil)))))))) (sRet (ret (.bl false))) sNext)
  (sSeq (sAsg (mVar 0) (xTup 4 (xsCons (xName 1) (xsCons (xName 2) (xsCons (xName 3) (xsCons (xName 4) xsNil))))))
  (sSeq (sIf (mOr (mNot (mTest (mFn 3 S_is_tuple_of (mCons (mVar 2) (mCons (ret (.int 0)) (mCons (ret (.int 12)) mNil)))))) (mNot (mTest (mCall dAll (mCons (mLc [8] (mItems (mVar 2)) (gSet 8) (ret true) (mFn 2 S_fits_limb (mCons (mVar 1) (mCons (mVar 8) mNil)))) mNil))))) (sRet (ret (.bl false))) sNext)
  (sSeq (sIf (mNot (mTest (mCall dAll (mCons (mLc [5, 6] (mZip (mVar 2) (mSl (mVar 2) (mPart (ret (.int 1))) (ret none))) (gTupS 2 (gsCons (gSet 5) (gsCons (gSet 6) gsNil))) (ret true) (mBin dLt (mSl (mVar 5) (ret none) (mPart (ret (.int 2)))) (mSl (mVar 6) (ret none) (mPart (ret (.int 2)))))) mNil)))) (sRet (ret (.bl false))) sNext)
  (sRet (mAndV (mFn 3 S_is_tuple_of (mCons (mVar 3) (mCons (ret (.int 1)) (mCons (ret (.int 6)) mNil)))) (mCall dAll (mCons (mLc [7] (mItems (mVar 3)) (gSet 7) (ret true) (mFn 3 S_is_whole (mCons (mVar 7) (mCons (ret (.int 0)) (mCons (mBin dSub (mVar 1) (ret (.int 1))) mNil))))) mNil)))))))))

def S_need_figure : Sf := mDef 1 1
  ((sIf (mNot (mTest (mFn 1 S_fits_figure (mCons (mVar 0) mNil)))) sNever sNext))

def S_fits_joint : Sf := mDef 2 2
  ((sRet (mFn 3 S_is_whole (mCons (mVar 1) (mCons (ret (.int 0)) (mCons (mBin dSub (mBin dIx (mVar 0) (ret (.int 0))) (ret (.int 1))) mNil))))))

def S_need_joint : Sf := mDef 2 2
  ((sIf (mNot (mTest (mFn 2 S_fits_joint (mCons (mVar 0) (mCons (mVar 1) mNil))))) sNever sNext))

def S_fits_setting : Sf := mDef 2 4
  ((sSeq (sSet 2 (mIm (mLen (mBin dIx (mVar 0) (ret (.int 2))))))
  (sRet (mAndV (mFn 3 S_is_tuple_of (mCons (mVar 1) (mCons (mVar 2) (mCons (mVar 2) mNil)))) (mCall dAll (mCons (mLc [3] (mItems (mVar 1)) (gSet 3) (ret true) (mFn 3 S_is_whole (mCons (mVar 3) (mCons (ret (.int 0)) (mCons (mBin dIx (mVar 0) (ret (.int 3))) mNil))))) mNil))))))

def S_need_setting : Sf := mDef 2 2
  ((sIf (mNot (mTest (mFn 2 S_fits_setting (mCons (mVar 0) (mCons (mVar 1) mNil))))) sNever sNext))

def S_need_set : Sf := mDef 2 2
  ((sSeq (sExpr (mFn 1 S_need_figure (mCons (mVar 0) mNil)))
  (sExpr (mFn 2 S_need_setting (mCons (mVar 0) (mCons (mVar 1) mNil))))))

def S_table_of : Sf := mDef 1 8
  ((sSeq (sSet 1 (mIm (mBin dIx (mVar 0) (ret (.int 0)))))
  (sSeq (sSet 2 (mLcN2 [3] (mRng1 (mVar 1)) (gSet 3) (ret true) (mLcN [4] (mRng1 (mVar 1)) (gSet 4) (ret true) (mIf (mTest (mBin dEq (mVar 3) (mVar 4))) (ret (.int 0)) (ret .non)))))
  (sSeq (sFor (mItems (mBin dIx (mVar 0) (ret (.int 1)))) (xTup 3 (xsCons (xName 3) (xsCons (xName 4) (xsCons (xName 5) xsNil)))) (sAsg2 (mVar 5) (xIx2 2 (mVar 3) (mVar 4)) (xIx2 2 (mVar 4) (mVar 3))))
  (sSeq (sFor (mRng1 (mVar 1)) (xName 6) (sFor (mRng1 (mVar 1)) (xName 3) (sFor (mRng1 (mVar 1)) (xName 4) (sIf (mAnd (mTestN (fun d => !d.isN) (mSolid (mBin dIx (mBin dIx (mPeek 2) (mVar 3)) (mVar 6)))) (mTestN (fun d => !d.isN) (mSolid (mBin dIx (mBin dIx (mPeek 2) (mVar 6)) (mVar 4))))) (sSeq (sSet 7 (mIm (mBin dAdd (mSolid (mBin dIx (mBin dIx (mPeek 2) (mVar 3)) (mVar 6))) (mSolid (mBin dIx (mBin dIx (mPeek 2) (mVar 6)) (mVar 4))))))
  (sAsg (mIf (mTestN D.isN (mSolid (mBin dIx (mBin dIx (mPeek 2) (mVar 3)) (mVar 4)))) (mVar 7) (mCall dMin2 (mCons (mVar 7) (mCons (mSolid (mBin dIx (mBin dIx (mPeek 2) (mVar 3)) (mVar 4))) mNil)))) (xIx2 2 (mVar 3) (mVar 4)))) sNext))))
  (sRet (mVar 2)))))))

def S_pose_by : Sf := mDef 3 8
  ((sSeq (sSet 3 (mLstN mNil))
  (sSeq (sFor (mRng1 (mBin dIx (mVar 0) (ret (.int 0)))) (xName 4) (sSeq (sSet 5 (mIm (mLc [6, 7] (mZip (mBin dIx (mVar 0) (ret (.int 2))) (mVar 1)) (gTupS 2 (gsCons (gSet 6) (gsCons (gSet 7) gsNil))) (mTestN (fun d => !d.isN) (mBin dIx (mBin dIx (mVar 2) (mVar 6)) (mVar 4))) (mBin dAdd (mVar 7) (mBin dIx (mBin dIx (mVar 2) (mVar 6)) (mVar 4))))))
  (sApp 3 (mCall dMinL (mCons (mBin dAdd (mVar 5) (mLst (mCons (mBin dIx (mVar 0) (ret (.int 3))) mNil))) mNil)))))
  (sRet (mCall dTuple (mCons (mVar 3) mNil))))))

def S_pose_in : Sf := mDef 2 2
  ((sRet (mFn 3 S_pose_by (mCons (mVar 0) (mCons (mVar 1) (mCons (mFn 1 S_table_of (mCons (mVar 0) mNil)) mNil))))))

def S_pose : Sf := mDef 2 2
  ((sSeq (sExpr (mFn 2 S_need_set (mCons (mVar 0) (mCons (mVar 1) mNil))))
  (sRet (mFn 2 S_pose_in (mCons (mVar 0) (mCons (mVar 1) mNil))))))

def S_limbs_of : Sf := mDef 1 6
  ((sSeq (sSet 1 (ret (.mt [])))
  (sSeq (sFor (mItems (mVar 0)) (xTup 3 (xsCons (xName 2) (xsCons (xName 3) (xsCons (xName 4) xsNil)))) (sSeq (sSet 5 (mIm (mTup (mCons (mCall dMin2 (mCons (mVar 2) (mCons (mVar 3) mNil))) (mCons (mCall dMax2 (mCons (mVar 2) (mCons (mVar 3) mNil))) mNil)))))
  (sIf (mTest (mBin dNe (mVar 2) (mVar 3))) (sPut 1 (mVar 5) (mCall dMin2 (mCons (mVar 4) (mCons (mSolid (mGet2 (mPeek 1) (mVar 5) (mVar 4))) mNil)))) sNext)))
  (sRet (mCall dTuple (mCons (mLc [5] (mItems (mSortedD (mPeek 1))) (gSet 5) (ret true) (mBin dAdd (mVar 5) (mTup (mCons (mSolid (mBin dIxD (mPeek 1) (mVar 5))) mNil)))) mNil))))))

def S_bound : Sf := mDef 3 11
  ((sSeq (sExpr (mFn 1 S_need_figure (mCons (mVar 0) mNil)))
  (sSeq (sExpr (mFn 2 S_need_joint (mCons (mVar 0) (mCons (mVar 1) mNil))))
  (sSeq (sExpr (mFn 2 S_need_joint (mCons (mVar 0) (mCons (mVar 2) mNil))))
  (sSeq (sIf (mTest (mBin dEq (mVar 1) (mVar 2))) sNever sNext)
  (sSeq (sPar 3 4 (mIm (mCall dMax2 (mCons (mVar 1) (mCons (mVar 2) mNil)))) (mLstN mNil))
  (sSeq (sFor (mRng1 (mBin dIx (mVar 0) (ret (.int 0)))) (xName 5) (sApp 4 (mIf (mTest (mBin dEq (mVar 5) (mVar 3))) (mCall dMin2 (mCons (mVar 1) (mCons (mVar 2) mNil))) (mBin dSub (mVar 5) (mIf (mTest (mBin dGt (mVar 5) (mVar 3))) (ret (.int 1)) (ret (.int 0)))))))
  (sSeq (sSet 6 (mIm (mFn 1 S_limbs_of (mCons (mLc [7, 8, 9] (mItems (mBin dIx (mVar 0) (ret (.int 1)))) (gTupS 3 (gsCons (gSet 7) (gsCons (gSet 8) (gsCons (gSet 9) gsNil)))) (ret true) (mTup (mCons (mSolid (mBin dIx (mPeek 4) (mVar 7))) (mCons (mSolid (mBin dIx (mPeek 4) (mVar 8))) (mCons (mVar 9) mNil))))) mNil))))
  (sRet (mTup (mCons (mBin dSub (mBin dIx (mVar 0) (ret (.int 0))) (ret (.int 1))) (mCons (mVar 6) (mCons (mCall dTuple (mCons (mLc [10] (mItems (mBin dIx (mVar 0) (ret (.int 2)))) (gSet 10) (ret true) (mSolid (mBin dIx (mPeek 4) (mVar 10)))) mNil)) (mCons (mBin dIx (mVar 0) (ret (.int 3))) mNil))))))))))))))

def S_with_limb : Sf := mDef 4 5
  ((sSeq (sExpr (mFn 1 S_need_figure (mCons (mVar 0) mNil)))
  (sSeq (sExpr (mFn 2 S_need_joint (mCons (mVar 0) (mCons (mVar 1) mNil))))
  (sSeq (sExpr (mFn 2 S_need_joint (mCons (mVar 0) (mCons (mVar 2) mNil))))
  (sSeq (sIf (mTest (mBin dEq (mVar 1) (mVar 2))) sNever sNext)
  (sSeq (sIf (mNot (mTest (mFn 3 S_is_whole (mCons (mVar 3) (mCons (ret (.int 1)) (mCons (ret (.int 9)) mNil)))))) sNever sNext)
  (sSeq (sSet 4 (mIm (mBin dAdd (mTup (mCons (mBin dIx (mVar 0) (ret (.int 0))) (mCons (mFn 1 S_limbs_of (mCons (mBin dAdd (mCall dList (mCons (mBin dIx (mVar 0) (ret (.int 1))) mNil)) (mLst (mCons (mTup (mCons (mVar 1) (mCons (mVar 2) (mCons (mVar 3) mNil)))) mNil))) mNil)) mNil))) (mSl (mVar 0) (mPart (ret (.int 2))) (ret none)))))
  (sSeq (sIf (mNot (mTest (mFn 1 S_fits_figure (mCons (mVar 4) mNil)))) sNever sNext)
  (sRet (mVar 4))))))))))

def S_with_string : Sf := mDef 2 3
  ((sSeq (sExpr (mFn 1 S_need_figure (mCons (mVar 0) mNil)))
  (sSeq (sExpr (mFn 2 S_need_joint (mCons (mVar 0) (mCons (mVar 1) mNil))))
  (sSeq (sSet 2 (mIm (mBin dAdd (mSl (mVar 0) (ret none) (mPart (ret (.int 2)))) (mTup (mCons (mBin dAdd (mBin dIx (mVar 0) (ret (.int 2))) (mTup (mCons (mVar 1) mNil))) (mCons (mBin dIx (mVar 0) (ret (.int 3))) mNil))))))
  (sSeq (sIf (mNot (mTest (mFn 1 S_fits_figure (mCons (mVar 2) mNil)))) sNever sNext)
  (sRet (mVar 2)))))))

def S_law_cup : Sf := mDef 1 2
  ((sSeq (sSet 1 (mIm (mCall dAbs (mCons (mBin dIx (mBin dAdd (mCall dList (mCons (mVar 0) mNil)) (mLst (mCons (ret (.int 0)) mNil))) (ret (.int 0))) mNil))))
  (sShare (mLstN (mCons (mIf (mTest (mBin dGe (mVar 1) (mBin dPow (ret (.int 10)) (ret (.int 18))))) (mBin dFdiv (mVar 1) (ret (.int 97))) (ret (.int 0))) (mCons (mBin dAdd (mBin dMod (mCall dInt (mCons (mBin dAdd (mBin dMul (mVar 1) (ret (.int 337))) (ret (.int 4051))) mNil)) (ret (.int 2077502213))) (ret (.int 179))) mNil))))))

def S_law_roll : Sf := mDef 2 4
  ((sSeq (sIf (mTest (mBin dGt (mIxH 0 (ret (.int 0))) (ret (.int 0)))) (sSeq (sSet 2 (mIm (mBin dMod (mCall dInt (mCons (mIxH 0 (ret (.int 0))) mNil)) (mVar 1))))
  (sSeq (sAsg (mBin dFdiv (mIxH 0 (ret (.int 0))) (mVar 1)) (xIx 0 (ret (.int 0))))
  (sRet (mVar 2)))) sNext)
  (sSeq (sAsg (mBin dMod (mCall dInt (mCons (mBin dAdd (mBin dMul (mIxH 0 (ret (.int 1))) (ret (.int 30931))) (ret (.int 7907))) mNil)) (ret (.int 2147483399))) (xIx 0 (ret (.int 1))))
  (sSeq (sSet 3 (mIm (mBin dMod (mCall dInt (mCons (mBin dMul (mIxH 0 (ret (.int 1))) (mBin dAdd (mIxH 0 (ret (.int 1))) (ret (.int 251)))) mNil)) (ret (.int 2147483563)))))
  (sRet (mBin dMod (mCall dInt (mCons (mBin dFdiv (mVar 3) (ret (.int 829))) mNil)) (mVar 1)))))))

def S_law_some : Sf := mDef 2 2
  ((sRet (mBin dIx (mVar 1) (mFn 2 S_law_roll (mCons (mVar 0) (mCons (mLen (mPeek 1)) mNil))))))

def S_law_same : Nat → Sf
  | 0 => fun _ _ => none
  | j + 1 => mDef 2 3 ((sSeq (sIf (mTest (mIsi .tuple (mVar 1))) (sSeq (sIf (mOr (mNot (mTest (mIsi .tuple (mVar 0)))) (mTest (mBin dNe (mLen (mPeek 0)) (mLen (mPeek 1))))) (sRet (ret (.bl false))) sNext)
  (sRet (mCall dAll (mCons (mLc [2] (mRng1 (mLen (mPeek 1))) (gSet 2) (ret true) (mFn 2 (S_law_same j) (mCons (mBin dIx (mVar 0) (mVar 2)) (mCons (mBin dIx (mVar 1) (mVar 2)) mNil)))) mNil)))) sNext)
  (sSeq (sIf (mTestN D.isN (mVar 1)) (sRet (mUn (fun d => some (.bl d.isN)) (mVar 0))) sNext)
  (sSeq (sIf (mTest (mIsi .bool (mVar 1))) (sRet (mIf (mTest (mVar 1)) (mBin dIs (mVar 0) (ret (.bl true))) (mBin dIs (mVar 0) (ret (.bl false))))) sNext)
  (sSeq (sIf (mTest (mIsi .int (mVar 1))) (sRet (mAndV (mIsi .int (mVar 0)) (mAndV (mUn dNot (mIsi .bool (mVar 0))) (mBin dEq (mCall dInt (mCons (mVar 0) mNil)) (mVar 1))))) sNext)
  (sRet (mAndV (mIsi .str (mVar 0)) (mBin dEq (mCall dStr (mCons (mVar 0) mNil)) (mVar 1)))))))))

def S_law_figure : Sf := mDef 3 12
  ((sSeq (sSet 3 (mIm (mBin dAdd (ret (.int 1)) (mFn 2 S_law_roll (mCons (mVar 0) (mCons (mVar 1) mNil))))))
  (sSeq (sSet 4 (ret (.mt [])))
  (sSeq (sFor (mRng2 (ret (.int 1)) (mVar 3)) (xName 5) (sIf (mTest (mBin dGt (mFn 2 S_law_roll (mCons (mVar 0) (mCons (ret (.int 7)) mNil))) (ret (.int 0)))) (sPut 4 (mTup (mCons (mFn 2 S_law_roll (mCons (mVar 0) (mCons (mVar 5) mNil))) (mCons (mVar 5) mNil))) (mBin dAdd (ret (.int 1)) (mFn 2 S_law_roll (mCons (mVar 0) (mCons (mFn 2 S_law_some (mCons (mVar 0) (mCons (mLst (mCons (ret (.int 3)) (mCons (ret (.int 9)) mNil))) mNil))) mNil))))) sNext))
  (sSeq (sFor (mRng1 (mIf (mTest (mBin dGt (mVar 3) (ret (.int 2)))) (mFn 2 S_law_roll (mCons (mVar 0) (mCons (ret (.int 4)) mNil))) (ret (.int 0)))) (xName 6) (sSeq (sPar 7 8 (mIm (mFn 2 S_law_roll (mCons (mVar 0) (mCons (mVar 3) mNil)))) (mIm (mFn 2 S_law_roll (mCons (mVar 0) (mCons (mVar 3) mNil)))))
  (sIf (mAnd (mTest (mBin dLt (mVar 7) (mVar 8))) (mTest (mBin dLt (mLen (mPeek 4)) (ret (.int 12))))) (sPut 4 (mTup (mCons (mVar 7) (mCons (mVar 8) mNil))) (mBin dAdd (ret (.int 1)) (mFn 2 S_law_roll (mCons (mVar 0) (mCons (ret (.int 9)) mNil))))) sNext)))
  (sSeq (sSet 9 (mIm (mCall dTuple (mCons (mLc [11] (mItems (mSortedD (mPeek 4))) (gSet 11) (ret true) (mBin dAdd (mVar 11) (mTup (mCons (mSolid (mBin dIxD (mPeek 4) (mVar 11))) mNil)))) mNil))))
  (sSeq (sSet 10 (mIm (mCall dTuple (mCons (mLc [6] (mRng1 (mBin dAdd (ret (.int 1)) (mFn 2 S_law_roll (mCons (mVar 0) (mCons (mVar 2) mNil))))) (gSet 6) (ret true) (mFn 2 S_law_roll (mCons (mVar 0) (mCons (mVar 3) mNil)))) mNil))))
  (sRet (mTup (mCons (mVar 3) (mCons (mVar 9) (mCons (mVar 10) (mCons (mFn 2 S_law_some (mCons (mVar 0) (mCons (mLst (mCons (ret (.int 1)) (mCons (ret (.int 4)) (mCons (ret (.int 9)) (mCons (ret (.int 15)) (mCons (ret (.int 22)) (mCons (ret (.int 30)) mNil))))))) mNil))) mNil)))))))))))))

def S_law_setting : Sf := mDef 2 4
  ((sSeq (sSet 2 (mIm (mBin dIx (mVar 1) (ret (.int 3)))))
  (sRet (mCall dTuple (mCons (mLc [3] (mItems (mBin dIx (mVar 1) (ret (.int 2)))) (gSet 3) (ret true) (mFn 2 S_law_some (mCons (mVar 0) (mCons (mLst (mCons (mVar 2) (mCons (ret (.int 0)) (mCons (mFn 2 S_law_roll (mCons (mVar 0) (mCons (mBin dAdd (mVar 2) (ret (.int 1))) mNil))) (mCons (mFn 2 S_law_roll (mCons (mVar 0) (mCons (mBin dAdd (mVar 2) (ret (.int 1))) mNil))) (mCons (mFn 2 S_law_roll (mCons (mVar 0) (mCons (mBin dAdd (mVar 2) (ret (.int 1))) mNil))) mNil)))))) mNil)))) mNil)))))

def S_law_from : Sf := mDef 2 9
  ((sSeq (sSet 2 (mDisp1 (mVar 1) (ret (.int 0))))
  (sSeq (sFor (mRng1 (mBin dIx (mVar 0) (ret (.int 0)))) (xName 3) (sFor (mItems (mBin dIx (mVar 0) (ret (.int 1)))) (xTup 3 (xsCons (xName 4) (xsCons (xName 5) (xsCons (xName 6) xsNil)))) (sFor (mItems (mTup (mCons (mTup (mCons (mVar 4) (mCons (mVar 5) mNil))) (mCons (mTup (mCons (mVar 5) (mCons (mVar 4) mNil))) mNil)))) (xTup 2 (xsCons (xName 7) (xsCons (xName 8) xsNil))) (sIf (mAnd (mTest (mInD (fun z => z) (mVar 7) (mPeek 2))) (mTest (mBin dLt (mBin dAdd (mSolid (mBin dIxD (mPeek 2) (mVar 7))) (mVar 6)) (mSolid (mGet2 (mPeek 2) (mVar 8) (mBin dPow (ret (.int 10)) (ret (.int 6)))))))) (sPut 2 (mVar 8) (mBin dAdd (mSolid (mBin dIxD (mPeek 2) (mVar 7))) (mVar 6))) sNext))))
  (sRet (mVar 2)))))

def S_law_pose : Sf := mDef 2 8
  ((sSeq (sSet 2 (mBinN dMulN (mLst (mCons (mBin dIx (mVar 0) (ret (.int 3))) mNil)) (mBin dIx (mVar 0) (ret (.int 0)))))
  (sSeq (sFor (mZip (mBin dIx (mVar 0) (ret (.int 2))) (mVar 1)) (xTup 2 (xsCons (xName 3) (xsCons (xName 4) xsNil))) (sAsg (mCall dMin2 (mCons (mSolid (mBin dIx (mPeek 2) (mVar 3))) (mCons (mVar 4) mNil))) (xIx 2 (mVar 3))))
  (sSeq (sFor (mRng1 (mBin dIx (mVar 0) (ret (.int 0)))) (xName 5) (sFor (mItems (mBin dIx (mVar 0) (ret (.int 1)))) (xTup 3 (xsCons (xName 6) (xsCons (xName 7) (xsCons (xName 4) xsNil)))) (sAsg (mTup (mCons (mCall dMin2 (mCons (mSolid (mBin dIx (mPeek 2) (mVar 6))) (mCons (mBin dAdd (mSolid (mBin dIx (mPeek 2) (mVar 7))) (mVar 4)) mNil))) (mCons (mCall dMin2 (mCons (mSolid (mBin dIx (mPeek 2) (mVar 7))) (mCons (mBin dAdd (mSolid (mBin dIx (mPeek 2) (mVar 6))) (mVar 4)) mNil))) mNil))) (xTup 2 (xsCons (xIx 2 (mVar 6)) (xsCons (xIx 2 (mVar 7)) xsNil))))))
  (sRet (mCall dTuple (mCons (mVar 2) mNil)))))))

def S_law_shift : Sf := mDef 4 5
  ((sRet (mIf (mTest (mBin dEq (mVar 3) (mVar 2))) (mVar 1) (mBin dAdd (mBin dIx (mVar 0) (ret (.int 0))) (mLen (mLc [4] (mRng1 (mVar 3)) (gSet 4) (mTest (mBin dNe (mVar 4) (mVar 2))) (mVar 4)))))))

def S_law_limbs_of : Sf := mDef 1 6
  ((sSeq (sSet 1 (ret (.mt [])))
  (sSeq (sFor (mItems (mVar 0)) (xTup 3 (xsCons (xName 2) (xsCons (xName 3) (xsCons (xName 4) xsNil)))) (sSeq (sSet 5 (mIm (mTup (mCons (mCall dMin2 (mCons (mVar 2) (mCons (mVar 3) mNil))) (mCons (mCall dMax2 (mCons (mVar 2) (mCons (mVar 3) mNil))) mNil)))))
  (sPut 1 (mVar 5) (mCall dMin2 (mCons (mVar 4) (mCons (mSolid (mGet2 (mPeek 1) (mVar 5) (ret (.int 99)))) mNil))))))
  (sRet (mCall dTuple (mCons (mLc [5] (mItems (mSortedD (mPeek 1))) (gSet 5) (mTest (mBin dNe (mBin dIx (mVar 5) (ret (.int 0))) (mBin dIx (mVar 5) (ret (.int 1))))) (mBin dAdd (mVar 5) (mTup (mCons (mSolid (mBin dIxD (mPeek 1) (mVar 5))) mNil)))) mNil))))))

def S_law_none_deeper : Sf := mDef 2 4
  ((sRet (mBin dEq (mLc [2, 3] (mZip (mVar 0) (mVar 1)) (gTupS 2 (gsCons (gSet 2) (gsCons (gSet 3) gsNil))) (mTest (mBin dGt (mVar 3) (mVar 2))) (ret (.int 1))) (mLst mNil))))

def S_law : Sf := mDef 1 32
  ((sSeq (sSet 1 (mIm (mFn 1 S_law_cup (mCons (mVar 0) mNil))))
  (sSeq (sFor (mRng1 (ret (.int 6))) (xName 2) (sSeq (sSet 3 (mIm (mFn 3 S_law_figure (mCons (mVar 1) (mCons (ret (.int 8)) (mCons (ret (.int 5)) mNil))))))
  (sSeq (sAsg (mVar 3) (xTup 4 (xsCons (xName 4) (xsCons (xName 5) (xsCons (xName 6) (xsCons (xName 7) xsNil))))))
  (sSeq (sSet 8 (mIm (mFn 2 S_law_setting (mCons (mVar 1) (mCons (mVar 3) mNil)))))
  (sSeq (sSet 9 (mIm (mFn 2 S_law_pose (mCons (mVar 3) (mCons (mVar 8) mNil)))))
  (sSeq (sAsg (mTup (mCons (mFn 2 S_law_roll (mCons (mVar 1) (mCons (mVar 4) mNil))) (mCons (mFn 2 S_law_roll (mCons (mVar 1) (mCons (mVar 4) mNil))) (mCons (mBin dAdd (ret (.int 1)) (mFn 2 S_law_roll (mCons (mVar 1) (mCons (ret (.int 9)) mNil)))) mNil)))) (xTup 3 (xsCons (xName 10) (xsCons (xName 11) (xsCons (xName 12) xsNil)))))
  (sSeq (sIf (mTest (mBin dNe (mVar 10) (mVar 11))) (sSeq (sSet 13 (mIm (mLc [19] (mRng1 (mVar 4)) (gSet 19) (ret true) (mIf (mTest (mBin dEq (mVar 19) (mCall dMax2 (mCons (mVar 10) (mCons (mVar 11) mNil))))) (mCall dMin2 (mCons (mVar 10) (mCons (mVar 11) mNil))) (mBin dSub (mVar 19) (mCall dInt (mCons (mBin dGt (mVar 19) (mCall dMax2 (mCons (mVar 10) (mCons (mVar 11) mNil)))) mNil)))))))
  (sSeq (sSet 14 (mIm (mTup (mCons (mBin dSub (mVar 4) (ret (.int 1))) (mCons (mFn 1 S_law_limbs_of (mCons (mLc [28, 29, 30] (mItems (mVar 5)) (gTupS 3 (gsCons (gSet 28) (gsCons (gSet 29) (gsCons (gSet 30) gsNil)))) (ret true) (mTup (mCons (mBin dIx (mVar 13) (mVar 28)) (mCons (mBin dIx (mVar 13) (mVar 29)) (mCons (mVar 30) mNil))))) mNil)) (mCons (mCall dTuple (mCons (mLc [31] (mItems (mVar 6)) (gSet 31) (ret true) (mBin dIx (mVar 13) (mVar 31))) mNil)) (mCons (mVar 7) mNil)))))))
  (sSeq (sSet 15 (mIm (mFn 3 S_bound (mCons (mVar 3) (mCons (mVar 10) (mCons (mVar 11) mNil))))))
  (sSeq (sIf (mNot (mTest (mFn 2 (S_law_same 8) (mCons (mTup (mCons (mVar 15) (mCons (mFn 3 S_bound (mCons (mVar 3) (mCons (mVar 11) (mCons (mVar 10) mNil)))) mNil))) (mCons (mTup (mCons (mVar 14) (mCons (mVar 14) mNil))) mNil))))) (sRet (ret (.bl false))) sNext)
  (sSeq (sPar 16 17 (mIm (mCall dMin2 (mCons (mBin dIx (mVar 9) (mVar 10)) (mCons (mBin dIx (mVar 9) (mVar 11)) mNil)))) (mIm (mLst (mCons (mFn 2 S_law_from (mCons (mVar 3) (mCons (mVar 10) mNil))) (mCons (mFn 2 S_law_from (mCons (mVar 3) (mCons (mVar 11) mNil))) mNil)))))
  (sSeq (sSet 18 (mIm (mFn 2 S_pose (mCons (mVar 15) (mCons (mVar 8) mNil)))))
  (sSeq (sFor (mRng1 (mVar 4)) (xName 19) (sIf (mTest (mBin dNe (mBin dIx (mVar 18) (mBin dIx (mVar 13) (mVar 19))) (mCall dMin2 (mCons (mBin dIx (mVar 9) (mVar 19)) (mCons (mBin dAdd (mVar 16) (mCall dMin2 (mCons (mSolid (mGet2 (mBin dIx (mVar 17) (ret (.int 0))) (mVar 19) (ret (.int 99)))) (mCons (mSolid (mGet2 (mBin dIx (mVar 17) (ret (.int 1))) (mVar 19) (ret (.int 99)))) mNil)))) mNil))))) (sRet (ret (.bl false))) sNext))
  (sSeq (sSet 14 (mIm (mTup (mCons (mVar 4) (mCons (mFn 1 S_law_limbs_of (mCons (mBin dAdd (mCall dList (mCons (mVar 5) mNil)) (mLst (mCons (mTup (mCons (mVar 10) (mCons (mVar 11) (mCons (mVar 12) mNil)))) mNil))) mNil)) (mCons (mVar 6) (mCons (mVar 7) mNil)))))))
  (sIf (mTest (mBin dLe (mLen (mBin dIx (mVar 14) (ret (.int 1)))) (ret (.int 12)))) (sSeq (sIf (mNot (mTest (mFn 2 (S_law_same 8) (mCons (mTup (mCons (mFn 4 S_with_limb (mCons (mVar 3) (mCons (mVar 10) (mCons (mVar 11) (mCons (mVar 12) mNil))))) (mCons (mFn 4 S_with_limb (mCons (mVar 3) (mCons (mVar 11) (mCons (mVar 10) (mCons (mVar 12) mNil))))) mNil))) (mCons (mTup (mCons (mVar 14) (mCons (mVar 14) mNil))) mNil))))) (sRet (ret (.bl false))) sNext)
  (sIf (mNot (mTest (mFn 2 S_law_none_deeper (mCons (mVar 9) (mCons (mFn 2 S_pose (mCons (mVar 14) (mCons (mVar 8) mNil))) mNil))))) (sRet (ret (.bl false))) sNext)) sNext))))))))) sNext)
  (sSeq (sSet 20 (mIm (mTup (mCons (mVar 4) (mCons (mVar 5) (mCons (mBin dAdd (mVar 6) (mTup (mCons (mVar 11) mNil))) (mCons (mVar 7) mNil)))))))
  (sSeq (sIf (mNot (mTest (mFn 2 (S_law_same 8) (mCons (mFn 2 S_with_string (mCons (mVar 3) (mCons (mVar 11) mNil))) (mCons (mVar 20) mNil))))) (sRet (ret (.bl false))) sNext)
  (sSeq (sSet 21 (mIm (mFn 2 S_law_roll (mCons (mVar 1) (mCons (mBin dAdd (mVar 7) (ret (.int 1))) mNil)))))
  (sSeq (sSet 22 (mIm (mCall dTuple (mCons (mLc [19] (mRng1 (mVar 4)) (gSet 19) (ret true) (mCall dMin2 (mCons (mBin dIx (mVar 9) (mVar 19)) (mCons (mBin dAdd (mVar 21) (mSolid (mGet2 (mFn 2 S_law_from (mCons (mVar 3) (mCons (mVar 11) mNil))) (mVar 19) (ret (.int 99))))) mNil)))) mNil))))
  (sIf (mOr (mNot (mTest (mFn 2 (S_law_same 8) (mCons (mFn 2 S_pose (mCons (mVar 20) (mCons (mBin dAdd (mVar 8) (mTup (mCons (mVar 21) mNil))) mNil))) (mCons (mVar 22) mNil))))) (mNot (mTest (mFn 2 S_law_none_deeper (mCons (mVar 9) (mCons (mVar 22) mNil)))))) (sRet (ret (.bl false))) sNext))))))))))))
  (sSeq (sAsg (mLc [20] (mRng1 (ret (.int 4))) (gSet 20) (ret true) (mBin dAdd (ret (.int 1)) (mFn 2 S_law_roll (mCons (mVar 1) (mCons (ret (.int 9)) mNil))))) (xUnl 4 (xsCons (xName 23) (xsCons (xName 24) (xsCons (xName 25) (xsCons (xName 26) xsNil))))))
  (sSeq (sSet 27 (mIm (mTup (mCons (ret (.int 4)) (mCons (mTup (mCons (mTup (mCons (ret (.int 0)) (mCons (ret (.int 1)) (mCons (mVar 23) mNil)))) (mCons (mTup (mCons (ret (.int 0)) (mCons (ret (.int 3)) (mCons (mVar 26) mNil)))) (mCons (mTup (mCons (ret (.int 1)) (mCons (ret (.int 2)) (mCons (mVar 24) mNil)))) (mCons (mTup (mCons (ret (.int 2)) (mCons (ret (.int 3)) (mCons (mVar 25) mNil)))) mNil))))) (mCons (mTup (mCons (ret (.int 0)) (mCons (ret (.int 3)) mNil))) (mCons (ret (.int 20)) mNil)))))))
  (sSeq (sSet 15 (mIm (mTup (mCons (mFn 3 S_bound (mCons (mVar 27) (mCons (ret (.int 0)) (mCons (ret (.int 2)) mNil)))) (mCons (mFn 3 S_bound (mCons (mVar 27) (mCons (ret (.int 3)) (mCons (ret (.int 1)) mNil)))) (mCons (mFn 3 S_bound (mCons (mTup (mCons (ret (.int 2)) (mCons (mTup (mCons (mTup (mCons (ret (.int 0)) (mCons (ret (.int 1)) (mCons (mVar 23) mNil)))) mNil)) (mCons (mTup (mCons (ret (.int 1)) (mCons (ret (.int 0)) mNil))) (mCons (ret (.int 5)) mNil))))) (mCons (ret (.int 0)) (mCons (ret (.int 1)) mNil)))) (mCons (mBin dIx (mBin dIx (mFn 4 S_with_limb (mCons (mVar 27) (mCons (ret (.int 1)) (mCons (ret (.int 0)) (mCons (mVar 24) mNil))))) (ret (.int 1))) (ret (.int 0))) mNil)))))))
  (sRet (mFn 2 (S_law_same 8) (mCons (mVar 15) (mCons (mTup (mCons (mTup (mCons (ret (.int 3)) (mCons (mTup (mCons (mTup (mCons (ret (.int 0)) (mCons (ret (.int 1)) (mCons (mCall dMin2 (mCons (mVar 23) (mCons (mVar 24) mNil))) mNil)))) (mCons (mTup (mCons (ret (.int 0)) (mCons (ret (.int 2)) (mCons (mCall dMin2 (mCons (mVar 25) (mCons (mVar 26) mNil))) mNil)))) mNil))) (mCons (mTup (mCons (ret (.int 0)) (mCons (ret (.int 2)) mNil))) (mCons (ret (.int 20)) mNil))))) (mCons (mTup (mCons (ret (.int 3)) (mCons (mTup (mCons (mTup (mCons (ret (.int 0)) (mCons (ret (.int 1)) (mCons (mCall dMin2 (mCons (mVar 23) (mCons (mVar 26) mNil))) mNil)))) (mCons (mTup (mCons (ret (.int 1)) (mCons (ret (.int 2)) (mCons (mCall dMin2 (mCons (mVar 24) (mCons (mVar 25) mNil))) mNil)))) mNil))) (mCons (mTup (mCons (ret (.int 0)) (mCons (ret (.int 1)) mNil))) (mCons (ret (.int 20)) mNil))))) (mCons (mTup (mCons (ret (.int 1)) (mCons (mTup mNil) (mCons (mTup (mCons (ret (.int 0)) (mCons (ret (.int 0)) mNil))) (mCons (ret (.int 5)) mNil))))) (mCons (mTup (mCons (ret (.int 0)) (mCons (ret (.int 1)) (mCons (mCall dMin2 (mCons (mVar 23) (mCons (mVar 24) mNil))) mNil)))) mNil))))) mNil))))))))))

end L_k59

namespace L_k59
open PySem PySem.Spec PyProof.Rows L2 DL
def top (i : Nat) : Stmt := PySem.Challenge.pw_hungstage_k59_whole_bound_joints_and_mor.main.body.getD i (.Pass ⟨0, 0, 0, 0⟩)
def N_is_whole : List PySem.Str := ["value", "least", "most"]
theorem sc_is_whole : FnScope N_is_whole ["value", "least", "most"] (defScope (top 12)) := ⟨rfl, rfl, rfl, by decide +kernel, rfl, by decide +kernel, by decide +kernel⟩
theorem C_is_whole {P : Program} {w : World} {K : PySem.W.Frag} {mg : PySem.Str → Option Value} {base : Heap} {f : Addr} {fd : FuncData} (F : FunD K "is_whole" "is_whole" (defArgs (top 12)) (defBody (top 12)) (defScope (top 12)) [] [] f fd) (gF : mg "is_whole" = some (.ref f)) (m_bool : mg "bool" = none) (m_int : mg "int" = none) (m_isinstance : mg "isinstance" = none) : Cal P w K mg base "is_whole" 1 3 S_is_whole :=
  ⟨f, fd, _, fn_dl F sc_is_whole rfl (by decide) (fun cdv A outer s H E hr =>
    (db_one (ds_ret (de_and (de_isi .int m_isinstance m_int (de_var 0)) (de_and (de_not (de_isi .bool m_isinstance m_bool (de_var 0))) (de_one (de_lele (de_var 1) (de_var 0) (de_var 2)))))))), gF, F.kp, F.bindsN (ps := ["value", "least", "most"]) fun _ _ _ _ _ _ us hl => match us, hl with | [_, _, _], _ => rfl⟩

def N_is_tuple_of : List PySem.Str := ["value", "least", "most"]
theorem sc_is_tuple_of : FnScope N_is_tuple_of ["value", "least", "most"] (defScope (top 13)) := ⟨rfl, rfl, rfl, by decide +kernel, rfl, by decide +kernel, by decide +kernel⟩
theorem C_is_tuple_of {P : Program} {w : World} {K : PySem.W.Frag} {mg : PySem.Str → Option Value} {base : Heap} {f : Addr} {fd : FuncData} (F : FunD K "is_tuple_of" "is_tuple_of" (defArgs (top 13)) (defBody (top 13)) (defScope (top 13)) [] [] f fd) (gF : mg "is_tuple_of" = some (.ref f)) (m_isinstance : mg "isinstance" = none) (m_len : mg "len" = none) (m_tuple : mg "tuple" = none) : Cal P w K mg base "is_tuple_of" 1 3 S_is_tuple_of :=
  ⟨f, fd, _, fn_dl F sc_is_tuple_of rfl (by decide) (fun cdv A outer s H E hr =>
    (db_one (ds_ret (de_and (de_isi .tuple m_isinstance m_tuple (de_var 0)) (de_one (de_lele (de_var 1) (de_len m_len (dp_var 0)) (de_var 2))))))), gF, F.kp, F.bindsN (ps := ["value", "least", "most"]) fun _ _ _ _ _ _ us hl => match us, hl with | [_, _, _], _ => rfl⟩

def N_fits_limb : List PySem.Str := ["joints", "value"]
theorem sc_fits_limb : FnScope N_fits_limb ["joints", "value"] (defScope (top 14)) := ⟨rfl, rfl, rfl, by decide +kernel, rfl, by decide +kernel, by decide +kernel⟩
theorem C_fits_limb {P : Program} {w : World} {K : PySem.W.Frag} {mg : PySem.Str → Option Value} {base : Heap} {f : Addr} {fd : FuncData} (F : FunD K "fits_limb" "fits_limb" (defArgs (top 14)) (defBody (top 14)) (defScope (top 14)) [] [] f fd) (gF : mg "fits_limb" = some (.ref f)) (c_is_whole : Cal P w K mg base "is_whole" 1 3 S_is_whole) (c_is_tuple_of : Cal P w K mg base "is_tuple_of" 1 3 S_is_tuple_of) (k_LENGTH : ∃ t, mg "LENGTH" = some (.int 9 t)) : Cal P w K mg base "fits_limb" 2 2 S_fits_limb :=
  ⟨f, fd, _, fn_dl F sc_fits_limb rfl (by decide) (fun cdv A outer s H E hr =>
    (db_cons (ds_if (dt_w (dw_or (dt_not (dt_val (de_call c_is_tuple_of (hr.mono (by decide)) (da_cons (de_var 1) (da_cons de_int (da_cons de_int da_nil)))))) (dw_or (dt_not (dt_val (de_call c_is_whole (hr.mono (by decide)) (da_cons (de_ix (de_var 1) de_int) (da_cons de_int (da_cons (de_sub (de_var 0) de_int) da_nil)))))) (dw_or1 (dt_not (dt_val (de_call c_is_whole (hr.mono (by decide)) (da_cons (de_ix (de_var 1) de_int) (da_cons de_int (da_cons (de_sub (de_var 0) de_int) da_nil)))))))))) (db_one (ds_ret de_bl)) db_nil)
    (db_one (ds_ret (de_and (de_lt hr.units (de_ix (de_var 1) de_int) (de_ix (de_var 1) de_int)) (de_one (de_call c_is_whole (hr.mono (by decide)) (da_cons (de_ix (de_var 1) de_int) (da_cons de_int (da_cons (de_gint k_LENGTH) da_nil)))))))))), gF, F.kp, F.bindsN (ps := ["joints", "value"]) fun _ _ _ _ _ _ us hl => match us, hl with | [_, _], _ => rfl⟩

def N_fits_figure : List PySem.Str := ["value", "joints", "limbs", "ties", "floor", "one", "other", "joint", "limb"]
theorem sc_fits_figure : FnScope N_fits_figure ["value"] (defScope (top 15)) := ⟨rfl, rfl, rfl, by decide +kernel, rfl, by decide +kernel, by decide +kernel⟩
theorem C_fits_figure {P : Program} {w : World} {K : PySem.W.Frag} {mg : PySem.Str → Option Value} {base : Heap} {f : Addr} {fd : FuncData} (F : FunD K "fits_figure" "fits_figure" (defArgs (top 15)) (defBody (top 15)) (defScope (top 15)) [] [] f fd) (gF : mg "fits_figure" = some (.ref f)) (c_is_whole : Cal P w K mg base "is_whole" 1 3 S_is_whole) (c_is_tuple_of : Cal P w K mg base "is_tuple_of" 1 3 S_is_tuple_of) (c_fits_limb : Cal P w K mg base "fits_limb" 2 2 S_fits_limb) (m_all : mg "all" = none) (m_zip : mg "zip" = none) (k_FLOOR : ∃ t, mg "FLOOR" = some (.int 30 t)) (k_JOINTS : ∃ t, mg "JOINTS" = some (.int 8 t)) (k_LIMBS : ∃ t, mg "LIMBS" = some (.int 12 t)) (k_STRINGS : ∃ t, mg "STRINGS" = some (.int 6 t)) : Cal P w K mg base "fits_figure" 3 1 S_fits_figure :=
  ⟨f, fd, _, fn_dl F sc_fits_figure rfl (by decide) (fun cdv A outer s H E hr =>
    (db_cons (ds_if (dt_w (dw_or (dt_not (dt_val (de_call c_is_tuple_of (hr.mono (by decide)) (da_cons (de_var 0) (da_cons de_int (da_cons de_int da_nil)))))) (dw_or (dt_not (dt_val (de_call c_is_whole (hr.mono (by decide)) (da_cons (de_ix (de_var 0) de_int) (da_cons de_int (da_cons (de_gint k_JOINTS) da_nil)))))) (dw_or1 (dt_not (dt_val (de_call c_is_whole (hr.mono (by decide)) (da_cons (de_ix (de_var 0) de_int) (da_cons de_int (da_cons (de_gint k_FLOOR) da_nil)))))))))) (db_one (ds_ret de_bl)) db_nil)
    (db_cons (ds_asg (de_var 0) (dx_tup rfl (dxs_cons (dx_name (i := 1) sc_fits_figure.nd) (dxs_cons (dx_name (i := 2) sc_fits_figure.nd) (dxs_cons (dx_name (i := 3) sc_fits_figure.nd) (dxs_cons (dx_name (i := 4) sc_fits_figure.nd) dxs_nil))))))
    (db_cons (ds_if (dt_w (dw_or (dt_not (dt_val (de_call c_is_tuple_of (hr.mono (by decide)) (da_cons (de_var 2) (da_cons de_int (da_cons (de_gint k_LIMBS) da_nil)))))) (dw_or1 (dt_not (dt_val (de_callB (cr_all rfl) l_all m_all (by decide +kernel) (da_cons (de_lc [("limb", 8)] rfl sc_fits_figure.nd (di_seq (de_var 2)) (blkOk_by (by kernel_rfl)) (fun _ _ _ _ _ => (dg_name (i := 8) sc_fits_figure.nd)) (fun _ _ _ _ _ => dts_nil) (fun _ _ _ _ _ => (de_call c_fits_limb (hr.mono (by decide)) (da_cons (de_var 1) (da_cons (de_var 8) da_nil))))) da_nil))))))) (db_one (ds_ret de_bl)) db_nil)
    (db_cons (ds_if (dt_not (dt_val (de_callB (cr_all rfl) l_all m_all (by decide +kernel) (da_cons (de_lc [("one", 5), ("other", 6)] rfl sc_fits_figure.nd (di_zip m_zip (de_var 2) (de_sl (de_var 2) (do_some de_int) do_none)) (blkOk_by (by kernel_rfl)) (fun _ _ _ _ _ => (dg_tup rfl (dgs_cons (dg_name (i := 5) sc_fits_figure.nd) (dgs_cons (dg_name (i := 6) sc_fits_figure.nd) dgs_nil)))) (fun _ _ _ _ _ => dts_nil) (fun _ _ _ _ _ => (de_lt hr.units (de_sl (de_var 5) do_none (do_some de_int)) (de_sl (de_var 6) do_none (do_some de_int))))) da_nil)))) (db_one (ds_ret de_bl)) db_nil)
    (db_one (ds_ret (de_and (de_call c_is_tuple_of (hr.mono (by decide)) (da_cons (de_var 3) (da_cons de_int (da_cons (de_gint k_STRINGS) da_nil)))) (de_one (de_callB (cr_all rfl) l_all m_all (by decide +kernel) (da_cons (de_lc [("joint", 7)] rfl sc_fits_figure.nd (di_seq (de_var 3)) (blkOk_by (by kernel_rfl)) (fun _ _ _ _ _ => (dg_name (i := 7) sc_fits_figure.nd)) (fun _ _ _ _ _ => dts_nil) (fun _ _ _ _ _ => (de_call c_is_whole (hr.mono (by decide)) (da_cons (de_var 7) (da_cons de_int (da_cons (de_sub (de_var 1) de_int) da_nil)))))) da_nil))))))))))), gF, F.kp, F.bindsN (ps := ["value"]) fun _ _ _ _ _ _ us hl => match us, hl with | [_], _ => rfl⟩

def N_need_figure : List PySem.Str := ["figure"]
theorem sc_need_figure : FnScope N_need_figure ["figure"] (defScope (top 16)) := ⟨rfl, rfl, rfl, by decide +kernel, rfl, by decide +kernel, by decide +kernel⟩
theorem C_need_figure {P : Program} {w : World} {K : PySem.W.Frag} {mg : PySem.Str → Option Value} {base : Heap} {f : Addr} {fd : FuncData} (F : FunD K "need_figure" "need_figure" (defArgs (top 16)) (defBody (top 16)) (defScope (top 16)) [] [] f fd) (gF : mg "need_figure" = some (.ref f)) (c_fits_figure : Cal P w K mg base "fits_figure" 3 1 S_fits_figure) : Cal P w K mg base "need_figure" 4 1 S_need_figure :=
  ⟨f, fd, _, fn_dl F sc_need_figure rfl (by decide) (fun cdv A outer s H E hr =>
    (db_one (ds_if (dt_not (dt_val (de_call c_fits_figure (hr.mono (by decide)) (da_cons (de_var 0) da_nil)))) (db_one ds_never) db_nil))), gF, F.kp, F.bindsN (ps := ["figure"]) fun _ _ _ _ _ _ us hl => match us, hl with | [_], _ => rfl⟩

def N_fits_joint : List PySem.Str := ["figure", "value"]
theorem sc_fits_joint : FnScope N_fits_joint ["figure", "value"] (defScope (top 17)) := ⟨rfl, rfl, rfl, by decide +kernel, rfl, by decide +kernel, by decide +kernel⟩
theorem C_fits_joint {P : Program} {w : World} {K : PySem.W.Frag} {mg : PySem.Str → Option Value} {base : Heap} {f : Addr} {fd : FuncData} (F : FunD K "fits_joint" "fits_joint" (defArgs (top 17)) (defBody (top 17)) (defScope (top 17)) [] [] f fd) (gF : mg "fits_joint" = some (.ref f)) (c_is_whole : Cal P w K mg base "is_whole" 1 3 S_is_whole) : Cal P w K mg base "fits_joint" 2 2 S_fits_joint :=
  ⟨f, fd, _, fn_dl F sc_fits_joint rfl (by decide) (fun cdv A outer s H E hr =>
    (db_one (ds_ret (de_call c_is_whole (hr.mono (by decide)) (da_cons (de_var 1) (da_cons de_int (da_cons (de_sub (de_ix (de_var 0) de_int) de_int) da_nil))))))), gF, F.kp, F.bindsN (ps := ["figure", "value"]) fun _ _ _ _ _ _ us hl => match us, hl with | [_, _], _ => rfl⟩

def N_need_joint : List PySem.Str := ["figure", "joint"]
theorem sc_need_joint : FnScope N_need_joint ["figure", "joint"] (defScope (top 18)) := ⟨rfl, rfl, rfl, by decide +kernel, rfl, by decide +kernel, by decide +kernel⟩
theorem C_need_joint {P : Program} {w : World} {K : PySem.W.Frag} {mg : PySem.Str → Option Value} {base : Heap} {f : Addr} {fd : FuncData} (F : FunD K "need_joint" "need_joint" (defArgs (top 18)) (defBody (top 18)) (defScope (top 18)) [] [] f fd) (gF : mg "need_joint" = some (.ref f)) (c_fits_joint : Cal P w K mg base "fits_joint" 2 2 S_fits_joint) : Cal P w K mg base "need_joint" 3 2 S_need_joint :=
  ⟨f, fd, _, fn_dl F sc_need_joint rfl (by decide) (fun cdv A outer s H E hr =>
    (db_one (ds_if (dt_not (dt_val (de_call c_fits_joint (hr.mono (by decide)) (da_cons (de_var 0) (da_cons (de_var 1) da_nil))))) (db_one ds_never) db_nil))), gF, F.kp, F.bindsN (ps := ["figure", "joint"]) fun _ _ _ _ _ _ us hl => match us, hl with | [_, _], _ => rfl⟩

def N_fits_setting : List PySem.Str := ["figure", "value", "many", "one"]
theorem sc_fits_setting : FnScope N_fits_setting ["figure", "value"] (defScope (top 19)) := ⟨rfl, rfl, rfl, by decide +kernel, rfl, by decide +kernel, by decide +kernel⟩
theorem C_fits_setting {P : Program} {w : World} {K : PySem.W.Frag} {mg : PySem.Str → Option Value} {base : Heap} {f : Addr} {fd : FuncData} (F : FunD K "fits_setting" "fits_setting" (defArgs (top 19)) (defBody (top 19)) (defScope (top 19)) [] [] f fd) (gF : mg "fits_setting" = some (.ref f)) (c_is_whole : Cal P w K mg base "is_whole" 1 3 S_is_whole) (c_is_tuple_of : Cal P w K mg base "is_tuple_of" 1 3 S_is_tuple_of) (m_all : mg "all" = none) (m_len : mg "len" = none) : Cal P w K mg base "fits_setting" 2 2 S_fits_setting :=
  ⟨f, fd, _, fn_dl F sc_fits_setting rfl (by decide) (fun cdv A outer s H E hr =>
    (db_cons (ds_set (i := 2) sc_fits_setting.nd (dv_e (de_len m_len (dp_of (de_ix (de_var 0) de_int)))))
    (db_one (ds_ret (de_and (de_call c_is_tuple_of (hr.mono (by decide)) (da_cons (de_var 1) (da_cons (de_var 2) (da_cons (de_var 2) da_nil)))) (de_one (de_callB (cr_all rfl) l_all m_all (by decide +kernel) (da_cons (de_lc [("one", 3)] rfl sc_fits_setting.nd (di_seq (de_var 1)) (blkOk_by (by kernel_rfl)) (fun _ _ _ _ _ => (dg_name (i := 3) sc_fits_setting.nd)) (fun _ _ _ _ _ => dts_nil) (fun _ _ _ _ _ => (de_call c_is_whole (hr.mono (by decide)) (da_cons (de_var 3) (da_cons de_int (da_cons (de_ix (de_var 0) de_int) da_nil)))))) da_nil)))))))), gF, F.kp, F.bindsN (ps := ["figure", "value"]) fun _ _ _ _ _ _ us hl => match us, hl with | [_, _], _ => rfl⟩

def N_need_setting : List PySem.Str := ["figure", "setting"]
theorem sc_need_setting : FnScope N_need_setting ["figure", "setting"] (defScope (top 20)) := ⟨rfl, rfl, rfl, by decide +kernel, rfl, by decide +kernel, by decide +kernel⟩
theorem C_need_setting {P : Program} {w : World} {K : PySem.W.Frag} {mg : PySem.Str → Option Value} {base : Heap} {f : Addr} {fd : FuncData} (F : FunD K "need_setting" "need_setting" (defArgs (top 20)) (defBody (top 20)) (defScope (top 20)) [] [] f fd) (gF : mg "need_setting" = some (.ref f)) (c_fits_setting : Cal P w K mg base "fits_setting" 2 2 S_fits_setting) : Cal P w K mg base "need_setting" 3 2 S_need_setting :=
  ⟨f, fd, _, fn_dl F sc_need_setting rfl (by decide) (fun cdv A outer s H E hr =>
    (db_one (ds_if (dt_not (dt_val (de_call c_fits_setting (hr.mono (by decide)) (da_cons (de_var 0) (da_cons (de_var 1) da_nil))))) (db_one ds_never) db_nil))), gF, F.kp, F.bindsN (ps := ["figure", "setting"]) fun _ _ _ _ _ _ us hl => match us, hl with | [_, _], _ => rfl⟩

def N_need_set : List PySem.Str := ["figure", "setting"]
theorem sc_need_set : FnScope N_need_set ["figure", "setting"] (defScope (top 21)) := ⟨rfl, rfl, rfl, by decide +kernel, rfl, by decide +kernel, by decide +kernel⟩
theorem C_need_set {P : Program} {w : World} {K : PySem.W.Frag} {mg : PySem.Str → Option Value} {base : Heap} {f : Addr} {fd : FuncData} (F : FunD K "need_set" "need_set" (defArgs (top 21)) (defBody (top 21)) (defScope (top 21)) [] [] f fd) (gF : mg "need_set" = some (.ref f)) (c_need_figure : Cal P w K mg base "need_figure" 4 1 S_need_figure) (c_need_setting : Cal P w K mg base "need_setting" 3 2 S_need_setting) : Cal P w K mg base "need_set" 5 2 S_need_set :=
  ⟨f, fd, _, fn_dl F sc_need_set rfl (by decide) (fun cdv A outer s H E hr =>
    (db_cons (ds_expr (de_call c_need_figure (hr.mono (by decide)) (da_cons (de_var 0) da_nil)))
    (db_one (ds_expr (de_call c_need_setting (hr.mono (by decide)) (da_cons (de_var 0) (da_cons (de_var 1) da_nil))))))), gF, F.kp, F.bindsN (ps := ["figure", "setting"]) fun _ _ _ _ _ _ us hl => match us, hl with | [_, _], _ => rfl⟩

def N_table_of : List PySem.Str := ["figure", "many", "rows", "one", "other", "length", "by", "far"]
theorem sc_table_of : FnScope N_table_of ["figure"] (defScope (top 22)) := ⟨rfl, rfl, rfl, by decide +kernel, rfl, by decide +kernel, by decide +kernel⟩
theorem C_table_of {P : Program} {w : World} {K : PySem.W.Frag} {mg : PySem.Str → Option Value} {base : Heap} {f : Addr} {fd : FuncData} (F : FunD K "table_of" "table_of" (defArgs (top 22)) (defBody (top 22)) (defScope (top 22)) [] [] f fd) (gF : mg "table_of" = some (.ref f)) (m_min : mg "min" = none) (m_range : mg "range" = none) : Cal P w K mg base "table_of" 1 1 S_table_of :=
  ⟨f, fd, _, fn_dl F sc_table_of rfl (by decide) (fun cdv A outer s H E hr =>
    (db_cons (ds_set (i := 1) sc_table_of.nd (dv_e (de_ix (de_var 0) de_int)))
    (db_cons (ds_setLcN2 (i := 2) (own' := [("one", 3)]) rfl sc_table_of.nd (di_range1 m_range (de_var 1)) (blkOk_by (by kernel_rfl)) (fun _ _ _ _ _ => (dg_name (i := 3) sc_table_of.nd)) (fun _ _ _ _ _ => dts_nil) (fun _ _ _ _ _ => (dn_lc [("other", 4)] rfl sc_table_of.nd (di_range1 m_range (de_var 1)) (blkOk_by (by kernel_rfl)) (fun _ _ _ _ _ => (dg_name (i := 4) sc_table_of.nd)) (fun _ _ _ _ _ => dts_nil) (fun _ _ _ _ _ => (de_if (dt_eq hr.units (de_var 3) (de_var 4)) de_int de_non)))) (sw_true rfl rfl rfl (by decide +kernel)))
    (db_cons (ds_for PassesOwn.never rfl (di_seq (de_ix (de_var 0) de_int)) (dx_tup rfl (dxs_cons (dx_name (i := 3) sc_table_of.nd) (dxs_cons (dx_name (i := 4) sc_table_of.nd) (dxs_cons (dx_name (i := 5) sc_table_of.nd) dxs_nil)))) (db_one (ds_asg2 (de_var 5) (dx_ix2 2 (de_var 3) (de_var 4)) (dx_ix2 2 (de_var 4) (de_var 3)))))
    (db_cons (ds_for PassesOwn.never rfl (di_range1 m_range (de_var 1)) (dx_name (i := 6) sc_table_of.nd) (db_one (ds_for PassesOwn.never rfl (di_range1 m_range (de_var 1)) (dx_name (i := 3) sc_table_of.nd) (db_one (ds_for PassesOwn.never rfl (di_range1 m_range (de_var 1)) (dx_name (i := 4) sc_table_of.nd) (db_one (ds_if (dt_w (dw_and (dt_notN (de_solid (dp_ix (dp_ix (dp_var 2) (dp_of (de_var 3))) (dp_of (de_var 6))))) (dw_and1 (dt_notN (de_solid (dp_ix (dp_ix (dp_var 2) (dp_of (de_var 6))) (dp_of (de_var 4)))))))) (db_cons (ds_set (i := 7) sc_table_of.nd (dv_e (de_add (de_solid (dp_ix (dp_ix (dp_var 2) (dp_of (de_var 3))) (dp_of (de_var 6)))) (de_solid (dp_ix (dp_ix (dp_var 2) (dp_of (de_var 6))) (dp_of (de_var 4)))))))
    (db_one (ds_asg (de_if (dt_isN (de_solid (dp_ix (dp_ix (dp_var 2) (dp_of (de_var 3))) (dp_of (de_var 4))))) (de_var 7) (de_callB (call_min2 rfl) l_min2 m_min boot_min (da_cons (de_var 7) (da_cons (de_solid (dp_ix (dp_ix (dp_var 2) (dp_of (de_var 3))) (dp_of (de_var 4)))) da_nil)))) (dx_ix2 2 (de_var 3) (de_var 4))))) db_nil)))))))
    (db_one (ds_ret (de_var 2)))))))), gF, F.kp, F.bindsN (ps := ["figure"]) fun _ _ _ _ _ _ us hl => match us, hl with | [_], _ => rfl⟩

def N_pose_by : List PySem.Str := ["figure", "setting", "rows", "found", "joint", "some", "tie", "length"]
theorem sc_pose_by : FnScope N_pose_by ["figure", "setting", "rows"] (defScope (top 24)) := ⟨rfl, rfl, rfl, by decide +kernel, rfl, by decide +kernel, by decide +kernel⟩
theorem C_pose_by {P : Program} {w : World} {K : PySem.W.Frag} {mg : PySem.Str → Option Value} {base : Heap} {f : Addr} {fd : FuncData} (F : FunD K "pose_by" "pose_by" (defArgs (top 24)) (defBody (top 24)) (defScope (top 24)) [] [] f fd) (gF : mg "pose_by" = some (.ref f)) (m_min : mg "min" = none) (m_range : mg "range" = none) (m_tuple : mg "tuple" = none) (m_zip : mg "zip" = none) : Cal P w K mg base "pose_by" 1 3 S_pose_by :=
  ⟨f, fd, _, fn_dl F sc_pose_by rfl (by decide) (fun cdv A outer s H E hr =>
    (db_cons (ds_set (i := 3) sc_pose_by.nd (dv_n (dn_lst da_nil)))
    (db_cons (ds_for PassesOwn.never rfl (di_range1 m_range (de_ix (de_var 0) de_int)) (dx_name (i := 4) sc_pose_by.nd) (db_cons (ds_setLc (i := 5) (own' := [("tie", 6), ("length", 7)]) rfl sc_pose_by.nd (di_zip m_zip (de_ix (de_var 0) de_int) (de_var 1)) (blkOk_by (by kernel_rfl)) (fun _ _ _ _ _ => (dg_tup rfl (dgs_cons (dg_name (i := 6) sc_pose_by.nd) (dgs_cons (dg_name (i := 7) sc_pose_by.nd) dgs_nil)))) (fun _ _ _ _ _ => (dts_one (dt_notN (de_ix (de_ix (de_var 2) (de_var 6)) (de_var 4))))) (fun _ _ _ _ _ => (de_add (de_var 7) (de_ix (de_ix (de_var 2) (de_var 6)) (de_var 4)))) (sw_true rfl rfl rfl (by decide +kernel)))
    (db_one (ds_app 3 (de_callB (cr_min rfl) l_minL m_min boot_min (da_cons (de_add (de_var 5) (de_lst (da_cons (de_ix (de_var 0) de_int) da_nil))) da_nil))))))
    (db_one (ds_ret (de_callTy call_tuple_of l_tuple m_tuple boot_tuple (da_cons (de_var 3) da_nil))))))), gF, F.kp, F.bindsN (ps := ["figure", "setting", "rows"]) fun _ _ _ _ _ _ us hl => match us, hl with | [_, _, _], _ => rfl⟩

def N_pose_in : List PySem.Str := ["figure", "setting"]
theorem sc_pose_in : FnScope N_pose_in ["figure", "setting"] (defScope (top 25)) := ⟨rfl, rfl, rfl, by decide +kernel, rfl, by decide +kernel, by decide +kernel⟩
theorem C_pose_in {P : Program} {w : World} {K : PySem.W.Frag} {mg : PySem.Str → Option Value} {base : Heap} {f : Addr} {fd : FuncData} (F : FunD K "pose_in" "pose_in" (defArgs (top 25)) (defBody (top 25)) (defScope (top 25)) [] [] f fd) (gF : mg "pose_in" = some (.ref f)) (c_table_of : Cal P w K mg base "table_of" 1 1 S_table_of) (c_pose_by : Cal P w K mg base "pose_by" 1 3 S_pose_by) : Cal P w K mg base "pose_in" 2 2 S_pose_in :=
  ⟨f, fd, _, fn_dl F sc_pose_in rfl (by decide) (fun cdv A outer s H E hr =>
    (db_one (ds_ret (de_call c_pose_by (hr.mono (by decide)) (da_cons (de_var 0) (da_cons (de_var 1) (da_cons (de_call c_table_of (hr.mono (by decide)) (da_cons (de_var 0) da_nil)) da_nil))))))), gF, F.kp, F.bindsN (ps := ["figure", "setting"]) fun _ _ _ _ _ _ us hl => match us, hl with | [_, _], _ => rfl⟩

def N_pose : List PySem.Str := ["figure", "setting"]
theorem sc_pose : FnScope N_pose ["figure", "setting"] (defScope (top 26)) := ⟨rfl, rfl, rfl, by decide +kernel, rfl, by decide +kernel, by decide +kernel⟩
theorem C_pose {P : Program} {w : World} {K : PySem.W.Frag} {mg : PySem.Str → Option Value} {base : Heap} {f : Addr} {fd : FuncData} (F : FunD K "pose" "pose" (defArgs (top 26)) (defBody (top 26)) (defScope (top 26)) [] [] f fd) (gF : mg "pose" = some (.ref f)) (c_need_set : Cal P w K mg base "need_set" 5 2 S_need_set) (c_pose_in : Cal P w K mg base "pose_in" 2 2 S_pose_in) : Cal P w K mg base "pose" 6 2 S_pose :=
  ⟨f, fd, _, fn_dl F sc_pose rfl (by decide) (fun cdv A outer s H E hr =>
    (db_cons (ds_expr (de_call c_need_set (hr.mono (by decide)) (da_cons (de_var 0) (da_cons (de_var 1) da_nil))))
    (db_one (ds_ret (de_call c_pose_in (hr.mono (by decide)) (da_cons (de_var 0) (da_cons (de_var 1) da_nil))))))), gF, F.kp, F.bindsN (ps := ["figure", "setting"]) fun _ _ _ _ _ _ us hl => match us, hl with | [_, _], _ => rfl⟩

def N_limbs_of : List PySem.Str := ["pairs", "found", "one", "other", "length", "pair"]
theorem sc_limbs_of : FnScope N_limbs_of ["pairs"] (defScope (top 28)) := ⟨rfl, rfl, rfl, by decide +kernel, rfl, by decide +kernel, by decide +kernel⟩
theorem C_limbs_of {P : Program} {w : World} {K : PySem.W.Frag} {mg : PySem.Str → Option Value} {base : Heap} {f : Addr} {fd : FuncData} (F : FunD K "limbs_of" "limbs_of" (defArgs (top 28)) (defBody (top 28)) (defScope (top 28)) [] [] f fd) (gF : mg "limbs_of" = some (.ref f)) (m_max : mg "max" = none) (m_min : mg "min" = none) (m_sorted : mg "sorted" = none) (m_tuple : mg "tuple" = none) : Cal P w K mg base "limbs_of" 1 1 S_limbs_of :=
  ⟨f, fd, _, fn_dl F sc_limbs_of rfl (by decide) (fun cdv A outer s H E hr =>
    (db_cons (ds_set (i := 1) sc_limbs_of.nd (dv_n dn_newT))
    (db_cons (ds_for PassesOwn.never rfl (di_seq (de_var 0)) (dx_tup rfl (dxs_cons (dx_name (i := 2) sc_limbs_of.nd) (dxs_cons (dx_name (i := 3) sc_limbs_of.nd) (dxs_cons (dx_name (i := 4) sc_limbs_of.nd) dxs_nil)))) (db_cons (ds_set (i := 5) sc_limbs_of.nd (dv_e (de_tup (da_cons (de_callB (call_min2 rfl) l_min2 m_min boot_min (da_cons (de_var 2) (da_cons (de_var 3) da_nil))) (da_cons (de_callB (call_max2 rfl) l_max2 m_max boot_max (da_cons (de_var 2) (da_cons (de_var 3) da_nil))) da_nil)))))
    (db_one (ds_if (dt_ne hr.units (de_var 2) (de_var 3)) (db_one (ds_put 1 hr.units (de_var 5) (de_callB (call_min2 rfl) l_min2 m_min boot_min (da_cons (de_var 4) (da_cons (de_solid (dp_get2 hr.units (dp_var 1) (de_var 5) (de_var 4))) da_nil))))) db_nil))))
    (db_one (ds_ret (de_callTy call_tuple_of l_tuple m_tuple boot_tuple (da_cons (de_lc [("pair", 5)] rfl sc_limbs_of.nd (di_seq (de_sortedD hr.units m_sorted (dp_var 1))) (blkOk_by (by kernel_rfl)) (fun _ _ _ _ _ => (dg_name (i := 5) sc_limbs_of.nd)) (fun _ _ _ _ _ => dts_nil) (fun _ _ _ _ _ => (de_add (de_var 5) (de_tup (da_cons (de_solid (dp_ixD hr.units (dp_var 1) (de_var 5))) da_nil))))) da_nil))))))), gF, F.kp, F.bindsN (ps := ["pairs"]) fun _ _ _ _ _ _ us hl => match us, hl with | [_], _ => rfl⟩

def N_bound : List PySem.Str := ["figure", "one", "other", "last", "rows", "joint", "limbs", "begin", "end", "length", "tie"]
theorem sc_bound : FnScope N_bound ["figure", "one", "other"] (defScope (top 29)) := ⟨rfl, rfl, rfl, by decide +kernel, rfl, by decide +kernel, by decide +kernel⟩
theorem C_bound {P : Program} {w : World} {K : PySem.W.Frag} {mg : PySem.Str → Option Value} {base : Heap} {f : Addr} {fd : FuncData} (F : FunD K "bound" "bound" (defArgs (top 29)) (defBody (top 29)) (defScope (top 29)) [] [] f fd) (gF : mg "bound" = some (.ref f)) (c_need_figure : Cal P w K mg base "need_figure" 4 1 S_need_figure) (c_need_joint : Cal P w K mg base "need_joint" 3 2 S_need_joint) (c_limbs_of : Cal P w K mg base "limbs_of" 1 1 S_limbs_of) (m_max : mg "max" = none) (m_min : mg "min" = none) (m_range : mg "range" = none) (m_tuple : mg "tuple" = none) : Cal P w K mg base "bound" 5 3 S_bound :=
  ⟨f, fd, _, fn_dl F sc_bound rfl (by decide) (fun cdv A outer s H E hr =>
    (db_cons (ds_expr (de_call c_need_figure (hr.mono (by decide)) (da_cons (de_var 0) da_nil)))
    (db_cons (ds_expr (de_call c_need_joint (hr.mono (by decide)) (da_cons (de_var 0) (da_cons (de_var 1) da_nil))))
    (db_cons (ds_expr (de_call c_need_joint (hr.mono (by decide)) (da_cons (de_var 0) (da_cons (de_var 2) da_nil))))
    (db_cons (ds_if (dt_eq hr.units (de_var 1) (de_var 2)) (db_one ds_never) db_nil)
    (db_cons (ds_parT (i := 3) (j := 4) rfl sc_bound.nd (dv_e (de_callB (call_max2 rfl) l_max2 m_max boot_max (da_cons (de_var 1) (da_cons (de_var 2) da_nil)))) (dv_n (dn_lst da_nil)))
    (db_cons (ds_for PassesOwn.never rfl (di_range1 m_range (de_ix (de_var 0) de_int)) (dx_name (i := 5) sc_bound.nd) (db_one (ds_app 4 (de_if (dt_eq hr.units (de_var 5) (de_var 3)) (de_callB (call_min2 rfl) l_min2 m_min boot_min (da_cons (de_var 1) (da_cons (de_var 2) da_nil))) (de_sub (de_var 5) (de_if (dt_gt (de_var 5) (de_var 3)) de_int de_int))))))
    (db_cons (ds_set (i := 6) sc_bound.nd (dv_e (de_call c_limbs_of (hr.mono (by decide)) (da_cons (de_lc [("begin", 7), ("end", 8), ("length", 9)] rfl sc_bound.nd (di_seq (de_ix (de_var 0) de_int)) (blkOk_by (by kernel_rfl)) (fun _ _ _ _ _ => (dg_tup rfl (dgs_cons (dg_name (i := 7) sc_bound.nd) (dgs_cons (dg_name (i := 8) sc_bound.nd) (dgs_cons (dg_name (i := 9) sc_bound.nd) dgs_nil))))) (fun _ _ _ _ _ => dts_nil) (fun _ _ _ _ _ => (de_tup (da_cons (de_solid (dp_ix (dp_var 4) (dp_of (de_var 7)))) (da_cons (de_solid (dp_ix (dp_var 4) (dp_of (de_var 8)))) (da_cons (de_var 9) da_nil)))))) da_nil))))
    (db_one (ds_ret (de_tup (da_cons (de_sub (de_ix (de_var 0) de_int) de_int) (da_cons (de_var 6) (da_cons (de_callTy call_tuple_of l_tuple m_tuple boot_tuple (da_cons (de_lc [("tie", 10)] rfl sc_bound.nd (di_seq (de_ix (de_var 0) de_int)) (blkOk_by (by kernel_rfl)) (fun _ _ _ _ _ => (dg_name (i := 10) sc_bound.nd)) (fun _ _ _ _ _ => dts_nil) (fun _ _ _ _ _ => (de_solid (dp_ix (dp_var 4) (dp_of (de_var 10)))))) da_nil)) (da_cons (de_ix (de_var 0) de_int) da_nil))))))))))))))), gF, F.kp, F.bindsN (ps := ["figure", "one", "other"]) fun _ _ _ _ _ _ us hl => match us, hl with | [_, _, _], _ => rfl⟩

def N_with_limb : List PySem.Str := ["figure", "one", "other", "length", "found"]
theorem sc_with_limb : FnScope N_with_limb ["figure", "one", "other", "length"] (defScope (top 30)) := ⟨rfl, rfl, rfl, by decide +kernel, rfl, by decide +kernel, by decide +kernel⟩
theorem C_with_limb {P : Program} {w : World} {K : PySem.W.Frag} {mg : PySem.Str → Option Value} {base : Heap} {f : Addr} {fd : FuncData} (F : FunD K "with_limb" "with_limb" (defArgs (top 30)) (defBody (top 30)) (defScope (top 30)) [] [] f fd) (gF : mg "with_limb" = some (.ref f)) (c_is_whole : Cal P w K mg base "is_whole" 1 3 S_is_whole) (c_fits_figure : Cal P w K mg base "fits_figure" 3 1 S_fits_figure) (c_need_figure : Cal P w K mg base "need_figure" 4 1 S_need_figure) (c_need_joint : Cal P w K mg base "need_joint" 3 2 S_need_joint) (c_limbs_of : Cal P w K mg base "limbs_of" 1 1 S_limbs_of) (m_list : mg "list" = none) (k_LENGTH : ∃ t, mg "LENGTH" = some (.int 9 t)) : Cal P w K mg base "with_limb" 5 4 S_with_limb :=
  ⟨f, fd, _, fn_dl F sc_with_limb rfl (by decide) (fun cdv A outer s H E hr =>
    (db_cons (ds_expr (de_call c_need_figure (hr.mono (by decide)) (da_cons (de_var 0) da_nil)))
    (db_cons (ds_expr (de_call c_need_joint (hr.mono (by decide)) (da_cons (de_var 0) (da_cons (de_var 1) da_nil))))
    (db_cons (ds_expr (de_call c_need_joint (hr.mono (by decide)) (da_cons (de_var 0) (da_cons (de_var 2) da_nil))))
    (db_cons (ds_if (dt_eq hr.units (de_var 1) (de_var 2)) (db_one ds_never) db_nil)
    (db_cons (ds_if (dt_not (dt_val (de_call c_is_whole (hr.mono (by decide)) (da_cons (de_var 3) (da_cons de_int (da_cons (de_gint k_LENGTH) da_nil)))))) (db_one ds_never) db_nil)
    (db_cons (ds_set (i := 4) sc_with_limb.nd (dv_e (de_add (de_tup (da_cons (de_ix (de_var 0) de_int) (da_cons (de_call c_limbs_of (hr.mono (by decide)) (da_cons (de_add (de_callTy call_list_of l_list m_list boot_list (da_cons (de_ix (de_var 0) de_int) da_nil)) (de_lst (da_cons (de_tup (da_cons (de_var 1) (da_cons (de_var 2) (da_cons (de_var 3) da_nil)))) da_nil))) da_nil)) da_nil))) (de_sl (de_var 0) (do_some de_int) do_none))))
    (db_cons (ds_if (dt_not (dt_val (de_call c_fits_figure (hr.mono (by decide)) (da_cons (de_var 4) da_nil)))) (db_one ds_never) db_nil)
    (db_one (ds_ret (de_var 4))))))))))), gF, F.kp, F.bindsN (ps := ["figure", "one", "other", "length"]) fun _ _ _ _ _ _ us hl => match us, hl with | [_, _, _, _], _ => rfl⟩

def N_with_string : List PySem.Str := ["figure", "joint", "found"]
theorem sc_with_string : FnScope N_with_string ["figure", "joint"] (defScope (top 31)) := ⟨rfl, rfl, rfl, by decide +kernel, rfl, by decide +kernel, by decide +kernel⟩
theorem C_with_string {P : Program} {w : World} {K : PySem.W.Frag} {mg : PySem.Str → Option Value} {base : Heap} {f : Addr} {fd : FuncData} (F : FunD K "with_string" "with_string" (defArgs (top 31)) (defBody (top 31)) (defScope (top 31)) [] [] f fd) (gF : mg "with_string" = some (.ref f)) (c_fits_figure : Cal P w K mg base "fits_figure" 3 1 S_fits_figure) (c_need_figure : Cal P w K mg base "need_figure" 4 1 S_need_figure) (c_need_joint : Cal P w K mg base "need_joint" 3 2 S_need_joint) : Cal P w K mg base "with_string" 5 2 S_with_string :=
  ⟨f, fd, _, fn_dl F sc_with_string rfl (by decide) (fun cdv A outer s H E hr =>
    (db_cons (ds_expr (de_call c_need_figure (hr.mono (by decide)) (da_cons (de_var 0) da_nil)))
    (db_cons (ds_expr (de_call c_need_joint (hr.mono (by decide)) (da_cons (de_var 0) (da_cons (de_var 1) da_nil))))
    (db_cons (ds_set (i := 2) sc_with_string.nd (dv_e (de_add (de_sl (de_var 0) do_none (do_some de_int)) (de_tup (da_cons (de_add (de_ix (de_var 0) de_int) (de_tup (da_cons (de_var 1) da_nil))) (da_cons (de_ix (de_var 0) de_int) da_nil))))))
    (db_cons (ds_if (dt_not (dt_val (de_call c_fits_figure (hr.mono (by decide)) (da_cons (de_var 2) da_nil)))) (db_one ds_never) db_nil)
    (db_one (ds_ret (de_var 2)))))))), gF, F.kp, F.bindsN (ps := ["figure", "joint"]) fun _ _ _ _ _ _ us hl => match us, hl with | [_, _], _ => rfl⟩

def N_law_cup : List PySem.Str := ["script", "cell"]
theorem sc_law_cup : FnScope N_law_cup ["script"] (defScope (top 33)) := ⟨rfl, rfl, rfl, by decide +kernel, rfl, by decide +kernel, by decide +kernel⟩
theorem C_law_cup {P : Program} {w : World} {K : PySem.W.Frag} {mg : PySem.Str → Option Value} {base : Heap} {f : Addr} {fd : FuncData} (F : FunD K "_law_cup" "_law_cup" (defArgs (top 33)) (defBody (top 33)) (defScope (top 33)) [] [] f fd) (gF : mg "_law_cup" = some (.ref f)) (m_abs : mg "abs" = none) (m_int : mg "int" = none) (m_list : mg "list" = none) : Cal P w K mg base "_law_cup" 1 1 S_law_cup :=
  ⟨f, fd, _, fn_dl F sc_law_cup rfl (by decide) (fun cdv A outer s H E hr =>
    (db_cons (ds_set (i := 1) sc_law_cup.nd (dv_e (de_callB call_abs l_abs m_abs boot_abs (da_cons (de_ix (de_add (de_callTy call_list_of l_list m_list boot_list (da_cons (de_var 0) da_nil)) (de_lst (da_cons de_int da_nil))) de_int) da_nil))))
    (db_one (ds_share (dn_lst (da_cons (de_if (dt_ge (de_var 1) (de_pow de_int de_int)) (de_fdiv (de_var 1) de_int) de_int) (da_cons (de_add (de_mod (de_callTy call_int1 l_int m_int boot_int (da_cons (de_add (de_mul (de_var 1) de_int) de_int) da_nil)) de_int) de_int) da_nil))))))), gF, F.kp, F.bindsN (ps := ["script"]) fun _ _ _ _ _ _ us hl => match us, hl with | [_], _ => rfl⟩

def N_law_roll : List PySem.Str := ["cup", "many", "found", "deep"]
theorem sc_law_roll : FnScope N_law_roll ["cup", "many"] (defScope (top 34)) := ⟨rfl, rfl, rfl, by decide +kernel, rfl, by decide +kernel, by decide +kernel⟩
theorem C_law_roll {P : Program} {w : World} {K : PySem.W.Frag} {mg : PySem.Str → Option Value} {base : Heap} {f : Addr} {fd : FuncData} (F : FunD K "_law_roll" "_law_roll" (defArgs (top 34)) (defBody (top 34)) (defScope (top 34)) [] [] f fd) (gF : mg "_law_roll" = some (.ref f)) (m_int : mg "int" = none) : Cal P w K mg base "_law_roll" 1 2 S_law_roll :=
  ⟨f, fd, _, fn_dl F sc_law_roll rfl (by decide) (fun cdv A outer s H E hr =>
    (db_cons (ds_if (dt_gt (de_ixh 0 de_int) de_int) (db_cons (ds_set (i := 2) sc_law_roll.nd (dv_e (de_mod (de_callTy call_int1 l_int m_int boot_int (da_cons (de_ixh 0 de_int) da_nil)) (de_var 1))))
    (db_cons (ds_asg (de_fdiv (de_ixh 0 de_int) (de_var 1)) (dx_ix 0 de_int))
    (db_one (ds_ret (de_var 2))))) db_nil)
    (db_cons (ds_asg (de_mod (de_callTy call_int1 l_int m_int boot_int (da_cons (de_add (de_mul (de_ixh 0 de_int) de_int) de_int) da_nil)) de_int) (dx_ix 0 de_int))
    (db_cons (ds_set (i := 3) sc_law_roll.nd (dv_e (de_mod (de_callTy call_int1 l_int m_int boot_int (da_cons (de_mul (de_ixh 0 de_int) (de_add (de_ixh 0 de_int) de_int)) da_nil)) de_int)))
    (db_one (ds_ret (de_mod (de_callTy call_int1 l_int m_int boot_int (da_cons (de_fdiv (de_var 3) de_int) da_nil)) (de_var 1)))))))), gF, F.kp, F.bindsN (ps := ["cup", "many"]) fun _ _ _ _ _ _ us hl => match us, hl with | [_, _], _ => rfl⟩

def N_law_some : List PySem.Str := ["cup", "things"]
theorem sc_law_some : FnScope N_law_some ["cup", "things"] (defScope (top 35)) := ⟨rfl, rfl, rfl, by decide +kernel, rfl, by decide +kernel, by decide +kernel⟩
theorem C_law_some {P : Program} {w : World} {K : PySem.W.Frag} {mg : PySem.Str → Option Value} {base : Heap} {f : Addr} {fd : FuncData} (F : FunD K "_law_some" "_law_some" (defArgs (top 35)) (defBody (top 35)) (defScope (top 35)) [] [] f fd) (gF : mg "_law_some" = some (.ref f)) (c_law_roll : Cal P w K mg base "_law_roll" 1 2 S_law_roll) (m_len : mg "len" = none) : Cal P w K mg base "_law_some" 2 2 S_law_some :=
  ⟨f, fd, _, fn_dl F sc_law_some rfl (by decide) (fun cdv A outer s H E hr =>
    (db_one (ds_ret (de_ix (de_var 1) (de_call c_law_roll (hr.mono (by decide)) (da_cons (de_var 0) (da_cons (de_len m_len (dp_var 1)) da_nil))))))), gF, F.kp, F.bindsN (ps := ["cup", "things"]) fun _ _ _ _ _ _ us hl => match us, hl with | [_, _], _ => rfl⟩

def N_law_same : List PySem.Str := ["told", "due", "at"]
theorem sc_law_same : FnScope N_law_same ["told", "due"] (defScope (top 36)) := ⟨rfl, rfl, rfl, by decide +kernel, rfl, by decide +kernel, by decide +kernel⟩
theorem C_law_same {P : Program} {w : World} {K : PySem.W.Frag} {mg : PySem.Str → Option Value} {base : Heap} {f : Addr} {fd : FuncData} (F : FunD K "_law_same" "_law_same" (defArgs (top 36)) (defBody (top 36)) (defScope (top 36)) [] [] f fd) (gF : mg "_law_same" = some (.ref f)) (m_all : mg "all" = none) (m_bool : mg "bool" = none) (m_int : mg "int" = none) (m_isinstance : mg "isinstance" = none) (m_len : mg "len" = none) (m_range : mg "range" = none) (m_str : mg "str" = none) (m_tuple : mg "tuple" = none) : ∀ j : Nat, Cal P w K mg base "_law_same" (1 + j) 2 (S_law_same j)
  | 0 => ⟨f, fd, ["told", "due"], ⟨fun vs H Q E h => (by obtain ⟨O, ds, G, d, G', g, r, l, _⟩ := h; rw [r.length, l]; rfl), fun A outer s H args us vs Q E hr he hb hv hs => (by obtain ⟨O, ds, G, d, G', g, r, l, e, _⟩ := hs; cases e)⟩, gF, F.kp, F.bindsN (ps := ["told", "due"]) fun _ _ _ _ _ _ us hl => match us, hl with | [_, _], _ => rfl⟩
  | j + 1 => by
    have ih := C_law_same (P := P) (w := w) (base := base) F gF m_all m_bool m_int m_isinstance m_len m_range m_str m_tuple j
    exact ⟨f, fd, _, fn_dl F sc_law_same rfl (by decide) (fun cdv A outer s H E hr =>
    (db_cons (ds_if (dt_val (de_isi .tuple m_isinstance m_tuple (de_var 1))) (db_cons (ds_if (dt_w (dw_or (dt_not (dt_val (de_isi .tuple m_isinstance m_tuple (de_var 0)))) (dw_or1 (dt_ne hr.units (de_len m_len (dp_var 0)) (de_len m_len (dp_var 1)))))) (db_one (ds_ret de_bl)) db_nil)
    (db_one (ds_ret (de_callB (cr_all rfl) l_all m_all (by decide +kernel) (da_cons (de_lc [("at", 2)] rfl sc_law_same.nd (di_range1 m_range (de_len m_len (dp_var 1))) (blkOk_by (by kernel_rfl)) (fun _ _ _ _ _ => (dg_name (i := 2) sc_law_same.nd)) (fun _ _ _ _ _ => dts_nil) (fun _ _ _ _ _ => (de_call ih hr (da_cons (de_ix (de_var 0) (de_var 2)) (da_cons (de_ix (de_var 1) (de_var 2)) da_nil))))) da_nil))))) db_nil)
    (db_cons (ds_if (dt_isN (de_var 1)) (db_one (ds_ret (de_isN (de_var 0)))) db_nil)
    (db_cons (ds_if (dt_val (de_isi .bool m_isinstance m_bool (de_var 1))) (db_one (ds_ret (de_if (dt_val (de_var 1)) (de_is (de_var 0) de_bl) (de_is (de_var 0) de_bl)))) db_nil)
    (db_cons (ds_if (dt_val (de_isi .int m_isinstance m_int (de_var 1))) (db_one (ds_ret (de_and (de_isi .int m_isinstance m_int (de_var 0)) (de_and (de_not (de_isi .bool m_isinstance m_bool (de_var 0))) (de_one (de_eq hr.units (de_callTy call_int1 l_int m_int boot_int (da_cons (de_var 0) da_nil)) (de_var 1))))))) db_nil)
    (db_one (ds_ret (de_and (de_isi .str m_isinstance m_str (de_var 0)) (de_one (de_eq hr.units (de_callTy call_str_int l_str m_str boot_str (da_cons (de_var 0) da_nil)) (de_var 1))))))))))), gF, F.kp, F.bindsN (ps := ["told", "due"]) fun _ _ _ _ _ _ us hl => match us, hl with | [_, _], _ => rfl⟩

def N_law_figure : List PySem.Str := ["cup", "most", "strings", "joints", "known", "joint", "turn", "one", "other", "limbs", "ties", "pair"]
theorem sc_law_figure : FnScope N_law_figure ["cup", "most", "strings"] (defScope (top 37)) := ⟨rfl, rfl, rfl, by decide +kernel, rfl, by decide +kernel, by decide +kernel⟩
theorem C_law_figure {P : Program} {w : World} {K : PySem.W.Frag} {mg : PySem.Str → Option Value} {base : Heap} {f : Addr} {fd : FuncData} (F : FunD K "_law_figure" "_law_figure" (defArgs (top 37)) (defBody (top 37)) (defScope (top 37)) [] [] f fd) (gF : mg "_law_figure" = some (.ref f)) (c_law_roll : Cal P w K mg base "_law_roll" 1 2 S_law_roll) (c_law_some : Cal P w K mg base "_law_some" 2 2 S_law_some) (m_len : mg "len" = none) (m_range : mg "range" = none) (m_sorted : mg "sorted" = none) (m_tuple : mg "tuple" = none) : Cal P w K mg base "_law_figure" 3 3 S_law_figure :=
  ⟨f, fd, _, fn_dl F sc_law_figure rfl (by decide) (fun cdv A outer s H E hr =>
    (db_cons (ds_set (i := 3) sc_law_figure.nd (dv_e (de_add de_int (de_call c_law_roll (hr.mono (by decide)) (da_cons (de_var 0) (da_cons (de_var 1) da_nil))))))
    (db_cons (ds_set (i := 4) sc_law_figure.nd (dv_n dn_newT))
    (db_cons (ds_for PassesOwn.never rfl (di_range2 m_range de_int (de_var 3)) (dx_name (i := 5) sc_law_figure.nd) (db_one (ds_if (dt_gt (de_call c_law_roll (hr.mono (by decide)) (da_cons (de_var 0) (da_cons de_int da_nil))) de_int) (db_one (ds_put 4 hr.units (de_tup (da_cons (de_call c_law_roll (hr.mono (by decide)) (da_cons (de_var 0) (da_cons (de_var 5) da_nil))) (da_cons (de_var 5) da_nil))) (de_add de_int (de_call c_law_roll (hr.mono (by decide)) (da_cons (de_var 0) (da_cons (de_call c_law_some (hr.mono (by decide)) (da_cons (de_var 0) (da_cons (de_lst (da_cons de_int (da_cons de_int da_nil))) da_nil))) da_nil)))))) db_nil)))
    (db_cons (ds_for PassesOwn.never rfl (di_range1 m_range (de_if (dt_gt (de_var 3) de_int) (de_call c_law_roll (hr.mono (by decide)) (da_cons (de_var 0) (da_cons de_int da_nil))) de_int)) (dx_name (i := 6) sc_law_figure.nd) (db_cons (ds_par (i := 7) (j := 8) rfl sc_law_figure.nd (dv_e (de_call c_law_roll (hr.mono (by decide)) (da_cons (de_var 0) (da_cons (de_var 3) da_nil)))) (dv_e (de_call c_law_roll (hr.mono (by decide)) (da_cons (de_var 0) (da_cons (de_var 3) da_nil)))) (by decide) (by rfl))
    (db_one (ds_if (dt_w (dw_and (dt_lt hr.units (de_var 7) (de_var 8)) (dw_and1 (dt_lt hr.units (de_len m_len (dp_var 4)) de_int)))) (db_one (ds_put 4 hr.units (de_tup (da_cons (de_var 7) (da_cons (de_var 8) da_nil))) (de_add de_int (de_call c_law_roll (hr.mono (by decide)) (da_cons (de_var 0) (da_cons de_int da_nil)))))) db_nil))))
    (db_cons (ds_set (i := 9) sc_law_figure.nd (dv_e (de_callTy call_tuple_of l_tuple m_tuple boot_tuple (da_cons (de_lc [("pair", 11)] rfl sc_law_figure.nd (di_seq (de_sortedD hr.units m_sorted (dp_var 4))) (blkOk_by (by kernel_rfl)) (fun _ _ _ _ _ => (dg_name (i := 11) sc_law_figure.nd)) (fun _ _ _ _ _ => dts_nil) (fun _ _ _ _ _ => (de_add (de_var 11) (de_tup (da_cons (de_solid (dp_ixD hr.units (dp_var 4) (de_var 11))) da_nil))))) da_nil))))
    (db_cons (ds_set (i := 10) sc_law_figure.nd (dv_e (de_callTy call_tuple_of l_tuple m_tuple boot_tuple (da_cons (de_lc [("turn", 6)] rfl sc_law_figure.nd (di_range1 m_range (de_add de_int (de_call c_law_roll (hr.mono (by decide)) (da_cons (de_var 0) (da_cons (de_var 2) da_nil))))) (blkOk_by (by kernel_rfl)) (fun _ _ _ _ _ => (dg_name (i := 6) sc_law_figure.nd)) (fun _ _ _ _ _ => dts_nil) (fun _ _ _ _ _ => (de_call c_law_roll (hr.mono (by decide)) (da_cons (de_var 0) (da_cons (de_var 3) da_nil))))) da_nil))))
    (db_one (ds_ret (de_tup (da_cons (de_var 3) (da_cons (de_var 9) (da_cons (de_var 10) (da_cons (de_call c_law_some (hr.mono (by decide)) (da_cons (de_var 0) (da_cons (de_lst (da_cons de_int (da_cons de_int (da_cons de_int (da_cons de_int (da_cons de_int (da_cons de_int da_nil))))))) da_nil))) da_nil)))))))))))))), gF, F.kp, F.bindsN (ps := ["cup", "most", "strings"]) fun _ _ _ _ _ _ us hl => match us, hl with | [_, _, _], _ => rfl⟩

def N_law_setting : List PySem.Str := ["cup", "figure", "floor", "tie"]
theorem sc_law_setting : FnScope N_law_setting ["cup", "figure"] (defScope (top 38)) := ⟨rfl, rfl, rfl, by decide +kernel, rfl, by decide +kernel, by decide +kernel⟩
theorem C_law_setting {P : Program} {w : World} {K : PySem.W.Frag} {mg : PySem.Str → Option Value} {base : Heap} {f : Addr} {fd : FuncData} (F : FunD K "_law_setting" "_law_setting" (defArgs (top 38)) (defBody (top 38)) (defScope (top 38)) [] [] f fd) (gF : mg "_law_setting" = some (.ref f)) (c_law_roll : Cal P w K mg base "_law_roll" 1 2 S_law_roll) (c_law_some : Cal P w K mg base "_law_some" 2 2 S_law_some) (m_tuple : mg "tuple" = none) : Cal P w K mg base "_law_setting" 3 2 S_law_setting :=
  ⟨f, fd, _, fn_dl F sc_law_setting rfl (by decide) (fun cdv A outer s H E hr =>
    (db_cons (ds_set (i := 2) sc_law_setting.nd (dv_e (de_ix (de_var 1) de_int)))
    (db_one (ds_ret (de_callTy call_tuple_of l_tuple m_tuple boot_tuple (da_cons (de_lc [("tie", 3)] rfl sc_law_setting.nd (di_seq (de_ix (de_var 1) de_int)) (blkOk_by (by kernel_rfl)) (fun _ _ _ _ _ => (dg_name (i := 3) sc_law_setting.nd)) (fun _ _ _ _ _ => dts_nil) (fun _ _ _ _ _ => (de_call c_law_some (hr.mono (by decide)) (da_cons (de_var 0) (da_cons (de_lst (da_cons (de_var 2) (da_cons de_int (da_cons (de_call c_law_roll (hr.mono (by decide)) (da_cons (de_var 0) (da_cons (de_add (de_var 2) de_int) da_nil))) (da_cons (de_call c_law_roll (hr.mono (by decide)) (da_cons (de_var 0) (da_cons (de_add (de_var 2) de_int) da_nil))) (da_cons (de_call c_law_roll (hr.mono (by decide)) (da_cons (de_var 0) (da_cons (de_add (de_var 2) de_int) da_nil))) da_nil)))))) da_nil))))) da_nil)))))), gF, F.kp, F.bindsN (ps := ["cup", "figure"]) fun _ _ _ _ _ _ us hl => match us, hl with | [_, _], _ => rfl⟩

def N_law_from : List PySem.Str := ["figure", "joint", "found", "turn", "one", "other", "length", "begin", "end"]
theorem sc_law_from : FnScope N_law_from ["figure", "joint"] (defScope (top 39)) := ⟨rfl, rfl, rfl, by decide +kernel, rfl, by decide +kernel, by decide +kernel⟩
theorem C_law_from {P : Program} {w : World} {K : PySem.W.Frag} {mg : PySem.Str → Option Value} {base : Heap} {f : Addr} {fd : FuncData} (F : FunD K "_law_from" "_law_from" (defArgs (top 39)) (defBody (top 39)) (defScope (top 39)) [] [] f fd) (gF : mg "_law_from" = some (.ref f)) (m_range : mg "range" = none) : Cal P w K mg base "_law_from" 1 2 S_law_from :=
  ⟨f, fd, _, fn_dl F sc_law_from rfl (by decide) (fun cdv A outer s H E hr =>
    (db_cons (ds_set (i := 2) sc_law_from.nd (dv_n (dn_disp1 (de_var 1) de_int)))
    (db_cons (ds_for PassesOwn.never rfl (di_range1 m_range (de_ix (de_var 0) de_int)) (dx_name (i := 3) sc_law_from.nd) (db_one (ds_for PassesOwn.never rfl (di_seq (de_ix (de_var 0) de_int)) (dx_tup rfl (dxs_cons (dx_name (i := 4) sc_law_from.nd) (dxs_cons (dx_name (i := 5) sc_law_from.nd) (dxs_cons (dx_name (i := 6) sc_law_from.nd) dxs_nil)))) (db_one (ds_for PassesOwn.never rfl (di_seq (de_tup (da_cons (de_tup (da_cons (de_var 4) (da_cons (de_var 5) da_nil))) (da_cons (de_tup (da_cons (de_var 5) (da_cons (de_var 4) da_nil))) da_nil)))) (dx_tup rfl (dxs_cons (dx_name (i := 7) sc_law_from.nd) (dxs_cons (dx_name (i := 8) sc_law_from.nd) dxs_nil))) (db_one (ds_if (dt_w (dw_and (dt_inD hr.units (de_var 7) (dp_var 2)) (dw_and1 (dt_lt hr.units (de_add (de_solid (dp_ixD hr.units (dp_var 2) (de_var 7))) (de_var 6)) (de_solid (dp_get2 hr.units (dp_var 2) (de_var 8) (de_pow de_int de_int))))))) (db_one (ds_put 2 hr.units (de_var 8) (de_add (de_solid (dp_ixD hr.units (dp_var 2) (de_var 7))) (de_var 6)))) db_nil)))))))
    (db_one (ds_ret (de_var 2)))))), gF, F.kp, F.bindsN (ps := ["figure", "joint"]) fun _ _ _ _ _ _ us hl => match us, hl with | [_, _], _ => rfl⟩

def N_law_pose : List PySem.Str := ["figure", "setting", "depths", "tie", "length", "turn", "one", "other"]
theorem sc_law_pose : FnScope N_law_pose ["figure", "setting"] (defScope (top 40)) := ⟨rfl, rfl, rfl, by decide +kernel, rfl, by decide +kernel, by decide +kernel⟩
theorem C_law_pose {P : Program} {w : World} {K : PySem.W.Frag} {mg : PySem.Str → Option Value} {base : Heap} {f : Addr} {fd : FuncData} (F : FunD K "_law_pose" "_law_pose" (defArgs (top 40)) (defBody (top 40)) (defScope (top 40)) [] [] f fd) (gF : mg "_law_pose" = some (.ref f)) (m_min : mg "min" = none) (m_range : mg "range" = none) (m_tuple : mg "tuple" = none) (m_zip : mg "zip" = none) : Cal P w K mg base "_law_pose" 1 2 S_law_pose :=
  ⟨f, fd, _, fn_dl F sc_law_pose rfl (by decide) (fun cdv A outer s H E hr =>
    (db_cons (ds_set (i := 2) sc_law_pose.nd (dv_n (dn_mul (de_lst (da_cons (de_ix (de_var 0) de_int) da_nil)) (de_ix (de_var 0) de_int))))
    (db_cons (ds_for PassesOwn.never rfl (di_zip m_zip (de_ix (de_var 0) de_int) (de_var 1)) (dx_tup rfl (dxs_cons (dx_name (i := 3) sc_law_pose.nd) (dxs_cons (dx_name (i := 4) sc_law_pose.nd) dxs_nil))) (db_one (ds_asg (de_callB (call_min2 rfl) l_min2 m_min boot_min (da_cons (de_solid (dp_ix (dp_var 2) (dp_of (de_var 3)))) (da_cons (de_var 4) da_nil))) (dx_ix 2 (de_var 3)))))
    (db_cons (ds_for PassesOwn.never rfl (di_range1 m_range (de_ix (de_var 0) de_int)) (dx_name (i := 5) sc_law_pose.nd) (db_one (ds_for PassesOwn.never rfl (di_seq (de_ix (de_var 0) de_int)) (dx_tup rfl (dxs_cons (dx_name (i := 6) sc_law_pose.nd) (dxs_cons (dx_name (i := 7) sc_law_pose.nd) (dxs_cons (dx_name (i := 4) sc_law_pose.nd) dxs_nil)))) (db_one (ds_asg (de_tup (da_cons (de_callB (call_min2 rfl) l_min2 m_min boot_min (da_cons (de_solid (dp_ix (dp_var 2) (dp_of (de_var 6)))) (da_cons (de_add (de_solid (dp_ix (dp_var 2) (dp_of (de_var 7)))) (de_var 4)) da_nil))) (da_cons (de_callB (call_min2 rfl) l_min2 m_min boot_min (da_cons (de_solid (dp_ix (dp_var 2) (dp_of (de_var 7)))) (da_cons (de_add (de_solid (dp_ix (dp_var 2) (dp_of (de_var 6)))) (de_var 4)) da_nil))) da_nil))) (dx_tup rfl (dxs_cons (dx_ix 2 (de_var 6)) (dxs_cons (dx_ix 2 (de_var 7)) dxs_nil))))))))
    (db_one (ds_ret (de_callTy call_tuple_of l_tuple m_tuple boot_tuple (da_cons (de_var 2) da_nil)))))))), gF, F.kp, F.bindsN (ps := ["figure", "setting"]) fun _ _ _ _ _ _ us hl => match us, hl with | [_, _], _ => rfl⟩

def N_law_shift : List PySem.Str := ["figure", "joint", "other_joint", "more", "one"]
theorem sc_law_shift : FnScope N_law_shift ["figure", "joint", "other_joint", "more"] (defScope (top 41)) := ⟨rfl, rfl, rfl, by decide +kernel, rfl, by decide +kernel, by decide +kernel⟩
theorem C_law_shift {P : Program} {w : World} {K : PySem.W.Frag} {mg : PySem.Str → Option Value} {base : Heap} {f : Addr} {fd : FuncData} (F : FunD K "_law_shift" "_law_shift" (defArgs (top 41)) (defBody (top 41)) (defScope (top 41)) [] [] f fd) (gF : mg "_law_shift" = some (.ref f)) (m_len : mg "len" = none) (m_range : mg "range" = none) : Cal P w K mg base "_law_shift" 1 4 S_law_shift :=
  ⟨f, fd, _, fn_dl F sc_law_shift rfl (by decide) (fun cdv A outer s H E hr =>
    (db_one (ds_ret (de_if (dt_eq hr.units (de_var 3) (de_var 2)) (de_var 1) (de_add (de_ix (de_var 0) de_int) (de_len m_len (dp_of (de_lc [("one", 4)] rfl sc_law_shift.nd (di_range1 m_range (de_var 3)) (blkOk_by (by kernel_rfl)) (fun _ _ _ _ _ => (dg_name (i := 4) sc_law_shift.nd)) (fun _ _ _ _ _ => (dts_one (dt_ne hr.units (de_var 4) (de_var 2)))) (fun _ _ _ _ _ => (de_var 4)))))))))), gF, F.kp, F.bindsN (ps := ["figure", "joint", "other_joint", "more"]) fun _ _ _ _ _ _ us hl => match us, hl with | [_, _, _, _], _ => rfl⟩

def N_law_limbs_of : List PySem.Str := ["pairs", "found", "one", "other", "length", "pair"]
theorem sc_law_limbs_of : FnScope N_law_limbs_of ["pairs"] (defScope (top 42)) := ⟨rfl, rfl, rfl, by decide +kernel, rfl, by decide +kernel, by decide +kernel⟩
theorem C_law_limbs_of {P : Program} {w : World} {K : PySem.W.Frag} {mg : PySem.Str → Option Value} {base : Heap} {f : Addr} {fd : FuncData} (F : FunD K "_law_limbs_of" "_law_limbs_of" (defArgs (top 42)) (defBody (top 42)) (defScope (top 42)) [] [] f fd) (gF : mg "_law_limbs_of" = some (.ref f)) (m_max : mg "max" = none) (m_min : mg "min" = none) (m_sorted : mg "sorted" = none) (m_tuple : mg "tuple" = none) : Cal P w K mg base "_law_limbs_of" 1 1 S_law_limbs_of :=
  ⟨f, fd, _, fn_dl F sc_law_limbs_of rfl (by decide) (fun cdv A outer s H E hr =>
    (db_cons (ds_set (i := 1) sc_law_limbs_of.nd (dv_n dn_newT))
    (db_cons (ds_for PassesOwn.never rfl (di_seq (de_var 0)) (dx_tup rfl (dxs_cons (dx_name (i := 2) sc_law_limbs_of.nd) (dxs_cons (dx_name (i := 3) sc_law_limbs_of.nd) (dxs_cons (dx_name (i := 4) sc_law_limbs_of.nd) dxs_nil)))) (db_cons (ds_set (i := 5) sc_law_limbs_of.nd (dv_e (de_tup (da_cons (de_callB (call_min2 rfl) l_min2 m_min boot_min (da_cons (de_var 2) (da_cons (de_var 3) da_nil))) (da_cons (de_callB (call_max2 rfl) l_max2 m_max boot_max (da_cons (de_var 2) (da_cons (de_var 3) da_nil))) da_nil)))))
    (db_one (ds_put 1 hr.units (de_var 5) (de_callB (call_min2 rfl) l_min2 m_min boot_min (da_cons (de_var 4) (da_cons (de_solid (dp_get2 hr.units (dp_var 1) (de_var 5) de_int)) da_nil)))))))
    (db_one (ds_ret (de_callTy call_tuple_of l_tuple m_tuple boot_tuple (da_cons (de_lc [("pair", 5)] rfl sc_law_limbs_of.nd (di_seq (de_sortedD hr.units m_sorted (dp_var 1))) (blkOk_by (by kernel_rfl)) (fun _ _ _ _ _ => (dg_name (i := 5) sc_law_limbs_of.nd)) (fun _ _ _ _ _ => (dts_one (dt_ne hr.units (de_ix (de_var 5) de_int) (de_ix (de_var 5) de_int)))) (fun _ _ _ _ _ => (de_add (de_var 5) (de_tup (da_cons (de_solid (dp_ixD hr.units (dp_var 1) (de_var 5))) da_nil))))) da_nil))))))), gF, F.kp, F.bindsN (ps := ["pairs"]) fun _ _ _ _ _ _ us hl => match us, hl with | [_], _ => rfl⟩

def N_law_none_deeper : List PySem.Str := ["before", "after", "one", "other"]
theorem sc_law_none_deeper : FnScope N_law_none_deeper ["before", "after"] (defScope (top 43)) := ⟨rfl, rfl, rfl, by decide +kernel, rfl, by decide +kernel, by decide +kernel⟩
theorem C_law_none_deeper {P : Program} {w : World} {K : PySem.W.Frag} {mg : PySem.Str → Option Value} {base : Heap} {f : Addr} {fd : FuncData} (F : FunD K "_law_none_deeper" "_law_none_deeper" (defArgs (top 43)) (defBody (top 43)) (defScope (top 43)) [] [] f fd) (gF : mg "_law_none_deeper" = some (.ref f)) (m_zip : mg "zip" = none) : Cal P w K mg base "_law_none_deeper" 1 2 S_law_none_deeper :=
  ⟨f, fd, _, fn_dl F sc_law_none_deeper rfl (by decide) (fun cdv A outer s H E hr =>
    (db_one (ds_ret (de_eq hr.units (de_lc [("one", 2), ("other", 3)] rfl sc_law_none_deeper.nd (di_zip m_zip (de_var 0) (de_var 1)) (blkOk_by (by kernel_rfl)) (fun _ _ _ _ _ => (dg_tup rfl (dgs_cons (dg_name (i := 2) sc_law_none_deeper.nd) (dgs_cons (dg_name (i := 3) sc_law_none_deeper.nd) dgs_nil)))) (fun _ _ _ _ _ => (dts_one (dt_gt (de_var 3) (de_var 2)))) (fun _ _ _ _ _ => de_int)) (de_lst da_nil))))), gF, F.kp, F.bindsN (ps := ["before", "after"]) fun _ _ _ _ _ _ us hl => match us, hl with | [_, _], _ => rfl⟩

def N_law : List PySem.Str := ["script", "cup", "turn", "figure", "joints", "limbs", "ties", "floor", "setting", "depths", "one", "other", "length", "rows", "due", "told", "both", "near", "later", "joint", "more", "deep", "drawn", "a", "b", "c", "d", "ring", "begin", "end", "far", "tie"]
theorem sc_law : FnScope N_law ["script"] (defScope (top 44)) := ⟨rfl, rfl, rfl, by decide +kernel, rfl, by decide +kernel, by decide +kernel⟩
theorem L_law {P : Program} {w : World} {K : PySem.W.Frag} {mg : PySem.Str → Option Value} {base : Heap} {f : Addr} {fd : FuncData} (F : FunD K "law" "law" (defArgs (top 44)) (defBody (top 44)) (defScope (top 44)) [] [] f fd) (gF : mg "law" = some (.ref f)) (c_pose : Cal P w K mg base "pose" 6 2 S_pose) (c_bound : Cal P w K mg base "bound" 5 3 S_bound) (c_with_limb : Cal P w K mg base "with_limb" 5 4 S_with_limb) (c_with_string : Cal P w K mg base "with_string" 5 2 S_with_string) (c_law_cup : Cal P w K mg base "_law_cup" 1 1 S_law_cup) (c_law_roll : Cal P w K mg base "_law_roll" 1 2 S_law_roll) (c_law_same : Cal P w K mg base "_law_same" 9 2 (S_law_same 8)) (c_law_figure : Cal P w K mg base "_law_figure" 3 3 S_law_figure) (c_law_setting : Cal P w K mg base "_law_setting" 3 2 S_law_setting) (c_law_from : Cal P w K mg base "_law_from" 1 2 S_law_from) (c_law_pose : Cal P w K mg base "_law_pose" 1 2 S_law_pose) (c_law_limbs_of : Cal P w K mg base "_law_limbs_of" 1 1 S_law_limbs_of) (c_law_none_deeper : Cal P w K mg base "_law_none_deeper" 1 2 S_law_none_deeper) (m_int : mg "int" = none) (m_len : mg "len" = none) (m_list : mg "list" = none) (m_max : mg "max" = none) (m_min : mg "min" = none) (m_range : mg "range" = none) (m_tuple : mg "tuple" = none) : FnOk P w K mg base CX0 10 f fd ["script"] (spD K 1 S_law) :=
  fn_dl F sc_law rfl (by decide) (fun cdv A outer s H E hr =>
    (db_cons (ds_set (i := 1) sc_law.nd (dv_e (de_call c_law_cup (hr.mono (by decide)) (da_cons (de_var 0) da_nil))))
    (db_cons (ds_for PassesOwn.never rfl (di_range1 m_range de_int) (dx_name (i := 2) sc_law.nd) (db_cons (ds_set (i := 3) sc_law.nd (dv_e (de_call c_law_figure (hr.mono (by decide)) (da_cons (de_var 1) (da_cons de_int (da_cons de_int da_nil))))))
    (db_cons (ds_asg (de_var 3) (dx_tup rfl (dxs_cons (dx_name (i := 4) sc_law.nd) (dxs_cons (dx_name (i := 5) sc_law.nd) (dxs_cons (dx_name (i := 6) sc_law.nd) (dxs_cons (dx_name (i := 7) sc_law.nd) dxs_nil))))))
    (db_cons (ds_set (i := 8) sc_law.nd (dv_e (de_call c_law_setting (hr.mono (by decide)) (da_cons (de_var 1) (da_cons (de_var 3) da_nil)))))
    (db_cons (ds_set (i := 9) sc_law.nd (dv_e (de_call c_law_pose (hr.mono (by decide)) (da_cons (de_var 3) (da_cons (de_var 8) da_nil)))))
    (db_cons (ds_asg (de_tup (da_cons (de_call c_law_roll (hr.mono (by decide)) (da_cons (de_var 1) (da_cons (de_var 4) da_nil))) (da_cons (de_call c_law_roll (hr.mono (by decide)) (da_cons (de_var 1) (da_cons (de_var 4) da_nil))) (da_cons (de_add de_int (de_call c_law_roll (hr.mono (by decide)) (da_cons (de_var 1) (da_cons de_int da_nil)))) da_nil)))) (dx_tup rfl (dxs_cons (dx_name (i := 10) sc_law.nd) (dxs_cons (dx_name (i := 11) sc_law.nd) (dxs_cons (dx_name (i := 12) sc_law.nd) dxs_nil)))))
    (db_cons (ds_if (dt_ne hr.units (de_var 10) (de_var 11)) (db_cons (ds_set (i := 13) sc_law.nd (dv_e (de_lc [("joint", 19)] rfl sc_law.nd (di_range1 m_range (de_var 4)) (blkOk_by (by kernel_rfl)) (fun _ _ _ _ _ => (dg_name (i := 19) sc_law.nd)) (fun _ _ _ _ _ => dts_nil) (fun _ _ _ _ _ => (de_if (dt_eq hr.units (de_var 19) (de_callB (call_max2 rfl) l_max2 m_max boot_max (da_cons (de_var 10) (da_cons (de_var 11) da_nil)))) (de_callB (call_min2 rfl) l_min2 m_min boot_min (da_cons (de_var 10) (da_cons (de_var 11) da_nil))) (de_sub (de_var 19) (de_callTy call_int1 l_int m_int boot_int (da_cons (de_gt (de_var 19) (de_callB (call_max2 rfl) l_max2 m_max boot_max (da_cons (de_var 10) (da_cons (de_var 11) da_nil)))) da_nil))))))))
    (db_cons (ds_set (i := 14) sc_law.nd (dv_e (de_tup (da_cons (de_sub (de_var 4) de_int) (da_cons (de_call c_law_limbs_of (hr.mono (by decide)) (da_cons (de_lc [("begin", 28), ("end", 29), ("far", 30)] rfl sc_law.nd (di_seq (de_var 5)) (blkOk_by (by kernel_rfl)) (fun _ _ _ _ _ => (dg_tup rfl (dgs_cons (dg_name (i := 28) sc_law.nd) (dgs_cons (dg_name (i := 29) sc_law.nd) (dgs_cons (dg_name (i := 30) sc_law.nd) dgs_nil))))) (fun _ _ _ _ _ => dts_nil) (fun _ _ _ _ _ => (de_tup (da_cons (de_ix (de_var 13) (de_var 28)) (da_cons (de_ix (de_var 13) (de_var 29)) (da_cons (de_var 30) da_nil)))))) da_nil)) (da_cons (de_callTy call_tuple_of l_tuple m_tuple boot_tuple (da_cons (de_lc [("tie", 31)] rfl sc_law.nd (di_seq (de_var 6)) (blkOk_by (by kernel_rfl)) (fun _ _ _ _ _ => (dg_name (i := 31) sc_law.nd)) (fun _ _ _ _ _ => dts_nil) (fun _ _ _ _ _ => (de_ix (de_var 13) (de_var 31)))) da_nil)) (da_cons (de_var 7) da_nil)))))))
    (db_cons (ds_set (i := 15) sc_law.nd (dv_e (de_call c_bound (hr.mono (by decide)) (da_cons (de_var 3) (da_cons (de_var 10) (da_cons (de_var 11) da_nil))))))
    (db_cons (ds_if (dt_not (dt_val (de_call c_law_same (hr.mono (by decide)) (da_cons (de_tup (da_cons (de_var 15) (da_cons (de_call c_bound (hr.mono (by decide)) (da_cons (de_var 3) (da_cons (de_var 11) (da_cons (de_var 10) da_nil)))) da_nil))) (da_cons (de_tup (da_cons (de_var 14) (da_cons (de_var 14) da_nil))) da_nil))))) (db_one (ds_ret de_bl)) db_nil)
    (db_cons (ds_par (i := 16) (j := 17) rfl sc_law.nd (dv_e (de_callB (call_min2 rfl) l_min2 m_min boot_min (da_cons (de_ix (de_var 9) (de_var 10)) (da_cons (de_ix (de_var 9) (de_var 11)) da_nil)))) (dv_e (de_lst (da_cons (de_call c_law_from (hr.mono (by decide)) (da_cons (de_var 3) (da_cons (de_var 10) da_nil))) (da_cons (de_call c_law_from (hr.mono (by decide)) (da_cons (de_var 3) (da_cons (de_var 11) da_nil))) da_nil)))) (by decide) (by rfl))
    (db_cons (ds_set (i := 18) sc_law.nd (dv_e (de_call c_pose (hr.mono (by decide)) (da_cons (de_var 15) (da_cons (de_var 8) da_nil)))))
    (db_cons (ds_for PassesOwn.never rfl (di_range1 m_range (de_var 4)) (dx_name (i := 19) sc_law.nd) (db_one (ds_if (dt_ne hr.units (de_ix (de_var 18) (de_ix (de_var 13) (de_var 19))) (de_callB (call_min2 rfl) l_min2 m_min boot_min (da_cons (de_ix (de_var 9) (de_var 19)) (da_cons (de_add (de_var 16) (de_callB (call_min2 rfl) l_min2 m_min boot_min (da_cons (de_solid (dp_get2 hr.units (dp_of (de_ix (de_var 17) de_int)) (de_var 19) de_int)) (da_cons (de_solid (dp_get2 hr.units (dp_of (de_ix (de_var 17) de_int)) (de_var 19) de_int)) da_nil)))) da_nil)))) (db_one (ds_ret de_bl)) db_nil)))
    (db_cons (ds_set (i := 14) sc_law.nd (dv_e (de_tup (da_cons (de_var 4) (da_cons (de_call c_law_limbs_of (hr.mono (by decide)) (da_cons (de_add (de_callTy call_list_of l_list m_list boot_list (da_cons (de_var 5) da_nil)) (de_lst (da_cons (de_tup (da_cons (de_var 10) (da_cons (de_var 11) (da_cons (de_var 12) da_nil)))) da_nil))) da_nil)) (da_cons (de_var 6) (da_cons (de_var 7) da_nil)))))))
    (db_one (ds_if (dt_le (de_len m_len (dp_of (de_ix (de_var 14) de_int))) de_int) (db_cons (ds_if (dt_not (dt_val (de_call c_law_same (hr.mono (by decide)) (da_cons (de_tup (da_cons (de_call c_with_limb (hr.mono (by decide)) (da_cons (de_var 3) (da_cons (de_var 10) (da_cons (de_var 11) (da_cons (de_var 12) da_nil))))) (da_cons (de_call c_with_limb (hr.mono (by decide)) (da_cons (de_var 3) (da_cons (de_var 11) (da_cons (de_var 10) (da_cons (de_var 12) da_nil))))) da_nil))) (da_cons (de_tup (da_cons (de_var 14) (da_cons (de_var 14) da_nil))) da_nil))))) (db_one (ds_ret de_bl)) db_nil)
    (db_one (ds_if (dt_not (dt_val (de_call c_law_none_deeper (hr.mono (by decide)) (da_cons (de_var 9) (da_cons (de_call c_pose (hr.mono (by decide)) (da_cons (de_var 14) (da_cons (de_var 8) da_nil))) da_nil))))) (db_one (ds_ret de_bl)) db_nil))) db_nil)))))))))) db_nil)
    (db_cons (ds_set (i := 20) sc_law.nd (dv_e (de_tup (da_cons (de_var 4) (da_cons (de_var 5) (da_cons (de_add (de_var 6) (de_tup (da_cons (de_var 11) da_nil))) (da_cons (de_var 7) da_nil)))))))
    (db_cons (ds_if (dt_not (dt_val (de_call c_law_same (hr.mono (by decide)) (da_cons (de_call c_with_string (hr.mono (by decide)) (da_cons (de_var 3) (da_cons (de_var 11) da_nil))) (da_cons (de_var 20) da_nil))))) (db_one (ds_ret de_bl)) db_nil)
    (db_cons (ds_set (i := 21) sc_law.nd (dv_e (de_call c_law_roll (hr.mono (by decide)) (da_cons (de_var 1) (da_cons (de_add (de_var 7) de_int) da_nil)))))
    (db_cons (ds_set (i := 22) sc_law.nd (dv_e (de_callTy call_tuple_of l_tuple m_tuple boot_tuple (da_cons (de_lc [("joint", 19)] rfl sc_law.nd (di_range1 m_range (de_var 4)) (blkOk_by (by kernel_rfl)) (fun _ _ _ _ _ => (dg_name (i := 19) sc_law.nd)) (fun _ _ _ _ _ => dts_nil) (fun _ _ _ _ _ => (de_callB (call_min2 rfl) l_min2 m_min boot_min (da_cons (de_ix (de_var 9) (de_var 19)) (da_cons (de_add (de_var 21) (de_solid (dp_get2 hr.units (dp_of (de_call c_law_from (hr.mono (by decide)) (da_cons (de_var 3) (da_cons (de_var 11) da_nil)))) (de_var 19) de_int))) da_nil))))) da_nil))))
    (db_one (ds_if (dt_w (dw_or (dt_not (dt_val (de_call c_law_same (hr.mono (by decide)) (da_cons (de_call c_pose (hr.mono (by decide)) (da_cons (de_var 20) (da_cons (de_add (de_var 8) (de_tup (da_cons (de_var 21) da_nil))) da_nil))) (da_cons (de_var 22) da_nil))))) (dw_or1 (dt_not (dt_val (de_call c_law_none_deeper (hr.mono (by decide)) (da_cons (de_var 9) (da_cons (de_var 22) da_nil)))))))) (db_one (ds_ret de_bl)) db_nil)))))))))))))
    (db_cons (ds_asg (de_lc [("more", 20)] rfl sc_law.nd (di_range1 m_range de_int) (blkOk_by (by kernel_rfl)) (fun _ _ _ _ _ => (dg_name (i := 20) sc_law.nd)) (fun _ _ _ _ _ => dts_nil) (fun _ _ _ _ _ => (de_add de_int (de_call c_law_roll (hr.mono (by decide)) (da_cons (de_var 1) (da_cons de_int da_nil)))))) (dx_unl rfl (dxs_cons (dx_name (i := 23) sc_law.nd) (dxs_cons (dx_name (i := 24) sc_law.nd) (dxs_cons (dx_name (i := 25) sc_law.nd) (dxs_cons (dx_name (i := 26) sc_law.nd) dxs_nil))))))
    (db_cons (ds_set (i := 27) sc_law.nd (dv_e (de_tup (da_cons de_int (da_cons (de_tup (da_cons (de_tup (da_cons de_int (da_cons de_int (da_cons (de_var 23) da_nil)))) (da_cons (de_tup (da_cons de_int (da_cons de_int (da_cons (de_var 26) da_nil)))) (da_cons (de_tup (da_cons de_int (da_cons de_int (da_cons (de_var 24) da_nil)))) (da_cons (de_tup (da_cons de_int (da_cons de_int (da_cons (de_var 25) da_nil)))) da_nil))))) (da_cons (de_tup (da_cons de_int (da_cons de_int da_nil))) (da_cons de_int da_nil)))))))
    (db_cons (ds_set (i := 15) sc_law.nd (dv_e (de_tup (da_cons (de_call c_bound (hr.mono (by decide)) (da_cons (de_var 27) (da_cons de_int (da_cons de_int da_nil)))) (da_cons (de_call c_bound (hr.mono (by decide)) (da_cons (de_var 27) (da_cons de_int (da_cons de_int da_nil)))) (da_cons (de_call c_bound (hr.mono (by decide)) (da_cons (de_tup (da_cons de_int (da_cons (de_tup (da_cons (de_tup (da_cons de_int (da_cons de_int (da_cons (de_var 23) da_nil)))) da_nil)) (da_cons (de_tup (da_cons de_int (da_cons de_int da_nil))) (da_cons de_int da_nil))))) (da_cons de_int (da_cons de_int da_nil)))) (da_cons (de_ix (de_ix (de_call c_with_limb (hr.mono (by decide)) (da_cons (de_var 27) (da_cons de_int (da_cons de_int (da_cons (de_var 24) da_nil))))) de_int) de_int) da_nil)))))))
    (db_one (ds_ret (de_call c_law_same (hr.mono (by decide)) (da_cons (de_var 15) (da_cons (de_tup (da_cons (de_tup (da_cons de_int (da_cons (de_tup (da_cons (de_tup (da_cons de_int (da_cons de_int (da_cons (de_callB (call_min2 rfl) l_min2 m_min boot_min (da_cons (de_var 23) (da_cons (de_var 24) da_nil))) da_nil)))) (da_cons (de_tup (da_cons de_int (da_cons de_int (da_cons (de_callB (call_min2 rfl) l_min2 m_min boot_min (da_cons (de_var 25) (da_cons (de_var 26) da_nil))) da_nil)))) da_nil))) (da_cons (de_tup (da_cons de_int (da_cons de_int da_nil))) (da_cons de_int da_nil))))) (da_cons (de_tup (da_cons de_int (da_cons (de_tup (da_cons (de_tup (da_cons de_int (da_cons de_int (da_cons (de_callB (call_min2 rfl) l_min2 m_min boot_min (da_cons (de_var 23) (da_cons (de_var 26) da_nil))) da_nil)))) (da_cons (de_tup (da_cons de_int (da_cons de_int (da_cons (de_callB (call_min2 rfl) l_min2 m_min boot_min (da_cons (de_var 24) (da_cons (de_var 25) da_nil))) da_nil)))) da_nil))) (da_cons (de_tup (da_cons de_int (da_cons de_int da_nil))) (da_cons de_int da_nil))))) (da_cons (de_tup (da_cons de_int (da_cons (de_tup da_nil) (da_cons (de_tup (da_cons de_int (da_cons de_int da_nil))) (da_cons de_int da_nil))))) (da_cons (de_tup (da_cons de_int (da_cons de_int (da_cons (de_callB (call_min2 rfl) l_min2 m_min boot_min (da_cons (de_var 23) (da_cons (de_var 24) da_nil))) da_nil)))) da_nil))))) da_nil)))))))))))

end L_k59

/-! k59: the law in plain terms. -/
namespace L_k59
open DL L2 DM
open PySem (Paired PyData)
local macro_rules | `(tactic| trivial) => `(tactic| (first | (with_reducible apply var_run; (repeat (with_reducible apply atS)); with_reducible exact at0) | (with_reducible apply peek_r; (repeat (with_reducible apply atS)); with_reducible exact at0) | (with_reducible apply peek1_r; (repeat (with_reducible apply atS)); with_reducible exact at0) | (with_reducible apply peekT_r; (repeat (with_reducible apply atS)); with_reducible exact at0) | (with_reducible apply var1_r; focus ((repeat (with_reducible apply atS)); with_reducible exact at0)) | with_reducible exact mNil_ap | with_reducible exact ret_ap | with_reducible exact ixF0 | with_reducible exact ixF1 | with_reducible exact ixF2 | with_reducible exact ixF3 | with_reducible exact len_kvs | with_reducible exact len_ints | with_reducible exact len_lst | with_reducible exact len_tup | with_reducible exact dzip_ints | with_reducible exact dzipn_ints | with_reducible exact dtuple_i | with_reducible exact dtuple_n | with_reducible exact items_ints | with_reducible exact items_tup | with_reducible exact items_lst | with_reducible exact dmin2_mn | with_reducible exact dmina_2 | with_reducible exact dmaxa_2 | with_reducible exact dix2_0 | with_reducible exact dix2_1 | with_reducible exact dix3_0 | with_reducible exact dix3_1 | with_reducible exact dix3_2 | with_reducible exact dix4_0 | with_reducible exact dix4_1 | with_reducible exact dix4_2 | with_reducible exact dix4_3 | with_reducible exact st0 | with_reducible exact lt0 | with_reducible exact ne_nil | with_reducible exact eq_nil | with_reducible exact isis | with_reducible exact isnot | with_reducible exact at0 | with_reducible exact wipe0 | with_reducible exact xnil_r | with_reducible exact gnil_r | with_reducible exact next_r | with_reducible apply atS | with_reducible apply stS | with_reducible apply ltS | with_reducible apply wipeC | with_reducible apply cons_run | with_reducible apply tup_run | with_reducible apply lst_r | with_reducible apply bin_run | with_reducible apply mFn_run | with_reducible apply call_run | with_reducible apply im_run | with_reducible apply set_r | with_reducible apply par_r | with_reducible apply asg_run | with_reducible apply name_r | with_reducible apply xtup_run | with_reducible apply xcons_run | with_reducible apply gset_r | with_reducible apply gtup_r | with_reducible apply gcons_r | with_reducible apply items_r | with_reducible apply un_r | with_reducible apply len_r | with_reducible apply sl_r | with_reducible apply part_r | with_reducible apply back_r | with_reducible apply zip_r | with_reducible apply zipn_r | with_reducible apply rng_r | with_reducible apply test_run | with_reducible apply not_r | with_reducible apply not_t | with_reducible apply not_f | with_reducible apply test_n | with_reducible apply ret_run | with_reducible apply expr_run | with_reducible apply lstN_r | with_reducible apply binN_r | with_reducible apply dadd_lst | with_reducible apply daddN_lst | with_reducible apply lc_r | ((with_reducible show dNeg _ = _); exact rfl) | ((with_reducible show dAdd _ _ = _); exact rfl) | ((with_reducible show dSub _ _ = _); exact rfl) | ((with_reducible show dLt _ _ = _); exact rfl) | ((with_reducible show dLe _ _ = _); exact rfl) | ((with_reducible show dGt _ _ = _); exact rfl) | ((with_reducible show dGe _ _ = _); exact rfl) | ((with_reducible show dIs _ _ = _); exact rfl) | ((with_reducible show dIsNot _ _ = _); exact rfl) | ((with_reducible show dMin2 _ = _); exact rfl) | ((with_reducible show dMax2 _ = _); exact rfl) | ((with_reducible show dTuple _ = _); exact rfl) | ((with_reducible show dList _ = _); exact rfl) | ((with_reducible show dAbs _ = _); exact rfl) | ((with_reducible show D.items _ = _); exact rfl) | ((with_reducible show dLen1 _ = _); exact rfl) | ((with_reducible show List.length _ = _); exact rfl) | ((with_reducible show okW _ _ = _); exact rfl) | ((with_reducible show dIx _ _ = _); exact rfl) | ((with_reducible show szOk _ = _); exact rfl) | (show _ ≤ _; with_reducible assumption) | ((with_reducible show List.length _ + List.length _ ≤ 1000000); exact Nat.le_of_ble_eq_true rfl) | ((with_reducible show List.length _ ≤ 1000000); exact Nat.le_of_ble_eq_true rfl) | ((with_reducible show ∀ _ ∈ _, _ = _); intro _ _)))
theorem e_law_from : S_law_from = DM.law_from := rfl
theorem e_is_whole : S_is_whole = DM.is_whole := rfl
theorem e_is_tuple_of : S_is_tuple_of = DM.is_tuple_of := rfl
theorem e_fits_limb : S_fits_limb = DM.fits_limb := rfl
theorem e_fits_figure : S_fits_figure = DM.fits_figure := rfl
theorem e_need_figure : S_need_figure = DM.need_figure := rfl
theorem e_fits_setting : S_fits_setting = DM.fits_setting := rfl
theorem e_need_setting : S_need_setting = DM.need_setting := rfl
theorem e_need_set : S_need_set = DM.need_set := rfl
theorem e_table_of : S_table_of = DM.table_of := rfl
theorem e_pose_by : S_pose_by = DM.pose_by := rfl
theorem e_pose_in : S_pose_in = DM.pose_in := rfl
theorem e_pose : S_pose = DM.pose := rfl
theorem e_law_pose : S_law_pose = DM.law_pose := rfl
theorem e_roll : S_law_roll = DM.law_roll 30931 7907 251 829 := rfl
theorem e_cup : S_law_cup = DM.law_cup 97 337 4051 2077502213 179 := rfl
theorem roll_ok : RollOk S_law_roll := by
  rw [e_roll]
  exact law_roll_ok (by omega) (by omega) (by omega) (by omega) (by omega) (by omega) (by omega) (by omega)
theorem cup_v (ns : List Int) (hl : ns.length ≤ 63) (G : Gs) : ∃ G', S_law_cup [.scr ns] G = some (.hnd G.length, G') ∧ Cup G.length G' := by
  rw [e_cup]
  exact law_cup_ok (by omega) (by omega) (by omega) (by omega) (by omega) (by omega) (by omega) (by omega) ns hl G
theorem e_same : ∀ j, S_law_same j = DM.law_same j
  | 0 => rfl
  | j + 1 => by rw [S_law_same, DM.law_same, e_same j]
theorem same_v : Same (S_law_same 8) := fun d hd G => by
  rw [e_same]
  exact same_refl 8 d hd G
theorem e_some : S_law_some = DM.law_some S_law_roll := rfl
theorem some_v {hh : Nat} (xs : List D) (hx : xs ≠ []) (hz : xs.length ≤ 1000000) (G : Gs) (hG : Cup hh G) : ∃ x G', S_law_some [.hnd hh, .lst xs] G = some (x, G') ∧ Cup hh G' ∧ x ∈ xs := by
  rw [e_some]
  exact law_some_ok roll_ok xs hx hz G hG
theorem e_figure : S_law_figure = DM.law_figure S_law_roll := rfl
theorem figure_v {hh : Nat} {most stn : Int} (h1 : 1 ≤ most) (h8 : most ≤ 8) (hs : 1 ≤ stn) (hs6 : stn ≤ 6) (G : Gs) (hG : Cup hh G) : ∃ (F : Fig) (G' : Gs), S_law_figure [.hnd hh, .int most, .int stn] G = some (F.d, G') ∧ Cup hh G' ∧ F.Ok := by
  rw [e_figure]
  exact law_figure_ok roll_ok h1 h8 hs hs6 G hG
theorem e_setting : S_law_setting = DM.law_setting S_law_roll := rfl
theorem setting_v {hh : Nat} {F : Fig} (hF : F.Ok) (G : Gs) (hG : Cup hh G) : ∃ (s : List Int) (G' : Gs), S_law_setting [.hnd hh, F.d] G = some (intsD s, G') ∧ Cup hh G' ∧ InR F.ties.length F.floor s := by
  rw [e_setting]
  exact law_setting_ok roll_ok hF G hG
theorem need_figure_v {F : Fig} (hF : F.Ok) (G : Gs) : S_need_figure [F.d] G = some (.non, G) := by
  rw [e_need_figure]
  exact need_figure_ok hF
theorem need_set_v {F : Fig} (hF : F.Ok) {s : List Int} (hs : InR F.ties.length F.floor s) (G : Gs) : S_need_set [F.d, intsD s] G = some (.non, G) := by
  rw [e_need_set]
  exact need_set_ok hF hs
theorem pose_in_v {F : Fig} (hF : F.Ok) {s p : List Int} (hs : InR F.ties.length F.floor s) (hp : IsPose F s p) (G : Gs) : S_pose_in [F.d, intsD s] G = some (intsD p, G) := by
  obtain ⟨d, e, hd⟩ := pose_in_ok hF hs G
  rw [hd.uniq hp] at e
  rw [e_pose_in]
  exact e
theorem pose_v {F : Fig} (hF : F.Ok) {s p : List Int} (hs : InR F.ties.length F.floor s) (hp : IsPose F s p) (G : Gs) : S_pose [F.d, intsD s] G = some (intsD p, G) := by
  obtain ⟨d, e, hd⟩ := pose_ok hF hs G
  rw [hd.uniq hp] at e
  rw [e_pose]
  exact e
theorem law_pose_v {F : Fig} (hF : F.Ok) {s p : List Int} (hp : IsPose F s p) (G : Gs) : S_law_pose [F.d, intsD s] G = some (intsD p, G) := by
  rw [e_law_pose]
  exact law_pose_ok hF hp G
theorem pose_ex {F : Fig} (hF : F.Ok) {s : List Int} (hs : InR F.ties.length F.floor s) : ∃ p, IsPose F s p := by
  obtain ⟨d, _, hd⟩ := pose_in_ok hF hs []
  exact ⟨d, hd⟩
theorem e_limbs_of : S_limbs_of = DM.limbs_of := rfl
theorem e_law_limbs_of : S_law_limbs_of = DM.law_limbs_of := rfl
theorem deq {x y : Int} : dEq (.int x) (.int y) = some (.bl (decide (x = y))) := eqI x y
theorem dneI {x y : Int} : dNe (.int x) (.int y) = some (.bl (!decide (x = y))) := by
  have e : dEqB (.int x) (.int y) = some (decide (x = y)) := by
    have := eqI x y
    unfold dEq at this
    cases q : dEqB (.int x) (.int y) with
    | none => rw [q] at this; cases this
    | some b =>
      rw [q] at this
      cases this
      rfl
  unfold dNe
  rw [e]
  rfl
theorem need_joint_v {F : Fig} (hF : F.Ok) {j : Nat} (hj : j < F.n) (G : Gs) : S_need_joint [F.d, natD j] G = some (.non, G) := by
  have n8 := hF.n8
  have e1 : S_fits_joint [F.d, natD j] G = some (.bl true, G) := by
    have hw : S_is_whole [natD j, .int 0, .int ((F.n : Int) - 1)] G = some (.bl true, G) := by
      rw [e_is_whole]
      exact is_whole_yes (by omega) (by omega)
    unfold S_fits_joint
    refine def_v rfl ?_
    simp only [List.map_cons, List.map_nil, Nat.reduceSub, List.replicate, List.cons_append, List.nil_append]
    apply Ends.ret
    · (repeat' (first | (show _ = _; with_reducible assumption) | trivial))
    · exact ⟨rfl, rfl⟩
  unfold S_need_joint
  refine def_n rfl ?_
  simp only [List.map_cons, List.map_nil, Nat.reduceSub, List.replicate, List.cons_append, List.nil_append]
  apply Ends.no
  · (repeat' (first | (show _ = _; with_reducible assumption) | trivial))
  · rfl
  · exact .nx next_r ⟨⟨_, rfl⟩, rfl⟩
theorem range_at {n i : Nat} {d : D} {f : Nat → D} (h : ((List.range n).map f)[i]? = some d) : i < n ∧ d = f i := by
  rw [List.getElem?_map] at h
  obtain ⟨k, hk, e⟩ := Option.map_eq_some_iff.mp h
  obtain ⟨h1, h2⟩ := List.getElem?_eq_some_iff.mp hk
  rw [List.length_range] at h1
  rw [List.getElem_range] at h2
  exact ⟨h1, by rw [← e, h2]⟩
theorem law_from_v {F : Fig} {R : Tab} (hF : F.Ok) (g : Good F R) (t : Tri F.n F.n R) {i : Nat} (hi : i < F.n) (G : Gs) : ∃ ms, S_law_from [F.d, natD i] G = some (.dk (kvsI ms), G) ∧ Dists R F.n i ms := by
  rw [e_law_from]
  exact law_from_ok hF g t hi G
theorem limbs_of_v {n : Nat} {ts : List Tri3} (h : TOk n ts) (G : Gs) : S_limbs_of [.lst (ts.map limbD)] G = some (.tup ((mrg ts).map limbD), G) := by
  rw [e_limbs_of]
  exact limbs_of_ok h G
theorem law_limbs_of_v {n : Nat} {ts : List Tri3} (h : TOk n ts) (G : Gs) : S_law_limbs_of [.lst (ts.map limbD)] G = some (.tup ((mrg ts).map limbD), G) := by
  rw [e_law_limbs_of]
  exact law_limbs_of_ok h G
theorem lo_comm (a b : Nat) : lo a b = lo b a := by unfold lo; split <;> split <;> omega
theorem hi_comm (a b : Nat) : hi a b = hi b a := by unfold hi; split <;> split <;> omega
theorem lo_or (a b : Nat) : (lo a b = a ∧ hi a b = b) ∨ (lo a b = b ∧ hi a b = a) := by unfold lo hi; split <;> split <;> omega
/-! ### two joints bound -/
def rowF (a b i : Nat) : Nat := if i = hi a b then lo a b else if hi a b < i then i - 1 else i
def triB (F : Fig) (a b : Nat) : List Tri3 := F.limbs.map fun l => (rowF a b l.1, rowF a b l.2.1, l.2.2)
def Bnd (F : Fig) (a b : Nat) : Fig := ⟨F.n - 1, mrg (triB F a b), F.ties.map (rowF a b), F.floor⟩
theorem Bnd_comm {F : Fig} {a b : Nat} : Bnd F a b = Bnd F b a := by
  have : rowF a b = rowF b a := funext fun i => by unfold rowF; rw [lo_comm a b, hi_comm a b]
  unfold Bnd triB
  rw [this]
theorem row_lt {n a b i : Nat} (ha : a < n) (hb : b < n) (hne : a ≠ b) (hi0 : i < n) : rowF a b i < n - 1 := by
  have h1 := lo_hi hne
  have h2 := hi_lt ha hb
  unfold rowF
  split
  · omega
  · split <;> omega
section
variable {F : Fig} (hF : F.Ok) {a b : Nat} (ha : a < F.n) (hb : b < F.n) (hne : a ≠ b)
include hF ha hb hne
theorem tri_ok : TOk (F.n - 1) (triB F a b) where
  few := by
    unfold triB
    rw [List.length_map]
    have := hF.few
    omega
  each := fun t ht => by
    obtain ⟨l, hl, rfl⟩ := List.mem_map.mp ht
    obtain ⟨h1, h2, h3, h4⟩ := hF.limb l hl
    exact ⟨row_lt ha hb hne (by omega), row_lt ha hb hne h2, h3, h4⟩
theorem Bnd_ok : (Bnd F a b).Ok := by
  have n8 := hF.n8
  have few := hF.few
  obtain ⟨m1, m2, m3⟩ := mrg_ok (tri_ok hF ha hb hne)
  have tl : (triB F a b).length = F.limbs.length := List.length_map ..
  exact {
    n1 := by show 1 ≤ F.n - 1; omega
    n8 := by show F.n - 1 ≤ 8; omega
    few := by show (mrg (triB F a b)).length ≤ 12; omega
    limb := m1
    lex := m2
    t1 := by show 1 ≤ (F.ties.map (rowF a b)).length; rw [List.length_map]; exact hF.t1
    t6 := by show (F.ties.map (rowF a b)).length ≤ 6; rw [List.length_map]; exact hF.t6
    tie := fun t ht => by
      obtain ⟨u, hu, rfl⟩ := List.mem_map.mp ht
      exact row_lt ha hb hne (hF.tie u hu)
    f1 := hF.f1
    f30 := hF.f30 }
/-- a joint of the figure for each joint of the bound one -/
def repF (a b i : Nat) : Nat := if i < hi a b then i else i + 1
omit hF in
theorem rep_lt {i : Nat} (h : i < F.n - 1) : repF a b i < F.n := by
  unfold repF
  split <;> omega
omit hF ha hb in
theorem row_rep {i : Nat} : rowF a b (repF a b i) = i := by
  have h1 := lo_hi hne
  unfold repF
  split
  · unfold rowF
    rw [if_neg (by omega), if_neg (by omega)]
  · unfold rowF
    rw [if_neg (by omega), if_pos (by omega)]
    omega
omit hF ha hb in
theorem rep_row (j : Nat) : repF a b (rowF a b j) = j ∨ (j = hi a b ∧ repF a b (rowF a b j) = lo a b) := by
  have h1 := lo_hi hne
  by_cases e : j = hi a b
  · right
    refine ⟨e, ?_⟩
    have : rowF a b j = lo a b := by unfold rowF; rw [if_pos e]
    rw [this]
    unfold repF
    rw [if_pos h1]
  · left
    unfold rowF
    rw [if_neg e]
    split
    · unfold repF
      rw [if_neg (by omega)]
      omega
    · unfold repF
      rw [if_pos (by omega)]
variable {R : Tab} (g : Good F R) (t : Tri F.n F.n R) {s p : List Int} (hs : InR F.ties.length F.floor s) (hp : IsPose F s p)
/-- how deep a joint is then -/
def qv (R : Tab) (p : List Int) (a b j : Nat) : Int := mnI (iat p j) (mnI (iat p a) (iat p b) + mnI (dst R a 99 j) (dst R b 99 j))
omit hF ha hb hne in
theorem mn_le2 (x y : Int) : mnI x y ≤ x ∧ mnI x y ≤ y ∧ (mnI x y = x ∨ mnI x y = y) := by
  unfold mnI
  split <;> omega
omit hF ha hb hne in
theorem mn_ge2 {x y z : Int} (h1 : z ≤ x) (h2 : z ≤ y) : z ≤ mnI x y := by
  unfold mnI
  split <;> omega
include g t hp
omit hne in
theorem dst_nn {i : Nat} (j : Nat) : 0 ≤ dst R i 99 j := by
  cases q : R i j with
  | none => rw [dst_none q]; omega
  | some x => rw [dst_some q]; exact g.nn _ _ _ q
omit hne in
theorem qv_ends : qv R p a b a = mnI (iat p a) (iat p b) ∧ qv R p a b b = mnI (iat p a) (iat p b) := by
  have d1 : dst R a 99 a = 0 := dst_some (g.diag a ha)
  have d2 : dst R b 99 b = 0 := dst_some (g.diag b hb)
  have n1 := dst_nn hF ha hb g t hp (i := a) b
  have n2 := dst_nn hF ha hb g t hp (i := b) a
  unfold qv
  rw [d1, d2]
  unfold mnI
  constructor
  · repeat' split
    all_goals omega
  · repeat' split
    all_goals omega
omit hne in
theorem qv_limbs : LimbsOk F (qv R p a b) := fun l hl => by
  have h1 := hp.st.2.1 l hl
  have h2 := dst_limbs hF g t ha 99 l hl
  have h3 := dst_limbs hF g t hb 99 l hl
  have a1 := mn_le2 (iat p l.1) (mnI (iat p a) (iat p b) + mnI (dst R a 99 l.1) (dst R b 99 l.1))
  have a2 := mn_le2 (iat p l.2.1) (mnI (iat p a) (iat p b) + mnI (dst R a 99 l.2.1) (dst R b 99 l.2.1))
  have a3 := mn_le2 (dst R a 99 l.1) (dst R b 99 l.1)
  have a4 := mn_le2 (dst R a 99 l.2.1) (dst R b 99 l.2.1)
  unfold qv
  omega
def qL (F : Fig) (R : Tab) (p : List Int) (a b : Nat) : List Int := (List.range (F.n - 1)).map fun i => qv R p a b (repF a b i)
theorem q_row {j : Nat} (hj : j < F.n) : iat (qL F R p a b) (rowF a b j) = qv R p a b j := by
  have hr := row_lt ha hb hne hj
  unfold qL
  rw [iat_fn (f := fun i => qv R p a b (repF a b i)) hr]
  obtain ⟨e1, e2⟩ := qv_ends hF ha hb g t hp
  rcases rep_row hne j with e | ⟨e, e3⟩
  · rw [e]
  · rw [e3, e]
    rcases lo_or a b with ⟨x, y⟩ | ⟨x, y⟩ <;> rw [x, y] <;> rw [e1, e2]
theorem Bnd_pose : IsPose (Bnd F a b) s (qL F R p a b) := by
  have hB := tri_ok hF ha hb hne
  have nnp := hp.nn
  have both0 : 0 ≤ mnI (iat p a) (iat p b) := mn_ge2 (nnp a ha) (nnp b hb)
  have qle : ∀ j, qv R p a b j ≤ iat p j := fun j => (mn_le2 _ _).1
  have qr : ∀ j, j < F.n → iat (qL F R p a b) (rowF a b j) = qv R p a b j := fun j hj => q_row hF ha hb hne g t hp hj
  refine ⟨?_, fun i hi => ?_, ⟨fun i hi => ?_, fun l hl => ?_, fun q hq => ?_⟩, fun f hf i hi => ?_⟩
  · unfold qL
    rw [List.length_map, List.length_range]
    rfl
  · have hi : i < F.n - 1 := hi
    rw [← row_rep hne (i := i), qr _ (rep_lt ha hb hne hi)]
    have m := nnp _ (rep_lt ha hb hne hi)
    have d1 := dst_nn hF ha hb g t hp (i := a) (repF a b i)
    have d2 := dst_nn hF ha hb g t hp (i := b) (repF a b i)
    exact mn_ge2 m (by have := mn_ge2 d1 d2; omega)
  · have hi : i < F.n - 1 := hi
    rw [← row_rep hne (i := i), qr _ (rep_lt ha hb hne hi)]
    have := hp.st.1 _ (rep_lt ha hb hne hi)
    exact Int.le_trans (qle _) this
  · obtain ⟨u, hu, hne2, e1, e2, e3⟩ := mrg_src hB hl
    obtain ⟨l0, hl0, rfl⟩ := List.mem_map.mp hu
    obtain ⟨b1, b2, b3, b4⟩ := hF.limb l0 hl0
    have ql := qv_limbs hF ha hb g t hp l0 hl0
    have q1 := qr l0.1 (by omega)
    have q2 := qr l0.2.1 b2
    dsimp only at e1 e2 e3
    rw [e1, e2, e3]
    rcases lo_or (rowF a b l0.1) (rowF a b l0.2.1) with ⟨x, y⟩ | ⟨x, y⟩
    · rw [x, y, q1, q2]
      exact ql
    · rw [x, y, q1, q2]
      exact ⟨ql.2, ql.1⟩
  · obtain ⟨i, hi⟩ := List.getElem?_of_mem hq
    rw [List.getElem?_zip_eq_some] at hi
    obtain ⟨h1, h2⟩ := hi
    have h1 : (F.ties.map (rowF a b))[i]? = some q.1 := h1
    rw [List.getElem?_map] at h1
    obtain ⟨u, hu, e⟩ := Option.map_eq_some_iff.mp h1
    rw [← e, qr u (hF.tie u (List.mem_of_getElem? hu))]
    have := hp.st.2.2 (u, q.2) (List.mem_of_getElem? (i := i) (List.getElem?_zip_eq_some.mpr ⟨hu, h2⟩))
    exact Int.le_trans (qle u) this
  · have hi : i < F.n - 1 := hi
    -- the stance of the figure that it makes
    have st : St F s (fun j => f (rowF a b j)) := by
      refine ⟨fun j hj => hf.1 _ (row_lt ha hb hne hj), fun l hl => ?_, fun q hq => ?_⟩
      · by_cases e : rowF a b l.1 = rowF a b l.2.1
        · have := (hF.limb l hl).2.2.1
          dsimp only
          rw [e]
          omega
        · obtain ⟨c, hc, hle⟩ := mrg_cov hB (t := (rowF a b l.1, rowF a b l.2.1, l.2.2)) (List.mem_map.mpr ⟨l, hl, rfl⟩) e
          have := hf.2.1 _ hc
          dsimp only at this hle ⊢
          rcases lo_or (rowF a b l.1) (rowF a b l.2.1) with ⟨x, y⟩ | ⟨x, y⟩
          · rw [x, y] at this
            omega
          · rw [x, y] at this
            omega
      · obtain ⟨i, hi⟩ := List.getElem?_of_mem hq
        rw [List.getElem?_zip_eq_some] at hi
        refine hf.2.2 (rowF a b q.1, q.2) (List.mem_of_getElem? (i := i) (List.getElem?_zip_eq_some.mpr ⟨?_, hi.2⟩))
        show (F.ties.map (rowF a b))[i]? = some (rowF a b q.1)
        rw [List.getElem?_map, hi.1]
        rfl
    rw [← row_rep hne (i := i), qr _ (rep_lt ha hb hne hi)]
    obtain ⟨j, ej⟩ : ∃ j, j = repF a b i := ⟨_, rfl⟩
    have hj : j < F.n := by rw [ej]; exact rep_lt ha hb hne hi
    rw [← ej]
    have top := hp.top _ st
    have eab : f (rowF a b a) = f (rowF a b b) := by
      have : rowF a b a = rowF a b b := by
        have h1 := lo_hi hne
        rcases lo_or a b with ⟨x, y⟩ | ⟨x, y⟩
        · have e1 : rowF a b b = lo a b := by unfold rowF; rw [if_pos y.symm]
          have e2 : rowF a b a = a := by unfold rowF; rw [if_neg (by omega), if_neg (by omega)]
          rw [e1, e2, x]
        · have e1 : rowF a b a = lo a b := by unfold rowF; rw [if_pos y.symm]
          have e2 : rowF a b b = b := by unfold rowF; rw [if_neg (by omega), if_neg (by omega)]
          rw [e1, e2, x]
      rw [this]
    have ta := top a ha
    have tb := top b hb
    have ta : f (rowF a b a) ≤ iat p a := ta
    have tb : f (rowF a b b) ≤ iat p b := tb
    have tboth : f (rowF a b a) ≤ mnI (iat p a) (iat p b) := mn_ge2 ta (by rw [eab]; exact tb)
    have far : ∀ k, k < F.n → f (rowF a b k) ≤ mnI (iat p a) (iat p b) → f (rowF a b j) ≤ mnI (iat p a) (iat p b) + dst R k 99 j := fun k hk hle => by
      cases q : R k j with
      | none =>
        rw [dst_none q]
        have h1 := top j hj
        have h2 := hp.st.1 j hj
        have h3 := hF.f30
        have h1 : f (rowF a b j) ≤ iat p j := h1
        omega
      | some x =>
        rw [dst_some q]
        have : f (rowF a b j) ≤ f (rowF a b k) + x := g.sound _ st.2.1 k j x q
        omega
    have fa := far a ha tboth
    have fb := far b hb (by rw [← eab]; exact tboth)
    refine mn_ge2 (top j hj) ?_
    rcases (mn_le2 (dst R a 99 j) (dst R b 99 j)).2.2 with e | e <;> rw [e]
    · exact fa
    · exact fb
end
/-! ### a limb more, a string more -/
def Wth (F : Fig) (a b : Nat) (c : Int) : Fig := ⟨F.n, mrg (F.limbs ++ [(a, b, c)]), F.ties, F.floor⟩
def Str1 (F : Fig) (a : Nat) : Fig := ⟨F.n, F.limbs, F.ties ++ [a], F.floor⟩
theorem step_comm (ks : List KP) (a b : Nat) (c : Int) : stepP ks (a, b, c) = stepP ks (b, a, c) := by
  have e : keyT (a, b, c) = keyT (b, a, c) := by
    show ((((lo a b : Nat) : Int), ((hi a b : Nat) : Int)) : Int × Int) = (((lo b a : Nat) : Int), ((hi b a : Nat) : Int))
    rw [lo_comm a b, hi_comm a b]
  unfold stepP
  rw [e]
  by_cases h : a = b
  · rw [if_pos h, if_pos h.symm]
  · rw [if_neg h, if_neg fun z => h z.symm]
theorem Wth_comm {F : Fig} {a b : Nat} {c : Int} : Wth F a b c = Wth F b a c := by
  unfold Wth mrg ksP
  rw [List.foldl_append, List.foldl_append]
  show Fig.mk _ (limbsOf (stepP _ (a, b, c))) _ _ = Fig.mk _ (limbsOf (stepP _ (b, a, c))) _ _
  rw [step_comm]
section
variable {F : Fig} (hF : F.Ok) {a b : Nat} (ha : a < F.n) (hb : b < F.n) (hne : a ≠ b) {c : Int} (c1 : 1 ≤ c) (c9 : c ≤ 9)
include hF ha hb c1 c9
theorem triW_ok : TOk F.n (F.limbs ++ [(a, b, c)]) where
  few := by
    rw [List.length_append, List.length_singleton]
    have := hF.few
    omega
  each := fun t ht => by
    rcases List.mem_append.mp ht with ht | ht
    · obtain ⟨h1, h2, h3, h4⟩ := hF.limb t ht
      exact ⟨by omega, h2, h3, h4⟩
    · rw [List.mem_singleton.mp ht]
      exact ⟨ha, hb, c1, c9⟩
theorem Wth_ok (hl : (mrg (F.limbs ++ [(a, b, c)])).length ≤ 12) : (Wth F a b c).Ok := by
  obtain ⟨m1, m2, m3⟩ := mrg_ok (triW_ok hF ha hb c1 c9)
  exact { n1 := hF.n1, n8 := hF.n8, few := hl, limb := m1, lex := m2, t1 := hF.t1, t6 := hF.t6, tie := hF.tie, f1 := hF.f1, f30 := hF.f30 }
theorem Wth_less {s p q : List Int} (hp : IsPose F s p) (hq : IsPose (Wth F a b c) s q) : ∀ i, i < F.n → iat q i ≤ iat p i := by
  refine hp.top _ ⟨hq.st.1, fun l hl => ?_, hq.st.2.2⟩
  have hl1 := (hF.limb l hl).1
  obtain ⟨x, hx, hle⟩ := mrg_cov (triW_ok hF ha hb c1 c9) (t := l) (List.mem_append_left _ hl) (by omega)
  have := hq.st.2.1 _ hx
  dsimp only at this
  have e1 : lo l.1 l.2.1 = l.1 := by unfold lo; rw [if_neg (by omega)]
  have e2 : hi l.1 l.2.1 = l.2.1 := by unfold hi; rw [if_pos hl1]
  rw [e1, e2] at this
  omega
end
section
variable {F : Fig} (hF : F.Ok) {a : Nat} (ha : a < F.n) (h5 : F.ties.length ≤ 5)
include hF ha
theorem Str1_ok (h5 : F.ties.length ≤ 5) : (Str1 F a).Ok where
  n1 := hF.n1
  n8 := hF.n8
  few := hF.few
  limb := hF.limb
  lex := hF.lex
  t1 := by show 1 ≤ (F.ties ++ [a]).length; rw [List.length_append, List.length_singleton]; omega
  t6 := by show (F.ties ++ [a]).length ≤ 6; rw [List.length_append, List.length_singleton]; omega
  tie := fun t ht => by
    rcases List.mem_append.mp ht with ht | ht
    · exact hF.tie t ht
    · rw [List.mem_singleton.mp ht]; exact ha
  f1 := hF.f1
  f30 := hF.f30
def sv (R : Tab) (p : List Int) (a : Nat) (x : Int) (j : Nat) : Int := mnI (iat p j) (x + dst R a 99 j)
def sL (F : Fig) (R : Tab) (p : List Int) (a : Nat) (x : Int) : List Int := (List.range F.n).map (sv R p a x)
theorem Str1_pose {R : Tab} (g : Good F R) (t : Tri F.n F.n R) {s p : List Int} (hl : s.length = F.ties.length) (hp : IsPose F s p) {x : Int} (x0 : 0 ≤ x) : IsPose (Str1 F a) (s ++ [x]) (sL F R p a x) := by
  have zip : ∀ q : Nat × Int, q ∈ (F.ties ++ [a]).zip (s ++ [x]) ↔ q ∈ F.ties.zip s ∨ q = (a, x) := fun q => by
    rw [List.zip_append (by omega)]
    rw [List.mem_append]
    show q ∈ F.ties.zip s ∨ q ∈ [(a, x)] ↔ _
    rw [List.mem_singleton]
  have at_ : ∀ j, j < F.n → iat (sL F R p a x) j = sv R p a x j := fun j hj => by
    unfold sL
    rw [iat_fn hj]
  have dn : ∀ j, 0 ≤ dst R a 99 j := fun j => by
    cases q : R a j with
    | none => rw [dst_none q]; omega
    | some x => rw [dst_some q]; exact g.nn _ _ _ q
  have da : dst R a 99 a = 0 := dst_some (g.diag a ha)
  refine ⟨?_, fun i hi => ?_, ⟨fun i hi => ?_, fun l hl => ?_, fun q hq => ?_⟩, fun f hf i hi => ?_⟩
  · unfold sL
    rw [List.length_map, List.length_range]
    rfl
  · rw [at_ i hi]
    exact mn_ge2 (hp.nn i hi) (by have := dn i; omega)
  · rw [at_ i hi]
    exact Int.le_trans (mn_le2 _ _).1 (hp.st.1 i hi)
  · have hb := hF.limb l hl
    rw [at_ l.1 (by omega), at_ l.2.1 hb.2.1]
    have h1 := hp.st.2.1 l hl
    have h2 := dst_limbs hF g t ha 99 l hl
    have a1 := mn_le2 (iat p l.1) (x + dst R a 99 l.1)
    have a2 := mn_le2 (iat p l.2.1) (x + dst R a 99 l.2.1)
    unfold sv
    omega
  · rcases (zip q).mp hq with h | h
    · rw [at_ q.1 (hF.tie _ (List.of_mem_zip h).1)]
      exact Int.le_trans (mn_le2 _ _).1 (hp.st.2.2 q h)
    · rw [h, at_ a ha]
      have := (mn_le2 (iat p a) (x + dst R a 99 a)).2.1
      rw [da] at this
      show sv R p a x a ≤ x
      unfold sv
      rw [da]
      omega
  · have hi : i < F.n := hi
    rw [at_ i hi]
    have st : St F s f := ⟨hf.1, hf.2.1, fun q hq => hf.2.2 q ((zip q).mpr (.inl hq))⟩
    have fx : f a ≤ x := hf.2.2 (a, x) ((zip (a, x)).mpr (.inr rfl))
    have ti := hp.top _ st i hi
    refine mn_ge2 ti ?_
    cases q : R a i with
    | none =>
      rw [dst_none q]
      have h2 := hp.st.1 i hi
      have h3 := hF.f30
      omega
    | some y =>
      rw [dst_some q]
      have := g.sound _ hf.2.1 a i y q
      omega
end
end L_k59

/-! k59: the walks. -/
namespace L_k59
open DL L2 DM
open PySem (Paired PyData)
local macro_rules | `(tactic| trivial) => `(tactic| (first | (with_reducible apply var_run; (repeat (with_reducible apply atS)); with_reducible exact at0) | (with_reducible apply peek_r; (repeat (with_reducible apply atS)); with_reducible exact at0) | (with_reducible apply peek1_r; (repeat (with_reducible apply atS)); with_reducible exact at0) | (with_reducible apply peekT_r; (repeat (with_reducible apply atS)); with_reducible exact at0) | (with_reducible apply var1_r; focus ((repeat (with_reducible apply atS)); with_reducible exact at0)) | with_reducible exact mNil_ap | with_reducible exact ret_ap | with_reducible exact ixF0 | with_reducible exact ixF1 | with_reducible exact ixF2 | with_reducible exact ixF3 | with_reducible exact len_kvs | with_reducible exact len_ints | with_reducible exact len_lst | with_reducible exact len_tup | with_reducible exact dzip_ints | with_reducible exact dzipn_ints | with_reducible exact dtuple_i | with_reducible exact dtuple_n | with_reducible exact items_ints | with_reducible exact items_tup | with_reducible exact items_lst | with_reducible exact dmin2_mn | with_reducible exact dmina_2 | with_reducible exact dmaxa_2 | with_reducible exact dix2_0 | with_reducible exact dix2_1 | with_reducible exact dix3_0 | with_reducible exact dix3_1 | with_reducible exact dix3_2 | with_reducible exact dix4_0 | with_reducible exact dix4_1 | with_reducible exact dix4_2 | with_reducible exact dix4_3 | with_reducible exact st0 | with_reducible exact lt0 | with_reducible exact ne_nil | with_reducible exact eq_nil | with_reducible exact isis | with_reducible exact isnot | with_reducible exact at0 | with_reducible exact wipe0 | with_reducible exact xnil_r | with_reducible exact gnil_r | with_reducible exact next_r | with_reducible apply atS | with_reducible apply stS | with_reducible apply ltS | with_reducible apply wipeC | with_reducible apply cons_run | with_reducible apply tup_run | with_reducible apply lst_r | with_reducible apply bin_run | with_reducible apply mFn_run | with_reducible apply call_run | with_reducible apply im_run | with_reducible apply set_r | with_reducible apply par_r | with_reducible apply asg_run | with_reducible apply name_r | with_reducible apply xtup_run | with_reducible apply xcons_run | with_reducible apply gset_r | with_reducible apply gtup_r | with_reducible apply gcons_r | with_reducible apply items_r | with_reducible apply un_r | with_reducible apply len_r | with_reducible apply sl_r | with_reducible apply part_r | with_reducible apply back_r | with_reducible apply zip_r | with_reducible apply zipn_r | with_reducible apply rng_r | with_reducible apply test_run | with_reducible apply not_r | with_reducible apply not_t | with_reducible apply not_f | with_reducible apply test_n | with_reducible apply ret_run | with_reducible apply expr_run | with_reducible apply lstN_r | with_reducible apply binN_r | with_reducible apply dadd_lst | with_reducible apply daddN_lst | with_reducible apply lc_r | ((with_reducible show dNeg _ = _); exact rfl) | ((with_reducible show dAdd _ _ = _); exact rfl) | ((with_reducible show dSub _ _ = _); exact rfl) | ((with_reducible show dLt _ _ = _); exact rfl) | ((with_reducible show dLe _ _ = _); exact rfl) | ((with_reducible show dGt _ _ = _); exact rfl) | ((with_reducible show dGe _ _ = _); exact rfl) | ((with_reducible show dIs _ _ = _); exact rfl) | ((with_reducible show dIsNot _ _ = _); exact rfl) | ((with_reducible show dMin2 _ = _); exact rfl) | ((with_reducible show dMax2 _ = _); exact rfl) | ((with_reducible show dTuple _ = _); exact rfl) | ((with_reducible show dList _ = _); exact rfl) | ((with_reducible show dAbs _ = _); exact rfl) | ((with_reducible show D.items _ = _); exact rfl) | ((with_reducible show dLen1 _ = _); exact rfl) | ((with_reducible show List.length _ = _); exact rfl) | ((with_reducible show okW _ _ = _); exact rfl) | ((with_reducible show dIx _ _ = _); exact rfl) | ((with_reducible show szOk _ = _); exact rfl) | (show _ ≤ _; with_reducible assumption) | ((with_reducible show List.length _ + List.length _ ≤ 1000000); exact Nat.le_of_ble_eq_true rfl) | ((with_reducible show List.length _ ≤ 1000000); exact Nat.le_of_ble_eq_true rfl) | ((with_reducible show ∀ _ ∈ _, _ = _); intro _ _)))
theorem okD_fig (j : Nat) {F : Fig} (hF : F.Ok) : okD (j + 4) F.d = true := by
  have a : okD (j + 3) (.tup (F.limbs.map limbD)) = true := okD_map (by have := hF.few; omega) fun l hl => rfl
  have b : okD (j + 3) (.tup (F.ties.map natD)) = true := okD_map (by have := hF.t6; omega) fun l hl => rfl
  show (true && (true && (okD (j + 3) (.tup (F.limbs.map limbD)) && (okD (j + 3) (.tup (F.ties.map natD)) && (true && true))))) = true
  rw [a, b]
  rfl
theorem okD_two {F : Fig} (hF : F.Ok) : okD 8 (.tup [F.d, F.d]) = true := by
  have := okD_fig 3 hF
  show (true && (okD 7 F.d && (okD 7 F.d && true))) = true
  rw [this]
  rfl
theorem dsub1 {n : Nat} (h : 1 ≤ n) : dSub (.int (n : Int)) (.int 1) = some (.int ((n - 1 : Nat) : Int)) := by
  show some (D.int ((n : Int) - 1)) = _
  congr 2
  omega
theorem rows_ix {n i : Nat} {f : Nat → D} (h : i < n) : dIx (.lst ((List.range n).map f)) (natD i) = some (f i) := ix_lst (by rw [List.getElem?_map, List.getElem?_range h]; rfl)
theorem nat_solid {n : Nat} : (natD n).solid = true := by unfold natD D.solid; rfl
theorem row_val {a b i : Nat} (he : i ≠ hi a b) : dSub (natD i) (.int (if hi a b < i then 1 else 0)) = some (natD (rowF a b i)) := by
  show some (D.int ((i : Int) - (if hi a b < i then 1 else 0))) = some (D.int ((rowF a b i : Nat) : Int))
  unfold rowF
  rw [if_neg he]
  by_cases h : hi a b < i
  · rw [if_pos h, if_pos h]
    congr 2
    omega
  · rw [if_neg h, if_neg h, Int.sub_zero]
theorem gt_nat {a b : Nat} : dGt (natD a) (natD b) = some (.bl (decide (b < a))) := by
  show some (D.bl (decide ((a : Int) > (b : Int)))) = _
  congr 2
  exact decide_eq_decide.mpr (by omega)
section
variable {F : Fig} (hF : F.Ok) {a b : Nat} (ha : a < F.n) (hb : b < F.n) (hne : a ≠ b)
include hF ha hb hne
theorem Bnd_d : D.tup [.int ((F.n - 1 : Nat) : Int), .tup ((mrg (triB F a b)).map limbD), .tup (F.ties.map fun t => natD (rowF a b t)), .int F.floor] = (Bnd F a b).d := by
  unfold Bnd Fig.d
  dsimp only
  rw [List.map_map]
  rfl
theorem tri_map : F.limbs.map (fun l => limbD (rowF a b l.1, rowF a b l.2.1, l.2.2)) = (triB F a b).map limbD := by
  unfold triB
  rw [List.map_map]
  rfl
theorem bound_v (G : Gs) : S_bound [F.d, natD a, natD b] G = some ((Bnd F a b).d, G) := by
  have n8 := hF.n8
  have n1 := hF.n1
  have t6 := hF.t6
  have few := hF.few
  have e0 := need_figure_v hF G
  have e1 := need_joint_v hF ha G
  have e2 := need_joint_v hF hb G
  have e3 := limbs_of_v (tri_ok hF ha hb hne) G
  have q := eq_nat a b
  rw [decide_eq_false hne] at q
  have dm := dmin_n (a := a) (b := b)
  have dx := dmax_n (a := a) (b := b)
  unfold S_bound
  refine def_v rfl ?_
  simp only [List.map_cons, List.map_nil, Nat.reduceSub, List.replicate, List.cons_append, List.nil_append]
  apply Ends.seq
  · (repeat' (first | (show _ = _; with_reducible assumption) | trivial))
  apply Ends.seq
  · (repeat' (first | (show _ = _; with_reducible assumption) | trivial))
  apply Ends.seq
  · (repeat' (first | (show _ = _; with_reducible assumption) | trivial))
  apply Ends.skip (ρ1 := [.im F.d, .im (natD a), .im (natD b), .un, .un, .un, .un, .un, .un, .un, .un]) (G1 := G) (k := false)
  · (repeat' (first | (show _ = _; with_reducible assumption) | with_reducible exact q | trivial))
  · rfl
  apply Ends.seq (ρ1 := [.im F.d, .im (natD a), .im (natD b), .im (natD (hi a b)), .m1 [], .un, .un, .un, .un, .un, .un]) (G1 := G)
  · (repeat' (first | (show _ = _; with_reducible assumption) | with_reducible exact dx | trivial))
  apply Ends.for (fun i ρ G' => G' = G ∧ ∃ (a5 : Sl), ρ = [.im F.d, .im (natD a), .im (natD b), .im (natD (hi a b)), .m1 ((List.range i).map fun j => natD (rowF a b j)), a5, .un, .un, .un, .un, .un])
  · apply rng_r (n := F.n)
    · (repeat' (first | (show _ = _; with_reducible assumption) | trivial))
    · omega
  · exact ⟨rfl, _, rfl⟩
  · rintro ρ G' ⟨rfl, a5, rfl⟩
    rw [List.length_map, List.length_range]
    have rx : ∀ i, i < F.n → dIx (.lst ((List.range F.n).map fun j => natD (rowF a b j))) (natD i) = some (natD (rowF a b i)) := fun i hi => rows_ix hi
    apply Ends.seq (ρ1 := [.im F.d, .im (natD a), .im (natD b), .im (natD (hi a b)), .m1 ((List.range F.n).map fun j => natD (rowF a b j)), a5, .im (.tup ((mrg (triB F a b)).map limbD)), .un, .un, .un, .un]) (G1 := G')
    · refine set_r (sl := .im (.tup ((mrg (triB F a b)).map limbD))) (ρ1 := [.im F.d, .im (natD a), .im (natD b), .im (natD (hi a b)), .m1 ((List.range F.n).map fun j => natD (rowF a b j)), a5, .un, .un, .un, .un, .un]) ?_ rfl (Nat.le_of_ble_eq_true rfl)
      apply im_run
      apply mFn_run
      · apply cons_run
        · apply lc_r F.limbs limbD (fun l => limbD (rowF a b l.1, rowF a b l.2.1, l.2.2)) (ρx := fun l => [.im F.d, .im (natD a), .im (natD b), .im (natD (hi a b)), .m1 ((List.range F.n).map fun j => natD (rowF a b j)), a5, .un, .im (natD l.1), .im (natD l.2.1), .im (.int l.2.2), .un])
          · (repeat' (first | (show _ = _; with_reducible assumption) | trivial))
          · omega
          · (repeat' (first | (show _ = _; with_reducible assumption) | trivial))
          · (repeat' (first | (show _ = _; with_reducible assumption) | trivial))
          · intro l hl
            show gTupS 3 _ (.tup [natD l.1, natD l.2.1, .int l.2.2]) _ = _
            (repeat' (first | (show _ = _; with_reducible assumption) | trivial))
          · (repeat' (first | (show _ = _; with_reducible assumption) | trivial))
          · intro l hl
            obtain ⟨b1, b2, b3, b4⟩ := hF.limb l hl
            have r1 := rx l.1 (by omega)
            have r2 := rx l.2.1 b2
            have s1 := solid_r (G := G') (ρ := [.im F.d, .im (natD a), .im (natD b), .im (natD (hi a b)), .m1 ((List.range F.n).map fun j => natD (rowF a b j)), a5, .un, .im (natD l.1), .im (natD l.2.1), .im (.int l.2.2), .un]) (a := mBin dIx (mPeek 4) (mVar 7)) (d := natD (rowF a b l.1)) (by (repeat' (first | (show _ = _; with_reducible assumption) | with_reducible exact r1 | trivial))) nat_solid
            have s2 := solid_r (G := G') (ρ := [.im F.d, .im (natD a), .im (natD b), .im (natD (hi a b)), .m1 ((List.range F.n).map fun j => natD (rowF a b j)), a5, .un, .im (natD l.1), .im (natD l.2.1), .im (.int l.2.2), .un]) (a := mBin dIx (mPeek 4) (mVar 8)) (d := natD (rowF a b l.2.1)) (by (repeat' (first | (show _ = _; with_reducible assumption) | with_reducible exact r2 | trivial))) nat_solid
            exact tup_run (cons_run s1 (cons_run s2 (cons_run (var_run rfl) mNil_ap))) (Nat.le_of_ble_eq_true rfl)
        · (repeat' (first | (show _ = _; with_reducible assumption) | trivial))
      · rfl
      · rw [tri_map hF ha hb hne]
        exact e3
    rw [← Bnd_d hF ha hb hne]
    have sub := dsub1 n1
    have ts : mCall dTuple (mCons (mLc [10] (mItems (mBin dIx (mVar 0) (DL.ret (.int 2)))) (gSet 10) (DL.ret true) (mSolid (mBin dIx (mPeek 4) (mVar 10)))) mNil) [.im F.d, .im (natD a), .im (natD b), .im (natD (hi a b)), .m1 ((List.range F.n).map fun j => natD (rowF a b j)), a5, .im (.tup ((mrg (triB F a b)).map limbD)), .un, .un, .un, .un] G' = some (.tup (F.ties.map fun t => natD (rowF a b t)), [.im F.d, .im (natD a), .im (natD b), .im (natD (hi a b)), .m1 ((List.range F.n).map fun j => natD (rowF a b j)), a5, .im (.tup ((mrg (triB F a b)).map limbD)), .un, .un, .un, .un], G') := by
      apply call_run
      · apply cons_run
        · apply lc_r F.ties natD (fun t => natD (rowF a b t)) (ρx := fun t => [.im F.d, .im (natD a), .im (natD b), .im (natD (hi a b)), .m1 ((List.range F.n).map fun j => natD (rowF a b j)), a5, .im (.tup ((mrg (triB F a b)).map limbD)), .un, .un, .un, .im (natD t)])
          · (repeat' (first | (show _ = _; with_reducible assumption) | trivial))
          · omega
          · (repeat' (first | (show _ = _; with_reducible assumption) | trivial))
          · (repeat' (first | (show _ = _; with_reducible assumption) | trivial))
          · (repeat' (first | (show _ = _; with_reducible assumption) | trivial))
          · (repeat' (first | (show _ = _; with_reducible assumption) | trivial))
          · intro t ht
            have r1 := rx t (hF.tie t ht)
            exact solid_r (by (repeat' (first | (show _ = _; with_reducible assumption) | with_reducible exact r1 | trivial))) nat_solid
        · (repeat' (first | (show _ = _; with_reducible assumption) | trivial))
      · rfl
    apply Ends.ret
    · (repeat' (first | (show _ = _; with_reducible assumption) | with_reducible exact sub | trivial))
    · exact ⟨rfl, rfl⟩
  · rintro i d hd ρ G' ⟨rfl, a5, rfl⟩
    obtain ⟨hi0, rfl⟩ := get_range hd
    refine ⟨[.im F.d, .im (natD a), .im (natD b), .im (natD (hi a b)), .m1 ((List.range i).map fun j => natD (rowF a b j)), .im (natD i), .un, .un, .un, .un, .un], G', by (repeat' (first | (show _ = _; with_reducible assumption) | trivial)), ?_⟩
    refine DM.Ends.nx (ρ1 := [.im F.d, .im (natD a), .im (natD b), .im (natD (hi a b)), .m1 ((List.range (i + 1)).map fun j => natD (rowF a b j)), .im (natD i), .un, .un, .un, .un, .un]) (G1 := G') ?_ ⟨_, rfl, rfl, _, rfl⟩
    have eh := eq_nat i (hi a b)
    refine app_r (ds := (List.range i).map fun j => natD (rowF a b j)) (d := natD (rowF a b i)) rfl ?_ (by rw [List.length_map, List.length_range]; omega) (by rw [List.range_succ, List.map_append]; rfl)
    by_cases he : i = hi a b
    · apply if_t (k := decide (i = hi a b))
      · (repeat' (first | (show _ = _; with_reducible assumption) | with_reducible exact eh | trivial))
      · exact decide_eq_true he
      · have : rowF a b i = lo a b := by unfold rowF; rw [if_pos he]
        rw [this]
        (repeat' (first | (show _ = _; with_reducible assumption) | with_reducible exact dm | trivial))
    · apply if_f (k := decide (i = hi a b))
      · (repeat' (first | (show _ = _; with_reducible assumption) | with_reducible exact eh | trivial))
      · exact decide_eq_false he
      · have rv := row_val he
        have gt := gt_nat (a := i) (b := hi a b)
        apply bin_run (y := .int (if hi a b < i then 1 else 0))
        · (repeat' (first | (show _ = _; with_reducible assumption) | trivial))
        · by_cases hg : hi a b < i
          · rw [if_pos hg]
            apply if_t (k := decide (hi a b < i))
            · (repeat' (first | (show _ = _; with_reducible assumption) | with_reducible exact gt | trivial))
            · exact decide_eq_true hg
            · exact ret_ap
          · rw [if_neg hg]
            apply if_f (k := decide (hi a b < i))
            · (repeat' (first | (show _ = _; with_reducible assumption) | with_reducible exact gt | trivial))
            · exact decide_eq_false hg
            · exact ret_ap
        · exact rv
end
theorem fits_fig {F : Fig} (hF : F.Ok) (G : Gs) : S_fits_figure [F.d] G = some (.bl true, G) := by
  rw [e_fits_figure]
  exact fits_figure_ok hF
section
variable {F : Fig} (hF : F.Ok) {a b : Nat} (ha : a < F.n) (hb : b < F.n) (hne : a ≠ b) {c : Int} (c1 : 1 ≤ c) (c9 : c ≤ 9)
include hF ha hb hne c1 c9
theorem with_limb_v (hl : (mrg (F.limbs ++ [(a, b, c)])).length ≤ 12) (G : Gs) : S_with_limb [F.d, natD a, natD b, .int c] G = some ((Wth F a b c).d, G) := by
  have few := hF.few
  have e0 := need_figure_v hF G
  have e1 := need_joint_v hF ha G
  have e2 := need_joint_v hF hb G
  have e3 := limbs_of_v (triW_ok hF ha hb c1 c9) G
  rw [List.map_append] at e3
  have e3 : S_limbs_of [.lst (F.limbs.map limbD ++ [.tup [natD a, natD b, .int c]])] G = some (.tup ((mrg (F.limbs ++ [(a, b, c)])).map limbD), G) := e3
  have e4 := fits_fig (Wth_ok hF ha hb c1 c9 hl) G
  have e5 : S_is_whole [.int c, .int 1, .int 9] G = some (.bl true, G) := by
    rw [e_is_whole]
    exact is_whole_yes c1 c9
  have q := eq_nat a b
  rw [decide_eq_false hne] at q
  unfold S_with_limb
  refine def_v rfl ?_
  simp only [List.map_cons, List.map_nil, Nat.reduceSub, List.replicate, List.cons_append, List.nil_append]
  apply Ends.seq
  · (repeat' (first | (show _ = _; with_reducible assumption) | trivial))
  apply Ends.seq
  · (repeat' (first | (show _ = _; with_reducible assumption) | trivial))
  apply Ends.seq
  · (repeat' (first | (show _ = _; with_reducible assumption) | trivial))
  apply Ends.skip (ρ1 := [.im F.d, .im (natD a), .im (natD b), .im (.int c), .un]) (G1 := G) (k := false)
  · (repeat' (first | (show _ = _; with_reducible assumption) | with_reducible exact q | trivial))
  · rfl
  apply Ends.skip (ρ1 := [.im F.d, .im (natD a), .im (natD b), .im (.int c), .un]) (G1 := G) (k := false)
  · apply not_t
    (repeat' (first | (show _ = _; with_reducible assumption) | trivial))
  · rfl
  have dl : mCall dList (mCons (mBin dIx (mVar 0) (DL.ret (.int 1))) mNil) [.im F.d, .im (natD a), .im (natD b), .im (.int c), .un] G = some (.lst (F.limbs.map limbD), [.im F.d, .im (natD a), .im (natD b), .im (.int c), .un], G) := by
    apply call_run
    · (repeat' (first | (show _ = _; with_reducible assumption) | trivial))
    · rfl
  have da : dAdd (.lst (F.limbs.map limbD)) (.lst [.tup [natD a, natD b, .int c]]) = some (.lst (F.limbs.map limbD ++ [.tup [natD a, natD b, .int c]])) := dadd_lst (by rw [List.length_map]; show _ + 1 ≤ 1000000; omega)
  have ds : dSl F.d (some 2) none = some (.tup [.tup (F.ties.map natD), .int F.floor]) := rfl
  have db : dAdd (.tup [.int (F.n : Int), .tup ((mrg (F.limbs ++ [(a, b, c)])).map limbD)]) (.tup [.tup (F.ties.map natD), .int F.floor]) = some (Wth F a b c).d := rfl
  apply Ends.seq (ρ1 := [.im F.d, .im (natD a), .im (natD b), .im (.int c), .im (Wth F a b c).d]) (G1 := G)
  · (repeat' (first | (show _ = _; with_reducible assumption) | with_reducible exact da | with_reducible exact ds | with_reducible exact db | trivial))
  apply Ends.skip (ρ1 := [.im F.d, .im (natD a), .im (natD b), .im (.int c), .im (Wth F a b c).d]) (G1 := G) (k := false)
  · apply not_t
    (repeat' (first | (show _ = _; with_reducible assumption) | trivial))
  · rfl
  apply Ends.ret
  · (repeat' (first | (show _ = _; with_reducible assumption) | trivial))
  · exact ⟨rfl, rfl⟩
end
theorem with_string_v {F : Fig} (hF : F.Ok) {a : Nat} (ha : a < F.n) (h5 : F.ties.length ≤ 5) (G : Gs) : S_with_string [F.d, natD a] G = some ((Str1 F a).d, G) := by
  have e0 := need_figure_v hF G
  have e1 := need_joint_v hF ha G
  have e4 := fits_fig (Str1_ok hF ha h5) G
  have ds : dSl F.d none (some 2) = some (.tup [.int (F.n : Int), .tup (F.limbs.map limbD)]) := rfl
  have da : dAdd (.tup (F.ties.map natD)) (.tup [natD a]) = some (.tup ((F.ties ++ [a]).map natD)) := by
    rw [List.map_append]
    exact dadd_tup (ys := [natD a]) (by rw [List.length_map]; show _ + 1 ≤ 1000000; omega)
  have db : dAdd (.tup [.int (F.n : Int), .tup (F.limbs.map limbD)]) (.tup [.tup ((F.ties ++ [a]).map natD), .int F.floor]) = some (Str1 F a).d := rfl
  unfold S_with_string
  refine def_v rfl ?_
  simp only [List.map_cons, List.map_nil, Nat.reduceSub, List.replicate, List.cons_append, List.nil_append]
  apply Ends.seq
  · (repeat' (first | (show _ = _; with_reducible assumption) | trivial))
  apply Ends.seq
  · (repeat' (first | (show _ = _; with_reducible assumption) | trivial))
  apply Ends.seq (ρ1 := [.im F.d, .im (natD a), .im (Str1 F a).d]) (G1 := G)
  · (repeat' (first | (show _ = _; with_reducible assumption) | with_reducible exact ds | with_reducible exact da | with_reducible exact db | trivial))
  apply Ends.skip (ρ1 := [.im F.d, .im (natD a), .im (Str1 F a).d]) (G1 := G) (k := false)
  · apply not_t
    (repeat' (first | (show _ = _; with_reducible assumption) | trivial))
  · rfl
  apply Ends.ret
  · (repeat' (first | (show _ = _; with_reducible assumption) | trivial))
  · exact ⟨rfl, rfl⟩
theorem none_deeper_v {p q : List Int} (hl : p.length ≤ 100) (h : ∀ i, i < p.length → iat q i ≤ iat p i) (G : Gs) : S_law_none_deeper [intsD p, intsD q] G = some (.bl true, G) := by
  unfold S_law_none_deeper
  refine def_v rfl ?_
  simp only [List.map_cons, List.map_nil, Nat.reduceSub, List.replicate, List.cons_append, List.nil_append]
  have lc : mLc [2, 3] (mZip (mVar 0) (mVar 1)) (gTupS 2 (gsCons (gSet 2) (gsCons (gSet 3) gsNil))) (mTest (mBin dGt (mVar 3) (mVar 2))) (DL.ret (.int 1)) [.im (intsD p), .im (intsD q), .un, .un] G = some (.lst (((p.zip q).filter fun z => decide (z.1 < z.2)).map fun _ => D.int 1), [.im (intsD p), .im (intsD q), .un, .un], G) := by
    apply lcf_r (p.zip q) (fun z => D.tup [.int z.1, .int z.2]) (fun _ => D.int 1) (fun z => decide (z.1 < z.2)) (ρx := fun z => [.im (intsD p), .im (intsD q), .im (.int z.1), .im (.int z.2)])
    · apply zip_r
      · (repeat' (first | (show _ = _; with_reducible assumption) | trivial))
      · (repeat' (first | (show _ = _; with_reducible assumption) | trivial))
      · exact dzip_ints
    · rw [List.length_zip]
      omega
    · (repeat' (first | (show _ = _; with_reducible assumption) | trivial))
    · (repeat' (first | (show _ = _; with_reducible assumption) | trivial))
    · intro z hz
      (repeat' (first | (show _ = _; with_reducible assumption) | trivial))
    · (repeat' (first | (show _ = _; with_reducible assumption) | trivial))
    · intro z hz
      apply test_run
      apply bin_run
      · (repeat' (first | (show _ = _; with_reducible assumption) | trivial))
      · (repeat' (first | (show _ = _; with_reducible assumption) | trivial))
      · rfl
    · intro z hz _
      exact ret_ap
  have em : ((p.zip q).filter fun z => decide (z.1 < z.2)) = [] := List.filter_eq_nil_iff.mpr fun z hz hlt => by
    have hlt := of_decide_eq_true hlt
    obtain ⟨i, hi⟩ := List.getElem?_of_mem hz
    rw [List.getElem?_zip_eq_some] at hi
    have := h i (List.getElem?_eq_some_iff.mp hi.1).1
    unfold iat at this
    rw [hi.1, hi.2] at this
    have this : z.2 ≤ z.1 := this
    omega
  rw [em] at lc
  apply Ends.ret
  · exact bin_run lc (lst_r mNil_ap (Nat.le_of_ble_eq_true rfl)) eq_nil
  · exact ⟨rfl, rfl⟩
end L_k59

/-! k59: the law. -/
namespace L_k59
open DL L2 DM
open PySem (Paired PyData)
local macro_rules | `(tactic| trivial) => `(tactic| (first | (with_reducible apply var_run; (repeat (with_reducible apply atS)); with_reducible exact at0) | (with_reducible apply peek_r; (repeat (with_reducible apply atS)); with_reducible exact at0) | (with_reducible apply peek1_r; (repeat (with_reducible apply atS)); with_reducible exact at0) | (with_reducible apply peekT_r; (repeat (with_reducible apply atS)); with_reducible exact at0) | (with_reducible apply var1_r; focus ((repeat (with_reducible apply atS)); with_reducible exact at0)) | with_reducible exact mNil_ap | with_reducible exact ret_ap | with_reducible exact ixF0 | with_reducible exact ixF1 | with_reducible exact ixF2 | with_reducible exact ixF3 | with_reducible exact len_kvs | with_reducible exact len_ints | with_reducible exact len_lst | with_reducible exact len_tup | with_reducible exact dzip_ints | with_reducible exact dzipn_ints | with_reducible exact dtuple_i | with_reducible exact dtuple_n | with_reducible exact items_ints | with_reducible exact items_tup | with_reducible exact items_lst | with_reducible exact dmin2_mn | with_reducible exact dmina_2 | with_reducible exact dmaxa_2 | with_reducible exact dix2_0 | with_reducible exact dix2_1 | with_reducible exact dix3_0 | with_reducible exact dix3_1 | with_reducible exact dix3_2 | with_reducible exact dix4_0 | with_reducible exact dix4_1 | with_reducible exact dix4_2 | with_reducible exact dix4_3 | with_reducible exact st0 | with_reducible exact lt0 | with_reducible exact ne_nil | with_reducible exact eq_nil | with_reducible exact isis | with_reducible exact isnot | with_reducible exact at0 | with_reducible exact wipe0 | with_reducible exact xnil_r | with_reducible exact gnil_r | with_reducible exact next_r | with_reducible apply atS | with_reducible apply stS | with_reducible apply ltS | with_reducible apply wipeC | with_reducible apply cons_run | with_reducible apply tup_run | with_reducible apply lst_r | with_reducible apply bin_run | with_reducible apply mFn_run | with_reducible apply call_run | with_reducible apply im_run | with_reducible apply set_r | with_reducible apply par_r | with_reducible apply asg_run | with_reducible apply name_r | with_reducible apply xtup_run | with_reducible apply xcons_run | with_reducible apply gset_r | with_reducible apply gtup_r | with_reducible apply gcons_r | with_reducible apply items_r | with_reducible apply un_r | with_reducible apply len_r | with_reducible apply sl_r | with_reducible apply part_r | with_reducible apply back_r | with_reducible apply zip_r | with_reducible apply zipn_r | with_reducible apply rng_r | with_reducible apply test_run | with_reducible apply not_r | with_reducible apply not_t | with_reducible apply not_f | with_reducible apply test_n | with_reducible apply ret_run | with_reducible apply expr_run | with_reducible apply lstN_r | with_reducible apply binN_r | with_reducible apply dadd_lst | with_reducible apply daddN_lst | with_reducible apply lc_r | ((with_reducible show dNeg _ = _); exact rfl) | ((with_reducible show dAdd _ _ = _); exact rfl) | ((with_reducible show dSub _ _ = _); exact rfl) | ((with_reducible show dLt _ _ = _); exact rfl) | ((with_reducible show dLe _ _ = _); exact rfl) | ((with_reducible show dGt _ _ = _); exact rfl) | ((with_reducible show dGe _ _ = _); exact rfl) | ((with_reducible show dIs _ _ = _); exact rfl) | ((with_reducible show dIsNot _ _ = _); exact rfl) | ((with_reducible show dMin2 _ = _); exact rfl) | ((with_reducible show dMax2 _ = _); exact rfl) | ((with_reducible show dTuple _ = _); exact rfl) | ((with_reducible show dList _ = _); exact rfl) | ((with_reducible show dAbs _ = _); exact rfl) | ((with_reducible show D.items _ = _); exact rfl) | ((with_reducible show dLen1 _ = _); exact rfl) | ((with_reducible show List.length _ = _); exact rfl) | ((with_reducible show okW _ _ = _); exact rfl) | ((with_reducible show dIx _ _ = _); exact rfl) | ((with_reducible show szOk _ = _); exact rfl) | (show _ ≤ _; with_reducible assumption) | ((with_reducible show List.length _ + List.length _ ≤ 1000000); exact Nat.le_of_ble_eq_true rfl) | ((with_reducible show List.length _ ≤ 1000000); exact Nat.le_of_ble_eq_true rfl) | ((with_reducible show ∀ _ ∈ _, _ = _); intro _ _)))
theorem xunl_run {n : Nat} {m : SXs} {ds : List D} {ρ ρ1 : List Sl} {G G1 : Gs} (hn : ds.length = n) (h : m ds ρ G = some (ρ1, G1)) : xUnl n m (.lst ds) ρ G = some (ρ1, G1) := by
  unfold xUnl
  dsimp only
  rw [if_pos hn, h]
theorem figure_w {hh : Nat} {most stn : Int} (h1 : 1 ≤ most) (h8 : most ≤ 8) (hs : 1 ≤ stn) (hs6 : stn ≤ 6) (G : Gs) (hG : Cup hh G) : ∃ (F : Fig) (G' : Gs), S_law_figure [.hnd hh, .int most, .int stn] G = some (F.d, G') ∧ Cup hh G' ∧ F.Ok ∧ (F.n : Int) ≤ most ∧ (F.ties.length : Int) ≤ stn := by
  rw [e_figure]
  exact law_figure_ok2 roll_ok h1 h8 hs hs6 G hG
theorem mn_comm (x y : Int) : mnI x y = mnI y x := by
  unfold mnI
  split <;> split <;> omega
/-- a ring of four: limbs 0-1, 0-3, 1-2, 2-3 -/
def Rg (u z v w : Int) : Fig := ⟨4, [(0, 1, u), (0, 3, z), (1, 2, v), (2, 3, w)], [0, 3], 20⟩
theorem Rg_mem {u z v w : Int} {l : Nat × Nat × Int} (h : l ∈ (Rg u z v w).limbs) : l = (0, 1, u) ∨ l = (0, 3, z) ∨ l = (1, 2, v) ∨ l = (2, 3, w) := by
  simpa [Rg] using h
theorem Rg_ok {u z v w : Int} (hu : 1 ≤ u ∧ u ≤ 9) (hz : 1 ≤ z ∧ z ≤ 9) (hv : 1 ≤ v ∧ v ≤ 9) (hw : 1 ≤ w ∧ w ≤ 9) : (Rg u z v w).Ok where
  n1 := by show 1 ≤ 4; omega
  n8 := by show 4 ≤ 8; omega
  few := by show 4 ≤ 12; omega
  limb := fun l hl => by
    rcases Rg_mem hl with e | e | e | e <;> rw [e]
    · exact ⟨by show 0 < 1; omega, by show 1 < 4; omega, hu.1, hu.2⟩
    · exact ⟨by show 0 < 3; omega, by show 3 < 4; omega, hz.1, hz.2⟩
    · exact ⟨by show 1 < 2; omega, by show 2 < 4; omega, hv.1, hv.2⟩
    · exact ⟨by show 2 < 3; omega, by show 3 < 4; omega, hw.1, hw.2⟩
  lex := by simp [Rg, LexL]
  t1 := by show 1 ≤ 2; omega
  t6 := by show 2 ≤ 6; omega
  tie := fun t ht => by
    have : t = 0 ∨ t = 3 := by simpa [Rg] using ht
    show t < 4
    omega
  f1 := by show (1 : Int) ≤ 20; omega
  f30 := by show (20 : Int) ≤ 30; omega
def P2 (u : Int) : Fig := ⟨2, [(0, 1, u)], [1, 0], 5⟩
theorem P2_ok {u : Int} (hu : 1 ≤ u ∧ u ≤ 9) : (P2 u).Ok where
  n1 := by show 1 ≤ 2; omega
  n8 := by show 2 ≤ 8; omega
  few := by show 1 ≤ 12; omega
  limb := fun l hl => by
    rw [List.mem_singleton.mp hl]
    exact ⟨by show 0 < 1; omega, by show 1 < 2; omega, hu.1, hu.2⟩
  lex := List.pairwise_singleton _ _
  t1 := by show 1 ≤ 2; omega
  t6 := by show 2 ≤ 6; omega
  tie := fun t ht => by
    have : t = 1 ∨ t = 0 := by simpa [P2] using ht
    show t < 2
    omega
  f1 := by show (1 : Int) ≤ 5; omega
  f30 := by show (5 : Int) ≤ 30; omega
theorem mn_self (x : Int) : mnI x x = x := by unfold mnI; rw [ite_self]
theorem m1 {u z v w : Int} : mrg (triB (Rg u z v w) 0 2) = [(0, 1, mnI v u), (0, 2, mnI w z)] := by
  have e : mrg (triB (Rg u z v w) 0 2) = [(0, 1, mnI v (mnI u u)), (0, 2, mnI w (mnI z z))] := rfl
  rw [e, mn_self, mn_self]
theorem m2 {u z v w : Int} : mrg (triB (Rg u z v w) 3 1) = [(0, 1, mnI z u), (1, 2, mnI w v)] := by
  have e : mrg (triB (Rg u z v w) 3 1) = [(0, 1, mnI z (mnI u u)), (1, 2, mnI w (mnI v v))] := rfl
  rw [e, mn_self, mn_self]
theorem m3 {u : Int} : mrg (triB (P2 u) 0 1) = [] := rfl
theorem m4 {u z v w : Int} : mrg ((Rg u z v w).limbs ++ [(1, 0, v)]) = [(0, 1, mnI v u), (0, 3, z), (1, 2, v), (2, 3, w)] := by
  have e : mrg ((Rg u z v w).limbs ++ [(1, 0, v)]) = [(0, 1, mnI v (mnI u u)), (0, 3, mnI z z), (1, 2, mnI v v), (2, 3, mnI w w)] := rfl
  rw [e, mn_self, mn_self, mn_self, mn_self]
theorem get99 {R : Tab} {n i : Nat} {ms : JM} (h : Dists R n i ms) {j : Nat} (hj : j < n) : ((getI ms j).map D.int).getD (.int 99) = .int (dst R i 99 j) := by
  rw [h j hj]
  unfold dst
  cases R i j <;> rfl
theorem dint_b {k : Bool} : dInt [.bl k] = some (.int (if k = true then 1 else 0)) := rfl
theorem law_ok (ns : List Int) (hl : ns.length ≤ 63) : ∃ G', S_law [.scr ns] [] = some (.bl true, G') := by
  obtain ⟨G1, e1, hG1⟩ := cup_v ns hl []
  have e1 : S_law_cup [.scr ns] [] = some (.hnd 0, G1) := e1
  have hG1 : Cup 0 G1 := hG1
  unfold S_law
  refine def_t rfl ?_
  simp only [List.map_cons, List.map_nil, Nat.reduceSub, List.replicate, List.cons_append, List.nil_append]
  apply Ends.seq (ρ1 := [.im (.scr ns), .im (.hnd 0), .un, .un, .un, .un, .un, .un, .un, .un, .un, .un, .un, .un, .un, .un, .un, .un, .un, .un, .un, .un, .un, .un, .un, .un, .un, .un, .un, .un, .un, .un]) (G1 := G1)
  · (repeat' (first | (show _ = _; with_reducible assumption) | trivial))
  apply Ends.for (fun i ρ G' => Cup 0 G' ∧ ∃ a2 a3 a4 a5 a6 a7 a8 a9 a10 a11 a12 a13 a14 a15 a16 a17 a18 a19 a20 a21 a22 : Sl, ρ = [.im (.scr ns), .im (.hnd 0), a2, a3, a4, a5, a6, a7, a8, a9, a10, a11, a12, a13, a14, a15, a16, a17, a18, a19, a20, a21, a22, .un, .un, .un, .un, .un, .un, .un, .un, .un] ∧ (a19 = .un ∨ ∃ d, a19 = .im d) ∧ (a20 = .un ∨ ∃ d, a20 = .im d))
  · exact rng_k 6 6 rfl (by omega)
  · exact ⟨hG1, _, _, _, _, _, _, _, _, _, _, _, _, _, _, _, _, _, _, _, _, _, rfl, .inl rfl, .inl rfl⟩
  rotate_left
  · rintro i d hd ρ G2 ⟨hG2, a2, a3, a4, a5, a6, a7, a8, a9, a10, a11, a12, a13, a14, a15, a16, a17, a18, a19, a20, a21, a22, rfl, h19, h20⟩
    obtain ⟨F, G3, e3, hG3, hF, _, h5⟩ := figure_w (most := 8) (stn := 5) (by omega) (by omega) (by omega) (by omega) G2 hG2
    have h5 : F.ties.length ≤ 5 := by omega
    obtain ⟨s, G4, e4, hG4, hs⟩ := setting_v hF G3 hG3
    obtain ⟨p, hp⟩ := pose_ex hF hs
    obtain ⟨R, g, t⟩ := tab_ex hF
    have e5 := law_pose_v hF hp G4
    have n8 := hF.n8
    have n1 := hF.n1
    have t6 := hF.t6
    have few := hF.few
    have f1 := hF.f1
    have f30 := hF.f30
    have lp := hp.len
    obtain ⟨r1, G5, e6, hG5, r10, r11⟩ := roll_ok G4 (F.n : Int) hG4 (by omega) (by omega)
    obtain ⟨a, rfl⟩ : ∃ a : Nat, r1 = (a : Int) := ⟨r1.toNat, by omega⟩
    obtain ⟨r2, G6, e7, hG6, r20, r21⟩ := roll_ok G5 (F.n : Int) hG5 (by omega) (by omega)
    obtain ⟨b, rfl⟩ : ∃ b : Nat, r2 = (b : Int) := ⟨r2.toNat, by omega⟩
    obtain ⟨r3, G7, e8, hG7, r30, r31⟩ := roll_ok G6 9 hG6 (by omega) (by omega)
    obtain ⟨c, hc⟩ : ∃ c, 1 + r3 = c := ⟨_, rfl⟩
    have c1 : 1 ≤ c := by omega
    have c9 : c ≤ 9 := by omega
    have ha : a < F.n := by omega
    have hb : b < F.n := by omega
    have eka : (D.int (a : Int)) = natD a := rfl
    have ekb : (D.int (b : Int)) = natD b := rfl
    rw [eka] at e6
    rw [ekb] at e7
    refine ⟨[.im (.scr ns), .im (.hnd 0), .im d, a3, a4, a5, a6, a7, a8, a9, a10, a11, a12, a13, a14, a15, a16, a17, a18, a19, a20, a21, a22, .un, .un, .un, .un, .un, .un, .un, .un, .un], _, by (repeat' (first | (show _ = _; with_reducible assumption) | trivial)), ?_⟩
    apply Ends.seq (ρ1 := [.im (.scr ns), .im (.hnd 0), .im d, .im F.d, a4, a5, a6, a7, a8, a9, a10, a11, a12, a13, a14, a15, a16, a17, a18, a19, a20, a21, a22, .un, .un, .un, .un, .un, .un, .un, .un, .un]) (G1 := G3)
    · (repeat' (first | (show _ = _; with_reducible assumption) | trivial))
    apply Ends.seq (ρ1 := [.im (.scr ns), .im (.hnd 0), .im d, .im F.d, .im (.int (F.n : Int)), .im (.tup (F.limbs.map limbD)), .im (.tup (F.ties.map natD)), .im (.int F.floor), a8, a9, a10, a11, a12, a13, a14, a15, a16, a17, a18, a19, a20, a21, a22, .un, .un, .un, .un, .un, .un, .un, .un, .un]) (G1 := G3)
    · apply asg_run (d := .tup [.int (F.n : Int), .tup (F.limbs.map limbD), .tup (F.ties.map natD), .int F.floor])
      · exact var_run rfl
      · (repeat' (first | (show _ = _; with_reducible assumption) | trivial))
    apply Ends.seq (ρ1 := [.im (.scr ns), .im (.hnd 0), .im d, .im F.d, .im (.int (F.n : Int)), .im (.tup (F.limbs.map limbD)), .im (.tup (F.ties.map natD)), .im (.int F.floor), .im (intsD s), a9, a10, a11, a12, a13, a14, a15, a16, a17, a18, a19, a20, a21, a22, .un, .un, .un, .un, .un, .un, .un, .un, .un]) (G1 := G4)
    · (repeat' (first | (show _ = _; with_reducible assumption) | trivial))
    apply Ends.seq (ρ1 := [.im (.scr ns), .im (.hnd 0), .im d, .im F.d, .im (.int (F.n : Int)), .im (.tup (F.limbs.map limbD)), .im (.tup (F.ties.map natD)), .im (.int F.floor), .im (intsD s), .im (intsD p), a10, a11, a12, a13, a14, a15, a16, a17, a18, a19, a20, a21, a22, .un, .un, .un, .un, .un, .un, .un, .un, .un]) (G1 := G4)
    · (repeat' (first | (show _ = _; with_reducible assumption) | trivial))
    apply Ends.seq (ρ1 := [.im (.scr ns), .im (.hnd 0), .im d, .im F.d, .im (.int (F.n : Int)), .im (.tup (F.limbs.map limbD)), .im (.tup (F.ties.map natD)), .im (.int F.floor), .im (intsD s), .im (intsD p), .im (natD a), .im (natD b), .im (.int c), a13, a14, a15, a16, a17, a18, a19, a20, a21, a22, .un, .un, .un, .un, .un, .un, .un, .un, .un]) (G1 := G7)
    · rw [← hc]
      show sAsg _ _ _ _ = some (.nx [.im (.scr ns), .im (.hnd 0), .im d, .im F.d, .im (.int (F.n : Int)), .im (.tup (F.limbs.map limbD)), .im (.tup (F.ties.map natD)), .im (.int F.floor), .im (intsD s), .im (intsD p), .im (natD a), .im (natD b), .im (.int (1 + r3)), a13, a14, a15, a16, a17, a18, a19, a20, a21, a22, .un, .un, .un, .un, .un, .un, .un, .un, .un], G7)
      (repeat' (first | (show _ = _; with_reducible assumption) | trivial))
    have pb := ix_intsN (d := p) (i := b) (by omega)
    have pa := ix_intsN (d := p) (i := a) (by omega)
    -- what stands behind the first question
    have rest : ∀ (b13 b14 b15 b16 b17 b18 b19 : Sl) (G8 : Gs), Cup 0 G8 → (b19 = .un ∨ ∃ d, b19 = .im d) → DM.Ends ((sSeq (sSet 20 (mIm (mTup (mCons (mVar 4) (mCons (mVar 5) (mCons (mBin dAdd (mVar 6) (mTup (mCons (mVar 11) mNil))) (mCons (mVar 7) mNil)))))))
  (sSeq (sIf (mNot (mTest (mFn 2 (S_law_same 8) (mCons (mFn 2 S_with_string (mCons (mVar 3) (mCons (mVar 11) mNil))) (mCons (mVar 20) mNil))))) (sRet (DL.ret (.bl false))) sNext)
  (sSeq (sSet 21 (mIm (mFn 2 S_law_roll (mCons (mVar 1) (mCons (mBin dAdd (mVar 7) (DL.ret (.int 1))) mNil)))))
  (sSeq (sSet 22 (mIm (mCall dTuple (mCons (mLc [19] (mRng1 (mVar 4)) (gSet 19) (DL.ret true) (mCall dMin2 (mCons (mBin dIx (mVar 9) (mVar 19)) (mCons (mBin dAdd (mVar 21) (mSolid (mGet2 (mFn 2 S_law_from (mCons (mVar 3) (mCons (mVar 11) mNil))) (mVar 19) (DL.ret (.int 99))))) mNil)))) mNil))))
  (sIf (mOr (mNot (mTest (mFn 2 (S_law_same 8) (mCons (mFn 2 S_pose (mCons (mVar 20) (mCons (mBin dAdd (mVar 8) (mTup (mCons (mVar 21) mNil))) mNil))) (mCons (mVar 22) mNil))))) (mNot (mTest (mFn 2 S_law_none_deeper (mCons (mVar 9) (mCons (mVar 22) mNil)))))) (sRet (DL.ret (.bl false))) sNext))))) [.im (.scr ns), .im (.hnd 0), .im d, .im F.d, .im (.int (F.n : Int)), .im (.tup (F.limbs.map limbD)), .im (.tup (F.ties.map natD)), .im (.int F.floor), .im (intsD s), .im (intsD p), .im (natD a), .im (natD b), .im (.int c), b13, b14, b15, b16, b17, b18, b19, a20, a21, a22, .un, .un, .un, .un, .un, .un, .un, .un, .un] G8) fun r G2 => ∃ ρ2, r = .nx ρ2 ∧ Cup 0 G2 ∧ ∃ a2 a3 a4 a5 a6 a7 a8 a9 a10 a11 a12 a13 a14 a15 a16 a17 a18 a19 a20 a21 a22 : Sl, ρ2 = [.im (.scr ns), .im (.hnd 0), a2, a3, a4, a5, a6, a7, a8, a9, a10, a11, a12, a13, a14, a15, a16, a17, a18, a19, a20, a21, a22, .un, .un, .un, .un, .un, .un, .un, .un, .un] ∧ (a19 = .un ∨ ∃ d, a19 = .im d) ∧ (a20 = .un ∨ ∃ d, a20 = .im d) := fun b13 b14 b15 b16 b17 b18 b19 G8 hG8 hb19 => by
      have hX := Str1_ok hF hb h5
      have w1 := with_string_v hF hb h5 G8
      obtain ⟨x, G9, e9, hG9, x0, x1⟩ := roll_ok G8 (F.floor + 1) hG8 (by omega) (by omega)
      obtain ⟨ms, e10, hms⟩ := law_from_v hF g t hb G9
      have hpX := Str1_pose hF hb g t hs.1 hp x0
      have hsX : InR (Str1 F b).ties.length (Str1 F b).floor (s ++ [x]) := ⟨by
        show (s ++ [x]).length = (F.ties ++ [b]).length
        rw [List.length_append, List.length_append, hs.1]
        rfl, fun y hy => by
        rcases List.mem_append.mp hy with hy | hy
        · exact hs.2 y hy
        · rw [List.mem_singleton.mp hy]
          show 0 ≤ x ∧ x ≤ F.floor
          omega⟩
      have w2 := pose_v hX hsX hpX G9
      have w3 := none_deeper_v (p := p) (q := sL F R p b x) (by omega) (fun i hi => by
        unfold sL
        rw [iat_fn (by omega)]
        exact (mn_le2 _ _).1) G9
      have ad : dAdd (.tup (F.ties.map natD)) (.tup [natD b]) = some (.tup ((F.ties ++ [b]).map natD)) := by
        rw [List.map_append]
        exact dadd_tup (ys := [natD b]) (by rw [List.length_map]; show _ + 1 ≤ 1000000; omega)
      have as : dAdd (intsD s) (.tup [.int x]) = some (intsD (s ++ [x])) := by
        unfold intsD
        rw [List.map_append]
        exact dadd_tup (ys := [D.int x]) (by rw [List.length_map, hs.1]; show _ + 1 ≤ 1000000; omega)
      apply Ends.seq (ρ1 := [.im (.scr ns), .im (.hnd 0), .im d, .im F.d, .im (.int (F.n : Int)), .im (.tup (F.limbs.map limbD)), .im (.tup (F.ties.map natD)), .im (.int F.floor), .im (intsD s), .im (intsD p), .im (natD a), .im (natD b), .im (.int c), b13, b14, b15, b16, b17, b18, b19, .im (Str1 F b).d, a21, a22, .un, .un, .un, .un, .un, .un, .un, .un, .un]) (G1 := G8)
      · refine set_r (sl := .im (.tup [.int (F.n : Int), .tup (F.limbs.map limbD), .tup ((F.ties ++ [b]).map natD), .int F.floor])) (ρ1 := [.im (.scr ns), .im (.hnd 0), .im d, .im F.d, .im (.int (F.n : Int)), .im (.tup (F.limbs.map limbD)), .im (.tup (F.ties.map natD)), .im (.int F.floor), .im (intsD s), .im (intsD p), .im (natD a), .im (natD b), .im (.int c), b13, b14, b15, b16, b17, b18, b19, a20, a21, a22, .un, .un, .un, .un, .un, .un, .un, .un, .un]) ?_ rfl (Nat.le_of_ble_eq_true rfl)
        apply im_run
        (repeat' (first | (show _ = _; with_reducible assumption) | with_reducible exact ad | trivial))
      refine Ends.check same_v (ρ1 := [.im (.scr ns), .im (.hnd 0), .im d, .im F.d, .im (.int (F.n : Int)), .im (.tup (F.limbs.map limbD)), .im (.tup (F.ties.map natD)), .im (.int F.floor), .im (intsD s), .im (intsD p), .im (natD a), .im (natD b), .im (.int c), b13, b14, b15, b16, b17, b18, b19, .im (Str1 F b).d, a21, a22, .un, .un, .un, .un, .un, .un, .un, .un, .un]) (ρ2 := [.im (.scr ns), .im (.hnd 0), .im d, .im F.d, .im (.int (F.n : Int)), .im (.tup (F.limbs.map limbD)), .im (.tup (F.ties.map natD)), .im (.int F.floor), .im (intsD s), .im (intsD p), .im (natD a), .im (natD b), .im (.int c), b13, b14, b15, b16, b17, b18, b19, .im (Str1 F b).d, a21, a22, .un, .un, .un, .un, .un, .un, .un, .un, .un]) (G1 := G8) (G2 := G8) ?_ (var_run rfl) rfl (okD_fig 4 hX) ?_
      · (repeat' (first | (show _ = _; with_reducible assumption) | trivial))
      apply Ends.seq (ρ1 := [.im (.scr ns), .im (.hnd 0), .im d, .im F.d, .im (.int (F.n : Int)), .im (.tup (F.limbs.map limbD)), .im (.tup (F.ties.map natD)), .im (.int F.floor), .im (intsD s), .im (intsD p), .im (natD a), .im (natD b), .im (.int c), b13, b14, b15, b16, b17, b18, b19, .im (Str1 F b).d, .im (.int x), a22, .un, .un, .un, .un, .un, .un, .un, .un, .un]) (G1 := G9)
      · (repeat' (first | (show _ = _; with_reducible assumption) | trivial))
      apply Ends.seq (ρ1 := [.im (.scr ns), .im (.hnd 0), .im d, .im F.d, .im (.int (F.n : Int)), .im (.tup (F.limbs.map limbD)), .im (.tup (F.ties.map natD)), .im (.int F.floor), .im (intsD s), .im (intsD p), .im (natD a), .im (natD b), .im (.int c), b13, b14, b15, b16, b17, b18, b19, .im (Str1 F b).d, .im (.int x), .im (intsD (sL F R p b x)), .un, .un, .un, .un, .un, .un, .un, .un, .un]) (G1 := G9)
      · refine set_r (sl := .im (intsD (sL F R p b x))) (ρ1 := [.im (.scr ns), .im (.hnd 0), .im d, .im F.d, .im (.int (F.n : Int)), .im (.tup (F.limbs.map limbD)), .im (.tup (F.ties.map natD)), .im (.int F.floor), .im (intsD s), .im (intsD p), .im (natD a), .im (natD b), .im (.int c), b13, b14, b15, b16, b17, b18, b19, .im (Str1 F b).d, .im (.int x), a22, .un, .un, .un, .un, .un, .un, .un, .un, .un]) ?_ rfl (Nat.le_of_ble_eq_true rfl)
        apply im_run
        apply call_run
        · apply cons_run
          · apply lc_r (List.range F.n) natD (fun j => D.int (sv R p b x j)) (ρx := fun j => [.im (.scr ns), .im (.hnd 0), .im d, .im F.d, .im (.int (F.n : Int)), .im (.tup (F.limbs.map limbD)), .im (.tup (F.ties.map natD)), .im (.int F.floor), .im (intsD s), .im (intsD p), .im (natD a), .im (natD b), .im (.int c), b13, b14, b15, b16, b17, b18, .im (natD j), .im (Str1 F b).d, .im (.int x), a22, .un, .un, .un, .un, .un, .un, .un, .un, .un])
            · apply rng_r (n := F.n)
              · (repeat' (first | (show _ = _; with_reducible assumption) | trivial))
              · omega
            · rw [List.length_range]
              omega
            · rcases hb19 with e | ⟨d, e⟩ <;> rw [e] <;> rfl
            · (repeat' (first | (show _ = _; with_reducible assumption) | trivial))
            · intro j hj
              rfl
            · intro j hj
              rfl
            · intro j hj
              have hj := List.mem_range.mp hj
              have pj := ix_intsN (d := p) (i := j) (by omega)
              have gt := get2_r (G := G9) (ρ := [.im (.scr ns), .im (.hnd 0), .im d, .im F.d, .im (.int (F.n : Int)), .im (.tup (F.limbs.map limbD)), .im (.tup (F.ties.map natD)), .im (.int F.floor), .im (intsD s), .im (intsD p), .im (natD a), .im (natD b), .im (.int c), b13, b14, b15, b16, b17, b18, .im (natD j), .im (Str1 F b).d, .im (.int x), a22, .un, .un, .un, .un, .un, .un, .un, .un, .un]) (a := mFn 2 S_law_from (mCons (mVar 3) (mCons (mVar 11) mNil))) (b := mVar 19) (c := DL.ret (.int 99)) (ms := ms) (j := j) (x := .int 99) (by (repeat' (first | (show _ = _; with_reducible assumption) | trivial))) (var_run rfl) ret_ap rfl
              rw [get99 hms hj] at gt
              have ad2 : dAdd (.int x) (.int (dst R b 99 j)) = some (.int (x + dst R b 99 j)) := rfl
              apply call_run
              · (repeat' (first | (show _ = _; with_reducible assumption) | with_reducible exact pj | with_reducible exact ad2 | trivial))
              · exact dmin_i
          · (repeat' (first | (show _ = _; with_reducible assumption) | trivial))
        · show some (D.tup _) = some (D.tup _)
          unfold sL
          rw [List.map_map]
          rfl
      apply Ends.no (k := false) (ρ1 := [.im (.scr ns), .im (.hnd 0), .im d, .im F.d, .im (.int (F.n : Int)), .im (.tup (F.limbs.map limbD)), .im (.tup (F.ties.map natD)), .im (.int F.floor), .im (intsD s), .im (intsD p), .im (natD a), .im (natD b), .im (.int c), b13, b14, b15, b16, b17, b18, b19, .im (Str1 F b).d, .im (.int x), .im (intsD (sL F R p b x)), .un, .un, .un, .un, .un, .un, .un, .un, .un]) (G1 := G9)
      · apply or_ff
        · apply not_t
          apply test_run
          refine same_r same_v (ρ1 := [.im (.scr ns), .im (.hnd 0), .im d, .im F.d, .im (.int (F.n : Int)), .im (.tup (F.limbs.map limbD)), .im (.tup (F.ties.map natD)), .im (.int F.floor), .im (intsD s), .im (intsD p), .im (natD a), .im (natD b), .im (.int c), b13, b14, b15, b16, b17, b18, b19, .im (Str1 F b).d, .im (.int x), .im (intsD (sL F R p b x)), .un, .un, .un, .un, .un, .un, .un, .un, .un]) (ρ2 := [.im (.scr ns), .im (.hnd 0), .im d, .im F.d, .im (.int (F.n : Int)), .im (.tup (F.limbs.map limbD)), .im (.tup (F.ties.map natD)), .im (.int F.floor), .im (intsD s), .im (intsD p), .im (natD a), .im (natD b), .im (.int c), b13, b14, b15, b16, b17, b18, b19, .im (Str1 F b).d, .im (.int x), .im (intsD (sL F R p b x)), .un, .un, .un, .un, .un, .un, .un, .un, .un]) (G1 := G9) (G2 := G9) ?_ (var_run rfl) rfl (ok_ints 6 (by unfold sL; rw [List.length_map, List.length_range]; omega))
          (repeat' (first | (show _ = _; with_reducible assumption) | with_reducible exact as | trivial))
        · apply not_t
          (repeat' (first | (show _ = _; with_reducible assumption) | trivial))
      · rfl
      exact DM.Ends.nx next_r ⟨_, rfl, hG9, _, _, _, _, _, _, _, _, _, _, _, _, _, _, _, _, _, _, _, _, _, rfl, hb19, .inr ⟨_, rfl⟩⟩
    apply Ends.seqE
    apply Ends.ite (k := !decide (a = b)) (ρ1 := [.im (.scr ns), .im (.hnd 0), .im d, .im F.d, .im (.int (F.n : Int)), .im (.tup (F.limbs.map limbD)), .im (.tup (F.ties.map natD)), .im (.int F.floor), .im (intsD s), .im (intsD p), .im (natD a), .im (natD b), .im (.int c), a13, a14, a15, a16, a17, a18, a19, a20, a21, a22, .un, .un, .un, .un, .un, .un, .un, .un, .un]) (G1 := G7)
    · apply test_run
      exact bin_run (var_run rfl) (var_run rfl) ne_nat2
    rotate_left
    · intro _
      exact DM.Ends.nx next_r ⟨_, rfl, rest _ _ _ _ _ _ _ G7 hG7 h19⟩
    intro hne
    have hne : a ≠ b := by simpa using hne
    have hB := Bnd_ok hF ha hb hne
    have dm := dmin_n (a := a) (b := b)
    have dx := dmax_n (a := a) (b := b)
    have rx : ∀ i, i < F.n → dIx (.lst ((List.range F.n).map fun j => natD (rowF a b j))) (natD i) = some (natD (rowF a b i)) := fun i hi => rows_ix hi
    have rl : ∀ i, i < F.n → rowF a b i < F.n - 1 := fun i hi => row_lt ha hb hne hi
    apply Ends.seq (ρ1 := [.im (.scr ns), .im (.hnd 0), .im d, .im F.d, .im (.int (F.n : Int)), .im (.tup (F.limbs.map limbD)), .im (.tup (F.ties.map natD)), .im (.int F.floor), .im (intsD s), .im (intsD p), .im (natD a), .im (natD b), .im (.int c), .im (.lst ((List.range F.n).map fun j => natD (rowF a b j))), a14, a15, a16, a17, a18, a19, a20, a21, a22, .un, .un, .un, .un, .un, .un, .un, .un, .un]) (G1 := G7)
    · refine set_r (sl := .im (.lst ((List.range F.n).map fun j => natD (rowF a b j)))) (ρ1 := [.im (.scr ns), .im (.hnd 0), .im d, .im F.d, .im (.int (F.n : Int)), .im (.tup (F.limbs.map limbD)), .im (.tup (F.ties.map natD)), .im (.int F.floor), .im (intsD s), .im (intsD p), .im (natD a), .im (natD b), .im (.int c), a13, a14, a15, a16, a17, a18, a19, a20, a21, a22, .un, .un, .un, .un, .un, .un, .un, .un, .un]) ?_ rfl (Nat.le_of_ble_eq_true rfl)
      apply im_run
      apply lc_r (List.range F.n) natD (fun j => natD (rowF a b j)) (ρx := fun j => [.im (.scr ns), .im (.hnd 0), .im d, .im F.d, .im (.int (F.n : Int)), .im (.tup (F.limbs.map limbD)), .im (.tup (F.ties.map natD)), .im (.int F.floor), .im (intsD s), .im (intsD p), .im (natD a), .im (natD b), .im (.int c), a13, a14, a15, a16, a17, a18, .im (natD j), a20, a21, a22, .un, .un, .un, .un, .un, .un, .un, .un, .un])
      · apply rng_r (n := F.n)
        · (repeat' (first | (show _ = _; with_reducible assumption) | trivial))
        · omega
      · rw [List.length_range]
        omega
      · rcases h19 with e | ⟨d, e⟩ <;> rw [e] <;> rfl
      · (repeat' (first | (show _ = _; with_reducible assumption) | trivial))
      · intro j hj
        rfl
      · intro j hj
        rfl
      · intro i hi0
        have eh := eq_nat i (hi a b)
        by_cases he : i = hi a b
        · apply if_t (k := decide (i = hi a b))
          · (repeat' (first | (show _ = _; with_reducible assumption) | with_reducible exact eh | with_reducible exact dx | trivial))
          · exact decide_eq_true he
          · have : rowF a b i = lo a b := by unfold rowF; rw [if_pos he]
            rw [this]
            (repeat' (first | (show _ = _; with_reducible assumption) | with_reducible exact dm | trivial))
        · apply if_f (k := decide (i = hi a b))
          · (repeat' (first | (show _ = _; with_reducible assumption) | with_reducible exact eh | with_reducible exact dx | trivial))
          · exact decide_eq_false he
          · have rv := row_val he
            have gt := gt_nat (a := i) (b := hi a b)
            have di := dint_b (k := decide (hi a b < i))
            rw [show (if decide (hi a b < i) = true then (1 : Int) else 0) = (if hi a b < i then 1 else 0) by by_cases h : hi a b < i <;> simp [h]] at di
            apply bin_run (y := .int (if hi a b < i then 1 else 0))
            · (repeat' (first | (show _ = _; with_reducible assumption) | trivial))
            · (repeat' (first | (show _ = _; with_reducible assumption) | with_reducible exact gt | with_reducible exact dx | with_reducible exact di | trivial))
            · exact rv
    have e11 := law_limbs_of_v (tri_ok hF ha hb hne) G7
    have lm : mFn 1 S_law_limbs_of (mCons (mLc [28, 29, 30] (mItems (mVar 5)) (gTupS 3 (gsCons (gSet 28) (gsCons (gSet 29) (gsCons (gSet 30) gsNil)))) (DL.ret true) (mTup (mCons (mBin dIx (mVar 13) (mVar 28)) (mCons (mBin dIx (mVar 13) (mVar 29)) (mCons (mVar 30) mNil))))) mNil) [.im (.scr ns), .im (.hnd 0), .im d, .im F.d, .im (.int (F.n : Int)), .im (.tup (F.limbs.map limbD)), .im (.tup (F.ties.map natD)), .im (.int F.floor), .im (intsD s), .im (intsD p), .im (natD a), .im (natD b), .im (.int c), .im (.lst ((List.range F.n).map fun j => natD (rowF a b j))), a14, a15, a16, a17, a18, a19, a20, a21, a22, .un, .un, .un, .un, .un, .un, .un, .un, .un] G7 = some (.tup ((mrg (triB F a b)).map limbD), [.im (.scr ns), .im (.hnd 0), .im d, .im F.d, .im (.int (F.n : Int)), .im (.tup (F.limbs.map limbD)), .im (.tup (F.ties.map natD)), .im (.int F.floor), .im (intsD s), .im (intsD p), .im (natD a), .im (natD b), .im (.int c), .im (.lst ((List.range F.n).map fun j => natD (rowF a b j))), a14, a15, a16, a17, a18, a19, a20, a21, a22, .un, .un, .un, .un, .un, .un, .un, .un, .un], G7) := by
      apply mFn_run
      · apply cons_run
        · apply lc_r F.limbs limbD (fun l => limbD (rowF a b l.1, rowF a b l.2.1, l.2.2)) (ρx := fun l => [.im (.scr ns), .im (.hnd 0), .im d, .im F.d, .im (.int (F.n : Int)), .im (.tup (F.limbs.map limbD)), .im (.tup (F.ties.map natD)), .im (.int F.floor), .im (intsD s), .im (intsD p), .im (natD a), .im (natD b), .im (.int c), .im (.lst ((List.range F.n).map fun j => natD (rowF a b j))), a14, a15, a16, a17, a18, a19, a20, a21, a22, .un, .un, .un, .un, .un, .im (natD l.1), .im (natD l.2.1), .im (.int l.2.2), .un])
          · (repeat' (first | (show _ = _; with_reducible assumption) | trivial))
          · omega
          · (repeat' (first | (show _ = _; with_reducible assumption) | trivial))
          · (repeat' (first | (show _ = _; with_reducible assumption) | trivial))
          · intro l hl
            show gTupS 3 _ (.tup [natD l.1, natD l.2.1, .int l.2.2]) _ = _
            (repeat' (first | (show _ = _; with_reducible assumption) | trivial))
          · (repeat' (first | (show _ = _; with_reducible assumption) | trivial))
          · intro l hl
            obtain ⟨b1, b2, b3, b4⟩ := hF.limb l hl
            have r1 := rx l.1 (by omega)
            have r2 := rx l.2.1 b2
            show mTup _ _ _ = some (.tup [natD (rowF a b l.1), natD (rowF a b l.2.1), .int l.2.2], _, _)
            (repeat' (first | (show _ = _; with_reducible assumption) | with_reducible exact r1 | with_reducible exact r2 | trivial))
        · (repeat' (first | (show _ = _; with_reducible assumption) | trivial))
      · rfl
      · rw [tri_map hF ha hb hne]
        exact e11
    have ts : mCall dTuple (mCons (mLc [31] (mItems (mVar 6)) (gSet 31) (DL.ret true) (mBin dIx (mVar 13) (mVar 31))) mNil) [.im (.scr ns), .im (.hnd 0), .im d, .im F.d, .im (.int (F.n : Int)), .im (.tup (F.limbs.map limbD)), .im (.tup (F.ties.map natD)), .im (.int F.floor), .im (intsD s), .im (intsD p), .im (natD a), .im (natD b), .im (.int c), .im (.lst ((List.range F.n).map fun j => natD (rowF a b j))), a14, a15, a16, a17, a18, a19, a20, a21, a22, .un, .un, .un, .un, .un, .un, .un, .un, .un] G7 = some (.tup (F.ties.map fun t => natD (rowF a b t)), [.im (.scr ns), .im (.hnd 0), .im d, .im F.d, .im (.int (F.n : Int)), .im (.tup (F.limbs.map limbD)), .im (.tup (F.ties.map natD)), .im (.int F.floor), .im (intsD s), .im (intsD p), .im (natD a), .im (natD b), .im (.int c), .im (.lst ((List.range F.n).map fun j => natD (rowF a b j))), a14, a15, a16, a17, a18, a19, a20, a21, a22, .un, .un, .un, .un, .un, .un, .un, .un, .un], G7) := by
      apply call_run
      · apply cons_run
        · apply lc_r F.ties natD (fun t => natD (rowF a b t)) (ρx := fun t => [.im (.scr ns), .im (.hnd 0), .im d, .im F.d, .im (.int (F.n : Int)), .im (.tup (F.limbs.map limbD)), .im (.tup (F.ties.map natD)), .im (.int F.floor), .im (intsD s), .im (intsD p), .im (natD a), .im (natD b), .im (.int c), .im (.lst ((List.range F.n).map fun j => natD (rowF a b j))), a14, a15, a16, a17, a18, a19, a20, a21, a22, .un, .un, .un, .un, .un, .un, .un, .un, .im (natD t)])
          · (repeat' (first | (show _ = _; with_reducible assumption) | trivial))
          · omega
          · (repeat' (first | (show _ = _; with_reducible assumption) | trivial))
          · (repeat' (first | (show _ = _; with_reducible assumption) | trivial))
          · (repeat' (first | (show _ = _; with_reducible assumption) | trivial))
          · (repeat' (first | (show _ = _; with_reducible assumption) | trivial))
          · intro t ht
            have r1 := rx t (hF.tie t ht)
            (repeat' (first | (show _ = _; with_reducible assumption) | with_reducible exact r1 | trivial))
        · (repeat' (first | (show _ = _; with_reducible assumption) | trivial))
      · rfl
    have sub := dsub1 n1
    apply Ends.seq (ρ1 := [.im (.scr ns), .im (.hnd 0), .im d, .im F.d, .im (.int (F.n : Int)), .im (.tup (F.limbs.map limbD)), .im (.tup (F.ties.map natD)), .im (.int F.floor), .im (intsD s), .im (intsD p), .im (natD a), .im (natD b), .im (.int c), .im (.lst ((List.range F.n).map fun j => natD (rowF a b j))), .im (Bnd F a b).d, a15, a16, a17, a18, a19, a20, a21, a22, .un, .un, .un, .un, .un, .un, .un, .un, .un]) (G1 := G7)
    · refine set_r (sl := .im (Bnd F a b).d) (ρ1 := [.im (.scr ns), .im (.hnd 0), .im d, .im F.d, .im (.int (F.n : Int)), .im (.tup (F.limbs.map limbD)), .im (.tup (F.ties.map natD)), .im (.int F.floor), .im (intsD s), .im (intsD p), .im (natD a), .im (natD b), .im (.int c), .im (.lst ((List.range F.n).map fun j => natD (rowF a b j))), a14, a15, a16, a17, a18, a19, a20, a21, a22, .un, .un, .un, .un, .un, .un, .un, .un, .un]) ?_ rfl (Nat.le_of_ble_eq_true rfl)
      apply im_run
      rw [← Bnd_d hF ha hb hne]
      (repeat' (first | (show _ = _; with_reducible assumption) | with_reducible exact sub | trivial))
    have w1 := bound_v hF ha hb hne G7
    have w2 := bound_v hF hb ha hne.symm G7
    rw [← Bnd_comm] at w2
    apply Ends.seq (ρ1 := [.im (.scr ns), .im (.hnd 0), .im d, .im F.d, .im (.int (F.n : Int)), .im (.tup (F.limbs.map limbD)), .im (.tup (F.ties.map natD)), .im (.int F.floor), .im (intsD s), .im (intsD p), .im (natD a), .im (natD b), .im (.int c), .im (.lst ((List.range F.n).map fun j => natD (rowF a b j))), .im (Bnd F a b).d, .im (Bnd F a b).d, a16, a17, a18, a19, a20, a21, a22, .un, .un, .un, .un, .un, .un, .un, .un, .un]) (G1 := G7)
    · (repeat' (first | (show _ = _; with_reducible assumption) | trivial))
    refine Ends.check same_v (ρ1 := [.im (.scr ns), .im (.hnd 0), .im d, .im F.d, .im (.int (F.n : Int)), .im (.tup (F.limbs.map limbD)), .im (.tup (F.ties.map natD)), .im (.int F.floor), .im (intsD s), .im (intsD p), .im (natD a), .im (natD b), .im (.int c), .im (.lst ((List.range F.n).map fun j => natD (rowF a b j))), .im (Bnd F a b).d, .im (Bnd F a b).d, a16, a17, a18, a19, a20, a21, a22, .un, .un, .un, .un, .un, .un, .un, .un, .un]) (ρ2 := [.im (.scr ns), .im (.hnd 0), .im d, .im F.d, .im (.int (F.n : Int)), .im (.tup (F.limbs.map limbD)), .im (.tup (F.ties.map natD)), .im (.int F.floor), .im (intsD s), .im (intsD p), .im (natD a), .im (natD b), .im (.int c), .im (.lst ((List.range F.n).map fun j => natD (rowF a b j))), .im (Bnd F a b).d, .im (Bnd F a b).d, a16, a17, a18, a19, a20, a21, a22, .un, .un, .un, .un, .un, .un, .un, .un, .un]) (G1 := G7) (G2 := G7) (d := .tup [(Bnd F a b).d, (Bnd F a b).d]) (d' := .tup [(Bnd F a b).d, (Bnd F a b).d]) ?_ ?_ rfl (okD_two hB) ?_
    · (repeat' (first | (show _ = _; with_reducible assumption) | trivial))
    · (repeat' (first | (show _ = _; with_reducible assumption) | trivial))
    obtain ⟨ma, e12, hma⟩ := law_from_v hF g t ha G7
    obtain ⟨mb, e13, hmb⟩ := law_from_v hF g t hb G7
    have dmi := dmin_i (c := iat p a) (x := iat p b)
    apply Ends.seq (ρ1 := [.im (.scr ns), .im (.hnd 0), .im d, .im F.d, .im (.int (F.n : Int)), .im (.tup (F.limbs.map limbD)), .im (.tup (F.ties.map natD)), .im (.int F.floor), .im (intsD s), .im (intsD p), .im (natD a), .im (natD b), .im (.int c), .im (.lst ((List.range F.n).map fun j => natD (rowF a b j))), .im (Bnd F a b).d, .im (Bnd F a b).d, .im (.int (mnI (iat p a) (iat p b))), .im (.lst [.dk (kvsI ma), .dk (kvsI mb)]), a18, a19, a20, a21, a22, .un, .un, .un, .un, .un, .un, .un, .un, .un]) (G1 := G7)
    · (repeat' (first | (show _ = _; with_reducible assumption) | with_reducible exact pa | with_reducible exact pb | with_reducible exact dmi | trivial))
    have hsB : InR (Bnd F a b).ties.length (Bnd F a b).floor s := ⟨by
      show s.length = (F.ties.map (rowF a b)).length
      rw [List.length_map]
      exact hs.1, hs.2⟩
    have hpB := Bnd_pose hF ha hb hne g t hp
    have w3 := pose_v hB hsB hpB G7
    apply Ends.seq (ρ1 := [.im (.scr ns), .im (.hnd 0), .im d, .im F.d, .im (.int (F.n : Int)), .im (.tup (F.limbs.map limbD)), .im (.tup (F.ties.map natD)), .im (.int F.floor), .im (intsD s), .im (intsD p), .im (natD a), .im (natD b), .im (.int c), .im (.lst ((List.range F.n).map fun j => natD (rowF a b j))), .im (Bnd F a b).d, .im (Bnd F a b).d, .im (.int (mnI (iat p a) (iat p b))), .im (.lst [.dk (kvsI ma), .dk (kvsI mb)]), .im (intsD (qL F R p a b)), a19, a20, a21, a22, .un, .un, .un, .un, .un, .un, .un, .un, .un]) (G1 := G7)
    · (repeat' (first | (show _ = _; with_reducible assumption) | trivial))
    apply Ends.for (fun i ρ G' => G' = G7 ∧ ∃ c19 : Sl, ρ = [.im (.scr ns), .im (.hnd 0), .im d, .im F.d, .im (.int (F.n : Int)), .im (.tup (F.limbs.map limbD)), .im (.tup (F.ties.map natD)), .im (.int F.floor), .im (intsD s), .im (intsD p), .im (natD a), .im (natD b), .im (.int c), .im (.lst ((List.range F.n).map fun j => natD (rowF a b j))), .im (Bnd F a b).d, .im (Bnd F a b).d, .im (.int (mnI (iat p a) (iat p b))), .im (.lst [.dk (kvsI ma), .dk (kvsI mb)]), .im (intsD (qL F R p a b)), c19, a20, a21, a22, .un, .un, .un, .un, .un, .un, .un, .un, .un] ∧ (c19 = .un ∨ ∃ d, c19 = .im d))
    · apply rng_r (n := F.n)
      · (repeat' (first | (show _ = _; with_reducible assumption) | trivial))
      · omega
    · exact ⟨rfl, _, rfl, h19⟩
    rotate_left
    · rintro i dj hdj ρ G8 ⟨rfl, c19, rfl, hc19⟩
      obtain ⟨hj, rfl⟩ := get_range hdj
      obtain ⟨j, ej⟩ : ∃ j, j = i := ⟨_, rfl⟩
      rw [← ej] at hj ⊢
      refine ⟨[.im (.scr ns), .im (.hnd 0), .im d, .im F.d, .im (.int (F.n : Int)), .im (.tup (F.limbs.map limbD)), .im (.tup (F.ties.map natD)), .im (.int F.floor), .im (intsD s), .im (intsD p), .im (natD a), .im (natD b), .im (.int c), .im (.lst ((List.range F.n).map fun j => natD (rowF a b j))), .im (Bnd F a b).d, .im (Bnd F a b).d, .im (.int (mnI (iat p a) (iat p b))), .im (.lst [.dk (kvsI ma), .dk (kvsI mb)]), .im (intsD (qL F R p a b)), .im (natD j), a20, a21, a22, .un, .un, .un, .un, .un, .un, .un, .un, .un], _, by (repeat' (first | (show _ = _; with_reducible assumption) | trivial)), ?_⟩
      have rj := rx j hj
      have pj := ix_intsN (d := p) (i := j) (by omega)
      have lq : (qL F R p a b).length = F.n - 1 := by unfold qL; rw [List.length_map, List.length_range]
      have qj := ix_intsN (d := qL F R p a b) (i := rowF a b j) (by rw [lq]; exact rl j hj)
      rw [q_row hF ha hb hne g t hp hj] at qj
      have nx0 : dIx (.lst [.dk (kvsI ma), .dk (kvsI mb)]) (.int 0) = some (.dk (kvsI ma)) := rfl
      have nx1 : dIx (.lst [.dk (kvsI ma), .dk (kvsI mb)]) (.int 1) = some (.dk (kvsI mb)) := rfl
      have ga := get2_r (G := G8) (ρ := [.im (.scr ns), .im (.hnd 0), .im d, .im F.d, .im (.int (F.n : Int)), .im (.tup (F.limbs.map limbD)), .im (.tup (F.ties.map natD)), .im (.int F.floor), .im (intsD s), .im (intsD p), .im (natD a), .im (natD b), .im (.int c), .im (.lst ((List.range F.n).map fun j => natD (rowF a b j))), .im (Bnd F a b).d, .im (Bnd F a b).d, .im (.int (mnI (iat p a) (iat p b))), .im (.lst [.dk (kvsI ma), .dk (kvsI mb)]), .im (intsD (qL F R p a b)), .im (natD j), a20, a21, a22, .un, .un, .un, .un, .un, .un, .un, .un, .un]) (a := mBin dIx (mVar 17) (DL.ret (.int 0))) (b := mVar 19) (c := DL.ret (.int 99)) (ms := ma) (j := j) (x := .int 99) (by (repeat' (first | (show _ = _; with_reducible assumption) | with_reducible exact nx0 | trivial))) (var_run rfl) ret_ap rfl
      have gb := get2_r (G := G8) (ρ := [.im (.scr ns), .im (.hnd 0), .im d, .im F.d, .im (.int (F.n : Int)), .im (.tup (F.limbs.map limbD)), .im (.tup (F.ties.map natD)), .im (.int F.floor), .im (intsD s), .im (intsD p), .im (natD a), .im (natD b), .im (.int c), .im (.lst ((List.range F.n).map fun j => natD (rowF a b j))), .im (Bnd F a b).d, .im (Bnd F a b).d, .im (.int (mnI (iat p a) (iat p b))), .im (.lst [.dk (kvsI ma), .dk (kvsI mb)]), .im (intsD (qL F R p a b)), .im (natD j), a20, a21, a22, .un, .un, .un, .un, .un, .un, .un, .un, .un]) (a := mBin dIx (mVar 17) (DL.ret (.int 1))) (b := mVar 19) (c := DL.ret (.int 99)) (ms := mb) (j := j) (x := .int 99) (by (repeat' (first | (show _ = _; with_reducible assumption) | with_reducible exact nx1 | trivial))) (var_run rfl) ret_ap rfl
      rw [get99 hma hj] at ga
      rw [get99 hmb hj] at gb
      have d1 := dmin_i (c := dst R a 99 j) (x := dst R b 99 j)
      have d2 : dAdd (.int (mnI (iat p a) (iat p b))) (.int (mnI (dst R a 99 j) (dst R b 99 j))) = some (.int (mnI (iat p a) (iat p b) + mnI (dst R a 99 j) (dst R b 99 j))) := rfl
      have d3 : dMin2 [.int (iat p j), .int (mnI (iat p a) (iat p b) + mnI (dst R a 99 j) (dst R b 99 j))] = some (.int (qv R p a b j)) := dmin_i
      have d4 := neI (qv R p a b j)
      apply Ends.no (k := false) (ρ1 := [.im (.scr ns), .im (.hnd 0), .im d, .im F.d, .im (.int (F.n : Int)), .im (.tup (F.limbs.map limbD)), .im (.tup (F.ties.map natD)), .im (.int F.floor), .im (intsD s), .im (intsD p), .im (natD a), .im (natD b), .im (.int c), .im (.lst ((List.range F.n).map fun j => natD (rowF a b j))), .im (Bnd F a b).d, .im (Bnd F a b).d, .im (.int (mnI (iat p a) (iat p b))), .im (.lst [.dk (kvsI ma), .dk (kvsI mb)]), .im (intsD (qL F R p a b)), .im (natD j), a20, a21, a22, .un, .un, .un, .un, .un, .un, .un, .un, .un]) (G1 := G8)
      · (repeat' (first | (show _ = _; with_reducible assumption) | with_reducible exact rj | with_reducible exact pj | with_reducible exact qj | with_reducible exact d1 | with_reducible exact d2 | with_reducible exact d3 | with_reducible exact d4 | trivial))
      · rfl
      exact DM.Ends.nx next_r ⟨_, rfl, rfl, _, rfl, .inr ⟨_, rfl⟩⟩
    rintro ρ G8 ⟨rfl, c19, rfl, hc19⟩
    have e14 := law_limbs_of_v (triW_ok hF ha hb c1 c9) G8
    rw [List.map_append] at e14
    have e14 : S_law_limbs_of [.lst (F.limbs.map limbD ++ [.tup [natD a, natD b, .int c]])] G8 = some (.tup ((mrg (F.limbs ++ [(a, b, c)])).map limbD), G8) := e14
    have dl : mCall dList (mCons (mVar 5) mNil) [.im (.scr ns), .im (.hnd 0), .im d, .im F.d, .im (.int (F.n : Int)), .im (.tup (F.limbs.map limbD)), .im (.tup (F.ties.map natD)), .im (.int F.floor), .im (intsD s), .im (intsD p), .im (natD a), .im (natD b), .im (.int c), .im (.lst ((List.range F.n).map fun j => natD (rowF a b j))), .im (Bnd F a b).d, .im (Bnd F a b).d, .im (.int (mnI (iat p a) (iat p b))), .im (.lst [.dk (kvsI ma), .dk (kvsI mb)]), .im (intsD (qL F R p a b)), c19, a20, a21, a22, .un, .un, .un, .un, .un, .un, .un, .un, .un] G8 = some (.lst (F.limbs.map limbD), [.im (.scr ns), .im (.hnd 0), .im d, .im F.d, .im (.int (F.n : Int)), .im (.tup (F.limbs.map limbD)), .im (.tup (F.ties.map natD)), .im (.int F.floor), .im (intsD s), .im (intsD p), .im (natD a), .im (natD b), .im (.int c), .im (.lst ((List.range F.n).map fun j => natD (rowF a b j))), .im (Bnd F a b).d, .im (Bnd F a b).d, .im (.int (mnI (iat p a) (iat p b))), .im (.lst [.dk (kvsI ma), .dk (kvsI mb)]), .im (intsD (qL F R p a b)), c19, a20, a21, a22, .un, .un, .un, .un, .un, .un, .un, .un, .un], G8) := call_run (cons_run (var_run rfl) mNil_ap) rfl
    have da : dAdd (.lst (F.limbs.map limbD)) (.lst [.tup [natD a, natD b, .int c]]) = some (.lst (F.limbs.map limbD ++ [.tup [natD a, natD b, .int c]])) := dadd_lst (by rw [List.length_map]; show _ + 1 ≤ 1000000; omega)
    apply Ends.seq (ρ1 := [.im (.scr ns), .im (.hnd 0), .im d, .im F.d, .im (.int (F.n : Int)), .im (.tup (F.limbs.map limbD)), .im (.tup (F.ties.map natD)), .im (.int F.floor), .im (intsD s), .im (intsD p), .im (natD a), .im (natD b), .im (.int c), .im (.lst ((List.range F.n).map fun j => natD (rowF a b j))), .im (Wth F a b c).d, .im (Bnd F a b).d, .im (.int (mnI (iat p a) (iat p b))), .im (.lst [.dk (kvsI ma), .dk (kvsI mb)]), .im (intsD (qL F R p a b)), c19, a20, a21, a22, .un, .un, .un, .un, .un, .un, .un, .un, .un]) (G1 := G8)
    · refine set_r (sl := .im (.tup [.int (F.n : Int), .tup ((mrg (F.limbs ++ [(a, b, c)])).map limbD), .tup (F.ties.map natD), .int F.floor])) (ρ1 := [.im (.scr ns), .im (.hnd 0), .im d, .im F.d, .im (.int (F.n : Int)), .im (.tup (F.limbs.map limbD)), .im (.tup (F.ties.map natD)), .im (.int F.floor), .im (intsD s), .im (intsD p), .im (natD a), .im (natD b), .im (.int c), .im (.lst ((List.range F.n).map fun j => natD (rowF a b j))), .im (Bnd F a b).d, .im (Bnd F a b).d, .im (.int (mnI (iat p a) (iat p b))), .im (.lst [.dk (kvsI ma), .dk (kvsI mb)]), .im (intsD (qL F R p a b)), c19, a20, a21, a22, .un, .un, .un, .un, .un, .un, .un, .un, .un]) ?_ rfl (Nat.le_of_ble_eq_true rfl)
      apply im_run
      (repeat' (first | (show _ = _; with_reducible assumption) | with_reducible exact da | trivial))
    have ix1 : dIx (Wth F a b c).d (.int 1) = some (.tup ((mrg (F.limbs ++ [(a, b, c)])).map limbD)) := rfl
    have lw : dLen1 (.tup ((mrg (F.limbs ++ [(a, b, c)])).map limbD)) = some (.int ((mrg (F.limbs ++ [(a, b, c)])).length : Nat)) := by
      show some (D.int (((mrg (F.limbs ++ [(a, b, c)])).map limbD).length : Nat)) = _
      rw [List.length_map]
    have le : dLe (.int ((mrg (F.limbs ++ [(a, b, c)])).length : Nat)) (.int 12) = some (.bl (decide (((mrg (F.limbs ++ [(a, b, c)])).length : Int) ≤ 12))) := rfl
    apply Ends.ite (k := decide (((mrg (F.limbs ++ [(a, b, c)])).length : Int) ≤ 12)) (ρ1 := [.im (.scr ns), .im (.hnd 0), .im d, .im F.d, .im (.int (F.n : Int)), .im (.tup (F.limbs.map limbD)), .im (.tup (F.ties.map natD)), .im (.int F.floor), .im (intsD s), .im (intsD p), .im (natD a), .im (natD b), .im (.int c), .im (.lst ((List.range F.n).map fun j => natD (rowF a b j))), .im (Wth F a b c).d, .im (Bnd F a b).d, .im (.int (mnI (iat p a) (iat p b))), .im (.lst [.dk (kvsI ma), .dk (kvsI mb)]), .im (intsD (qL F R p a b)), c19, a20, a21, a22, .un, .un, .un, .un, .un, .un, .un, .un, .un]) (G1 := G8)
    · (repeat' (first | (show _ = _; with_reducible assumption) | with_reducible exact ix1 | with_reducible exact lw | with_reducible exact le | trivial))
    rotate_left
    · intro _
      exact DM.Ends.nx next_r ⟨_, rfl, rest _ _ _ _ _ _ _ G8 hG7 hc19⟩
    intro h12
    have h12 := of_decide_eq_true h12
    have hW := Wth_ok hF ha hb c1 c9 (by omega)
    have w4 := with_limb_v hF ha hb hne c1 c9 (by omega) G8
    have ew : mrg (F.limbs ++ [(b, a, c)]) = mrg (F.limbs ++ [(a, b, c)]) := congrArg Fig.limbs (Wth_comm (F := F) (a := b) (b := a) (c := c))
    have w5 := with_limb_v hF hb ha hne.symm c1 c9 (by rw [ew]; omega) G8
    rw [Wth_comm] at w5
    obtain ⟨q, hq⟩ := pose_ex hW (s := s) hs
    have w6 := pose_v hW hs hq G8
    have w7 := none_deeper_v (p := p) (q := q) (by omega) (fun i hi => Wth_less hF ha hb c1 c9 hp hq i (by omega)) G8
    refine Ends.check same_v (ρ1 := [.im (.scr ns), .im (.hnd 0), .im d, .im F.d, .im (.int (F.n : Int)), .im (.tup (F.limbs.map limbD)), .im (.tup (F.ties.map natD)), .im (.int F.floor), .im (intsD s), .im (intsD p), .im (natD a), .im (natD b), .im (.int c), .im (.lst ((List.range F.n).map fun j => natD (rowF a b j))), .im (Wth F a b c).d, .im (Bnd F a b).d, .im (.int (mnI (iat p a) (iat p b))), .im (.lst [.dk (kvsI ma), .dk (kvsI mb)]), .im (intsD (qL F R p a b)), c19, a20, a21, a22, .un, .un, .un, .un, .un, .un, .un, .un, .un]) (ρ2 := [.im (.scr ns), .im (.hnd 0), .im d, .im F.d, .im (.int (F.n : Int)), .im (.tup (F.limbs.map limbD)), .im (.tup (F.ties.map natD)), .im (.int F.floor), .im (intsD s), .im (intsD p), .im (natD a), .im (natD b), .im (.int c), .im (.lst ((List.range F.n).map fun j => natD (rowF a b j))), .im (Wth F a b c).d, .im (Bnd F a b).d, .im (.int (mnI (iat p a) (iat p b))), .im (.lst [.dk (kvsI ma), .dk (kvsI mb)]), .im (intsD (qL F R p a b)), c19, a20, a21, a22, .un, .un, .un, .un, .un, .un, .un, .un, .un]) (G1 := G8) (G2 := G8) (d := .tup [(Wth F a b c).d, (Wth F a b c).d]) (d' := .tup [(Wth F a b c).d, (Wth F a b c).d]) ?_ ?_ rfl (okD_two hW) ?_
    · (repeat' (first | (show _ = _; with_reducible assumption) | trivial))
    · (repeat' (first | (show _ = _; with_reducible assumption) | trivial))
    apply Ends.no (k := false) (ρ1 := [.im (.scr ns), .im (.hnd 0), .im d, .im F.d, .im (.int (F.n : Int)), .im (.tup (F.limbs.map limbD)), .im (.tup (F.ties.map natD)), .im (.int F.floor), .im (intsD s), .im (intsD p), .im (natD a), .im (natD b), .im (.int c), .im (.lst ((List.range F.n).map fun j => natD (rowF a b j))), .im (Wth F a b c).d, .im (Bnd F a b).d, .im (.int (mnI (iat p a) (iat p b))), .im (.lst [.dk (kvsI ma), .dk (kvsI mb)]), .im (intsD (qL F R p a b)), c19, a20, a21, a22, .un, .un, .un, .un, .un, .un, .un, .un, .un]) (G1 := G8)
    · apply not_t
      (repeat' (first | (show _ = _; with_reducible assumption) | trivial))
    · rfl
    exact DM.Ends.nx next_r ⟨_, rfl, rest _ _ _ _ _ _ _ G8 hG7 hc19⟩
  rintro ρ G2 ⟨hG2, a2, a3, a4, a5, a6, a7, a8, a9, a10, a11, a12, a13, a14, a15, a16, a17, a18, a19, a20, a21, a22, rfl, h19, h20⟩
  obtain ⟨ts, G3, e2, hG3, lts, hts⟩ := lci_r (vs := [20]) (it := mRng1 (DL.ret (.int 4))) (tg := gSet 20) (te := mBin dAdd (DL.ret (.int 1)) (mFn 2 S_law_roll (mCons (mVar 1) (mCons (DL.ret (.int 9)) mNil)))) (ρ := [.im (.scr ns), .im (.hnd 0), a2, a3, a4, a5, a6, a7, a8, a9, a10, a11, a12, a13, a14, a15, a16, a17, a18, a19, a20, a21, a22, .un, .un, .un, .un, .un, .un, .un, .un, .un]) (ρ1 := [.im (.scr ns), .im (.hnd 0), a2, a3, a4, a5, a6, a7, a8, a9, a10, a11, a12, a13, a14, a15, a16, a17, a18, a19, a20, a21, a22, .un, .un, .un, .un, .un, .un, .un, .un, .un]) (ρw := [.im (.scr ns), .im (.hnd 0), a2, a3, a4, a5, a6, a7, a8, a9, a10, a11, a12, a13, a14, a15, a16, a17, a18, a19, .un, a21, a22, .un, .un, .un, .un, .un, .un, .un, .un, .un]) (G := G2) (G1 := G2) (List.range 4) natD D.int (fun x : Int => 1 ≤ x ∧ x ≤ 9) (Cup 0) (ρx := fun j => [.im (.scr ns), .im (.hnd 0), a2, a3, a4, a5, a6, a7, a8, a9, a10, a11, a12, a13, a14, a15, a16, a17, a18, a19, .im (natD j), a21, a22, .un, .un, .un, .un, .un, .un, .un, .un, .un]) (rng_k 4 4 rfl (by omega)) (by rw [List.length_range]; omega) (by rcases h20 with e | ⟨d, e⟩ <;> rw [e] <;> rfl) rfl (fun _ _ => rfl) (fun _ _ => rfl) hG2 (fun j hj G' hG' => by
    obtain ⟨r, G2, e5, hG2, r0, r1⟩ := roll_ok G' 9 hG' (by omega) (by omega)
    exact ⟨1 + r, G2, by (repeat' (first | (show _ = _; with_reducible assumption) | trivial)), hG2, by omega⟩)
  rw [List.length_range] at lts
  obtain ⟨u, v, w, z, rfl⟩ := len4 lts
  have hu := hts u (by simp)
  have hv := hts v (by simp)
  have hw := hts w (by simp)
  have hz := hts z (by simp)
  have hRg := Rg_ok hu hz hv hw
  have hP2 := P2_ok hu
  apply Ends.seq (ρ1 := [.im (.scr ns), .im (.hnd 0), a2, a3, a4, a5, a6, a7, a8, a9, a10, a11, a12, a13, a14, a15, a16, a17, a18, a19, a20, a21, a22, .im (.int u), .im (.int v), .im (.int w), .im (.int z), .un, .un, .un, .un, .un]) (G1 := G3)
  · apply asg_run e2
    show xUnl 4 _ (.lst [.int u, .int v, .int w, .int z]) _ _ = _
    refine xunl_run rfl ?_
    (repeat' (first | (show _ = _; with_reducible assumption) | trivial))
  apply Ends.seq (ρ1 := [.im (.scr ns), .im (.hnd 0), a2, a3, a4, a5, a6, a7, a8, a9, a10, a11, a12, a13, a14, a15, a16, a17, a18, a19, a20, a21, a22, .im (.int u), .im (.int v), .im (.int w), .im (.int z), .im (Rg u z v w).d, .un, .un, .un, .un]) (G1 := G3)
  · show sSet _ _ _ _ = some (.nx [.im (.scr ns), .im (.hnd 0), a2, a3, a4, a5, a6, a7, a8, a9, a10, a11, a12, a13, a14, a15, a16, a17, a18, a19, a20, a21, a22, .im (.int u), .im (.int v), .im (.int w), .im (.int z), .im (.tup [.int 4, .tup [.tup [.int 0, .int 1, .int u], .tup [.int 0, .int 3, .int z], .tup [.int 1, .int 2, .int v], .tup [.int 2, .int 3, .int w]], .tup [.int 0, .int 3], .int 20]), .un, .un, .un, .un], G3)
    (repeat' (first | (show _ = _; with_reducible assumption) | trivial))
  have b1 := bound_v hRg (a := 0) (b := 2) (by show 0 < 4; omega) (by show 2 < 4; omega) (by omega) G3
  have b2 := bound_v hRg (a := 3) (b := 1) (by show 3 < 4; omega) (by show 1 < 4; omega) (by omega) G3
  have b3 := bound_v hP2 (a := 0) (b := 1) (by show 0 < 2; omega) (by show 1 < 2; omega) (by omega) G3
  have b4 := with_limb_v hRg (a := 1) (b := 0) (by show 1 < 4; omega) (by show 0 < 4; omega) (by omega) hv.1 hv.2 (by rw [m4]; exact Nat.le_of_ble_eq_true rfl) G3
  have k1 : (Bnd (Rg u z v w) 0 2).d = .tup [.int 3, .tup [.tup [.int 0, .int 1, .int (mnI v u)], .tup [.int 0, .int 2, .int (mnI w z)]], .tup [.int 0, .int 2], .int 20] := by
    unfold Bnd
    rw [m1]
    rfl
  have k2 : (Bnd (Rg u z v w) 3 1).d = .tup [.int 3, .tup [.tup [.int 0, .int 1, .int (mnI z u)], .tup [.int 1, .int 2, .int (mnI w v)]], .tup [.int 0, .int 1], .int 20] := by
    unfold Bnd
    rw [m2]
    rfl
  have k3 : (Bnd (P2 u) 0 1).d = .tup [.int 1, .tup [], .tup [.int 0, .int 0], .int 5] := by
    unfold Bnd
    rw [m3]
    rfl
  have k4 : dIx (Wth (Rg u z v w) 1 0 v).d (.int 1) = some (.tup [.tup [.int 0, .int 1, .int (mnI v u)], .tup [.int 0, .int 3, .int z], .tup [.int 1, .int 2, .int v], .tup [.int 2, .int 3, .int w]]) := by
    unfold Wth
    rw [m4]
    rfl
  rw [k1] at b1
  rw [k2] at b2
  rw [k3] at b3
  have b1 : S_bound [(Rg u z v w).d, .int 0, .int 2] G3 = some (.tup [.int 3, .tup [.tup [.int 0, .int 1, .int (mnI v u)], .tup [.int 0, .int 2, .int (mnI w z)]], .tup [.int 0, .int 2], .int 20], G3) := b1
  have b2 : S_bound [(Rg u z v w).d, .int 3, .int 1] G3 = some (.tup [.int 3, .tup [.tup [.int 0, .int 1, .int (mnI z u)], .tup [.int 1, .int 2, .int (mnI w v)]], .tup [.int 0, .int 1], .int 20], G3) := b2
  have b3 : S_bound [.tup [.int 2, .tup [.tup [.int 0, .int 1, .int u]], .tup [.int 1, .int 0], .int 5], .int 0, .int 1] G3 = some (.tup [.int 1, .tup [], .tup [.int 0, .int 0], .int 5], G3) := b3
  have b4 : S_with_limb [(Rg u z v w).d, .int 1, .int 0, .int v] G3 = some ((Wth (Rg u z v w) 1 0 v).d, G3) := b4
  have k5 : dIx (.tup [.tup [.int 0, .int 1, .int (mnI v u)], .tup [.int 0, .int 3, .int z], .tup [.int 1, .int 2, .int v], .tup [.int 2, .int 3, .int w]]) (.int 0) = some (.tup [.int 0, .int 1, .int (mnI v u)]) := rfl
  apply Ends.seq (ρ1 := [.im (.scr ns), .im (.hnd 0), a2, a3, a4, a5, a6, a7, a8, a9, a10, a11, a12, a13, a14, .im (.tup [.tup [.int 3, .tup [.tup [.int 0, .int 1, .int (mnI v u)], .tup [.int 0, .int 2, .int (mnI w z)]], .tup [.int 0, .int 2], .int 20], .tup [.int 3, .tup [.tup [.int 0, .int 1, .int (mnI z u)], .tup [.int 1, .int 2, .int (mnI w v)]], .tup [.int 0, .int 1], .int 20], .tup [.int 1, .tup [], .tup [.int 0, .int 0], .int 5], .tup [.int 0, .int 1, .int (mnI v u)]]), a16, a17, a18, a19, a20, a21, a22, .im (.int u), .im (.int v), .im (.int w), .im (.int z), .im (Rg u z v w).d, .un, .un, .un, .un]) (G1 := G3)
  · refine set_r (sl := .im (.tup [.tup [.int 3, .tup [.tup [.int 0, .int 1, .int (mnI v u)], .tup [.int 0, .int 2, .int (mnI w z)]], .tup [.int 0, .int 2], .int 20], .tup [.int 3, .tup [.tup [.int 0, .int 1, .int (mnI z u)], .tup [.int 1, .int 2, .int (mnI w v)]], .tup [.int 0, .int 1], .int 20], .tup [.int 1, .tup [], .tup [.int 0, .int 0], .int 5], .tup [.int 0, .int 1, .int (mnI v u)]])) (ρ1 := [.im (.scr ns), .im (.hnd 0), a2, a3, a4, a5, a6, a7, a8, a9, a10, a11, a12, a13, a14, a15, a16, a17, a18, a19, a20, a21, a22, .im (.int u), .im (.int v), .im (.int w), .im (.int z), .im (Rg u z v w).d, .un, .un, .un, .un]) ?_ rfl (Nat.le_of_ble_eq_true rfl)
    apply im_run
    (repeat' (first | (show _ = _; with_reducible assumption) | with_reducible exact k4 | with_reducible exact k5 | trivial))
  have m1 := dmin_i (c := u) (x := v)
  have m2 := dmin_i (c := w) (x := z)
  have m3 := dmin_i (c := u) (x := z)
  have m4 := dmin_i (c := v) (x := w)
  rw [mn_comm] at m1 m2 m3 m4
  rw [mn_comm z w] at m2
  apply Ends.ret (d := .bl true)
  · refine same_r same_v (ρ1 := [.im (.scr ns), .im (.hnd 0), a2, a3, a4, a5, a6, a7, a8, a9, a10, a11, a12, a13, a14, .im (.tup [.tup [.int 3, .tup [.tup [.int 0, .int 1, .int (mnI v u)], .tup [.int 0, .int 2, .int (mnI w z)]], .tup [.int 0, .int 2], .int 20], .tup [.int 3, .tup [.tup [.int 0, .int 1, .int (mnI z u)], .tup [.int 1, .int 2, .int (mnI w v)]], .tup [.int 0, .int 1], .int 20], .tup [.int 1, .tup [], .tup [.int 0, .int 0], .int 5], .tup [.int 0, .int 1, .int (mnI v u)]]), a16, a17, a18, a19, a20, a21, a22, .im (.int u), .im (.int v), .im (.int w), .im (.int z), .im (Rg u z v w).d, .un, .un, .un, .un]) (ρ2 := [.im (.scr ns), .im (.hnd 0), a2, a3, a4, a5, a6, a7, a8, a9, a10, a11, a12, a13, a14, .im (.tup [.tup [.int 3, .tup [.tup [.int 0, .int 1, .int (mnI v u)], .tup [.int 0, .int 2, .int (mnI w z)]], .tup [.int 0, .int 2], .int 20], .tup [.int 3, .tup [.tup [.int 0, .int 1, .int (mnI z u)], .tup [.int 1, .int 2, .int (mnI w v)]], .tup [.int 0, .int 1], .int 20], .tup [.int 1, .tup [], .tup [.int 0, .int 0], .int 5], .tup [.int 0, .int 1, .int (mnI v u)]]), a16, a17, a18, a19, a20, a21, a22, .im (.int u), .im (.int v), .im (.int w), .im (.int z), .im (Rg u z v w).d, .un, .un, .un, .un]) (G1 := G3) (G2 := G3) (d := .tup [.tup [.int 3, .tup [.tup [.int 0, .int 1, .int (mnI v u)], .tup [.int 0, .int 2, .int (mnI w z)]], .tup [.int 0, .int 2], .int 20], .tup [.int 3, .tup [.tup [.int 0, .int 1, .int (mnI z u)], .tup [.int 1, .int 2, .int (mnI w v)]], .tup [.int 0, .int 1], .int 20], .tup [.int 1, .tup [], .tup [.int 0, .int 0], .int 5], .tup [.int 0, .int 1, .int (mnI v u)]]) (d' := .tup [.tup [.int 3, .tup [.tup [.int 0, .int 1, .int (mnI v u)], .tup [.int 0, .int 2, .int (mnI w z)]], .tup [.int 0, .int 2], .int 20], .tup [.int 3, .tup [.tup [.int 0, .int 1, .int (mnI z u)], .tup [.int 1, .int 2, .int (mnI w v)]], .tup [.int 0, .int 1], .int 20], .tup [.int 1, .tup [], .tup [.int 0, .int 0], .int 5], .tup [.int 0, .int 1, .int (mnI v u)]]) (var_run rfl) ?_ rfl rfl
    (repeat' (first | (show _ = _; with_reducible assumption) | with_reducible exact m1 | with_reducible exact m2 | with_reducible exact m3 | with_reducible exact m4 | trivial))
  · rfl
end L_k59

namespace L_k59
open PySem PySem.Spec PyProof.Rows L2 DL
def d_is_whole : He.DefD := ⟨("is_whole", none), "is_whole", "is_whole", defArgs (top 12), defBody (top 12), defScope (top 12), [], []⟩
def d_is_tuple_of : He.DefD := ⟨("is_tuple_of", none), "is_tuple_of", "is_tuple_of", defArgs (top 13), defBody (top 13), defScope (top 13), [], []⟩
def d_fits_limb : He.DefD := ⟨("fits_limb", none), "fits_limb", "fits_limb", defArgs (top 14), defBody (top 14), defScope (top 14), [], []⟩
def d_fits_figure : He.DefD := ⟨("fits_figure", none), "fits_figure", "fits_figure", defArgs (top 15), defBody (top 15), defScope (top 15), [], []⟩
def d_need_figure : He.DefD := ⟨("need_figure", none), "need_figure", "need_figure", defArgs (top 16), defBody (top 16), defScope (top 16), [], []⟩
def d_fits_joint : He.DefD := ⟨("fits_joint", none), "fits_joint", "fits_joint", defArgs (top 17), defBody (top 17), defScope (top 17), [], []⟩
def d_need_joint : He.DefD := ⟨("need_joint", none), "need_joint", "need_joint", defArgs (top 18), defBody (top 18), defScope (top 18), [], []⟩
def d_fits_setting : He.DefD := ⟨("fits_setting", none), "fits_setting", "fits_setting", defArgs (top 19), defBody (top 19), defScope (top 19), [], []⟩
def d_need_setting : He.DefD := ⟨("need_setting", none), "need_setting", "need_setting", defArgs (top 20), defBody (top 20), defScope (top 20), [], []⟩
def d_need_set : He.DefD := ⟨("need_set", none), "need_set", "need_set", defArgs (top 21), defBody (top 21), defScope (top 21), [], []⟩
def d_table_of : He.DefD := ⟨("table_of", none), "table_of", "table_of", defArgs (top 22), defBody (top 22), defScope (top 22), [], []⟩
def d_pose_by : He.DefD := ⟨("pose_by", none), "pose_by", "pose_by", defArgs (top 24), defBody (top 24), defScope (top 24), [], []⟩
def d_pose_in : He.DefD := ⟨("pose_in", none), "pose_in", "pose_in", defArgs (top 25), defBody (top 25), defScope (top 25), [], []⟩
def d_pose : He.DefD := ⟨("pose", none), "pose", "pose", defArgs (top 26), defBody (top 26), defScope (top 26), [], []⟩
def d_limbs_of : He.DefD := ⟨("limbs_of", none), "limbs_of", "limbs_of", defArgs (top 28), defBody (top 28), defScope (top 28), [], []⟩
def d_bound : He.DefD := ⟨("bound", none), "bound", "bound", defArgs (top 29), defBody (top 29), defScope (top 29), [], []⟩
def d_with_limb : He.DefD := ⟨("with_limb", none), "with_limb", "with_limb", defArgs (top 30), defBody (top 30), defScope (top 30), [], []⟩
def d_with_string : He.DefD := ⟨("with_string", none), "with_string", "with_string", defArgs (top 31), defBody (top 31), defScope (top 31), [], []⟩
def d_law_cup : He.DefD := ⟨("_law_cup", none), "_law_cup", "_law_cup", defArgs (top 33), defBody (top 33), defScope (top 33), [], []⟩
def d_law_roll : He.DefD := ⟨("_law_roll", none), "_law_roll", "_law_roll", defArgs (top 34), defBody (top 34), defScope (top 34), [], []⟩
def d_law_some : He.DefD := ⟨("_law_some", none), "_law_some", "_law_some", defArgs (top 35), defBody (top 35), defScope (top 35), [], []⟩
def d_law_same : He.DefD := ⟨("_law_same", none), "_law_same", "_law_same", defArgs (top 36), defBody (top 36), defScope (top 36), [], []⟩
def d_law_figure : He.DefD := ⟨("_law_figure", none), "_law_figure", "_law_figure", defArgs (top 37), defBody (top 37), defScope (top 37), [], []⟩
def d_law_setting : He.DefD := ⟨("_law_setting", none), "_law_setting", "_law_setting", defArgs (top 38), defBody (top 38), defScope (top 38), [], []⟩
def d_law_from : He.DefD := ⟨("_law_from", none), "_law_from", "_law_from", defArgs (top 39), defBody (top 39), defScope (top 39), [], []⟩
def d_law_pose : He.DefD := ⟨("_law_pose", none), "_law_pose", "_law_pose", defArgs (top 40), defBody (top 40), defScope (top 40), [], []⟩
def d_law_shift : He.DefD := ⟨("_law_shift", none), "_law_shift", "_law_shift", defArgs (top 41), defBody (top 41), defScope (top 41), [], []⟩
def d_law_limbs_of : He.DefD := ⟨("_law_limbs_of", none), "_law_limbs_of", "_law_limbs_of", defArgs (top 42), defBody (top 42), defScope (top 42), [], []⟩
def d_law_none_deeper : He.DefD := ⟨("_law_none_deeper", none), "_law_none_deeper", "_law_none_deeper", defArgs (top 43), defBody (top 43), defScope (top 43), [], []⟩
def d_law : He.DefD := ⟨("law", none), "law", "law", defArgs (top 44), defBody (top 44), defScope (top 44), [], []⟩
def fn : List He.DefD := [d_is_whole, d_is_tuple_of, d_fits_limb, d_fits_figure, d_need_figure, d_fits_joint, d_need_joint, d_fits_setting, d_need_setting, d_need_set, d_table_of, d_pose_by, d_pose_in, d_pose, d_limbs_of, d_bound, d_with_limb, d_with_string, d_law_cup, d_law_roll, d_law_some, d_law_same, d_law_figure, d_law_setting, d_law_from, d_law_pose, d_law_shift, d_law_limbs_of, d_law_none_deeper, d_law]
def fa : List He.Fa := [.glo "is_whole", .glo "is_tuple_of", .glo "fits_limb", .glo "fits_figure", .glo "need_figure", .glo "fits_joint", .glo "need_joint", .glo "fits_setting", .glo "need_setting", .glo "need_set", .glo "table_of", .glo "pose_by", .glo "pose_in", .glo "pose", .glo "limbs_of", .glo "bound", .glo "with_limb", .glo "with_string", .glo "_law_cup", .glo "_law_roll", .glo "_law_some", .glo "_law_same", .glo "_law_figure", .glo "_law_setting", .glo "_law_from", .glo "_law_pose", .glo "_law_shift", .glo "_law_limbs_of", .glo "_law_none_deeper", .glo "law", .free "abs", .free "all", .free "bool", .free "int", .free "isinstance", .free "len", .free "list", .free "max", .free "min", .free "range", .free "sorted", .free "str", .free "tuple", .free "zip", .int "JOINTS" 8, .int "LIMBS" 12, .int "STRINGS" 6, .int "LENGTH" 9, .int "FLOOR" 30]
def loose0 : List PySem.Str := ["is_whole", "is_tuple_of", "fits_limb", "fits_figure", "need_figure", "fits_joint", "need_joint", "fits_setting", "need_setting", "need_set", "table_of", "pose_by", "pose_in", "pose", "limbs_of", "bound", "with_limb", "with_string", "_law_cup", "_law_roll"]
def loose1 : List PySem.Str := ["_law_some", "_law_same", "_law_figure", "_law_setting", "_law_from", "_law_pose", "_law_shift", "_law_limbs_of", "_law_none_deeper", "LimbError", "InvalidFigure", "InvalidJoint", "InvalidSetting", "InvalidNumber", "JOINTS", "LIMBS", "STRINGS", "LENGTH", "FLOOR"]
def loose : List PySem.Str := loose0 ++ loose1
abbrev R : PySem.W.OpenRow := PySem.W.OpenLaw.row PySem.Challenge.rw_hungstage_k59_whole_bound_joints_and_mor
abbrev hk : PySem.W.Hook := He.hookD 4 fa fn
def ob (s : PySem.W.SharedT) : He.AlD := He.obsDG 4 fa fn (HandSHeadRun.getT s)
theorem ob_eq (s : PySem.W.SharedT) : ob s = hk.obs s.abs := He.obsDG_eq (HandSHeadRun.getT_eq s)
theorem run (w : World) : HandSHeadRun.RunEq R (PySem.W.view R.prog [44]) hk ob 6000 loose w := by
  intro os
  kernel_rfl
theorem facts {P : Program} {w : World} {K : PySem.W.Frag} {h : Heap} {mg : PySem.Str → Option Value} {f : Addr} (X : K.In h) (G : h.Ns mainGlobals mg) (hfa : mg ("law" : PySem.Str) = some (.ref f)) (c : He.SaysD fa fn K) :
    ∃ fd : FuncData, (∀ (s : Shared) (v : Value), BindsTo s fd ⟨[v], []⟩ [("script", v)]) ∧ ∀ base : Heap, K.In base → base.Ns mainGlobals mg → FnOk P w K mg base CX0 10 f fd ["script"] (spD K 1 S_law) := by
  obtain ⟨fd_is_whole, F_is_whole⟩ := c.def_ 0 (d := d_is_whole) rfl
  obtain ⟨fd_is_tuple_of, F_is_tuple_of⟩ := c.def_ 1 (d := d_is_tuple_of) rfl
  obtain ⟨fd_fits_limb, F_fits_limb⟩ := c.def_ 2 (d := d_fits_limb) rfl
  obtain ⟨fd_fits_figure, F_fits_figure⟩ := c.def_ 3 (d := d_fits_figure) rfl
  obtain ⟨fd_need_figure, F_need_figure⟩ := c.def_ 4 (d := d_need_figure) rfl
  obtain ⟨fd_fits_joint, F_fits_joint⟩ := c.def_ 5 (d := d_fits_joint) rfl
  obtain ⟨fd_need_joint, F_need_joint⟩ := c.def_ 6 (d := d_need_joint) rfl
  obtain ⟨fd_fits_setting, F_fits_setting⟩ := c.def_ 7 (d := d_fits_setting) rfl
  obtain ⟨fd_need_setting, F_need_setting⟩ := c.def_ 8 (d := d_need_setting) rfl
  obtain ⟨fd_need_set, F_need_set⟩ := c.def_ 9 (d := d_need_set) rfl
  obtain ⟨fd_table_of, F_table_of⟩ := c.def_ 10 (d := d_table_of) rfl
  obtain ⟨fd_pose_by, F_pose_by⟩ := c.def_ 11 (d := d_pose_by) rfl
  obtain ⟨fd_pose_in, F_pose_in⟩ := c.def_ 12 (d := d_pose_in) rfl
  obtain ⟨fd_pose, F_pose⟩ := c.def_ 13 (d := d_pose) rfl
  obtain ⟨fd_limbs_of, F_limbs_of⟩ := c.def_ 14 (d := d_limbs_of) rfl
  obtain ⟨fd_bound, F_bound⟩ := c.def_ 15 (d := d_bound) rfl
  obtain ⟨fd_with_limb, F_with_limb⟩ := c.def_ 16 (d := d_with_limb) rfl
  obtain ⟨fd_with_string, F_with_string⟩ := c.def_ 17 (d := d_with_string) rfl
  obtain ⟨fd_law_cup, F_law_cup⟩ := c.def_ 18 (d := d_law_cup) rfl
  obtain ⟨fd_law_roll, F_law_roll⟩ := c.def_ 19 (d := d_law_roll) rfl
  obtain ⟨fd_law_some, F_law_some⟩ := c.def_ 20 (d := d_law_some) rfl
  obtain ⟨fd_law_same, F_law_same⟩ := c.def_ 21 (d := d_law_same) rfl
  obtain ⟨fd_law_figure, F_law_figure⟩ := c.def_ 22 (d := d_law_figure) rfl
  obtain ⟨fd_law_setting, F_law_setting⟩ := c.def_ 23 (d := d_law_setting) rfl
  obtain ⟨fd_law_from, F_law_from⟩ := c.def_ 24 (d := d_law_from) rfl
  obtain ⟨fd_law_pose, F_law_pose⟩ := c.def_ 25 (d := d_law_pose) rfl
  obtain ⟨fd_law_shift, F_law_shift⟩ := c.def_ 26 (d := d_law_shift) rfl
  obtain ⟨fd_law_limbs_of, F_law_limbs_of⟩ := c.def_ 27 (d := d_law_limbs_of) rfl
  obtain ⟨fd_law_none_deeper, F_law_none_deeper⟩ := c.def_ 28 (d := d_law_none_deeper) rfl
  obtain ⟨fd_law, F_law⟩ := c.def_ 29 (d := d_law) rfl
  have g_is_whole := He.glo_ok X G (c.fact 0 (f := .glo "is_whole") rfl)
  have g_is_tuple_of := He.glo_ok X G (c.fact 1 (f := .glo "is_tuple_of") rfl)
  have g_fits_limb := He.glo_ok X G (c.fact 2 (f := .glo "fits_limb") rfl)
  have g_fits_figure := He.glo_ok X G (c.fact 3 (f := .glo "fits_figure") rfl)
  have g_need_figure := He.glo_ok X G (c.fact 4 (f := .glo "need_figure") rfl)
  have g_fits_joint := He.glo_ok X G (c.fact 5 (f := .glo "fits_joint") rfl)
  have g_need_joint := He.glo_ok X G (c.fact 6 (f := .glo "need_joint") rfl)
  have g_fits_setting := He.glo_ok X G (c.fact 7 (f := .glo "fits_setting") rfl)
  have g_need_setting := He.glo_ok X G (c.fact 8 (f := .glo "need_setting") rfl)
  have g_need_set := He.glo_ok X G (c.fact 9 (f := .glo "need_set") rfl)
  have g_table_of := He.glo_ok X G (c.fact 10 (f := .glo "table_of") rfl)
  have g_pose_by := He.glo_ok X G (c.fact 11 (f := .glo "pose_by") rfl)
  have g_pose_in := He.glo_ok X G (c.fact 12 (f := .glo "pose_in") rfl)
  have g_pose := He.glo_ok X G (c.fact 13 (f := .glo "pose") rfl)
  have g_limbs_of := He.glo_ok X G (c.fact 14 (f := .glo "limbs_of") rfl)
  have g_bound := He.glo_ok X G (c.fact 15 (f := .glo "bound") rfl)
  have g_with_limb := He.glo_ok X G (c.fact 16 (f := .glo "with_limb") rfl)
  have g_with_string := He.glo_ok X G (c.fact 17 (f := .glo "with_string") rfl)
  have g_law_cup := He.glo_ok X G (c.fact 18 (f := .glo "_law_cup") rfl)
  have g_law_roll := He.glo_ok X G (c.fact 19 (f := .glo "_law_roll") rfl)
  have g_law_some := He.glo_ok X G (c.fact 20 (f := .glo "_law_some") rfl)
  have g_law_same := He.glo_ok X G (c.fact 21 (f := .glo "_law_same") rfl)
  have g_law_figure := He.glo_ok X G (c.fact 22 (f := .glo "_law_figure") rfl)
  have g_law_setting := He.glo_ok X G (c.fact 23 (f := .glo "_law_setting") rfl)
  have g_law_from := He.glo_ok X G (c.fact 24 (f := .glo "_law_from") rfl)
  have g_law_pose := He.glo_ok X G (c.fact 25 (f := .glo "_law_pose") rfl)
  have g_law_shift := He.glo_ok X G (c.fact 26 (f := .glo "_law_shift") rfl)
  have g_law_limbs_of := He.glo_ok X G (c.fact 27 (f := .glo "_law_limbs_of") rfl)
  have g_law_none_deeper := He.glo_ok X G (c.fact 28 (f := .glo "_law_none_deeper") rfl)
  have g_law := He.glo_ok X G (c.fact 29 (f := .glo "law") rfl)
  have m_abs := He.free_ok X G (c.fact 30 (f := .free "abs") rfl)
  have m_all := He.free_ok X G (c.fact 31 (f := .free "all") rfl)
  have m_bool := He.free_ok X G (c.fact 32 (f := .free "bool") rfl)
  have m_int := He.free_ok X G (c.fact 33 (f := .free "int") rfl)
  have m_isinstance := He.free_ok X G (c.fact 34 (f := .free "isinstance") rfl)
  have m_len := He.free_ok X G (c.fact 35 (f := .free "len") rfl)
  have m_list := He.free_ok X G (c.fact 36 (f := .free "list") rfl)
  have m_max := He.free_ok X G (c.fact 37 (f := .free "max") rfl)
  have m_min := He.free_ok X G (c.fact 38 (f := .free "min") rfl)
  have m_range := He.free_ok X G (c.fact 39 (f := .free "range") rfl)
  have m_sorted := He.free_ok X G (c.fact 40 (f := .free "sorted") rfl)
  have m_str := He.free_ok X G (c.fact 41 (f := .free "str") rfl)
  have m_tuple := He.free_ok X G (c.fact 42 (f := .free "tuple") rfl)
  have m_zip := He.free_ok X G (c.fact 43 (f := .free "zip") rfl)
  have k_JOINTS := He.int_ok X G (c.fact 44 (f := .int "JOINTS" 8) rfl)
  have k_LIMBS := He.int_ok X G (c.fact 45 (f := .int "LIMBS" 12) rfl)
  have k_STRINGS := He.int_ok X G (c.fact 46 (f := .int "STRINGS" 6) rfl)
  have k_LENGTH := He.int_ok X G (c.fact 47 (f := .int "LENGTH" 9) rfl)
  have k_FLOOR := He.int_ok X G (c.fact 48 (f := .int "FLOOR" 30) rfl)
  have e := hfa.symm.trans g_law
  cases e
  have b := FunD.bindsA (ps := ["script"]) F_law fun _ _ _ _ _ _ us hl => match us, hl with | [_], _ => rfl
  refine ⟨fd_law, fun s v => b s [v] rfl, fun base _ _ => ?_⟩
  have c_is_whole := C_is_whole (P := P) (w := w) (base := base) F_is_whole g_is_whole m_bool m_int m_isinstance
  have c_is_tuple_of := C_is_tuple_of (P := P) (w := w) (base := base) F_is_tuple_of g_is_tuple_of m_isinstance m_len m_tuple
  have c_fits_limb := C_fits_limb (P := P) (w := w) (base := base) F_fits_limb g_fits_limb c_is_whole c_is_tuple_of k_LENGTH
  have c_fits_figure := C_fits_figure (P := P) (w := w) (base := base) F_fits_figure g_fits_figure c_is_whole c_is_tuple_of c_fits_limb m_all m_zip k_FLOOR k_JOINTS k_LIMBS k_STRINGS
  have c_need_figure := C_need_figure (P := P) (w := w) (base := base) F_need_figure g_need_figure c_fits_figure
  have c_fits_joint := C_fits_joint (P := P) (w := w) (base := base) F_fits_joint g_fits_joint c_is_whole
  have c_need_joint := C_need_joint (P := P) (w := w) (base := base) F_need_joint g_need_joint c_fits_joint
  have c_fits_setting := C_fits_setting (P := P) (w := w) (base := base) F_fits_setting g_fits_setting c_is_whole c_is_tuple_of m_all m_len
  have c_need_setting := C_need_setting (P := P) (w := w) (base := base) F_need_setting g_need_setting c_fits_setting
  have c_need_set := C_need_set (P := P) (w := w) (base := base) F_need_set g_need_set c_need_figure c_need_setting
  have c_table_of := C_table_of (P := P) (w := w) (base := base) F_table_of g_table_of m_min m_range
  have c_pose_by := C_pose_by (P := P) (w := w) (base := base) F_pose_by g_pose_by m_min m_range m_tuple m_zip
  have c_pose_in := C_pose_in (P := P) (w := w) (base := base) F_pose_in g_pose_in c_table_of c_pose_by
  have c_pose := C_pose (P := P) (w := w) (base := base) F_pose g_pose c_need_set c_pose_in
  have c_limbs_of := C_limbs_of (P := P) (w := w) (base := base) F_limbs_of g_limbs_of m_max m_min m_sorted m_tuple
  have c_bound := C_bound (P := P) (w := w) (base := base) F_bound g_bound c_need_figure c_need_joint c_limbs_of m_max m_min m_range m_tuple
  have c_with_limb := C_with_limb (P := P) (w := w) (base := base) F_with_limb g_with_limb c_is_whole c_fits_figure c_need_figure c_need_joint c_limbs_of m_list k_LENGTH
  have c_with_string := C_with_string (P := P) (w := w) (base := base) F_with_string g_with_string c_fits_figure c_need_figure c_need_joint
  have c_law_cup := C_law_cup (P := P) (w := w) (base := base) F_law_cup g_law_cup m_abs m_int m_list
  have c_law_roll := C_law_roll (P := P) (w := w) (base := base) F_law_roll g_law_roll m_int
  have c_law_some := C_law_some (P := P) (w := w) (base := base) F_law_some g_law_some c_law_roll m_len
  have c_law_same := C_law_same (P := P) (w := w) (base := base) F_law_same g_law_same m_all m_bool m_int m_isinstance m_len m_range m_str m_tuple 8
  have c_law_figure := C_law_figure (P := P) (w := w) (base := base) F_law_figure g_law_figure c_law_roll c_law_some m_len m_range m_sorted m_tuple
  have c_law_setting := C_law_setting (P := P) (w := w) (base := base) F_law_setting g_law_setting c_law_roll c_law_some m_tuple
  have c_law_from := C_law_from (P := P) (w := w) (base := base) F_law_from g_law_from m_range
  have c_law_pose := C_law_pose (P := P) (w := w) (base := base) F_law_pose g_law_pose m_min m_range m_tuple m_zip
  have c_law_shift := C_law_shift (P := P) (w := w) (base := base) F_law_shift g_law_shift m_len m_range
  have c_law_limbs_of := C_law_limbs_of (P := P) (w := w) (base := base) F_law_limbs_of g_law_limbs_of m_max m_min m_sorted m_tuple
  have c_law_none_deeper := C_law_none_deeper (P := P) (w := w) (base := base) F_law_none_deeper g_law_none_deeper m_zip
  exact L_law (P := P) (w := w) (base := base) F_law g_law c_pose c_bound c_with_limb c_with_string c_law_cup c_law_roll c_law_same c_law_figure c_law_setting c_law_from c_law_pose c_law_limbs_of c_law_none_deeper m_int m_len m_list m_max m_min m_range m_tuple
end L_k59
open PySem PySem.W PySem.Calls PyProof.Rows
theorem PySem.Challenge.cw_hungstage_k59_whole_bound_joints_and_mor_holds : PySem.Challenge.rw_hungstage_k59_whole_bound_joints_and_mor.Holds := by
  w_on; o_law
  refine HandSHeadRun.head_any (r := OpenLaw.row PySem.Challenge.rw_hungstage_k59_whole_bound_joints_and_mor) (q := view (OpenLaw.row PySem.Challenge.rw_hungstage_k59_whole_bound_joints_and_mor).prog [44]) (H := L_k59.hk) (ob := L_k59.ob) (M := 6000) (loose := L_k59.loose) (d := HandSHeadRun.topDef (OpenLaw.row PySem.Challenge.rw_hungstage_k59_whole_bound_joints_and_mor).prog 44) (kwd := []) L_k59.ob_eq
    (by kernel_rfl) (fun s => by kernel_rfl) L_k59.run (by kernel_rfl) (by kernel_rfl) (by kernel_rfl) (by rfl) (by first | assumption | decide +kernel) (by decide +kernel) ⟨rfl, rfl, rfl, rfl, rfl, by decide +kernel⟩ ?hw ?hc
  case hw => w_witness2
  case hc =>
    refine L2.walk_ofE (l := PySem.Challenge.rw_hungstage_k59_whole_bound_joints_and_mor) (n := 63) (k := 10) (x := "script") (CX := L2.CX0) rfl (by decide) (by kernel_rfl) ⟨rfl, by decide, by decide⟩ ?F (fun _ _ _ _ z => z)
    intro w mg fa h Y G hmg0
    obtain ⟨K, KX, c⟩ := Y
    have hmg : mg ("law" : PySem.Str) = some (.ref fa) := by
      have e : (HandSHeadRun.topDef (OpenLaw.row PySem.Challenge.rw_hungstage_k59_whole_bound_joints_and_mor).prog 44).name = ("law" : PySem.Str) := by kernel_rfl
      rw [← e]
      exact hmg0
    obtain ⟨fd, hb, hF⟩ := L_k59.facts (P := (PySem.Challenge.rw_hungstage_k59_whole_bound_joints_and_mor).prog) (w := w) KX G hmg c
    exact ⟨K, fd, _, KX, hb, fun H a ns hl hO hS => DL.law_end hO hS (L_k59.law_ok ns hl), hF⟩

