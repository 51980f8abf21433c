import PyProof.Rows.All
import HandS.TupMul
import HandS.Sort
import Wide.All
import OpenK.AllK
import Wide.FinOn
import HandS.ForMost
import HandS.ForExc
import HandS.Deep
import HandS.Zip
import HandS.Defaults
import KE.SortData
import KE.DataFind
import HandS.SortInts
import HandS.Style
import HandS.TupLe
import HandS.TupAny
import HandS.IsInst
import HandS.Wide
import HandS.More
import HandS.Conv
import KE.KDictSum
import HandS.TupLen
import HandS.Rev
import HandS.ExcInit
import HandS.ExcField
import KE.GoesMore
import HandS.TryOnly
import HandS.SetKeys
import HandS.DictComp
import HandS.Strs
import HandS.SetFor
import HandS.Small
import HandS.TryMany
import HandS.HeadHook2
import HandS.HeadEnd
import KE.KStateDown
import Lean
import HandS.Base
import HandS.Call
import HandS.Ends
import HandS.Words
import HandS.WordsExc
import HandS.Head0
import HandS.Head1
import HandS.Head2
import HandS.HeadHook1
import PySem.Challenge.RW_unringed_k43_programs
set_option Elab.async false
set_option linter.all false
set_option maxRecDepth 100000
set_option maxHeartbeats 4000000
namespace L2
open PySem PySem.Spec PyProof.Rows
theorem tupMul1 (l : Addr) (items : Array Value) (n : Nat) (dd : Option Addr) (sl : Array (Option Value)) (u : Tok) :
    Meets (Builtin.«tuple.__mul__» ⟨[.ref l, .int 1 u], []⟩) (fun _ R s => s.heap.get? l = some { cls := .type "tuple", dict := dd, data := .seq items n, slots := sl } ∧ R (.ok (.ret (Value.ref l))) s) :=
  .of_wp fun prog w A R s h => by
    obtain ⟨hp, g, d, tk, os⟩ := s
    obtain ⟨hl, h⟩ := h
    have f1 := AutoSeq1.idx_int
    have c1 : (items.isEmpty || ((1 : Int) == 1)) = true := by rw [Bool.or_eq_true]; exact .inr rfl
    wp_walk using wpAny_loadPart' hl
    exact ⟨_, rfl, h⟩
theorem tupMulT (l : Addr) (items : Array Value) (n : Nat) (dd : Option Addr) (sl : Array (Option Value)) :
    Meets (Builtin.«tuple.__mul__» ⟨[.ref l, .bool true], []⟩) (fun _ R s => s.heap.get? l = some { cls := .type "tuple", dict := dd, data := .seq items n, slots := sl } ∧ R (.ok (.ret (Value.ref l))) s) :=
  .of_wp fun prog w A R s h => by
    obtain ⟨hp, g, d, tk, os⟩ := s
    obtain ⟨hl, h⟩ := h
    have c1 : (items.isEmpty || ((if true = true then (1 : Int) else 0) == 1)) = true := by rw [Bool.or_eq_true]; exact .inr rfl
    wp_walk using wpAny_loadPart' hl
    exact ⟨_, rfl, h⟩
theorem tupMul0 (l : Addr) (items : Array Value) (n : Nat) (dd : Option Addr) (sl : Array (Option Value)) (u : Tok) (hi : items.isEmpty = false) :
    Meets (Builtin.«tuple.__mul__» ⟨[.ref l, .int 0 u], []⟩) (fun _ R s => s.heap.get? l = some { cls := .type "tuple", dict := dd, data := .seq items n, slots := sl } ∧ R (.ok (.ret (Value.ref s.heap.objs.size))) { s with heap := s.heap.push { cls := Value.type "tuple", data := Data.seq #[] }, toks := s.toks }) :=
  .of_wp fun prog w A R s h => by
    obtain ⟨hp, g, d, tk, os⟩ := s
    obtain ⟨hl, h⟩ := h
    have f1 := AutoSeq1.idx_int
    have c1 : (items.isEmpty || ((0 : Int) == 1)) = false := by rw [hi]; rfl
    wp_walk using wpAny_loadPart' hl
    exact ⟨_, rfl, h⟩
theorem tupMulF (l : Addr) (items : Array Value) (n : Nat) (dd : Option Addr) (sl : Array (Option Value)) (hi : items.isEmpty = false) :
    Meets (Builtin.«tuple.__mul__» ⟨[.ref l, .bool false], []⟩) (fun _ R s => s.heap.get? l = some { cls := .type "tuple", dict := dd, data := .seq items n, slots := sl } ∧ R (.ok (.ret (Value.ref s.heap.objs.size))) { s with heap := s.heap.push { cls := Value.type "tuple", data := Data.seq #[] }, toks := s.toks }) :=
  .of_wp fun prog w A R s h => by
    obtain ⟨hp, g, d, tk, os⟩ := s
    obtain ⟨hl, h⟩ := h
    have c1 : (items.isEmpty || ((if false = true then (1 : Int) else 0) == 1)) = false := by rw [hi]; rfl
    wp_walk using wpAny_loadPart' hl
    exact ⟨_, rfl, h⟩
theorem bool_rmul_tuple (a : Bool) (l : Addr) (items : Array Value) (n : Nat) (dd : Option Addr) (sl : Array (Option Value)) :
    Meets (Builtin.«int.__rmul__» ⟨[.bool a, .ref l], []⟩) (fun _ R s => s.heap.get? l = some { cls := .type "tuple", dict := dd, data := .seq items n, slots := sl } ∧ R (.ok (.ret Value.notImplemented)) s) :=
  .of_wp fun prog w A R s h => by obtain ⟨hp, g, d, tk, os⟩ := s; obtain ⟨hl, h⟩ := h; wp_walk using wpAny_loadPart' hl; exact ⟨_, rfl, h⟩
section
variable {X : Cx}
theorem op_repTI : OpR X (binaryOp .Mult) (fun x y H Q => ∃ l k xs, x = .ref l ∧ y = .int k ∧ SqT X.K H l xs ∧ xs ≠ [] ∧ 0 ≤ k ∧ k ≤ 1000 ∧ xs.length ≤ 1000 ∧ (k = 1 → Q (.ref l) H) ∧ (k ≠ 1 → ∀ p, H p = none → Q (.ref p) (upd H p (.tup (List.replicate k.toNat xs).flatten)))) := by
  intro pins s σ H x y v u Q I rx ry h
  obtain ⟨l, k, xs, rfl, rfl, hT, hne, h1, h2, hz, q1, q2⟩ := h
  by_cases hk : 2 ≤ k
  · exact op_repT pins s σ H _ _ v u Q I rx ry ⟨l, k, xs, rfl, rfl, hT, hne, hk, h2, hz, q2 (by omega)⟩
  cases rx
  obtain ⟨t, rfl⟩ := ry
  obtain ⟨its, r, ⟨⟨cls, dd, data, sl⟩, ho, hc, n, hd⟩, hs⟩ := I.tuple hT
  simp only at hc hd
  subst hc hd
  have hle : its.length = xs.length := r.length.symm
  have hn : its ≠ [] := fun e => hne (by
    rw [e] at hle
    exact List.eq_nil_of_length_eq_zero hle.symm)
  have hi : its.toArray.isEmpty = false := by
    cases its with
    | nil => exact absurd rfl hn
    | cons a b => rfl
  rcases (show k = 1 ∨ k = 0 by omega) with rfl | rfl
  · exact wpAny_binaryOp_repeat_ref (T := "tuple") (U := "int") (by decide) ⟨_, ho, rfl⟩ (fun s' => typeIs_int s' 1 t) noFill_tuple_mul F.fills_int_mul F.slot_int_rmul repeat_tuple F.slot_int_index.lookup
      (call_meets F.slot_int_rmul (typeIs_int s 1 t) F.entry_int_rmul (F.args_int_rmul_2 _ _) (int_rmul_tuple 1 t l its.toArray n dd sl)
        ⟨ho, rfl, ⟨_, ho, rfl⟩, call_meets F.slot_tuple_mul ⟨_, ho, rfl⟩ F.entry_tuple_mul (F.args_tuple_mul_2 _ _) (tupMul1 l its.toArray n dd sl t) ⟨ho, ⟨.ref l, H, I, rfl, q1 rfl⟩⟩⟩)
  · refine wpAny_binaryOp_repeat_ref (T := "tuple") (U := "int") (by decide) ⟨_, ho, rfl⟩ (fun s' => typeIs_int s' 0 t) noFill_tuple_mul F.fills_int_mul F.slot_int_rmul repeat_tuple F.slot_int_index.lookup
      (call_meets F.slot_int_rmul (typeIs_int s 0 t) F.entry_int_rmul (F.args_int_rmul_2 _ _) (int_rmul_tuple 0 t l its.toArray n dd sl)
        ⟨ho, rfl, ⟨_, ho, rfl⟩, call_meets F.slot_tuple_mul ⟨_, ho, rfl⟩ F.entry_tuple_mul (F.args_tuple_mul_2 _ _) (tupMul0 l its.toArray n dd sl t hi) ⟨ho, ?_⟩⟩)
    exact ⟨.ref s.heap.objs.size, _, I.laid (t' := s.toks) (o := .tup []) (fun b ob q => Heap.get?_push_of_some _ q) (Nat.le_refl _) ⟨Nat.zero_le _, _, .nil, IsTup.new _ _⟩, rfl, q2 (by decide) _ (I.hok.fresh (Nat.le_refl _))⟩
theorem op_repTB : OpR X (binaryOp .Mult) (fun x y H Q => ∃ l k xs, x = .ref l ∧ y = .bl k ∧ SqT X.K H l xs ∧ xs ≠ [] ∧ (k = true → Q (.ref l) H) ∧ (k = false → ∀ p, H p = none → Q (.ref p) (upd H p (.tup [])))) := by
  intro pins s σ H x y v u Q I rx ry h
  obtain ⟨l, k, xs, rfl, rfl, hT, hne, q1, q2⟩ := h
  cases rx
  obtain rfl : u = Value.bool k := ry
  obtain ⟨its, r, ⟨⟨cls, dd, data, sl⟩, ho, hc, n, hd⟩, hs⟩ := I.tuple hT
  simp only at hc hd
  subst hc hd
  have hle : its.length = xs.length := r.length.symm
  have hn : its ≠ [] := fun e => hne (by
    rw [e] at hle
    exact List.eq_nil_of_length_eq_zero hle.symm)
  have hi : its.toArray.isEmpty = false := by
    cases its with
    | nil => exact absurd rfl hn
    | cons a b => rfl
  cases k with
  | true =>
    exact wpAny_binaryOp_repeat_ref (T := "tuple") (U := "bool") (by decide) ⟨_, ho, rfl⟩ (fun s' => rfl) noFill_tuple_mul F.fills_bool_mul F.slot_bool_rmul repeat_tuple F.slot_bool_index.lookup
      (call_meets F.slot_bool_rmul rfl F.entry_int_rmul (F.args_int_rmul_2 _ _) (bool_rmul_tuple true l its.toArray n dd sl)
        ⟨ho, rfl, ⟨_, ho, rfl⟩, call_meets F.slot_tuple_mul ⟨_, ho, rfl⟩ F.entry_tuple_mul (F.args_tuple_mul_2 _ _) (tupMulT l its.toArray n dd sl) ⟨ho, ⟨.ref l, H, I, rfl, q1 rfl⟩⟩⟩)
  | false =>
    refine wpAny_binaryOp_repeat_ref (T := "tuple") (U := "bool") (by decide) ⟨_, ho, rfl⟩ (fun s' => rfl) noFill_tuple_mul F.fills_bool_mul F.slot_bool_rmul repeat_tuple F.slot_bool_index.lookup
      (call_meets F.slot_bool_rmul rfl F.entry_int_rmul (F.args_int_rmul_2 _ _) (bool_rmul_tuple false l its.toArray n dd sl)
        ⟨ho, rfl, ⟨_, ho, rfl⟩, call_meets F.slot_tuple_mul ⟨_, ho, rfl⟩ F.entry_tuple_mul (F.args_tuple_mul_2 _ _) (tupMulF l its.toArray n dd sl hi) ⟨ho, ?_⟩⟩)
    exact ⟨.ref s.heap.objs.size, _, I.laid (t' := s.toks) (o := .tup []) (fun b ob q => Heap.get?_push_of_some _ q) (Nat.le_refl _) ⟨Nat.zero_le _, _, .nil, IsTup.new _ _⟩, rfl, q2 rfl _ (I.hok.fresh (Nat.le_refl _))⟩
end
end L2

set_option maxHeartbeats 1000000
/-! DLCore: data D, the store of the changeable objects, and how both lie in the hand layer's heap. -/
namespace DL
open PySem PySem.Spec PyProof.Rows L2

/-- a value: tuples and lists that nobody changes as data, a changeable object by its place in the store -/
inductive D where
  | non | bl (b : Bool) | int (i : Int) | str (s : String) | tup (xs : List D) | lst (xs : List D) | loc (n : Nat) | gl (x : String) | ty (x : String) | scr (xs : List Int) | kt (xs : List String)
deriving Inhabited

/-- what stands at a place of the store -/
inductive Cell where
  | lst (xs : List D) | dct (t : Bool) (kvs : List (D × D)) | obj (c : String) (fs : List (String × D)) | dctF (t : Bool) (kvs : List (D × D))
deriving Inhabited
abbrev Sto := List Cell
/-- where the store's objects stand; what is hidden: objects that no value names -/
abbrev Lay := List Addr × List Addr
def Lay.off (r : Lay) (a : Addr) : Prop := a ∉ r.1 ∧ a ∉ r.2
abbrev St' := List (Option D)

/-- an exception: its class's name, its fields -/
structure Xc where
  cls : String
  fs : List (String × D)

/-- what is fixed: the written part, the module's names -/
structure Ct where
  K : PySem.W.Frag
  mg : Str → Option Value
  P : Program
  w : World

/-- a tuple of the written part -/
def KTup (K : PySem.W.Frag) (a : Addr) (xs : List V) : Prop :=
  ∃ (o : Obj) (its : Array Value) (n : Nat), K.lookup a = some o ∧ o.cls = .type "tuple" ∧ o.data = .seq its n ∧ its.size ≤ sizeLine ∧ Vals xs its.toList
/-- a tuple, a list that nobody changes -/
def TupAt (C : Ct) (r : Lay) (H : Hp) (a : Addr) (vs : List V) : Prop := H a = some (.tup vs) ∧ r.off a
def LstAt (C : Ct) (r : Lay) (H : Hp) (a : Addr) (vs : List V) : Prop := H a = some (.lst vs) ∧ r.off a
/-- the script -/
def KLst (K : PySem.W.Frag) (a : Addr) (xs : List V) : Prop :=
  ∃ (o : Obj) (its : Array Value) (n : Nat), K.lookup a = some o ∧ o.cls = .type "list" ∧ o.dict = none ∧ o.data = .seq its n ∧ its.size ≤ sizeLine ∧ Vals xs its.toList
def ScrAt (C : Ct) (r : Lay) (H : Hp) (a : Addr) (vs : List V) : Prop := ((∃ o, H a = some (.frz o (.lst vs))) ∧ r.off a) ∨ KLst C.K a vs
theorem TupAt.sq {C : Ct} {r : Lay} {H : Hp} {a : Addr} {vs : List V} (h : TupAt C r H a vs) : SqT C.K H a vs := .of h.1
theorem KTup.sq {K : PySem.W.Frag} {H : Hp} {a : Addr} {vs : List V} (h : KTup K a vs) : SqT K H a vs := .inr h
theorem LstAt.sq {C : Ct} {r : Lay} {H : Hp} {a : Addr} {vs : List V} (h : LstAt C r H a vs) : SqL C.K H a vs := .of h.1
theorem ScrAt.sq {C : Ct} {r : Lay} {H : Hp} {a : Addr} {vs : List V} (h : ScrAt C r H a vs) : SqL C.K H a vs := h.elim (fun h => .inl (.inr h.1)) .inr
mutual
inductive RD (C : Ct) (r : Lay) (H : Hp) : D → V → Prop
  | non : RD C r H .non .non
  | bl (b : Bool) : RD C r H (.bl b) (.bl b)
  | int (i : Int) : RD C r H (.int i) (.int i)
  | str (s : String) : RD C r H (.str s) (.str (Str.ofString s))
  | tup {a : Addr} {xs : List D} {vs : List V} : TupAt C r H a vs → RDs C r H xs vs → RD C r H (.tup xs) (.ref a)
  | lst {a : Addr} {xs : List D} {vs : List V} : LstAt C r H a vs → RDs C r H xs vs → RD C r H (.lst xs) (.ref a)
  | loc {n : Nat} {a : Addr} : r.1[n]? = some a → RD C r H (.loc n) (.ref a)
  | gl {x : String} {a : Addr} : C.mg (Str.ofString x) = some (.ref a) → RD C r H (.gl x) (.ref a)
  | ty (x : String) : RD C r H (.ty x) (.ty x)
  | scr {a : Addr} (xs : List Int) : ScrAt C r H a (xs.map V.int) → RD C r H (.scr xs) (.ref a)
  | kt {a : Addr} (xs : List String) : KTup C.K a (xs.map fun x => V.str (Str.ofString x)) → RD C r H (.kt xs) (.ref a)
inductive RDs (C : Ct) (r : Lay) (H : Hp) : List D → List V → Prop
  | nil : RDs C r H [] []
  | cons {x : D} {xs : List D} {v : V} {vs : List V} : RD C r H x v → RDs C r H xs vs → RDs C r H (x :: xs) (v :: vs)
end

section
variable {C : Ct} {r r' r2 : Lay} {H H' H2 : Hp}

theorem RDs.length : ∀ {xs : List D} {vs : List V}, RDs C r H xs vs → xs.length = vs.length
  | _, _, .nil => rfl
  | _, _, .cons _ t => by simp [RDs.length t]
theorem RDs.get : ∀ {xs : List D} {vs : List V} {i : Nat} {x : D}, RDs C r H xs vs → xs[i]? = some x → ∃ v, vs[i]? = some v ∧ RD C r H x v
  | _, _, _, _, .nil, e => by simp at e
  | _, _, 0, _, .cons q _, e => by simp at e; subst e; exact ⟨_, rfl, q⟩
  | _, _, i + 1, x, .cons _ t, e => by
    obtain ⟨v, h1, h2⟩ := RDs.get (i := i) (x := x) t (by simpa using e)
    exact ⟨v, by simpa using h1, h2⟩
theorem RDs.getV : ∀ {xs : List D} {vs : List V} {i : Nat} {v : V}, RDs C r H xs vs → vs[i]? = some v → ∃ x, xs[i]? = some x ∧ RD C r H x v
  | _, _, _, _, .nil, e => by simp at e
  | _, _, 0, _, .cons q _, e => by simp at e; subst e; exact ⟨_, rfl, q⟩
  | _, _, i + 1, v, .cons _ t, e => by
    obtain ⟨x, h1, h2⟩ := RDs.getV (i := i) (v := v) t (by simpa using e)
    exact ⟨x, by simpa using h1, h2⟩
theorem RDs.append : ∀ {xs ys : List D} {vs us : List V}, RDs C r H xs vs → RDs C r H ys us → RDs C r H (xs ++ ys) (vs ++ us)
  | _, _, _, _, .nil, s => s
  | _, _, _, _, .cons q t, s => .cons q (RDs.append t s)
theorem RDs.take : ∀ {xs : List D} {vs : List V} (n : Nat), RDs C r H xs vs → RDs C r H (xs.take n) (vs.take n)
  | _, _, 0, _ => .nil
  | _, _, _ + 1, .nil => .nil
  | _, _, n + 1, .cons q t => .cons q (RDs.take n t)
theorem RDs.drop : ∀ {xs : List D} {vs : List V} (n : Nat), RDs C r H xs vs → RDs C r H (xs.drop n) (vs.drop n)
  | _, _, 0, q => q
  | _, _, _ + 1, .nil => .nil
  | _, _, n + 1, .cons _ t => RDs.drop n t
theorem RDs.set {x : D} {v : V} (q : RD C r H x v) : ∀ {xs : List D} {vs : List V} (i : Nat), RDs C r H xs vs → RDs C r H (xs.set i x) (vs.set i v)
  | _, _, _, .nil => .nil
  | _, _, 0, .cons _ t => .cons q t
  | _, _, i + 1, .cons p t => .cons p (RDs.set q i t)
theorem RDs.eraseIdx : ∀ {xs : List D} {vs : List V} (i : Nat), RDs C r H xs vs → RDs C r H (xs.eraseIdx i) (vs.eraseIdx i)
  | _, _, _, .nil => .nil
  | _, _, 0, .cons _ t => t
  | _, _, i + 1, .cons p t => .cons p (RDs.eraseIdx i t)
theorem RDs.reverse : ∀ {xs : List D} {vs : List V}, RDs C r H xs vs → RDs C r H xs.reverse vs.reverse
  | _, _, .nil => .nil
  | _, _, .cons q t => by rw [List.reverse_cons, List.reverse_cons]; exact (RDs.reverse t).append (.cons q .nil)
theorem RDs.ints : ∀ ns : List Int, RDs C r H (ns.map D.int) (ns.map V.int)
  | [] => .nil
  | n :: ns => .cons (.int n) (RDs.ints ns)

/-- later: everything that the store doesn't hold stays, the store grows by new objects -/
structure Fut (r : Lay) (H : Hp) (r' : Lay) (H' : Hp) : Prop where
  lk : ∀ a o u, H a = some (.frz o u) → H' a = some (.frz o u)
  keep : ∀ a o, H a = some o → a ∉ r.1 → H' a = some o
  ext : r.1 <+: r'.1
  hid : r'.2 = r.2
  new : ∀ a ∈ r'.1, a ∈ r.1 ∨ H a = none
theorem Fut.refl : Fut r H r H := ⟨fun _ _ _ h => h, fun _ _ h _ => h, List.prefix_rfl, rfl, fun _ h => .inl h⟩
theorem Fut.notin (f : Fut r H r' H') {a : Addr} {o : HO} (h : H a = some o) (n : a ∉ r.1) : a ∉ r'.1 := fun m => by
  rcases f.new a m with q | q
  · exact n q
  · rw [h] at q; cases q
theorem Fut.off (f : Fut r H r' H') {a : Addr} {o : HO} (h : H a = some o) (n : r.off a) : r'.off a := ⟨f.notin h n.1, by rw [f.hid]; exact n.2⟩
theorem Fut.trans (f : Fut r H r' H') (g : Fut r' H' r2 H2) : Fut r H r2 H2 where
  lk := fun a o u h => g.lk a o u (f.lk a o u h)
  keep := fun a o h n => g.keep a o (f.keep a o h n) (f.notin h n)
  ext := f.ext.trans g.ext
  hid := g.hid.trans f.hid
  new := fun a m => by
    rcases g.new a m with q | q
    · exact f.new a q
    · by_cases n : a ∈ r.1
      · exact .inl n
      · cases e : H a with
        | none => exact .inr rfl
        | some o => rw [f.keep a o e n] at q; cases q
theorem prefix_get {l l' : List Addr} {a : Addr} {n : Nat} (p : l <+: l') (h : l[n]? = some a) : l'[n]? = some a := by
  obtain ⟨t, rfl⟩ := p
  have hl : n < l.length := (List.getElem?_eq_some_iff.mp h).1
  rw [List.getElem?_append_left hl]
  exact h

/-- the same, where what is hidden may change -/
structure FutW (r : Lay) (H : Hp) (r' : Lay) (H' : Hp) : Prop where
  lk : ∀ a o u, H a = some (.frz o u) → H' a = some (.frz o u)
  keep : ∀ a o, H a = some o → r.off a → H' a = some o
  ext : r.1 <+: r'.1
  offs : ∀ a o, H a = some o → r.off a → r'.off a
theorem Fut.w (f : Fut r H r' H') : FutW r H r' H' := ⟨f.lk, fun a o h n => f.keep a o h n.1, f.ext, fun a o h n => f.off h n⟩
theorem FutW.trans (f : FutW r H r' H') (g : FutW r' H' r2 H2) : FutW r H r2 H2 :=
  ⟨fun a o u h => g.lk a o u (f.lk a o u h), fun a o h n => g.keep a o (f.keep a o h n) (f.offs a o h n), f.ext.trans g.ext, fun a o h n => g.offs a o (f.keep a o h n) (f.offs a o h n)⟩
theorem FutW.refl : FutW r H r H := ⟨fun _ _ _ h => h, fun _ _ h _ => h, List.prefix_rfl, fun _ _ _ n => n⟩
/-- the same, whatever is locked -/
structure FutV (r : Lay) (H : Hp) (r' : Lay) (H' : Hp) : Prop where
  keep : ∀ a o, H a = some o → r.off a → H' a = some o
  ext : r.1 <+: r'.1
  offs : ∀ a o, H a = some o → r.off a → r'.off a
theorem FutW.v (f : FutW r H r' H') : FutV r H r' H' := ⟨f.keep, f.ext, f.offs⟩
theorem TupAt.futV {a : Addr} {vs : List V} (h : TupAt C r H a vs) (f : FutV r H r' H') : TupAt C r' H' a vs := ⟨f.keep a _ h.1 h.2, f.offs a _ h.1 h.2⟩
theorem LstAt.futV {a : Addr} {vs : List V} (h : LstAt C r H a vs) (f : FutV r H r' H') : LstAt C r' H' a vs := ⟨f.keep a _ h.1 h.2, f.offs a _ h.1 h.2⟩
theorem ScrAt.futV {a : Addr} {vs : List V} (h : ScrAt C r H a vs) (f : FutV r H r' H') : ScrAt C r' H' a vs := by
  rcases h with ⟨⟨o, h⟩, n⟩ | h
  · exact .inl ⟨⟨o, f.keep a _ h n⟩, f.offs a _ h n⟩
  · exact .inr h
theorem TupAt.fut {a : Addr} {vs : List V} (h : TupAt C r H a vs) (f : Fut r H r' H') : TupAt C r' H' a vs := h.futV f.w.v
theorem LstAt.fut {a : Addr} {vs : List V} (h : LstAt C r H a vs) (f : Fut r H r' H') : LstAt C r' H' a vs := h.futV f.w.v
theorem ScrAt.fut {a : Addr} {vs : List V} (h : ScrAt C r H a vs) (f : Fut r H r' H') : ScrAt C r' H' a vs := h.futV f.w.v
mutual
theorem RD.futV (f : FutV r H r' H') : ∀ {d : D} {v : V}, RD C r H d v → RD C r' H' d v
  | _, _, .non => .non
  | _, _, .bl b => .bl b
  | _, _, .int i => .int i
  | _, _, .str s => .str s
  | _, _, .tup h t => .tup (h.futV f) (RDs.futV f t)
  | _, _, .lst h t => .lst (h.futV f) (RDs.futV f t)
  | _, _, .loc h => .loc (prefix_get f.ext h)
  | _, _, .gl h => .gl h
  | _, _, .ty x => .ty x
  | _, _, .scr xs h => .scr xs (h.futV f)
  | _, _, .kt xs h => .kt xs h
theorem RDs.futV (f : FutV r H r' H') : ∀ {d : List D} {v : List V}, RDs C r H d v → RDs C r' H' d v
  | _, _, .nil => .nil
  | _, _, .cons h t => .cons (RD.futV f h) (RDs.futV f t)
end
theorem RD.futW (f : FutW r H r' H') {d : D} {v : V} (h : RD C r H d v) : RD C r' H' d v := h.futV f.v
theorem RDs.futW (f : FutW r H r' H') {d : List D} {v : List V} (h : RDs C r H d v) : RDs C r' H' d v := h.futV f.v
theorem TupAt.futW {a : Addr} {vs : List V} (h : TupAt C r H a vs) (f : FutW r H r' H') : TupAt C r' H' a vs := h.futV f.v
theorem LstAt.futW {a : Addr} {vs : List V} (h : LstAt C r H a vs) (f : FutW r H r' H') : LstAt C r' H' a vs := h.futV f.v
theorem ScrAt.futW {a : Addr} {vs : List V} (h : ScrAt C r H a vs) (f : FutW r H r' H') : ScrAt C r' H' a vs := h.futV f.v
theorem RD.fut (f : Fut r H r' H') {d : D} {v : V} (h : RD C r H d v) : RD C r' H' d v := h.futV f.w.v
theorem RDs.fut (f : Fut r H r' H') {d : List D} {v : List V} (h : RDs C r H d v) : RDs C r' H' d v := h.futV f.w.v

/-! ### cells -/
/-- fields by name -/
inductive RFs (C : Ct) (r : Lay) (H : Hp) : List (String × D) → List (Str × V) → Prop
  | nil : RFs C r H [] []
  | cons {f : String} {x : D} {v : V} {xs : List (String × D)} {vs : List (Str × V)} : RD C r H x v → RFs C r H xs vs → RFs C r H ((f, x) :: xs) ((Str.ofString f, v) :: vs)
theorem RFs.futV (f : FutV r H r' H') : ∀ {d : List (String × D)} {v : List (Str × V)}, RFs C r H d v → RFs C r' H' d v
  | _, _, .nil => .nil
  | _, _, .cons h t => .cons (h.futV f) (RFs.futV f t)
theorem RFs.futW (f : FutW r H r' H') {d : List (String × D)} {v : List (Str × V)} (h : RFs C r H d v) : RFs C r' H' d v := h.futV f.v
theorem RFs.fut (f : Fut r H r' H') {d : List (String × D)} {v : List (Str × V)} (h : RFs C r H d v) : RFs C r' H' d v := h.futV f.w.v

/-- a key of a dict that is an int or a text; one that is a tuple of such -/
def keyD : Key → D → Prop
  | .inl i, d => d = .int i
  | .inr x, d => ∃ s : String, d = .str s ∧ x = Str.ofString s
inductive keysD : List Key → List D → Prop
  | nil : keysD [] []
  | cons {k : Key} {d : D} {ks : List Key} {ds : List D} : keyD k d → keysD ks ds → keysD (k :: ks) (d :: ds)
def keyTD (ks : List Key) (d : D) : Prop := ∃ ds, d = .tup ds ∧ keysD ks ds
inductive RKs {κ : Type} (p : κ → D → Prop) (C : Ct) (r : Lay) (H : Hp) : List (D × D) → List (κ × V) → Prop
  | nil : RKs p C r H [] []
  | cons {k : κ} {d x : D} {v : V} {xs : List (D × D)} {vs : List (κ × V)} : p k d → RD C r H x v → RKs p C r H xs vs → RKs p C r H ((d, x) :: xs) ((k, v) :: vs)
theorem RKs.futV {κ : Type} {p : κ → D → Prop} (f : FutV r H r' H') : ∀ {d : List (D × D)} {v : List (κ × V)}, RKs p C r H d v → RKs p C r' H' d v
  | _, _, .nil => .nil
  | _, _, .cons k h t => .cons k (h.futV f) (RKs.futV f t)
theorem RKs.futW {κ : Type} {p : κ → D → Prop} (f : FutW r H r' H') {d : List (D × D)} {v : List (κ × V)} (h : RKs p C r H d v) : RKs p C r' H' d v := h.futV f.v
theorem RKs.fut {κ : Type} {p : κ → D → Prop} (f : Fut r H r' H') {d : List (D × D)} {v : List (κ × V)} (h : RKs p C r H d v) : RKs p C r' H' d v := h.futV f.w.v
theorem RKs.length {κ : Type} {p : κ → D → Prop} : ∀ {d : List (D × D)} {v : List (κ × V)}, RKs p C r H d v → d.length = v.length
  | _, _, .nil => rfl
  | _, _, .cons _ _ t => by simp [RKs.length t]

/-- locked ones with the others -/
def MutF : HO → Prop
  | .frz _ _ => True
  | o => Mut (some o)
theorem MutF.of {o : HO} (h : Mut (some o)) : MutF o := by cases o <;> first | exact h | trivial
theorem Mut.nf {H : Hp} {a : Addr} {o : HO} (h : H a = some o) (m : Mut (some o)) : ∀ o' u, H a ≠ some (.frz o' u) := fun o' u e => by
  rw [h] at e
  cases e
  exact m
def CellR (C : Ct) (r : Lay) (H : Hp) (a : Addr) : Cell → Prop
  | .lst xs => ∃ vs, H a = some (.lst vs) ∧ RDs C r H xs vs
  | .dct false kvs => ∃ vs, H a = some (.dK vs) ∧ RKs keyD C r H kvs vs
  | .dct true kvs => ∃ vs, H a = some (.dT vs) ∧ RKs keyTD C r H kvs vs
  | .dctF false kvs => ∃ o vs, H a = some (.frz o (.dK vs)) ∧ RKs keyD C r H kvs vs
  | .dctF true kvs => ∃ o vs, H a = some (.frz o (.dT vs)) ∧ RKs keyTD C r H kvs vs
  | .obj c fs => ∃ A dx vs, C.mg (Str.ofString c) = some (.ref A) ∧ H a = some (.ins A dx vs) ∧ L2.Cls C.K A ∧ (∀ p ∈ fs, NoAttr C.K A (Str.ofString p.1)) ∧ RFs C r H fs vs

/-- the store lies in the heap -/
structure Rel (C : Ct) (r : Lay) (st : Sto) (H : Hp) : Prop where
  len : r.1.length = st.length
  nd : r.1.Nodup
  hid : ∀ a ∈ r.2, a ∉ r.1 ∧ ∃ o, H a = some o ∧ Mut (some o)
  cells : ∀ (n : Nat) (c : Cell) (a : Addr), st[n]? = some c → r.1[n]? = some a → CellR C r H a c

theorem CellR.some {a : Addr} {c : Cell} (h : CellR C r H a c) : ∃ o, H a = some o ∧ MutF o := by
  cases c with
  | lst xs => obtain ⟨vs, h, _⟩ := h; exact ⟨_, h, trivial⟩
  | dct t kvs => cases t <;> (obtain ⟨vs, h, _⟩ := h; exact ⟨_, h, trivial⟩)
  | dctF t kvs => cases t <;> (obtain ⟨o, vs, h, _⟩ := h; exact ⟨_, h, trivial⟩)
  | obj c fs => obtain ⟨A, dx, vs, _, h, _, _, _⟩ := h; exact ⟨_, h, trivial⟩
theorem CellR.futV {a : Addr} {c : Cell} (h : CellR C r H a c) (f : FutV r H r' H') (e : H' a = H a) : CellR C r' H' a c := by
  cases c with
  | lst xs => obtain ⟨vs, h, q⟩ := h; exact ⟨vs, e.trans h, q.futV f⟩
  | dct t kvs => cases t <;> (obtain ⟨vs, h, q⟩ := h; exact ⟨vs, e.trans h, q.futV f⟩)
  | dctF t kvs => cases t <;> (obtain ⟨o, vs, h, q⟩ := h; exact ⟨o, vs, e.trans h, q.futV f⟩)
  | obj c fs => obtain ⟨A, dx, vs, g, h, cl, na, q⟩ := h; exact ⟨A, dx, vs, g, e.trans h, cl, na, q.futV f⟩
theorem CellR.futW {a : Addr} {c : Cell} (h : CellR C r H a c) (f : FutW r H r' H') (e : H' a = H a) : CellR C r' H' a c := h.futV f.v e
theorem CellR.fut {a : Addr} {c : Cell} (h : CellR C r H a c) (f : Fut r H r' H') (e : H' a = H a) : CellR C r' H' a c := h.futV f.w.v e
theorem Rel.at_ {st : Sto} {n : Nat} {c : Cell} (R : Rel C r st H) (h : st[n]? = some c) : ∃ a, r.1[n]? = some a ∧ CellR C r H a c := by
  have hl : n < r.1.length := by rw [R.len]; exact (List.getElem?_eq_some_iff.mp h).1
  exact ⟨r.1[n], List.getElem?_eq_getElem hl, R.cells n c _ h (List.getElem?_eq_getElem hl)⟩
theorem Rel.mem_some {st : Sto} {a : Addr} (R : Rel C r st H) (h : a ∈ r.1) : ∃ o, H a = some o ∧ MutF o := by
  obtain ⟨n, hn, e⟩ := List.mem_iff_getElem.mp h
  have hl : n < st.length := by rw [← R.len]; exact hn
  exact (R.cells n _ a (List.getElem?_eq_getElem hl) (by rw [List.getElem?_eq_getElem hn, e])).some
theorem Rel.free {st : Sto} {a : Addr} (R : Rel C r st H) (h : H a = none) : r.off a := by
  refine ⟨fun m => ?_, fun m => ?_⟩
  · obtain ⟨o, e, _⟩ := R.mem_some m
    rw [h] at e; cases e
  · obtain ⟨_, o, e, _⟩ := R.hid a m
    rw [h] at e; cases e
theorem Rel.get_inj {st : Sto} {m n : Nat} {a : Addr} (R : Rel C r st H) (h : r.1[m]? = some a) (h' : r.1[n]? = some a) : m = n := by
  obtain ⟨l1, e1⟩ := List.getElem?_eq_some_iff.mp h
  obtain ⟨l2, e2⟩ := List.getElem?_eq_some_iff.mp h'
  exact (List.getElem_inj R.nd).mp (e1.trans e2.symm)

/-- a new object that is not the store's -/
theorem lk_new {p : Addr} {o : HO} (h : H p = none) : ∀ a o' u, H a = some (.frz o' u) → upd H p o a = some (.frz o' u) := fun a o' u e => by rw [upd_ne (ne_of_none e h)]; exact e
theorem lk_set {p : Addr} {o : HO} (h : ∀ o' u, H p ≠ some (.frz o' u)) : ∀ a o' u, H a = some (.frz o' u) → upd H p o a = some (.frz o' u) := fun a o' u e => by rw [upd_ne fun z => h o' u (by rw [← z]; exact e)]; exact e
theorem Fut.frz {p : Addr} {o : HO} (h : H p = none) : Fut r H r (upd H p o) :=
  ⟨lk_new h, fun a u e _ => by rw [upd_ne (ne_of_none e h)]; exact e, List.prefix_rfl, rfl, fun _ m => .inl m⟩
theorem Rel.frz {st : Sto} {p : Addr} {o : HO} (R : Rel C r st H) (h : H p = none) : Rel C r st (upd H p o) :=
  ⟨R.len, R.nd, fun a m => let ⟨h1, u, e, mu⟩ := R.hid a m; ⟨h1, u, by rw [upd_ne (ne_of_none e h)]; exact e, mu⟩, fun n c a h1 h2 => (R.cells n c a h1 h2).fut (Fut.frz h) (upd_ne fun e => by
    subst e
    exact (R.free h).1 (List.mem_of_getElem? h2))⟩
/-- a new object of the store -/
theorem Fut.push {p : Addr} {o : HO} (h : H p = none) : Fut r H (r.1 ++ [p], r.2) (upd H p o) :=
  ⟨lk_new h, fun a u e _ => by rw [upd_ne (ne_of_none e h)]; exact e, ⟨[p], rfl⟩, rfl, fun a m => by
    rcases List.mem_append.mp m with q | q
    · exact .inl q
    · simp at q; subst q; exact .inr h⟩
theorem Rel.push {st : Sto} {p : Addr} {o : HO} {c : Cell} (R : Rel C r st H) (h : H p = none)
    (new : Fut r H (r.1 ++ [p], r.2) (upd H p o) → CellR C (r.1 ++ [p], r.2) (upd H p o) p c) : Rel C (r.1 ++ [p], r.2) (st ++ [c]) (upd H p o) := by
  refine ⟨by simp [R.len], ?_, fun a m => ?_, fun n c' a h1 h2 => ?_⟩
  · show (r.1 ++ [p]).Nodup
    rw [List.nodup_append]
    refine ⟨R.nd, by simp, fun a ha b hb => ?_⟩
    simp at hb
    subst hb
    intro e
    subst e
    exact (R.free h).1 ha
  · obtain ⟨h1, u, e, mu⟩ := R.hid a m
    refine ⟨fun q => ?_, u, by rw [upd_ne (ne_of_none e h)]; exact e, mu⟩
    rcases List.mem_append.mp q with q | q
    · exact h1 q
    · simp at q; subst q; rw [h] at e; cases e
  · replace h2 : (r.1 ++ [p])[n]? = some a := h2
    by_cases hn : n < st.length
    · rw [List.getElem?_append_left hn] at h1
      rw [List.getElem?_append_left (by rw [R.len]; exact hn)] at h2
      exact (R.cells n c' a h1 h2).fut (Fut.push h) (upd_ne fun e => by
        subst e
        exact (R.free h).1 (List.mem_of_getElem? h2))
    · have e : n = st.length := by
        have := (List.getElem?_eq_some_iff.mp h1).1
        simp at this
        omega
      subst e
      simp at h1
      rw [← R.len] at h2
      simp at h2
      subst h1; subst h2
      exact new (Fut.push h)
/-- an object of the store is written -/
theorem Fut.set {n : Nat} {a : Addr} {o : HO} (h : r.1[n]? = some a) (nf : ∀ o' u, H a ≠ some (.frz o' u)) : Fut r H r (upd H a o) :=
  ⟨lk_set nf, fun b u e m => by
    rw [upd_ne (fun z => m (by subst z; exact List.mem_of_getElem? h))]
    exact e, List.prefix_rfl, rfl, fun _ m => .inl m⟩
theorem Rel.set {st : Sto} {n : Nat} {a : Addr} {o : HO} {c : Cell} (R : Rel C r st H) (h : r.1[n]? = some a) (nf : ∀ o' u, H a ≠ some (.frz o' u)) (new : CellR C r (upd H a o) a c) : Rel C r (st.set n c) (upd H a o) := by
  refine ⟨by simp [R.len], R.nd, fun b m => ?_, fun m c' b h1 h2 => ?_⟩
  · obtain ⟨h1, u, e, mu⟩ := R.hid b m
    exact ⟨h1, u, by rw [upd_ne (fun z => h1 (by subst z; exact List.mem_of_getElem? h))]; exact e, mu⟩
  by_cases e : m = n
  · subst e
    rw [h] at h2
    cases h2
    have hl : m < st.length := by rw [← R.len]; exact (List.getElem?_eq_some_iff.mp h).1
    rw [List.getElem?_set_self hl] at h1
    cases h1
    exact new
  · rw [List.getElem?_set_ne (Ne.symm e)] at h1
    exact (R.cells m c' b h1 h2).fut (Fut.set h nf) (upd_ne fun z => by
      subst z
      exact e (R.get_inj h2 h))

/-- what cannot change is neither the store's nor hidden -/
theorem Rel.off_of {st : Sto} {a : Addr} {o : HO} (R : Rel C r st H) (h : H a = some o) (n : ¬ MutF o) : r.off a := by
  refine ⟨fun m => ?_, fun m => ?_⟩
  · obtain ⟨u, e, mu⟩ := R.mem_some m
    rw [h] at e; cases e
    exact n mu
  · obtain ⟨_, u, e, mu⟩ := R.hid a m
    rw [h] at e; cases e
    exact n (MutF.of mu)
/-! ### fields -/
theorem RFs.length : ∀ {d : List (String × D)} {v : List (Str × V)}, RFs C r H d v → d.length = v.length
  | _, _, .nil => rfl
  | _, _, .cons _ t => by simp [RFs.length t]

/-! ### what is hidden -/
/-- a new object is hidden -/
theorem FutW.hide {p : Addr} {o : HO} (h : H p = none) : FutW r H (r.1, p :: r.2) (upd H p o) :=
  ⟨lk_new h, fun a u e _ => by rw [upd_ne (ne_of_none e h)]; exact e, List.prefix_rfl, fun a u e n => ⟨n.1, fun m => by
    rcases List.mem_cons.mp m with q | q
    · subst q; rw [h] at e; cases e
    · exact n.2 q⟩⟩
theorem Rel.hide {st : Sto} {p : Addr} {o : HO} (R : Rel C r st H) (h : H p = none) (mu : Mut (some o)) : Rel C (r.1, p :: r.2) st (upd H p o) :=
  ⟨R.len, R.nd, fun a m => by
    rcases List.mem_cons.mp m with q | q
    · subst q; exact ⟨(R.free h).1, o, upd_same, mu⟩
    · obtain ⟨h1, u, e, mv⟩ := R.hid a q
      exact ⟨h1, u, by rw [upd_ne (ne_of_none e h)]; exact e, mv⟩, fun n c a h1 h2 => (R.cells n c a h1 h2).futW (FutW.hide h) (upd_ne fun e => by
    subst e
    exact (R.free h).1 (List.mem_of_getElem? h2))⟩
/-- what is hidden is written -/
theorem FutW.setH {p : Addr} {o : HO} (h : p ∈ r.2) (nf : ∀ o' u, H p ≠ some (.frz o' u)) : FutW r H r (upd H p o) :=
  ⟨lk_set nf, fun a u e n => by rw [upd_ne (fun z => n.2 (by subst z; exact h))]; exact e, List.prefix_rfl, fun a u e n => n⟩
theorem Rel.nfH {st : Sto} {p : Addr} (R : Rel C r st H) (h : p ∈ r.2) : ∀ o' u, H p ≠ some (.frz o' u) := let ⟨_, _, e, m⟩ := R.hid p h; Mut.nf e m
theorem Rel.setH {st : Sto} {p : Addr} {o : HO} (R : Rel C r st H) (h : p ∈ r.2) (mu : Mut (some o)) : Rel C r st (upd H p o) :=
  ⟨R.len, R.nd, fun a m => by
    obtain ⟨h1, u, e, mv⟩ := R.hid a m
    by_cases q : a = p
    · subst q; exact ⟨h1, o, upd_same, mu⟩
    · exact ⟨h1, u, by rw [upd_ne q]; exact e, mv⟩, fun n c a h1 h2 => (R.cells n c a h1 h2).futW (FutW.setH h (R.nfH h)) (upd_ne fun e => by
    subst e
    exact (R.hid _ h).1 (List.mem_of_getElem? h2))⟩
/-- what was hidden is data -/
theorem FutW.show_ {p : Addr} {hs : List Addr} (e : r.2 = p :: hs) : FutW r H (r.1, hs) H :=
  ⟨fun _ _ _ h => h, fun _ _ h _ => h, List.prefix_rfl, fun a o _ n => ⟨n.1, fun m => n.2 (by rw [e]; exact List.mem_cons_of_mem _ m)⟩⟩
theorem Rel.show_ {st : Sto} {p : Addr} {hs : List Addr} (R : Rel C r st H) (e : r.2 = p :: hs) : Rel C (r.1, hs) st H :=
  ⟨R.len, R.nd, fun a m => R.hid a (by rw [e]; exact List.mem_cons_of_mem _ m), fun n c a h1 h2 => (R.cells n c a h1 h2).futW (FutW.show_ e) rfl⟩
/-- what was hidden is the store's -/
theorem FutW.adopt {p : Addr} {hs : List Addr} (e : r.2 = p :: hs) : FutW r H (r.1 ++ [p], hs) H :=
  ⟨fun _ _ _ h => h, fun _ _ h _ => h, ⟨[p], rfl⟩, fun a o _ n => ⟨fun m => by
    rcases List.mem_append.mp m with q | q
    · exact n.1 q
    · simp at q; subst q; exact n.2 (by rw [e]; exact List.mem_cons_self), fun m => n.2 (by rw [e]; exact List.mem_cons_of_mem _ m)⟩⟩
theorem Rel.adopt {st : Sto} {p : Addr} {hs : List Addr} {c : Cell} (R : Rel C r st H) (e : r.2 = p :: hs) (hp : p ∉ hs) (new : CellR C (r.1 ++ [p], hs) H p c) : Rel C (r.1 ++ [p], hs) (st ++ [c]) H := by
  have hp1 : p ∉ r.1 := (R.hid p (by rw [e]; exact List.mem_cons_self)).1
  refine ⟨by simp [R.len], ?_, fun a m => ?_, fun n c' a h1 h2 => ?_⟩
  · show (r.1 ++ [p]).Nodup
    rw [List.nodup_append]
    refine ⟨R.nd, by simp, fun a ha b hb => ?_⟩
    simp at hb
    subst hb
    intro e
    subst e
    exact hp1 ha
  · obtain ⟨h1, u, e2, mv⟩ := R.hid a (by rw [e]; exact List.mem_cons_of_mem _ m)
    refine ⟨fun q => ?_, u, e2, mv⟩
    rcases List.mem_append.mp q with q | q
    · exact h1 q
    · simp at q; subst q; exact hp m
  · replace h2 : (r.1 ++ [p])[n]? = some a := h2
    by_cases hn : n < st.length
    · rw [List.getElem?_append_left hn] at h1
      rw [List.getElem?_append_left (by rw [R.len]; exact hn)] at h2
      exact (R.cells n c' a h1 h2).futW (FutW.adopt e) rfl
    · have e : n = st.length := by
        have := (List.getElem?_eq_some_iff.mp h1).1
        simp at this
        omega
      subst e
      simp at h1
      rw [← R.len] at h2
      simp at h2
      subst h1; subst h2
      exact new

/-! ### locks -/
/-- a locked one of the store is free again -/
theorem FutV.unlock {n : Nat} {a : Addr} {o : HO} (h : r.1[n]? = some a) : FutV r H r (upd H a o) :=
  ⟨fun b u e m => by
    rw [upd_ne (fun z => m.1 (by subst z; exact List.mem_of_getElem? h))]
    exact e, List.prefix_rfl, fun _ _ _ m => m⟩
theorem Rel.unlock {st : Sto} {n : Nat} {a : Addr} {o : HO} {c : Cell} (R : Rel C r st H) (h : r.1[n]? = some a) (new : CellR C r (upd H a o) a c) : Rel C r (st.set n c) (upd H a o) := by
  refine ⟨by simp [R.len], R.nd, fun b m => ?_, fun m c' b h1 h2 => ?_⟩
  · obtain ⟨h1, u, e, mu⟩ := R.hid b m
    exact ⟨h1, u, by rw [upd_ne (fun z => h1 (by subst z; exact List.mem_of_getElem? h))]; exact e, mu⟩
  by_cases e : m = n
  · subst e
    rw [h] at h2
    cases h2
    have hl : m < st.length := by rw [← R.len]; exact (List.getElem?_eq_some_iff.mp h).1
    rw [List.getElem?_set_self hl] at h1
    cases h1
    exact new
  · rw [List.getElem?_set_ne (Ne.symm e)] at h1
    exact (R.cells m c' b h1 h2).futV (FutV.unlock h) (upd_ne fun z => by
      subst z
      exact e (R.get_inj h2 h))
/-- locked, then free: what was locked ahead stays so -/
theorem Fut.locked {n : Nat} {a : Addr} {o u u' : HO} {od : Obj} (h : r.1[n]? = some a) (e : H a = some u) (m : Mut (some u)) (f : Fut r (upd H a (.frz od u)) r' H') : Fut r H r' (upd H' a u') where
  lk := fun b o' v z => by
    have ne : b ≠ a := fun q => by rw [q, e] at z; cases z; exact m
    rw [upd_ne ne]
    exact f.lk b o' v (by rw [upd_ne ne]; exact z)
  keep := fun b o' z n => by
    have ne : b ≠ a := fun q => n (by rw [q]; exact List.mem_of_getElem? h)
    rw [upd_ne ne]
    exact f.keep b o' (by rw [upd_ne ne]; exact z) n
  ext := f.ext
  hid := f.hid
  new := fun b z => by
    rcases f.new b z with q | q
    · exact .inl q
    · by_cases ne : b = a
      · subst ne; exact .inl (List.mem_of_getElem? h)
      · rw [upd_ne ne] at q; exact .inr q
/-! ### the frame's names -/
def REp (C : Ct) (r : Lay) (H : Hp) (P : Nat → Prop) (env : St') (s : L2.St) : Prop :=
  env.length = s.length ∧ ∀ (i : Nat) (d : D), P i → env[i]? = some (some d) → ∃ v, s[i]? = some (some v) ∧ RD C r H d v
theorem REp.futV {P : Nat → Prop} {env : St'} {s : L2.St} (h : REp C r H P env s) (f : FutV r H r' H') : REp C r' H' P env s :=
  ⟨h.1, fun i d p e => let ⟨v, h1, h2⟩ := h.2 i d p e; ⟨v, h1, h2.futV f⟩⟩
theorem REp.set {P : Nat → Prop} {env : St'} {s : L2.St} (h : REp C r H P env s) (i : Nat) {d : D} {v : V} (q : RD C r H d v) : REp C r H (fun j => P j ∨ j = i) (env.set i (some d)) (s.set i (some v)) := by
  refine ⟨by simp [h.1], fun j e p hj => ?_⟩
  by_cases ij : i = j
  · subst ij
    have hl : i < env.length := by
      have := (List.getElem?_eq_some_iff.mp hj).1
      simpa using this
    rw [List.getElem?_set_self hl] at hj
    cases hj
    exact ⟨v, by rw [List.getElem?_set_self (by rw [← h.1]; exact hl)], q⟩
  · rw [List.getElem?_set_ne ij] at hj
    obtain ⟨u, h1, h2⟩ := h.2 j e (p.resolve_right (Ne.symm ij)) hj
    exact ⟨u, by rw [List.getElem?_set_ne ij]; exact h1, h2⟩
def RE (C : Ct) (r : Lay) (H : Hp) (env : St') (s : L2.St) : Prop :=
  env.length = s.length ∧ ∀ (i : Nat) (d : D), env[i]? = some (some d) → ∃ v, s[i]? = some (some v) ∧ RD C r H d v
theorem RE.fut {env : St'} {s : L2.St} (h : RE C r H env s) (f : Fut r H r' H') : RE C r' H' env s :=
  ⟨h.1, fun i d e => let ⟨v, h1, h2⟩ := h.2 i d e; ⟨v, h1, h2.fut f⟩⟩
theorem RE.set {env : St'} {s : L2.St} (h : RE C r H env s) (i : Nat) {d : D} {v : V} (q : RD C r H d v) : RE C r H (env.set i (some d)) (s.set i (some v)) := by
  refine ⟨by simp [h.1], fun j e hj => ?_⟩
  by_cases ij : i = j
  · subst ij
    have hl : i < env.length := by
      have := (List.getElem?_eq_some_iff.mp hj).1
      simpa using this
    rw [List.getElem?_set_self hl] at hj
    cases hj
    exact ⟨v, by rw [List.getElem?_set_self (by rw [← h.1]; exact hl)], q⟩
  · rw [List.getElem?_set_ne ij] at hj
    obtain ⟨u, h1, h2⟩ := h.2 j e hj
    exact ⟨u, by rw [List.getElem?_set_ne ij]; exact h1, h2⟩
end
/-! ### texts -/
theorem ofS_cps (s : String) : (Str.ofString s).cps.toList = s.toList.map Char.toNat := by rw [Str.ofString_eq_toList]
theorem ofS_len (s : String) : (Str.ofString s).length = s.length := by
  rw [Str.ofString_eq_toList]
  show (List.map Char.toNat s.toList).toArray.size = _
  rw [List.size_toArray, List.length_map, String.length_toList]
theorem ofS_mk {x : Str} {l : List Char} (h : x.cps.toList = l.map Char.toNat) : x = Str.ofString (String.ofList l) := by
  rw [Str.ofString_eq_toList, String.toList_ofList, ← h]
theorem toNat_inj' {a b : Char} (h : a.toNat = b.toNat) : a = b := by
  apply Char.ext
  exact UInt32.toNat_inj.mp h
theorem map_toNat_inj : ∀ {a b : List Char}, a.map Char.toNat = b.map Char.toNat → a = b
  | [], [], _ => rfl
  | [], _ :: _, h => by cases h
  | _ :: _, [], h => by cases h
  | x :: a, y :: b, h => by
    simp only [List.map_cons, List.cons.injEq] at h
    rw [toNat_inj' h.1, map_toNat_inj h.2]
theorem ofS_inj {a b : String} (h : Str.ofString a = Str.ofString b) : a = b := by
  have e := congrArg (fun x : Str => x.cps.toList) h
  simp only [ofS_cps] at e
  exact String.toList_inj.mp (map_toNat_inj e)
theorem ofS_eq (a b : String) : (Str.ofString a = Str.ofString b) ↔ a = b := ⟨ofS_inj, fun h => by rw [h]⟩
end DL

set_option maxHeartbeats 1000000
/-! DLSyn: the programs that are read, and what must hold so that they reach an end (wp). -/
namespace DL
open PySem PySem.Spec PyProof.Rows L2

inductive Bop where
  | add | sub | mul | fdiv | mod | pow | band | bor | bxor | shl | shr | fdivN | modN
deriving DecidableEq
inductive Uop where
  | neg | inv
deriving DecidableEq
inductive Cop where
  | eq | ne | lt | le | gt | ge | is_ | isnot | in_ | notin
deriving DecidableEq
/-- built-in functions -/
inductive Bi where
  | len | int_ | str_ | repr_ | tuple_ | list_ | sorted_ | all_ | any_ | sum_ | max1 | min1 | max2 | min2 | abs_ | ord_ | type_ | dict1 | bool_ | set_
deriving DecidableEq
/-- types that isinstance asks for -/
inductive TyN where
  | non | bool | int | str | tuple | list | dict
deriving DecidableEq
def TyN.nm : TyN → String
  | .non => "NoneType" | .bool => "bool" | .int => "int" | .str => "str" | .tuple => "tuple" | .list => "list" | .dict => "dict"
/-- an instance of u is one of t -/
def TyN.sub : TyN → TyN → Bool
  | .non, .non => true | .bool, .bool => true | .bool, .int => true | .int, .int => true | .str, .str => true | .tuple, .tuple => true | .list, .list => true | .dict, .dict => true
  | _, _ => false
/-- methods of built-in types -/
inductive Bm where
  | append | extend | pop0 | pop1 | remove | index | count | get1 | get2 | setdefault | join | split1 | find | reverse | insert | update | clear | dpop1 | scount
deriving DecidableEq
inductive MTy where
  | list | str | dict
def MTy.nm : MTy → String
  | .list => "list" | .str => "str" | .dict => "dict"
def Bm.ty : Bm → MTy
  | .append | .extend | .pop0 | .pop1 | .remove | .index | .count | .reverse | .insert => .list
  | .join | .split1 | .find | .scount => .str
  | _ => .dict
def Bm.nm : Bm → String
  | .append => "append" | .extend => "extend" | .pop0 => "pop" | .pop1 => "pop" | .remove => "remove" | .index => "index" | .count => "count" | .get1 => "get" | .get2 => "get" | .setdefault => "setdefault" | .join => "join" | .split1 => "split"
  | .find => "find" | .reverse => "reverse" | .insert => "insert" | .update => "update" | .clear => "clear" | .dpop1 => "pop" | .scount => "count"

mutual
inductive E where
  | non | bl (b : Bool) | int (i : Int) | str (s : String) | dead
  | v (i : Nat) | g (x : String)
  | tup (es : Es) | lst (m : Bool) (es : Es) | dct (t : Bool)
  | bin (o : Bop) (a b : E) | un (o : Uop) (a : E)
  | cmp (o : Cop) (a b : E) | cmp2 (o o' : Cop) (a b c : E)
  | and_ (es : Es) | or_ (es : Es) | not_ (a : E) | ife (c a b : E)
  | ix (a i : E) | sl (m : Bool) (a : E) (lo hi : Eo) | rev (m : Bool) (a : E)
  | isi (a : E) (t : TyN) | isi2 (a : E) (t u : TyN)
  | dsp (ks : List String) (vs : Es) | lrep (m : Bool) (a k : E) | lcat (m : Bool) (a b : E) | ssort (m : Bool) (a : E) | nilq (neg : Bool) (a : E)
  | call (f : String) (es : Es) | new (c : String) (es : Es)
  | fld (o : E) (f : String) | meth (c m : String) (o : E) (es : Es) | bm (b : Bm) (o : E) (es : Es)
  | bi (m : Bool) (f : Bi) (es : Es)
  | lc (m : Bool) (elt : E) (t : T) (it : It) (c : Eo)
  | lc2 (m : Bool) (elt : E) (t : T) (it : It) (c : Eo) (t2 : T) (it2 : It) (c2 : Eo)
  | dc (b : Bool) (k v : E) (t : T) (it : It) (c : Eo)
inductive Es where
  | nil | cons (e : E) (es : Es)
inductive Eo where
  | none | some (e : E)
/-- targets: names and tuples of names -/
inductive T where
  | v (i : Nat) | tup (ts : Ts)
inductive Ts where
  | nil | cons (t : T) (ts : Ts)
/-- what a for walks -/
inductive It where
  | e (x : E) | range1 (a : E) | range2 (a b : E) | range3 (a b c : E) | zip (a b : E) | enum (a : E) | rev (a : E) | items (a : E) | values (a : E) | keys (a : E)
end

/-- further targets of an assignment -/
inductive Tg where
  | t (t : T) | ix (a i : E) | fld (o : E) (f : String)

mutual
inductive S where
  | asg (t : Tg) (e : E) | par (i j : Nat) (es : Es) | aug (o : Bop) (t : Tg) (e : E) | ex (e : E) | ret (e : E) | ret0
  | ite (c : E) (a b : Ss) | for_ (t : T) (it : It) (body : Ss) | while_ (c : E) (body : Ss)
  | brk | cont | pass | dead | raise (c : String) (es : Es) | try_ (body : Ss) (hs : Hs) | del (a i : E) | tryf (body : Ss) (c : String) (i : Nat) (f : String)
inductive Ss where
  | nil | cons (s : S) (ss : Ss) | stop (ss : Ss)
/-- except clauses: the class, the slot of the name, the suite -/
inductive Hs where
  | nil | cons (c : String) (n : Option Nat) (body : Ss) (hs : Hs)
end

def Es.of : List E → Es
  | [] => .nil
  | e :: es => .cons e (Es.of es)
def Ss.of : List S → Ss
  | [] => .nil
  | e :: es => .cons e (Ss.of es)
def Ts.of : List T → Ts
  | [] => .nil
  | e :: es => .cons e (Ts.of es)

/-! ### values -/
mutual
def D.beq : D → D → Bool
  | .non, .non => true
  | .bl a, .bl b => a == b
  | .int a, .int b => a == b
  | .str a, .str b => a == b
  | .tup a, .tup b => D.beqs a b
  | .lst a, .lst b => D.beqs a b
  | .loc a, .loc b => a == b
  | .gl a, .gl b => a == b
  | .ty a, .ty b => a == b
  | .scr a, .scr b => decide (a = b)
  | .kt a, .kt b => decide (a = b)
  | _, _ => false
def D.beqs : List D → List D → Bool
  | [], [] => true
  | x :: xs, y :: ys => D.beq x y && D.beqs xs ys
  | _, _ => false
end
mutual
theorem D.beq_iff : ∀ a b : D, D.beq a b = true ↔ a = b
  | .non, b => by cases b <;> simp [D.beq]
  | .bl a, b => by cases b <;> simp [D.beq]
  | .int a, b => by cases b <;> simp [D.beq]
  | .str a, b => by cases b <;> simp [D.beq]
  | .loc a, b => by cases b <;> simp [D.beq]
  | .gl a, b => by cases b <;> simp [D.beq]
  | .ty a, b => by cases b <;> simp [D.beq]
  | .scr a, b => by cases b <;> simp [D.beq]
  | .kt a, b => by cases b <;> simp [D.beq]
  | .tup a, b => by cases b <;> simp [D.beq, D.beqs_iff a]
  | .lst a, b => by cases b <;> simp [D.beq, D.beqs_iff a]
theorem D.beqs_iff : ∀ a b : List D, D.beqs a b = true ↔ a = b
  | [], b => by cases b <;> simp [D.beqs]
  | x :: xs, b => by cases b <;> simp [D.beqs, D.beq_iff x, D.beqs_iff xs]
end
instance : DecidableEq D := fun a b => decidable_of_iff _ (D.beq_iff a b)

mutual
/-- a == b, of data -/
def D.eqv : D → D → Bool
  | .non, .non => true
  | .bl a, .bl b => a == b
  | .bl a, .int j => (if a then 1 else 0) == j
  | .int i, .bl b => i == (if b then 1 else 0)
  | .int a, .int b => a == b
  | .str a, .str b => a == b
  | .tup a, .tup b => D.eqvs a b
  | .lst a, .lst b => D.eqvs a b
  | _, _ => false
def D.eqvs : List D → List D → Bool
  | [], [] => true
  | x :: xs, y :: ys => D.eqv x y && D.eqvs xs ys
  | _, _ => false
end
mutual
/-- no changeable object, no class in it -/
def D.pure : D → Bool
  | .loc _ | .gl _ | .ty _ | .scr _ | .kt _ => false
  | .tup xs | .lst xs => D.pures xs
  | _ => true
def D.pures : List D → Bool
  | [] => true
  | x :: xs => D.pure x && D.pures xs
end
mutual
def D.depth : D → Nat
  | .tup xs | .lst xs => D.depths xs + 1
  | _ => 0
def D.depths : List D → Nat
  | [] => 0
  | x :: xs => max (D.depth x) (D.depths xs)
end
/-- an item of an order: an int or a text -/
def D.flat : D → Bool
  | .int _ | .str _ => true
  | _ => false

/-- a < b of texts -/
def ltS (a b : String) : Bool := decide (a.toList.map Char.toNat < b.toList.map Char.toNat)
mutual
/-- a < b of data, where it is told: ints, texts, tuples of such (none: not told) -/
def D.lt : D → D → Option Bool
  | .int a, .int b => some (decide (a < b))
  | .str a, .str b => some (ltS a b)
  | .tup a, .tup b => D.lts a b
  | _, _ => none
def D.lts : List D → List D → Option Bool
  | [], [] => some false
  | [], _ :: _ => some true
  | _ :: _, [] => some false
  | x :: xs, y :: ys => (match D.lts xs ys with
    | none => none
    | some t => if D.eqv x y then some t else D.lt x y)
end

/-! as the library's data -/
mutual
def toP : D → PyData
  | .bl b => .bool b
  | .int i => .int i
  | .str s => .str (Str.ofString s)
  | .tup xs => .tuple (toPs xs)
  | .lst xs => .list (toPs xs)
  | _ => .none
def toPs : List D → List PyData
  | [] => []
  | x :: xs => toP x :: toPs xs
end
/-- sorted: what it asks, what it gives -/
def srtOk (xs : List D) : Prop := D.pures xs = true ∧ xs.length ≤ sizeLine ∧ D.depths xs ≤ 60 ∧ PySem.W.AllAlike (xs.map toP) ∧ PySem.W.Sortable (xs.map toP)
noncomputable def sortD (xs : List D) : List D := xs.mergeSort (PySem.W.dataLe false toP)
/-- the items of a list, a tuple -/
def seqOf (st : Sto) : D → Option (List D)
  | .tup xs => some xs
  | .lst xs => some xs
  | .loc n => (match st[n]? with
    | some (.lst xs) => some xs
    | _ => none)
  | _ => none
/-- what is collected of a thing: a dict's keys, else its items -/
def itemsOf (st : Sto) : D → Option (List D)
  | .tup xs => some xs
  | .lst xs => some xs
  | .loc n => (match st[n]? with
    | some (.lst xs) => some xs
    | some (.dct _ kvs) => some (kvs.map (·.1))
    | _ => none)
  | _ => none
def cutD {α : Type} (xs : List α) (lo hi : Option Int) : List α := (xs.drop (HT.sIx xs.length 0 lo)).take (HT.sIx xs.length xs.length hi - HT.sIx xs.length 0 lo)

/-! ### small readings -/
def onBl : D → (Bool → Prop) → Prop
  | .bl b, k => k b
  | _, _ => False
def onInt : D → (Int → Prop) → Prop
  | .int i, k => k i
  | _, _ => False
def onStr : D → (String → Prop) → Prop
  | .str s, k => k s
  | _, _ => False
def onSome {α : Type} : Option α → (α → Prop) → Prop
  | some a, k => k a
  | none, _ => False
def onLst : Cell → (List D → Prop) → Prop
  | .lst xs, k => k xs
  | _, _ => False
def onDct : Cell → (Bool → List (D × D) → Prop) → Prop
  | .dct t xs, k => k t xs
  | _, _ => False
def ifB : Bool → Prop → Prop → Prop
  | true, p, _ => p
  | false, _, q => q
def getS : St' → Nat → (D → Prop) → Prop
  | [], _, _ => False
  | x :: _, 0, k => onSome x k
  | _ :: xs, n + 1, k => getS xs n k
def setS : St' → Nat → D → St'
  | [], _, _ => []
  | _ :: xs, 0, d => some d :: xs
  | x :: xs, n + 1, d => x :: setS xs n d
theorem setS_eq : ∀ (env : St') (i : Nat) (d : D), setS env i d = env.set i (some d)
  | [], _, _ => rfl
  | _ :: _, 0, _ => rfl
  | x :: xs, n + 1, d => by rw [setS, setS_eq xs n d]; rfl
theorem getS_iff : ∀ {env : St'} {i : Nat} {k : D → Prop}, getS env i k → ∃ d, env[i]? = some (some d) ∧ k d
  | some d :: _, 0, k, h => ⟨d, rfl, h⟩
  | none :: _, 0, _, h => h.elim
  | x :: xs, n + 1, k, h => by
    obtain ⟨d, e, h⟩ := getS_iff (env := xs) (i := n) (k := k) h
    exact ⟨d, by simpa using e, h⟩
  | [], _, _, h => h.elim
theorem ifB_intro {b : Bool} {p q : Prop} (h1 : b = true → p) (h2 : b = false → q) : ifB b p q := by
  cases b with
  | true => exact h1 rfl
  | false => exact h2 rfl
theorem ifB_t {b : Bool} {p q : Prop} (h : b = true) (hp : p) : ifB b p q := by subst h; exact hp
theorem ifB_f {b : Bool} {p q : Prop} (h : b = false) (hq : q) : ifB b p q := by subst h; exact hq

/-- fields -/
def getF : List (String × D) → String → (D → Prop) → Prop
  | [], _, _ => False
  | (g, d) :: fs, f, k => ifB (decide (g = f)) (k d) (getF fs f k)
def putF' : List (String × D) → String → D → List (String × D)
  | [], f, d => [(f, d)]
  | (g, x) :: fs, f, d => if g = f then (g, d) :: fs else (g, x) :: putF' fs f d

theorem getF_iff : ∀ {fs : List (String × D)} {f : String} {k : D → Prop}, getF fs f k → ∃ d, (∀ {C : Ct} {r : Lay} {H : Hp} {vs : List (Str × V)}, RFs C r H fs vs → ∃ v, vs.lookup (Str.ofString f) = some v ∧ RD C r H d v) ∧ (∃ g ∈ fs, g.1 = f) ∧ k d
  | [], _, _, h => h.elim
  | (g, d) :: fs, f, k, h => by
    by_cases e : g = f
    · subst e
      have h : ifB (decide (g = g)) (k d) (getF fs g k) := h
      rw [decide_eq_true rfl] at h
      refine ⟨d, fun q => ?_, ⟨_, List.mem_cons_self, rfl⟩, h⟩
      cases q with
      | cons q t => exact ⟨_, by simp [List.lookup_cons], q⟩
    · have h : ifB (decide (g = f)) (k d) (getF fs f k) := h
      rw [decide_eq_false e] at h
      obtain ⟨d', h1, ⟨p, h2, h3⟩, h4⟩ := getF_iff (fs := fs) h
      refine ⟨d', fun q => ?_, ⟨p, List.mem_cons_of_mem _ h2, h3⟩, h4⟩
      cases q with
      | @cons _ x v xs vs q t =>
        obtain ⟨u, k1, k2⟩ := h1 t
        refine ⟨u, ?_, k2⟩
        have ne : (Str.ofString f == Str.ofString g) = false := beq_eq_false_iff_ne.mpr fun z => e (ofS_inj z).symm
        rw [List.lookup_cons, ne]
        exact k1
theorem RFs.put {C : Ct} {r : Lay} {H : Hp} {f : String} {d : D} {v : V} (q : RD C r H d v) : ∀ {fs : List (String × D)} {vs : List (Str × V)}, RFs C r H fs vs → RFs C r H (putF' fs f d) (putF (Str.ofString f) v vs)
  | _, _, .nil => .cons q .nil
  | _, _, .cons (f := g) (x := x) (v := u) (xs := xs) (vs := vs) p t => by
    have ih := RFs.put (f := f) q t
    show RFs C r H (if g = f then (g, d) :: xs else (g, x) :: putF' xs f d) (if Str.ofString g = Str.ofString f then (Str.ofString g, v) :: vs else (Str.ofString g, u) :: putF (Str.ofString f) v vs)
    by_cases e : g = f
    · rw [if_pos e, if_pos (by rw [e])]
      exact .cons q t
    · rw [if_neg e, if_neg fun z => e (ofS_inj z)]
      exact .cons p ih
theorem putF_mem {f : String} {d : D} : ∀ {fs : List (String × D)} {p : String × D}, p ∈ putF' fs f d → p.1 = f ∨ ∃ q ∈ fs, q.1 = p.1
  | [], p, m => .inl (by rw [List.mem_singleton.mp m])
  | (g, x) :: fs, p, m => by
    have m : p ∈ (if g = f then (g, d) :: fs else (g, x) :: putF' fs f d) := m
    split at m
    · rename_i e
      rcases List.mem_cons.mp m with e2 | m
      · subst e2; exact .inl e
      · exact .inr ⟨p, List.mem_cons_of_mem _ m, rfl⟩
    · rcases List.mem_cons.mp m with e2 | m
      · subst e2; exact .inr ⟨_, List.mem_cons_self, rfl⟩
      · rcases putF_mem m with h | ⟨q, h, e⟩
        · exact .inl h
        · exact .inr ⟨q, List.mem_cons_of_mem _ h, e⟩
theorem putF_len {f : String} {d : D} : ∀ {fs : List (String × D)}, (putF' fs f d).length ≤ fs.length + 1
  | [] => Nat.le_refl _
  | (g, x) :: fs => by
    show (if g = f then (g, d) :: fs else (g, x) :: putF' fs f d).length ≤ _
    split
    · simp
    · simp only [List.length_cons]
      have := putF_len (f := f) (d := d) (fs := fs)
      omega

/-- dicts: keys are data without truth values -/
def dGet : List (D × D) → D → Option D
  | [], _ => none
  | (k, v) :: r, d => if k = d then some v else dGet r d
def dPut (m : List (D × D)) (d x : D) : List (D × D) :=
  if (m.any fun p => decide (p.1 = d)) = true then m.map (fun p => if p.1 = d then (p.1, x) else p) else m ++ [(d, x)]
def dDel (m : List (D × D)) (d : D) : List (D × D) := m.filter fun p => decide (p.1 ≠ d)
/-- a key: an int, a text; a tuple of such -/
def D.key1 : D → Bool
  | .int _ | .str _ => true
  | _ => false
def D.key (t : Bool) (d : D) : Bool :=
  match t with
  | false => D.key1 d
  | true => (match d with
    | .tup xs => xs.all D.key1
    | _ => false)

/-! ### operators -/
def big64 (i : Int) : Bool := decide (-(2 ^ 64) < i ∧ i < 2 ^ 64)
def wpBin (o : Bop) (x y : D) (st : Sto) (Q : D → Sto → Prop) : Prop :=
  match o with
  | .add => (match x, y with
    | .int i, .int j => Q (.int (i + j)) st
    | .str a, .str b => a.length + b.length ≤ sizeLine ∧ Q (.str (a ++ b)) st
    | .tup a, .tup b => a.length + b.length ≤ sizeLine ∧ Q (.tup (a ++ b)) st
    | .lst a, .lst b => a.length + b.length ≤ sizeLine ∧ Q (.lst (a ++ b)) st
    | _, _ => False)
  | .sub => (match x, y with
    | .int i, .int j => Q (.int (i - j)) st
    | _, _ => False)
  | .mul => (match x, y with
    | .int i, .int j => (big64 i || big64 j) = true ∧ Q (.int (i * j)) st
    | .lst a, .int k => (-(2 ^ 63) ≤ k ∧ k < 2 ^ 63 ∧ a.length * k.toNat ≤ sizeLine) ∧ Q (.lst (List.replicate k.toNat a).flatten) st
    | .str a, .int k => (2 ≤ k ∧ k ≤ 1000 ∧ 0 < a.length ∧ a.length ≤ 1000) ∧ Q (.str (String.ofList (List.replicate k.toNat a.toList).flatten)) st
    | .tup a, .int k => (0 ≤ k ∧ k ≤ 1000 ∧ 0 < a.length ∧ a.length ≤ 1000) ∧ Q (.tup (List.replicate k.toNat a).flatten) st
    | .tup a, .bl b => 0 < a.length ∧ Q (.tup (bif b then a else [])) st
    | _, _ => False)
  | .fdiv => (match x, y with
    | .int i, .int j => (0 < j ∧ j < 1073741824) ∧ Q (.int (i / j)) st
    | _, _ => False)
  | .mod => (match x, y with
    | .int i, .int j => 0 < j ∧ Q (.int (i % j)) st
    | _, _ => False)
  | .fdivN => (match x, y with
    | .int i, .int j => (j ≠ 0 ∧ j.natAbs < 2 ^ 64) ∧ Q (.int (i.fdiv j)) st
    | _, _ => False)
  | .modN => (match x, y with
    | .int i, .int j => j ≠ 0 ∧ Q (.int (i.fmod j)) st
    | _, _ => False)
  | .pow => (match x, y with
    | .int i, .int j => (0 ≤ j ∧ j ≤ 1000000 ∧ i.natAbs < 2 ^ 64) ∧ Q (.int (i ^ j.toNat)) st
    | _, _ => False)
  | .band => (match x, y with
    | .int i, .int j => Q (.int (Builtin.bitAnd i j)) st
    | _, _ => False)
  | .bor => (match x, y with
    | .int i, .int j => Q (.int (Builtin.bitOr i j)) st
    | _, _ => False)
  | .bxor => (match x, y with
    | .int i, .int j => Q (.int (Builtin.bitXor i j)) st
    | _, _ => False)
  | .shl => (match x, y with
    | .int i, .int j => (0 ≤ j ∧ j ≤ 1000000 ∧ i.natAbs < 2 ^ 64) ∧ Q (.int (i * 2 ^ j.toNat)) st
    | _, _ => False)
  | .shr => (match x, y with
    | .int i, .int j => 0 ≤ j ∧ Q (.int (i / 2 ^ j.toNat)) st
    | _, _ => False)
def wpUn (o : Uop) (x : D) (Q : D → Prop) : Prop :=
  match o with
  | .neg => onInt x fun i => Q (.int (-i))
  | .inv => onInt x fun i => Q (.int (Builtin.bitNot i))

/-- data to compare: what the store has of it is taken out -/
def flatOf (st : Sto) : D → D
  | .loc n => (match st[n]? with
    | some (.lst xs) => .lst xs
    | _ => .loc n)
  | d => d
def cmpD (x : D) : Bool := D.pure x && decide (D.depth x ≤ 60)
def wpOrd (f : Bool → Bool) (a b : D) (Q : D → Prop) : Prop :=
  match a, b with
  | .int i, .int j => Q (.bl (f (decide (i < j))))
  | .str s, .str t => Q (.bl (f (ltS s t)))
  | .tup xs, .tup ys => (cmpD (.tup xs) = true ∧ cmpD (.tup ys) = true) ∧ onSome (D.lts xs ys) fun c => Q (.bl (f c))
  | _, _ => False
def wpIn (neg : Bool) (x y : D) (st : Sto) (Q : D → Prop) : Prop :=
  match y with
  | .str z => onStr x fun s => (match s.toList with
    | [c] => Q (.bl (neg != decide (c ∈ z.toList)))
    | _ => False)
  | .tup ys => (cmpD x = true ∧ cmpD (.lst ys) = true) ∧ Q (.bl (neg != ys.any fun z => D.eqv z x))
  | .lst ys => (cmpD x = true ∧ cmpD (.lst ys) = true) ∧ Q (.bl (neg != ys.any fun z => D.eqv z x))
  | .kt ys => cmpD x = true ∧ Q (.bl (neg != ys.any fun z => D.eqv (.str z) x))
  | .loc n => onSome st[n]? fun c => (match c with
    | .lst ys => (cmpD x = true ∧ cmpD (.lst ys) = true) ∧ Q (.bl (neg != ys.any fun z => D.eqv z x))
    | .dct t kvs => D.key t x = true ∧ Q (.bl (neg != (dGet kvs x).isSome))
    | .dctF t kvs => D.key t x = true ∧ Q (.bl (neg != (dGet kvs x).isSome))
    | _ => False)
  | _ => False
def isNonD : D → Bool
  | .non => true
  | _ => false
def wpCmp (o : Cop) (x y : D) (st : Sto) (Q : D → Prop) : Prop :=
  match o with
  | .eq => (match x, y with
    | .int i, .int j => Q (.bl (decide (i = j)))
    | .str i, .str j => Q (.bl (decide (i = j)))
    | x, y => (cmpD (flatOf st x) = true ∧ cmpD (flatOf st y) = true) ∧ Q (.bl (D.eqv (flatOf st x) (flatOf st y))))
  | .ne => (match x, y with
    | .int i, .int j => Q (.bl (!decide (i = j)))
    | .str i, .str j => Q (.bl (!decide (i = j)))
    | x, y => (cmpD (flatOf st x) = true ∧ cmpD (flatOf st y) = true) ∧ Q (.bl (!D.eqv (flatOf st x) (flatOf st y))))
  | .lt => wpOrd (fun c => c) x y Q
  | .gt => wpOrd (fun c => c) y x Q
  | .le => (match x, y with
    | .int i, .int j => Q (.bl (decide (i ≤ j)))
    | x, y => wpOrd (fun c => !c) y x Q)
  | .ge => (match x, y with
    | .int i, .int j => Q (.bl (decide (j ≤ i)))
    | x, y => wpOrd (fun c => !c) x y Q)
  | .is_ => (match x, y with
    | .bl a, .bl b => Q (.bl (a == b))
    | .ty a, .ty b => Q (.bl (decide (a = b)))
    | x, .non => Q (.bl (isNonD x))
    | _, _ => False)
  | .isnot => (match x, y with
    | .bl a, .bl b => Q (.bl (!(a == b)))
    | .ty a, .ty b => Q (.bl (!decide (a = b)))
    | x, .non => Q (.bl (!isNonD x))
    | _, _ => False)
  | .in_ => wpIn false x y st Q
  | .notin => wpIn true x y st Q

def wpIx (a i : D) (st : Sto) (Q : D → Prop) : Prop :=
  match a with
  | .tup xs => onInt i fun i => onSome (atI xs i) Q
  | .lst xs => onInt i fun i => onSome (atI xs i) Q
  | .scr xs => onInt i fun i => onSome (atI xs i) fun n => Q (.int n)
  | .kt xs => onInt i fun i => onSome (atI xs i) fun n => Q (.str n)
  | .str s => onInt i fun i => s.length ≤ sizeLine ∧ onSome (atI s.toList i) fun c => Q (.str (String.ofList [c]))
  | .loc n => onSome st[n]? fun c => (match c with
    | .lst xs => onInt i fun i => onSome (atI xs i) Q
    | .dct t kvs => D.key t i = true ∧ onSome (dGet kvs i) Q
    | .dctF t kvs => D.key t i = true ∧ onSome (dGet kvs i) Q
    | _ => False)
  | _ => False
/-- a new list: data, or in the store -/
def newL (m : Bool) (xs : List D) (st : Sto) (Q : D → Sto → Prop) : Prop :=
  match m with
  | false => Q (.lst xs) st
  | true => Q (.loc st.length) (st ++ [.lst xs])
def wpSl (m : Bool) (a : D) (lo hi : Option Int) (st : Sto) (Q : D → Sto → Prop) : Prop :=
  match a with
  | .tup xs => Q (.tup (cutD xs lo hi)) st
  | .str s => s.length ≤ sizeLine ∧ Q (.str (String.ofList (cutD s.toList lo hi))) st
  | .lst xs => newL m (cutD xs lo hi) st Q
  | .loc n => onSome st[n]? fun c => onLst c fun xs => newL m (cutD xs lo hi) st Q
  | _ => False
def wpRev (m : Bool) (a : D) (st : Sto) (Q : D → Sto → Prop) : Prop :=
  match a with
  | .tup xs => Q (.tup xs.reverse) st
  | .lst xs => newL m xs.reverse st Q
  | .loc n => onSome st[n]? fun c => onLst c fun xs => newL m xs.reverse st Q
  | _ => False
/-- isinstance: the kinds that are told -/
def tyOf (st : Sto) : D → Option TyN
  | .non => some .non
  | .bl _ => some .bool
  | .int _ => some .int
  | .str _ => some .str
  | .tup _ => some .tuple
  | .lst _ => some .list
  | .scr _ => some .list
  | .kt _ => some .tuple
  | .loc n => (match st[n]? with
    | some (.lst _) => some .list
    | some (.dct _ _) => some .dict
    | _ => none)
  | _ => none

def lstK (d : D) (st : Sto) (k : List D → List (Nat × Cell) → Prop) : Prop :=
  match d with
  | .lst xs => k xs []
  | .loc n => onSome st[n]? fun c => onLst c fun xs => k xs [(n, .lst xs)]
  | _ => False
def isBlD : D → Bool
  | .bl _ => true
  | _ => false
def blD : D → Bool
  | .bl b => b
  | _ => false
def wpBi (m : Bool) (f : Bi) (ds : List D) (st : Sto) (Q : D → Sto → Prop) : Prop :=
  match f with
  | .len => (match ds with
    | [.str s] => s.length ≤ sizeLine ∧ Q (.int s.length) st
    | [.tup xs] => Q (.int xs.length) st
    | [.lst xs] => Q (.int xs.length) st
    | [.scr xs] => Q (.int xs.length) st
    | [.kt xs] => Q (.int xs.length) st
    | [.loc n] => onSome st[n]? fun c => (match c with
      | .lst xs => Q (.int xs.length) st
      | .dct _ kvs => Q (.int kvs.length) st
      | _ => False)
    | _ => False)
  | .int_ => (match ds with
    | [.int i] => Q (.int i) st
    | [.bl b] => Q (.int (if b then 1 else 0)) st
    | [.str s] => ∃ n, PySem.intText? (Str.ofString s) = some n ∧ s.length ≤ 640 ∧ Q (.int n) st
    | _ => False)
  | .str_ => (match ds with
    | [.int i] => i.natAbs.log2 < 1920 ∧ Q (.str (toString i)) st
    | _ => False)
  | .tuple_ => (match ds with
    | [.tup xs] => Q (.tup xs) st
    | [.lst xs] => Q (.tup xs) st
    | [.loc n] => onSome st[n]? fun c => onLst c fun xs => Q (.tup xs) st
    | _ => False)
  | .list_ => (match ds with
    | [.tup xs] => newL m xs st Q
    | [.lst xs] => newL m xs st Q
    | [.loc n] => onSome st[n]? fun c => (match c with
      | .lst xs => newL m xs st Q
      | .dct _ kvs => newL m (kvs.map (·.1)) st Q
      | _ => False)
    | _ => False)
  | .all_ => (match ds with
    | [.lst xs] => (xs.all isBlD) = true ∧ Q (.bl (xs.all blD)) st
    | _ => False)
  | .any_ => (match ds with
    | [.lst xs] => (xs.all isBlD) = true ∧ Q (.bl (xs.any blD)) st
    | _ => False)
  | .dict1 => (match ds with
    | [.loc n] => onSome st[n]? fun c => (match c with
      | .dct false kvs => Q (.loc st.length) (st ++ [.dct false kvs])
      | _ => False)
    | [.lst xs] => ∃ kvs : List (D × D), xs = kvs.map (fun p => .tup [p.1, p.2]) ∧ (kvs.all fun p => D.key1 p.1) = true ∧ (kvs.map (·.1)).Nodup ∧ Q (.loc st.length) (st ++ [.dct false kvs])
    | _ => False)
  | .max1 => (match ds with
    | [d] => lstK d st fun xs _ => ∃ ns : List Int, xs = ns.map .int ∧ 0 < ns.length ∧ ∀ m, m ∈ ns → (∀ y ∈ ns, y ≤ m) → Q (.int m) st
    | _ => False)
  | .sum_ => (match ds with
    | [d] => lstK d st fun xs _ => ∃ ns : List Int, xs = ns.map .int ∧ Q (.int ns.sum) st
    | _ => False)
  | .max2 => (match ds with
    | [.int i, .int j] => Q (.int (max i j)) st
    | _ => False)
  | .min2 => (match ds with
    | [.int i, .int j] => Q (.int (min i j)) st
    | _ => False)
  | .abs_ => (match ds with
    | [.int i] => Q (.int (if i < 0 then -i else i)) st
    | _ => False)
  | .sorted_ => (match ds with
    | [d] => onSome (itemsOf st d) fun xs => srtOk xs ∧ newL m (sortD xs) st Q
    | _ => False)
  | .repr_ => (match ds with
    | [.bl b] => Q (.str (match b with | true => "True" | false => "False")) st
    | _ => False)
  | .ord_ => (match ds with
    | [.str s] => (match s.toList with
      | [c] => Q (.int c.toNat) st
      | _ => False)
    | _ => False)
  | _ => False

/-- what may leave: class and fields -/
abbrev EX := Xc → Sto → Prop
structure Lib where
  call : String → List D → Sto → (D → Sto → Prop) → EX → Prop
  attr : String → String → Bool
  meth : String → String → List D → Sto → (D → Sto → Prop) → EX → Prop
  glob : String → Option D
  exf : String → Option (List String)
  sub : String → String → Option Bool

/-- the object is of the method's type -/
def bmTy (f : Bm) (o : D) (st : Sto) : Prop :=
  match f.ty with
  | .list => (match o with
    | .loc n => onSome st[n]? fun c => onLst c fun _ => True
    | .lst _ => True
    | _ => False)
  | .str => (match o with
    | .str _ => True
    | _ => False)
  | .dict => (match o with
    | .loc n => onSome st[n]? fun c => onDct c fun _ _ => True
    | _ => False)
def isStrD : D → Bool
  | .str _ => true
  | _ => false
def wpBm (f : Bm) (o : D) (ds : List D) (st : Sto) (Q : D → Sto → Prop) : Prop :=
  match f with
  | .append => (match o, ds with
    | .loc n, [d] => onSome st[n]? fun c => onLst c fun xs => xs.length < sizeLine ∧ Q .non (st.set n (.lst (xs ++ [d])))
    | _, _ => False)
  | .extend => (match o, ds with
    | .loc n, [d] => onSome st[n]? fun c => onLst c fun xs => (match d with
      | .lst ys => xs.length + ys.length ≤ sizeLine ∧ Q .non (st.set n (.lst (xs ++ ys)))
      | .tup ys => xs.length + ys.length ≤ sizeLine ∧ Q .non (st.set n (.lst (xs ++ ys)))
      | .loc m => onSome st[m]? fun c => onLst c fun ys => xs.length + ys.length ≤ sizeLine ∧ Q .non (st.set n (.lst (xs ++ ys)))
      | _ => False)
    | _, _ => False)
  | .pop0 => (match o, ds with
    | .loc n, [] => onSome st[n]? fun c => onLst c fun xs => onSome xs.getLast? fun d => Q d (st.set n (.lst xs.dropLast))
    | _, _ => False)
  | .pop1 => (match o, ds with
    | .loc n, [d] => onInt d fun i => onSome st[n]? fun c => onLst c fun xs => (-(2 ^ 63) ≤ i ∧ i < 2 ^ 63) ∧ onSome (ixN xs.length i) fun k => onSome xs[k]? fun d => Q d (st.set n (.lst (xs.eraseIdx k)))
    | _, _ => False)
  | .get2 => (match o, ds with
    | .loc n, [k, x] => onSome st[n]? fun c => onDct c fun t kvs => D.key t k = true ∧ Q ((dGet kvs k).getD x) st
    | _, _ => False)
  | .setdefault => (match o, ds with
    | .loc n, [k, x] => onSome st[n]? fun c => onDct c fun t kvs => (t = false ∧ D.key1 k = true ∧ kvs.length < sizeLine) ∧ (∀ v, dGet kvs k = some v → Q v st) ∧ (dGet kvs k = none → Q x (st.set n (.dct false (dPut kvs k x))))
    | _, _ => False)
  | .get1 => (match o, ds with
    | .loc n, [k] => onSome st[n]? fun c => onDct c fun t kvs => D.key t k = true ∧ Q ((dGet kvs k).getD .non) st
    | _, _ => False)
  | .remove => (match o, ds with
    | .loc n, [d] => onSome st[n]? fun c => onLst c fun xs => cmpD d = true ∧ cmpD (.lst xs) = true ∧ onSome (xs.findIdx? fun y => D.eqv y d) fun j => Q .non (st.set n (.lst (xs.eraseIdx j)))
    | _, _ => False)
  | .index => (match o, ds with
    | .lst ys, [.str z] => (ys.all isStrD) = true ∧ onSome (ys.findIdx? fun y => D.eqv y (.str z)) fun j => Q (.int (j : Nat)) st
    | _, _ => False)
  | .scount => (match o, ds with
    | .str s, [.str z] => (match z.toList with
      | [c] => Q (.int (s.toList.count c : Nat)) st
      | _ => False)
    | _, _ => False)
  | .join => (match o, ds with
    | .str z, [d] => onSome (seqOf st d) fun xs => ∃ ys : List String, xs = ys.map D.str ∧ (ys.map (·.length)).sum + ys.length * z.length ≤ 16777216 ∧ Q (.str (String.intercalate z ys)) st
    | _, _ => False)
  | _ => False

/-! ### what is walked -/
def strItems (s : String) : List D := s.toList.map fun c => .str (String.ofList [c])
/-- the items, and what must stay while they are walked -/
def itOf (d : D) (st : Sto) (k : List D → List (Nat × Cell) → Prop) : Prop :=
  match d with
  | .tup xs => k xs []
  | .lst xs => k xs []
  | .scr xs => k (xs.map D.int) []
  | .kt xs => k (xs.map D.str) []
  | .str s => s.length ≤ sizeLine ∧ k (strItems s) []
  | .loc n => onSome st[n]? fun c => (match c with
    | .lst xs => k xs [(n, .lst xs)]
    | _ => False)
  | _ => False
def seqK (d : D) (st : Sto) (k : List D → List (Nat × Cell) → Prop) : Prop :=
  match d with
  | .tup xs => k xs []
  | .lst xs => k xs []
  | .loc n => onSome st[n]? fun c => onLst c fun xs => k xs [(n, .lst xs)]
  | _ => False
def zipK (x y : D) (st : Sto) (k : List D → List D → List (Nat × Cell) → Prop) : Prop :=
  match x with
  | .tup xs => (match y with
    | .tup ys => k xs ys []
    | _ => False)
  | x => lstK x st fun xs s1 => lstK y st fun ys s2 => k xs ys (s1 ++ s2)
def rangeD (lo : Int) (n : Nat) : List D := (List.range n).map fun i => .int (lo + (i : Nat))

/-! ### targets -/
mutual
def wpT : T → D → St' → (St' → Prop) → Prop
  | .v i, d, env, k => k (setS env i d)
  | .tup ts, d, env, k => (match d with
    | .tup xs => wpTs ts xs env k
    | .lst xs => wpTs ts xs env k
    | _ => False)
def wpTs : Ts → List D → St' → (St' → Prop) → Prop
  | .nil, xs, env, k => (match xs with
    | [] => k env
    | _ => False)
  | .cons t ts, xs, env, k => (match xs with
    | x :: xs => wpT t x env fun env => wpTs ts xs env k
    | [] => False)
end

/-- what must stay while it is walked -/
def stayOk : List (Nat × Cell) → Sto → Prop → Prop
  | [], _, p => p
  | (n, c) :: l, st, p => st[n]? = some c ∧ stayOk l st p
/-- a comprehension's turns -/
def lcGo (stay : List (Nat × Cell)) (bind : D → (St' → Prop) → Prop) (c : St' → Sto → (Bool → Sto → Prop) → Prop) (elt : St' → Sto → (D → Sto → Prop) → Prop) : List D → List D → Sto → (List D → Sto → Prop) → Prop
  | [], acc, st, Q => stayOk stay st (Q acc.reverse st)
  | x :: xs, acc, st, Q => stayOk stay st (bind x fun env => c env st fun b st => ifB b (elt env st fun d st => acc.length < sizeLine ∧ lcGo stay bind c elt xs (d :: acc) st Q) (lcGo stay bind c elt xs acc st Q))

/-- a dict comprehension's turns -/
def dcGo (b : Bool) (stay : List (Nat × Cell)) (bind : D → (St' → Prop) → Prop) (c : St' → Sto → (Bool → Sto → Prop) → Prop) (ke ve : St' → Sto → (D → Sto → Prop) → Prop) : List D → List (D × D) → Sto → (List (D × D) → Sto → Prop) → Prop
  | [], m, st, Q => stayOk stay st (Q m st)
  | x :: xs, m, st, Q => stayOk stay st (bind x fun env => c env st fun t st => ifB t (ke env st fun kd st => ve env st fun vd st => D.key b kd = true ∧ m.length < sizeLine ∧ dcGo b stay bind c ke ve xs (dPut m kd vd) st Q) (dcGo b stay bind c ke ve xs m st Q))
/-- a written dict -/
def zipS : List String → List D → List (D × D)
  | k :: ks, u :: us => (.str k, u) :: zipS ks us
  | _, _ => []

/-- a place that is told by a name, an attribute of it, an entry of it -/
def locK (d : D) (k : Nat → Prop) : Prop := match d with
  | .loc n => k n
  | _ => False
def peekK : E → St' → Sto → (Nat → Prop) → Prop
  | .v i, env, _, k => getS env i fun d => locK d k
  | .fld (.v i) f, env, st, k => getS env i fun d => locK d fun m => onSome st[m]? fun c => (match c with
    | .obj _ fs => getF fs f fun d => locK d k
    | _ => False)
  | .ix (.v i) (.str s), env, st, k => getS env i fun d => locK d fun m => onSome st[m]? fun c => (match c with
    | .dct _ kvs => onSome (dGet kvs (.str s)) fun d => locK d k
    | _ => False)
  | _, _, _, _ => False
/-- a dict that is walked is locked meanwhile -/
def lockIt : It → St' → Sto → (Sto → (Sto → Prop → Prop) → (Sto → Sto) → Prop) → Prop
  | .keys a, env, st, k => peekK a env st fun n => onSome st[n]? fun c => onDct c fun b kvs => k (st.set n (.dctF b kvs)) (fun st p => st[n]? = some (.dctF b kvs) ∧ p) (fun st => st.set n (.dct b kvs))
  | _, _, st, k => k st (fun _ p => p) fun st => st
mutual
def wpE (L : Lib) : E → St' → Sto → (D → Sto → Prop) → EX → Prop
  | .non, _, st, Q, _ => Q .non st
  | .dead, _, _, _, _ => False
  | .bl b, _, st, Q, _ => Q (.bl b) st
  | .int i, _, st, Q, _ => Q (.int i) st
  | .str s, _, st, Q, _ => Q (.str s) st
  | .v i, env, st, Q, _ => getS env i fun d => Q d st
  | .g x, _, st, Q, _ => onSome (L.glob x) fun d => Q d st
  | .tup es, env, st, Q, X => wpEs L es env st (fun ds st => ds.length ≤ sizeLine ∧ Q (.tup ds) st) X
  | .lst m es, env, st, Q, X => wpEs L es env st (fun ds st => ds.length ≤ sizeLine ∧ newL m ds st Q) X
  | .dct t, _, st, Q, _ => Q (.loc st.length) (st ++ [.dct t []])
  | .bin o a b, env, st, Q, X => wpE L a env st (fun x st => wpE L b env st (fun y st => wpBin o x y st Q) X) X
  | .un o a, env, st, Q, X => wpE L a env st (fun x st => wpUn o x fun d => Q d st) X
  | .cmp o a b, env, st, Q, X => wpE L a env st (fun x st => wpE L b env st (fun y st => wpCmp o x y st fun d => Q d st) X) X
  | .cmp2 o o' a b c, env, st, Q, X => wpE L a env st (fun x st => wpE L b env st (fun y st => wpCmp o x y st fun d => onBl d fun t => ifB t (wpE L c env st (fun z st => wpCmp o' y z st fun d => Q d st) X) (Q (.bl false) st)) X) X
  | .and_ es, env, st, Q, X => wpAnd L es env st Q X
  | .or_ es, env, st, Q, X => wpOr L es env st Q X
  | .not_ a, env, st, Q, X => wpE L a env st (fun x st => onBl x fun b => Q (.bl (!b)) st) X
  | .ife c a b, env, st, Q, X => wpE L c env st (fun x st => onBl x fun t => ifB t (wpE L a env st Q X) (wpE L b env st Q X)) X
  | .ix a i, env, st, Q, X => wpE L a env st (fun x st => wpE L i env st (fun y st => wpIx x y st fun d => Q d st) X) X
  | .sl m a lo hi, env, st, Q, X => wpE L a env st (fun x st => wpEo L lo env st (fun l st => wpEo L hi env st (fun h st => wpSl m x l h st Q) X) X) X
  | .rev m a, env, st, Q, X => wpE L a env st (fun x st => wpRev m x st Q) X
  | .isi a t, env, st, Q, X => wpE L a env st (fun x st => onSome (tyOf st x) fun u => Q (.bl (TyN.sub u t)) st) X
  | .call f es, env, st, Q, X => wpEs L es env st (fun ds st => L.call f ds st Q X) X
  | .new c es, env, st, Q, X => wpEs L es env st (fun ds st => L.meth c "__init__" (.loc st.length :: ds) (st ++ [.obj c []]) (fun d st' => (match d with
      | .non => Q (.loc st.length) st'
      | _ => False)) X) X
  | .fld o f, env, st, Q, X => wpE L o env st (fun x st => (match x with
      | .loc n => onSome st[n]? fun c => (match c with
        | .obj _ fs => getF fs f fun d => Q d st
        | _ => False)
      | _ => False)) X
  | .meth cn m o es, env, st, Q, X => wpE L o env st (fun x st => (match x with
      | .loc n => onSome st[n]? fun c => (match c with
        | .obj c _ => c = cn ∧ wpEs L es env st (fun ds st => L.meth cn m (.loc n :: ds) st Q X) X
        | _ => False)
      | _ => False)) X
  | .bm b o es, env, st, Q, X => wpE L o env st (fun x st => bmTy b x st ∧ wpEs L es env st (fun ds st => wpBm b x ds st Q) X) X
  | .bi m f es, env, st, Q, X => wpEs L es env st (fun ds st => wpBi m f ds st Q) X
  | .lc m elt t it c, env, st, Q, X => lockIt it env st fun st lk un => wpIt L it env st (fun xs stay st => lcGo stay (fun d k => wpT t d env k) (fun env st k => wpC L c env st (fun b st => k b st) fun _ _ => False) (fun env st k => wpE L elt env st k fun _ _ => False) xs [] st fun ds st => newL m ds st fun d st => lk st (Q d (un st))) X
  | .lc2 .., _, _, _, _ => False
  | .isi2 a t u, env, st, Q, X => wpE L a env st (fun x st => onSome (tyOf st x) fun z => Q (.bl (TyN.sub z t || TyN.sub z u)) st) X
  | .dsp ks vs, env, st, Q, X => wpEs L vs env st (fun us st => us.length = ks.length ∧ us.length ≤ 15 ∧ Q (.loc st.length) (st ++ [.dct false (zipS ks us)])) X
  | .lrep m a k, env, st, Q, X => wpE L a env st (fun x st => wpE L k env st (fun y st => lstK x st fun xs _ => onInt y fun i => (-(2 ^ 63) ≤ i ∧ i < 2 ^ 63 ∧ xs.length * i.toNat ≤ sizeLine) ∧ newL m (List.replicate i.toNat xs).flatten st Q) X) X
  | .lcat m a b, env, st, Q, X => wpE L a env st (fun x st => wpE L b env st (fun y st => lstK x st fun xs _ => lstK y st fun ys _ => xs.length + ys.length ≤ sizeLine ∧ newL m (xs ++ ys) st Q) X) X
  | .nilq neg a, env, st, Q, X => wpE L a env st (fun x st => D.pure x = true ∧ Q (.bl (neg != D.eqv x (.tup []))) st) X
  | .ssort m a, env, st, Q, X => wpE L a env st (fun x st => lstK x st fun xs _ => ∃ ns B : List Int, xs = ns.map .int ∧ ns.length ≤ 4000 ∧ B.length < 64 ∧ (∀ z ∈ ns, z ∈ B) ∧ ∀ out : List Int, out.Pairwise (· < ·) → (∀ z, z ∈ out ↔ z ∈ ns) → newL m (out.map .int) st Q) X
  | .dc b ke ve t it c, env, st, Q, X => lockIt it env st fun st lk un => wpIt L it env st (fun xs stay st => dcGo b stay (fun d k => wpT t d env k) (fun env st k => wpC L c env st (fun b st => k b st) fun _ _ => False) (fun env st k => wpE L ke env st k fun _ _ => False) (fun env st k => wpE L ve env st k fun _ _ => False) xs [] st fun ds st => lk (st ++ [.dct b ds]) (Q (.loc st.length) (un (st ++ [.dct b ds])))) X
def wpEs (L : Lib) : Es → St' → Sto → (List D → Sto → Prop) → EX → Prop
  | .nil, _, st, Q, _ => Q [] st
  | .cons e es, env, st, Q, X => wpE L e env st (fun d st => wpEs L es env st (fun ds st => Q (d :: ds) st) X) X
def wpEo (L : Lib) : Eo → St' → Sto → (Option Int → Sto → Prop) → EX → Prop
  | .none, _, st, Q, _ => Q none st
  | .some e, env, st, Q, X => wpE L e env st (fun d st => onInt d fun i => Q (some i) st) X
/-- a comprehension's test -/
def wpC (L : Lib) : Eo → St' → Sto → (Bool → Sto → Prop) → EX → Prop
  | .none, _, st, Q, _ => Q true st
  | .some e, env, st, Q, X => wpE L e env st (fun d st => onBl d fun b => Q b st) X
def wpAnd (L : Lib) : Es → St' → Sto → (D → Sto → Prop) → EX → Prop
  | .nil, _, _, _, _ => False
  | .cons e .nil, env, st, Q, X => wpE L e env st Q X
  | .cons e es, env, st, Q, X => wpE L e env st (fun d st => onBl d fun b => ifB b (wpAnd L es env st Q X) (Q (.bl false) st)) X
def wpOr (L : Lib) : Es → St' → Sto → (D → Sto → Prop) → EX → Prop
  | .nil, _, _, _, _ => False
  | .cons e .nil, env, st, Q, X => wpE L e env st Q X
  | .cons e es, env, st, Q, X => wpE L e env st (fun d st => onBl d fun b => ifB b (Q (.bl true) st) (wpOr L es env st Q X)) X
def wpIt (L : Lib) : It → St' → Sto → (List D → List (Nat × Cell) → Sto → Prop) → EX → Prop
  | .e x, env, st, Q, X => wpE L x env st (fun d st => itOf d st fun xs stay => Q xs stay st) X
  | .range1 a, env, st, Q, X => wpE L a env st (fun d st => onInt d fun n => (-(2 ^ 62) ≤ n ∧ n < 2 ^ 62) ∧ Q (rangeD 0 n.toNat) [] st) X
  | .range2 a b, env, st, Q, X => wpE L a env st (fun d st => onInt d fun lo => wpE L b env st (fun d st => onInt d fun hi => (-(2 ^ 62) ≤ lo ∧ lo < 2 ^ 62 ∧ -(2 ^ 62) ≤ hi ∧ hi < 2 ^ 62) ∧ Q (rangeD lo (hi - lo).toNat) [] st) X) X
  | .zip a b, env, st, Q, X => wpE L a env st (fun x st => wpE L b env st (fun y st => zipK x y st fun xs ys stay => Q ((xs.zip ys).map fun p => .tup [p.1, p.2]) stay st) X) X
  | .enum a, env, st, Q, X => wpE L a env st (fun x st => seqK x st fun xs s1 => Q (xs.zipIdx.map fun p => .tup [.int p.2, p.1]) s1 st) X
  | .rev a, env, st, Q, X => wpE L a env st (fun x st => seqK x st fun xs s1 => Q xs.reverse s1 st) X
  | .items a, env, st, Q, X => wpE L a env st (fun x st => (match x with
      | .loc n => onSome st[n]? fun c => onDct c fun t kvs => Q (kvs.map fun p => .tup [p.1, p.2]) [(n, .dct t kvs)] st
      | _ => False)) X
  | .values a, env, st, Q, X => wpE L a env st (fun x st => (match x with
      | .loc n => onSome st[n]? fun c => onDct c fun t kvs => Q (kvs.map (·.2)) [(n, .dct t kvs)] st
      | _ => False)) X
  | .range3 .., _, _, _, _ => False
  | .keys a, env, st, Q, _ => wpE L a env st (fun x st => (match x with
      | .loc n => onSome st[n]? fun c => (match c with
        | .dctF t kvs => Q (kvs.map (·.1)) [(n, .dctF t kvs)] st
        | _ => False)
      | _ => False)) fun _ _ => False
end

/-! ### statements -/
/-- a place where evaluation halts -/
structure Stop (p : Prop) : Prop where
  go : p
structure Post where
  nx : St' → Sto → Prop
  rt : D → Sto → Prop
  bk : St' → Sto → Prop := fun _ _ => False
  ct : St' → Sto → Prop := fun _ _ => False
  ex : Xc → St' → Sto → Prop

def wpSet (o i v : D) (st : Sto) (Q : Sto → Prop) : Prop :=
  match o with
  | .loc n => onSome st[n]? fun c => (match c with
    | .lst xs => onInt i fun i => onSome (ixN xs.length i) fun j => Q (st.set n (.lst (xs.set j v)))
    | .dct t kvs => D.key t i = true ∧ kvs.length < sizeLine ∧ Q (st.set n (.dct t (dPut kvs i v)))
    | _ => False)
  | _ => False
def wpFldS (L : Lib) (o : D) (f : String) (v : D) (st : Sto) (Q : Sto → Prop) : Prop :=
  match o with
  | .loc n => onSome st[n]? fun c => (match c with
    | .obj c fs => (fs.length < 900 ∧ L.attr c f = true) ∧ Q (st.set n (.obj c (putF' fs f v)))
    | _ => False)
  | _ => False
/-- the same of an attribute that is there -/
def wpFldT (cn : String) (o : D) (f : String) (v : D) (st : Sto) (Q : Sto → Prop) : Prop :=
  match o with
  | .loc n => onSome st[n]? fun c => (match c with
    | .obj c fs => (c = cn ∧ fs.length < 900) ∧ Q (st.set n (.obj c (putF' fs f v)))
    | _ => False)
  | _ => False
def wpTg (L : Lib) : Tg → D → St' → Sto → (St' → Sto → Prop) → EX → Prop
  | .t t, d, env, st, k, _ => wpT t d env fun env => k env st
  | .ix a i, d, env, st, k, X => wpE L a env st (fun o st => wpE L i env st (fun i st => wpSet o i d st fun st => k env st) X) X
  | .fld o f, d, env, st, k, X => wpE L o env st (fun o st => wpFldS L o f d st fun st => k env st) X
/-- x op= e: of a list in the store the items are put behind it -/
def wpAug (o : Bop) (x y : D) (st : Sto) (Q : D → Sto → Prop) : Prop :=
  match o with
  | .add => onInt x fun i => onInt y fun j => Q (.int (i + j)) st
  | .sub => onInt x fun i => onInt y fun j => Q (.int (i - j)) st
  | _ => False
def wpAugS (L : Lib) (o : Bop) : Tg → E → St' → Sto → (St' → Sto → Prop) → EX → Prop
  | .t (.v i), e, env, st, k, X => getS env i fun x => wpE L e env st (fun y st => wpAug o x y st fun d st => k (setS env i d) st) X
  | .t (.tup _), _, _, _, _, _ => False
  | .ix a i, e, env, st, k, X => wpE L a env st (fun a st => wpE L i env st (fun i st => (match a with
      | .loc n => wpIx (.loc n) i st fun x => wpE L e env st (fun y st => wpAug o x y st fun d st => wpSet (.loc n) i d st fun st => k env st) X
      | _ => False)) X) X
  | .fld a f, e, env, st, k, X => wpE L a env st (fun a st => (match a with
      | .loc n => onSome st[n]? fun c => (match c with
        | .obj cn fs => getF fs f fun x => wpE L e env st (fun y st => wpAug o x y st fun d st => wpFldT cn a f d st fun st => k env st) X
        | _ => False)
      | _ => False)) X

def forGo (stay : List (Nat × Cell)) (bind : D → St' → (St' → Prop) → Prop) (body : St' → Sto → Post → Prop) : List D → St' → Sto → Post → Prop
  | [], env, st, P => stayOk stay st (P.nx env st)
  | x :: xs, env, st, P => stayOk stay st (bind x env fun env => body env st { P with nx := fun env st => forGo stay bind body xs env st P, ct := fun env st => forGo stay bind body xs env st P, bk := P.nx })
def whileGo (c : St' → Sto → (Bool → Sto → Prop) → (Xc → St' → Sto → Prop) → Prop) (body : St' → Sto → Post → Prop) : Nat → St' → Sto → Post → Prop
  | 0, _, _, _ => False
  | n + 1, env, st, P => c env st (fun b st => ifB b (body env st { P with nx := fun env st => whileGo c body n env st P, ct := fun env st => whileGo c body n env st P, bk := P.nx }) (P.nx env st)) P.ex

mutual
def wpS (L : Lib) : S → St' → Sto → Post → Prop
  | .asg t e, env, st, P => wpE L e env st (fun d st => wpTg L t d env st P.nx fun x st => P.ex x env st) fun x st => P.ex x env st
  | .par i j es, env, st, P => wpEs L es env st (fun ds st => (match ds with
      | [a, b] => P.nx (setS (setS env i a) j b) st
      | _ => False)) fun x st => P.ex x env st
  | .aug o t e, env, st, P => wpAugS L o t e env st P.nx fun x st => P.ex x env st
  | .ex e, env, st, P => wpE L e env st (fun _ st => P.nx env st) fun x st => P.ex x env st
  | .ret e, env, st, P => wpE L e env st P.rt fun x st => P.ex x env st
  | .ret0, _, st, P => P.rt .non st
  | .ite c a b, env, st, P => wpE L c env st (fun d st => onBl d fun t => ifB t (wpSs L a env st P) (wpSs L b env st P)) fun x st => P.ex x env st
  | .for_ t it body, env, st, P => wpIt L it env st (fun xs stay st => forGo stay (wpT t) (fun env st P => wpSs L body env st P) xs env st P) fun x st => P.ex x env st
  | .while_ c body, env, st, P => ∃ n, whileGo (fun env st k X => wpE L c env st (fun d st => onBl d fun b => k b st) fun x st => X x env st) (fun env st P => wpSs L body env st P) n env st P
  | .brk, env, st, P => P.bk env st
  | .cont, env, st, P => P.ct env st
  | .pass, env, st, P => P.nx env st
  | .dead, _, _, _ => False
  | .raise c es, env, st, P => wpEs L es env st (fun ds st => onSome (L.exf c) fun fs => fs.length = ds.length ∧ P.ex ⟨c, fs.zip ds⟩ env st) fun x st => P.ex x env st
  | .try_ body hs, env, st, P => wpSs L body env st { P with ex := fun x env st => wpHs L hs x env st P }
  | .tryf body c i f, env, st, P => L.exf c = some [f] ∧ wpSs L body env st { P with ex := fun x env st => onSome (L.sub x.cls c) fun b => ifB b ((x.cls = c ∧ i < env.length) ∧ onSome (x.fs.lookup f) fun d => P.rt d st) (P.ex x env st) }
  | .del a i, env, st, P => wpE L a env st (fun a st => wpE L i env st (fun i st => (match a with
      | .loc n => onSome st[n]? fun c => onDct c fun t kvs => t = false ∧ D.key1 i = true ∧ (dGet kvs i).isSome = true ∧ P.nx env (st.set n (.dct false (dDel kvs i)))
      | _ => False)) fun x st => P.ex x env st) fun x st => P.ex x env st
def wpSs (L : Lib) : Ss → St' → Sto → Post → Prop
  | .nil, env, st, P => P.nx env st
  | .cons s ss, env, st, P => wpS L s env st { P with nx := fun env st => wpSs L ss env st P }
  | .stop ss, env, st, P => Stop (wpSs L ss env st P)
def wpHs (L : Lib) : Hs → Xc → St' → Sto → Post → Prop
  | .nil, x, env, st, P => P.ex x env st
  | .cons c _ body hs, x, env, st, P => onSome (L.sub x.cls c) fun b => ifB b (wpSs L body env st { P with ex := fun _ _ _ => False }) (wpHs L hs x env st P)
end

/-- a def: the slots' number, the parameters' number, the body -/
structure Fd where
  ps : List String
  ns : List String
  body : Ss
def Fd.env (f : Fd) (ds : List D) : St' := ds.map some ++ List.replicate (f.ns.length - ds.length) none
/-- what a call of it does -/
def Fd.run (f : Fd) (L : Lib) (ds : List D) (st : Sto) (Q : D → Sto → Prop) (X : EX) : Prop :=
  wpSs L f.body (f.env ds) st { nx := fun _ st => Q .non st, rt := Q, ex := fun x _ st => X x st }
end DL

set_option maxHeartbeats 1000000
/-! DLOps: the operators, by values. -/
namespace DL
open PySem PySem.Spec PyProof.Rows L2

/-- what is wanted of a value and a store is what is wanted in the heap -/
def Kp (C : Ct) (r : Lay) (H : Hp) (Q' : D → Sto → Prop) (Q : VK) : Prop :=
  ∀ (r' : Lay) (st' : Sto) (H' : Hp) (d : D) (v : V), Fut r H r' H' → Rel C r' st' H' → RD C r' H' d v → Q' d st' → Q v H'
theorem Kp.now {C : Ct} {r : Lay} {H : Hp} {Q' : D → Sto → Prop} {Q : VK} {st : Sto} {d : D} {v : V} (k : Kp C r H Q' Q) (R : Rel C r st H) (q : RD C r H d v) (h : Q' d st) : Q v H := k r st H d v .refl R q h
/-- a new tuple -/
theorem Kp.newT {C : Ct} {r : Lay} {H : Hp} {Q' : D → Sto → Prop} {Q : VK} {st : Sto} {xs : List D} {vs : List V} (k : Kp C r H Q' Q) (R : Rel C r st H) (q : RDs C r H xs vs) (h : Q' (.tup xs) st) :
    ∀ p, H p = none → Q (.ref p) (upd H p (.tup vs)) := fun p hp =>
  k r st _ _ _ (Fut.frz hp) (R.frz hp) (.tup ⟨upd_same, R.free hp⟩ (q.fut (Fut.frz hp))) h
/-- a new list, data or in the store -/
theorem Kp.newL {C : Ct} {r : Lay} {H : Hp} {Q' : D → Sto → Prop} {Q : VK} {st : Sto} {m : Bool} {xs : List D} {vs : List V} (k : Kp C r H Q' Q) (R : Rel C r st H) (q : RDs C r H xs vs) (h : newL m xs st Q') :
    ∀ p, H p = none → Q (.ref p) (upd H p (.lst vs)) := fun p hp => by
  cases m with
  | false => exact k r st _ _ _ (Fut.frz hp) (R.frz hp) (.lst ⟨upd_same, R.free hp⟩ (q.fut (Fut.frz hp))) h
  | true =>
    have h2 : Q' (.loc st.length) (st ++ [.lst xs]) := h
    refine k (r.1 ++ [p], r.2) (st ++ [.lst xs]) _ (.loc st.length) _ (Fut.push hp) (R.push (c := .lst xs) hp fun f => ⟨vs, upd_same, q.fut f⟩) (.loc ?_) h2
    show (r.1 ++ [p])[st.length]? = _
    rw [← R.len]
    simp
theorem Kp.mono {C : Ct} {r r' : Lay} {H H' : Hp} {Q' : D → Sto → Prop} {Q : VK} (k : Kp C r H Q' Q) (f : Fut r H r' H') : Kp C r' H' Q' Q := fun r2 st2 H2 d v g R q h => k r2 st2 H2 d v (f.trans g) R q h

section
variable {C : Ct} {r : Lay} {H : Hp}
/-- a list that is read -/
theorem seq_at {st : Sto} {d : D} {xs : List D} {v : V} (R : Rel C r st H) (q : RD C r H d v) (e : seqOf st d = some xs) :
    ∃ a vs, v = .ref a ∧ RDs C r H xs vs ∧ ((∃ ys, d = .tup ys ∧ TupAt C r H a vs) ∨ SqL C.K H a vs) := by
  cases q with
  | tup h t => cases e; exact ⟨_, _, rfl, t, .inl ⟨_, rfl, h⟩⟩
  | lst h t => cases e; exact ⟨_, _, rfl, t, .inr h.sq⟩
  | @loc n a h =>
    have e : (match st[n]? with
      | some (.lst xs) => some xs
      | _ => none) = some xs := e
    cases hc : st[n]? with
    | none => rw [hc] at e; cases e
    | some c =>
      rw [hc] at e
      cases c with
      | lst ys =>
        cases e
        obtain ⟨vs, h1, h2⟩ := R.cells n _ a hc h
        exact ⟨a, vs, rfl, h2, .inr (SqL.of h1)⟩
      | _ => cases e
  | _ => cases e
theorem cell_at {st : Sto} {n : Nat} {c : Cell} {v : V} (R : Rel C r st H) (q : RD C r H (.loc n) v) (e : st[n]? = some c) : ∃ a, v = .ref a ∧ r.1[n]? = some a ∧ CellR C r H a c := by
  cases q with
  | loc h => exact ⟨_, rfl, h, R.cells n c _ e h⟩
theorem onSome_iff {α : Type} {o : Option α} {k : α → Prop} (h : onSome o k) : ∃ a, o = some a ∧ k a := by
  cases o with
  | none => exact h.elim
  | some a => exact ⟨a, rfl, h⟩
theorem onInt_iff {d : D} {k : Int → Prop} (h : onInt d k) : ∃ i, d = .int i ∧ k i := by
  cases d <;> first | exact ⟨_, rfl, h⟩ | exact h.elim
theorem onBl_iff {d : D} {k : Bool → Prop} (h : onBl d k) : ∃ b, d = .bl b ∧ k b := by
  cases d <;> first | exact ⟨_, rfl, h⟩ | exact h.elim
theorem onStr_iff {d : D} {k : String → Prop} (h : onStr d k) : ∃ b, d = .str b ∧ k b := by
  cases d <;> first | exact ⟨_, rfl, h⟩ | exact h.elim
theorem onLst_iff {d : Cell} {k : List D → Prop} (h : onLst d k) : ∃ b, d = .lst b ∧ k b := by
  cases d <;> first | exact ⟨_, rfl, h⟩ | exact h.elim
theorem onDct_iff {d : Cell} {k : Bool → List (D × D) → Prop} (h : onDct d k) : ∃ t b, d = .dct t b ∧ k t b := by
  cases d <;> first | exact ⟨_, _, rfl, h⟩ | exact h.elim
theorem ifB_iff {b : Bool} {p q : Prop} (h : ifB b p q) : if b = true then p else q := by
  cases b with
  | true => rw [if_pos rfl]; exact h
  | false => rw [if_neg (by decide)]; exact h
end

/-! ### texts -/
theorem ofS_append (a b : String) : Str.ofString a ++ Str.ofString b = Str.ofString (a ++ b) := by
  have e : (Str.ofString a ++ Str.ofString b).cps.toList = (a ++ b).toList.map Char.toNat := by
    show ((Str.ofString a).cps ++ (Str.ofString b).cps).toList = _
    rw [Array.toList_append, ofS_cps, ofS_cps, String.toList_append, List.map_append]
  rw [ofS_mk e, String.ofList_toList]

theorem foldl_cps : ∀ (l : List (Array Nat)) (acc : Array Nat), (l.foldl (· ++ ·) acc).toList = acc.toList ++ (l.map Array.toList).flatten
  | [], acc => by simp
  | x :: l, acc => by
    rw [List.foldl_cons, foldl_cps l, Array.toList_append, List.map_cons, List.flatten_cons, List.append_assoc]
theorem ofS_rep (a : String) (n : Nat) : (⟨(List.replicate n (Str.ofString a).cps).foldl (· ++ ·) #[]⟩ : Str) = Str.ofString (String.ofList (List.replicate n a.toList).flatten) := by
  refine ofS_mk ?_
  rw [foldl_cps, List.map_replicate, ofS_cps, List.map_flatten, List.map_replicate]
  rfl
/-! ### data -/
theorem toPs_map : ∀ xs : List D, toPs xs = xs.map toP
  | [] => rfl
  | x :: xs => by rw [toPs, toPs_map xs]; rfl
section
variable {C : Ct} {r : Lay} {H : Hp}
mutual
theorem RD.dp : ∀ {d : D} {v : V}, D.pure d = true → RD C r H d v → Dp C.K H v (toP d)
  | _, _, _, .non => .non
  | _, _, _, .bl b => .bl b
  | _, _, _, .int i => .int i
  | _, _, _, .str s => .str _
  | _, _, p, .tup h t => .tup h.sq (RDs.dp (by simpa [D.pure] using p) t)
  | _, _, p, .lst h t => .lst h.sq (RDs.dp (by simpa [D.pure] using p) t)
  | _, _, p, .loc _ => by cases p
  | _, _, p, .gl _ => by cases p
  | _, _, p, .ty _ => by cases p
  | _, _, p, .scr _ _ => by cases p
  | _, _, p, .kt _ _ => by cases p
theorem RDs.dp : ∀ {d : List D} {v : List V}, D.pures d = true → RDs C r H d v → DpAll C.K H v (toPs d)
  | _, _, _, .nil => .nil
  | _, _, p, .cons h t => by
    rw [D.pures, Bool.and_eq_true] at p
    exact .cons (RD.dp p.1 h) (RDs.dp p.2 t)
end
end
mutual
theorem toP_depth : ∀ d : D, (toP d).depth = d.depth
  | .non | .bl _ | .int _ | .str _ | .loc _ | .gl _ | .ty _ | .scr _ | .kt _ => by simp [toP, PyData.depth, D.depth]
  | .tup xs => by simp [toP, PyData.depth, D.depth, toPs_depth xs]
  | .lst xs => by simp [toP, PyData.depth, D.depth, toPs_depth xs]
theorem toPs_depth : ∀ d : List D, PyData.depthAll (toPs d) = D.depths d
  | [] => by simp [toPs, PyData.depthAll, D.depths]
  | x :: xs => by simp [toPs, PyData.depthAll, D.depths, toP_depth x, toPs_depth xs]
end
theorem strOk_ofS (s : String) : PyData.strOk (Str.ofString s) = true := by
  unfold PyData.strOk
  rw [Str.ofString_eq_toList]
  rw [Array.all_eq_true_iff_forall_mem]
  intro x hx
  simp only [List.mem_toArray, List.mem_map] at hx
  obtain ⟨c, _, rfl⟩ := hx
  have hc := c.valid
  simp only [UInt32.isValidChar, Nat.isValidChar] at hc
  apply decide_eq_true
  show c.val.toNat < _
  omega
mutual
theorem toP_lay : ∀ d : D, (toP d).canLay0 = true
  | .non | .bl _ | .int _ | .loc _ | .gl _ | .ty _ | .scr _ | .kt _ => by simp [toP, PyData.canLay0]
  | .str s => by simp only [toP, PyData.canLay0]; exact strOk_ofS s
  | .tup xs => by simp [toP, PyData.canLay0, toPs_lay xs]
  | .lst xs => by simp [toP, PyData.canLay0, toPs_lay xs]
theorem toPs_lay : ∀ d : List D, PyData.canLayAll0 (toPs d) = true
  | [] => by simp [toPs, PyData.canLayAll0]
  | x :: xs => by simp [toPs, PyData.canLayAll0, toP_lay x, toPs_lay xs]
end
theorem toP_shaped {d : D} (h : d.depth ≤ 64) : SeqAt.shaped (toP d) = true := by
  unfold SeqAt.shaped
  rw [Bool.and_eq_true]
  exact ⟨toP_lay d, decide_eq_true (by rw [toP_depth]; exact h)⟩
mutual
theorem toP_eqv : ∀ a b : D, D.pure a = true → D.pure b = true → PyData.eqv (toP a) (toP b) = D.eqv a b
  | .non, b, _, hb => by cases b <;> first | rfl | cases hb
  | .bl x, b, _, hb => by cases b <;> first | rfl | cases hb
  | .int x, b, _, hb => by cases b <;> first | rfl | cases hb
  | .str x, b, _, hb => by
    cases b <;> first | rfl | cases hb | skip
    rename_i y
    show (Str.ofString x == Str.ofString y) = (x == y)
    by_cases e : x = y
    · subst e; simp
    · have : Str.ofString x ≠ Str.ofString y := fun h => e (ofS_inj h)
      rw [beq_eq_false_iff_ne.mpr e, beq_eq_false_iff_ne.mpr this]
  | .tup xs, b, ha, hb => by
    cases b <;> first | rfl | cases hb | skip
    rename_i ys
    simp only [toP, PyData.eqv, D.eqv]
    exact toPs_eqv xs ys (by simpa [D.pure] using ha) (by simpa [D.pure] using hb)
  | .lst xs, b, ha, hb => by
    cases b <;> first | rfl | cases hb | skip
    rename_i ys
    simp only [toP, PyData.eqv, D.eqv]
    exact toPs_eqv xs ys (by simpa [D.pure] using ha) (by simpa [D.pure] using hb)
  | .loc _, _, ha, _ => by cases ha
  | .gl _, _, ha, _ => by cases ha
  | .ty _, _, ha, _ => by cases ha
  | .scr _, _, ha, _ => by cases ha
  | .kt _, _, ha, _ => by cases ha
theorem toPs_eqv : ∀ a b : List D, D.pures a = true → D.pures b = true → PyData.eqvAll (toPs a) (toPs b) = D.eqvs a b
  | [], [], _, _ => by simp [toPs, PyData.eqvAll, D.eqvs]
  | [], _ :: _, _, _ => by simp [toPs, PyData.eqvAll, D.eqvs]
  | _ :: _, [], _, _ => by simp [toPs, PyData.eqvAll, D.eqvs]
  | x :: xs, y :: ys, ha, hb => by
    rw [D.pures, Bool.and_eq_true] at ha hb
    simp only [toPs, PyData.eqvAll, D.eqvs]
    rw [toP_eqv x y ha.1 hb.1, toPs_eqv xs ys ha.2 hb.2]
end

theorem RDs.rep {C : Ct} {r : Lay} {H : Hp} {xs : List D} {vs : List V} (h : RDs C r H xs vs) : ∀ k : Nat, RDs C r H (List.replicate k xs).flatten (List.replicate k vs).flatten
  | 0 => .nil
  | k + 1 => by
    rw [List.replicate_succ, List.replicate_succ, List.flatten_cons, List.flatten_cons]
    exact h.append (RDs.rep h k)
section
variable {C : Ct} {X : Cx}

/-! ### + - * .. -/
def Bop.op : Bop → Operator
  | .add => .Add | .sub => .Sub | .mul => .Mult | .fdiv => .FloorDiv | .mod => .Mod | .pow => .Pow | .band => .BitAnd | .bor => .BitOr | .bxor => .BitXor | .shl => .LShift | .shr => .RShift | .fdivN => .FloorDiv | .modN => .Mod
def rBin (C : Ct) (o : Bop) : R2 := fun x y H Q => ∃ r st dx dy Q', Rel C r st H ∧ RD C r H dx x ∧ RD C r H dy y ∧ wpBin o dx dy st Q' ∧ Kp C r H Q' Q
theorem mulOk {i j : Int} (h : (big64 i || big64 j) = true) : IntMulOk i j := by
  rw [Bool.or_eq_true] at h
  rcases h with h | h
  · obtain ⟨h1, h2⟩ := of_decide_eq_true h
    exact .of_left (intBits_le_64 h1 h2)
  · obtain ⟨h1, h2⟩ := of_decide_eq_true h
    exact .of_right (intBits_le_64 h1 h2)
theorem or_bin (hK : X.K = C.K) (o : Bop) : OpR X (binaryOp o.op) (rBin C o) := by
  intro pins s σ H x y v u Q I rx ry h
  obtain ⟨r, st, dx, dy, Q', R, qx, qy, hw, k⟩ := h
  cases o with
  | add =>
    cases qx <;> cases qy <;> first | exact hw.elim | skip
    · exact op_add pins s σ H _ _ v u Q I rx ry ⟨_, _, rfl, rfl, k.now R (.int _) hw⟩
    · refine op_add_str pins s σ H _ _ v u Q I rx ry ⟨_, _, rfl, rfl, ?_, ?_⟩
      · rw [ofS_len, ofS_len]; exact hw.1
      · rw [ofS_append]; exact k.now R (.str _) hw.2
    · rename_i a xs vs ha ta b ys us hb tb
      refine op_catA pins s σ H _ _ v u Q I rx ry ⟨_, _, vs, us, rfl, rfl, by rw [hK]; exact ha.sq, by rw [hK]; exact hb.sq, ?_, fun e => ?_, fun _ e => ?_, fun _ _ => ?_⟩
      · rw [← ta.length, ← tb.length]; exact hw.1
      · subst e; cases ta; exact k.now R (.tup hb tb) hw.2
      · subst e
        cases tb
        refine k.now R (.tup ha ta) ?_
        have := hw.2
        rw [List.append_nil] at this
        exact this
      · exact k.newT R (ta.append tb) hw.2
    · rename_i a xs vs ha ta b ys us hb tb
      refine op_cat pins s σ H _ _ v u Q I rx ry ⟨_, _, vs, us, rfl, rfl, ha.1, hb.1, ?_, k.newL (m := false) R (ta.append tb) hw.2⟩
      rw [← ta.length, ← tb.length]
      exact hw.1
  | sub =>
    cases qx <;> cases qy <;> first | exact hw.elim | skip
    exact op_sub pins s σ H _ _ v u Q I rx ry ⟨_, _, rfl, rfl, k.now R (.int _) hw⟩
  | mul =>
    cases qx <;> cases qy <;> first | exact hw.elim | skip
    · obtain ⟨t, rfl⟩ := rx
      obtain ⟨t', rfl⟩ := ry
      exact mul_int ⟨.int _, H, I.tok _, ⟨_, rfl⟩, k.now R (.int _) hw.2⟩ (mulOk hw.1)
    · rename_i a j
      obtain ⟨⟨h1, h2, h3, h4⟩, hw⟩ := hw
      obtain ⟨t, rfl⟩ := rx
      obtain ⟨t', rfl⟩ := ry
      have e1 : ¬ j < 1 := by omega
      have e2 : (j == 1 || (Str.ofString a).length == 0) = false := by
        rw [ofS_len, beq_eq_false_iff_ne.mpr (show j ≠ 1 by omega), beq_eq_false_iff_ne.mpr (show a.length ≠ 0 by omega)]
        rfl
      have hz : (Str.ofString a).length * j.toNat ≤ 1000000 := by
        rw [ofS_len]
        exact Nat.le_trans (Nat.mul_le_mul h4 (show j.toNat ≤ 1000 by omega)) (by decide)
      refine PySem.P.mul_str ?_ (fun _ _ => ?_) (fun _ _ => ?_) ?_
      · rw [decide_eq_false (by omega), decide_eq_false (by omega)]
        rfl
      · have : ((2 ^ 63 - 1 : Int) / j) ≥ 1000 := by
          refine (Int.le_ediv_iff_mul_le (by omega)).mpr ?_
          omega
        intro h
        have h := Int.lt_of_le_of_lt this h
        rw [ofS_len] at h
        omega
      · exact decide_eq_false (by have := sizeLine_eq; omega)
      · rw [if_neg e1, e2, if_neg Bool.false_ne_true, ofS_rep]
        refine ⟨?_, .str _, H, I.tok _, ⟨_, rfl⟩, k.now R (.str _) hw⟩
        rw [ofS_len, String.length_ofList, List.length_flatten, List.map_replicate, List.sum_replicate_nat]
        have e : a.toList.length = a.length := String.length_toList
        rw [e]
        have : j.toNat * a.length ≤ 1000 * 1000 := Nat.mul_le_mul (by omega) h4
        have := sizeLine_eq
        omega
    · rename_i a xs vs ha ta b
      obtain ⟨h1, hw⟩ := hw
      refine op_repTB pins s σ H _ _ v u Q I rx ry ⟨_, _, vs, rfl, rfl, by rw [hK]; exact ha.sq, fun e => ?_, fun e => ?_, fun e => ?_⟩
      · subst e; cases ta; exact absurd h1 (by decide)
      · subst e; exact k.now R (.tup ha ta) hw
      · subst e; exact k.newT R .nil hw
    · rename_i a xs vs ha ta j
      obtain ⟨⟨h1, h2, h3, h4⟩, hw⟩ := hw
      refine op_repTI pins s σ H _ _ v u Q I rx ry ⟨_, _, vs, rfl, rfl, by rw [hK]; exact ha.sq, fun e => ?_, h1, h2, by rw [← ta.length]; exact h4, fun e => ?_, fun _ => k.newT R (RDs.rep ta j.toNat) hw⟩
      · subst e; cases ta; exact absurd h3 (by decide)
      · subst e
        refine k.now R (.tup ha ta) ?_
        have e1 : (List.replicate (1 : Int).toNat xs).flatten = xs := by simp
        rw [e1] at hw
        exact hw
    · rename_i a xs vs ha ta j
      obtain ⟨⟨h1, h2, hz⟩, hw⟩ := hw
      exact op_rep pins s σ H _ _ v u Q I rx ry ⟨_, _, vs, rfl, rfl, ha.1, h1, h2, by rw [← ta.length]; exact hz, k.newL (m := false) R (RDs.rep ta j.toNat) hw⟩
  | fdiv =>
    cases qx <;> cases qy <;> first | exact hw.elim | skip
    exact op_fdiv pins s σ H _ _ v u Q I rx ry ⟨_, _, rfl, rfl, hw.1, k.now R (.int _) hw.2⟩
  | mod =>
    cases qx <;> cases qy <;> first | exact hw.elim | skip
    exact op_mod pins s σ H _ _ v u Q I rx ry ⟨_, _, rfl, rfl, hw.1, k.now R (.int _) hw.2⟩
  | fdivN =>
    cases qx <;> cases qy <;> first | exact hw.elim | skip
    obtain ⟨⟨h1, h2⟩, hw⟩ := hw
    obtain ⟨t, rfl⟩ := rx
    obtain ⟨t', rfl⟩ := ry
    exact floordiv_int h1 ⟨.int _, H, I.tok _, ⟨_, rfl⟩, k.now R (.int _) hw⟩ (.inl (PyProof.noPylong_of_log2 (Nat.lt_of_lt_of_le (PySem.Flt.log2_lt_of (by decide) h2) (by decide))))
  | modN =>
    cases qx <;> cases qy <;> first | exact hw.elim | skip
    exact op_modN pins s σ H _ _ v u Q I rx ry ⟨_, _, rfl, rfl, hw.1, k.now R (.int _) hw.2⟩
  | pow =>
    cases qx <;> cases qy <;> first | exact hw.elim | skip
    exact op_pow pins s σ H _ _ v u Q I rx ry ⟨_, _, rfl, rfl, hw.1, k.now R (.int _) hw.2⟩
  | band =>
    cases qx <;> cases qy <;> first | exact hw.elim | skip
    exact op_and pins s σ H _ _ v u Q I rx ry ⟨_, _, rfl, rfl, k.now R (.int _) hw⟩
  | bor =>
    cases qx <;> cases qy <;> first | exact hw.elim | skip
    exact op_or pins s σ H _ _ v u Q I rx ry ⟨_, _, rfl, rfl, k.now R (.int _) hw⟩
  | bxor =>
    cases qx <;> cases qy <;> first | exact hw.elim | skip
    exact op_xor pins s σ H _ _ v u Q I rx ry ⟨_, _, rfl, rfl, k.now R (.int _) hw⟩
  | shl =>
    cases qx <;> cases qy <;> first | exact hw.elim | skip
    exact op_shl pins s σ H _ _ v u Q I rx ry ⟨_, _, rfl, rfl, hw.1, k.now R (.int _) hw.2⟩
  | shr =>
    cases qx <;> cases qy <;> first | exact hw.elim | skip
    exact op_shr pins s σ H _ _ v u Q I rx ry ⟨_, _, rfl, rfl, hw.1, k.now R (.int _) hw.2⟩
end
end DL

set_option maxHeartbeats 1000000
/-! DLCmp: comparisons, by values. -/
namespace DL
open PySem PySem.Spec PyProof.Rows L2

section
variable {C : Ct} {X : Cx} {r : Lay} {H : Hp}

/-- data with what the store has of it -/
theorem RD.flat {st : Sto} {d : D} {v : V} (R : Rel C r st H) (q : RD C r H d v) (p : D.pure (flatOf st d) = true) : Dp C.K H v (toP (flatOf st d)) := by
  cases q with
  | @loc n a h =>
    have p : D.pure (match st[n]? with
      | some (.lst xs) => .lst xs
      | _ => .loc n) = true := p
    show Dp C.K H (.ref a) (toP (match st[n]? with
      | some (.lst xs) => .lst xs
      | _ => .loc n))
    cases hc : st[n]? with
    | none => rw [hc] at p; cases p
    | some c =>
      rw [hc] at p
      cases c with
      | lst xs =>
        obtain ⟨vs, h1, h2⟩ := R.cells n _ a hc h
        exact .lst (SqL.of h1) (h2.dp (by simpa [D.pure] using p))
      | _ => cases p
  | non => exact RD.dp (r := r) p .non
  | bl b => exact RD.dp (r := r) p (.bl b)
  | int b => exact RD.dp (r := r) p (.int b)
  | str b => exact RD.dp (r := r) p (.str b)
  | tup h t => exact RD.dp p (.tup h t)
  | lst h t => exact RD.dp p (.lst h t)
  | gl h => cases p
  | ty x => cases p
  | scr xs h => cases p
  | kt xs h => cases p
theorem cmpD_iff {d : D} (h : cmpD d = true) : D.pure d = true ∧ d.depth ≤ 60 := by
  unfold cmpD at h
  rw [Bool.and_eq_true] at h
  exact ⟨h.1, of_decide_eq_true h.2⟩

theorem RD.scal {d : D} {v : V} (q : RD C r H d v) : True := trivial

/-! ### order -/
mutual
theorem D.depth_mem : ∀ {x : D} {xs : List D}, x ∈ xs → x.depth ≤ D.depths xs
  | x, y :: ys, h => by
    rw [D.depths]
    rcases List.mem_cons.mp h with e | h
    · subst e; exact Nat.le_max_left _ _
    · exact Nat.le_trans (D.depth_mem h) (Nat.le_max_right _ _)
end
theorem D.pure_mem : ∀ {x : D} {xs : List D}, D.pures xs = true → x ∈ xs → D.pure x = true
  | x, y :: ys, p, h => by
    rw [D.pures, Bool.and_eq_true] at p
    rcases List.mem_cons.mp h with e | h
    · subst e; exact p.1
    · exact D.pure_mem p.2 h
/-- the order that op asks -/
def ordV : CmpOp → D → D → Option Bool
  | .Lt, a, b => D.lt a b
  | .Gt, a, b => D.lt b a
  | .LtE, a, b => (D.lt b a).map fun c => !c
  | .GtE, a, b => (D.lt a b).map fun c => !c
  | _, _, _ => none
def ordZ : CmpOp → Nat → Nat → Bool
  | .Lt, m, n => decide (m < n)
  | .Gt, m, n => decide (m > n)
  | .LtE, m, n => decide (m ≤ n)
  | .GtE, m, n => decide (m ≥ n)
  | _, _, _ => false
mutual
theorem D.eqv_comm : ∀ a b : D, D.eqv a b = D.eqv b a
  | .non, b => by cases b <;> rfl
  | .bl a, b => by
    cases b <;> first | rfl | skip
    · exact Bool.beq_comm
    · exact Bool.beq_comm
  | .int a, b => by
    cases b <;> first | rfl | skip
    · exact Bool.beq_comm
    · exact Bool.beq_comm
  | .str a, b => by
    cases b <;> first | rfl | skip
    exact Bool.beq_comm
  | .tup a, b => by
    cases b <;> first | rfl | skip
    exact D.eqvs_comm a _
  | .lst a, b => by
    cases b <;> first | rfl | skip
    exact D.eqvs_comm a _
  | .loc a, b => by cases b <;> rfl
  | .gl a, b => by cases b <;> rfl
  | .ty a, b => by cases b <;> rfl
  | .scr a, b => by cases b <;> rfl
  | .kt a, b => by cases b <;> rfl
theorem D.eqvs_comm : ∀ a b : List D, D.eqvs a b = D.eqvs b a
  | [], b => by cases b <;> rfl
  | x :: xs, [] => rfl
  | x :: xs, y :: ys => by rw [D.eqvs, D.eqvs, D.eqv_comm x y, D.eqvs_comm xs ys]
end
theorem lexAt_shift (e r' : Nat → Bool) (z : Bool) : ∀ (k i : Nat), Ob.lexAt e r' z (i + 1) k = Ob.lexAt (fun j => e (j + 1)) (fun j => r' (j + 1)) z i k
  | 0, _ => rfl
  | k + 1, i => by
    rw [Ob.lexAt_succ, Ob.lexAt_succ, lexAt_shift e r' z k (i + 1)]
/-- the order of two tuples, from the first place on -/
theorem lts_lex : ∀ (op : CmpOp) (xs ys : List D) (c : Bool), ordV op (.tup xs) (.tup ys) = some c →
    (∀ j, (h1 : j < xs.length) → (h2 : j < ys.length) → D.eqv xs[j] ys[j] = false → ∃ b, ordV op xs[j] ys[j] = some b) ∧
    Ob.lexAt (fun j => D.eqv (xs.getD j .non) (ys.getD j .non)) (fun j => (ordV op (xs.getD j .non) (ys.getD j .non)).getD false) (ordZ op xs.length ys.length) 0 (min xs.length ys.length) = c := by
  intro op xs
  induction xs with
  | nil =>
    intro ys c h
    refine ⟨fun j h1 => absurd h1 (Nat.not_lt_zero _), ?_⟩
    rw [show min ([] : List D).length ys.length = 0 by simp, Ob.lexAt_zero]
    cases ys <;> cases op <;> simp_all [ordV, ordZ, D.lt, D.lts]
  | cons x xs ih =>
    intro ys c h
    cases ys with
    | nil =>
      refine ⟨fun j _ h2 => absurd h2 (Nat.not_lt_zero _), ?_⟩
      rw [show min (x :: xs).length ([] : List D).length = 0 by simp, Ob.lexAt_zero]
      cases op <;> simp_all [ordV, ordZ, D.lt, D.lts]
    | cons y ys =>
      have key : ∃ t, ordV op (.tup xs) (.tup ys) = some t ∧ (if D.eqv x y = true then some t else ordV op x y) = some c := by
        cases op with
        | Lt =>
          simp only [ordV, D.lt, D.lts] at h ⊢
          cases e : D.lts xs ys with
          | none => rw [e] at h; cases h
          | some t => rw [e] at h; exact ⟨t, rfl, h⟩
        | Gt =>
          simp only [ordV, D.lt, D.lts] at h ⊢
          cases e : D.lts ys xs with
          | none => rw [e] at h; cases h
          | some t => rw [e] at h; rw [D.eqv_comm x y]; exact ⟨t, rfl, h⟩
        | LtE =>
          simp only [ordV, D.lt, D.lts] at h ⊢
          cases e : D.lts ys xs with
          | none => rw [e] at h; cases h
          | some t =>
            rw [e] at h
            rw [D.eqv_comm x y]
            refine ⟨_, rfl, ?_⟩
            dsimp only at h
            split at h <;> rename_i q <;> simp only [q] <;> simpa using h
        | GtE =>
          simp only [ordV, D.lt, D.lts] at h ⊢
          cases e : D.lts xs ys with
          | none => rw [e] at h; cases h
          | some t =>
            rw [e] at h
            refine ⟨_, rfl, ?_⟩
            dsimp only at h
            split at h <;> rename_i q <;> simp only [q] <;> simpa using h
        | _ => cases h
      obtain ⟨t, e1, e2⟩ := key
      obtain ⟨i1, i2⟩ := ih ys t e1
      refine ⟨fun j h1 h2 he => ?_, ?_⟩
      · cases j with
        | zero =>
          have he : D.eqv x y = false := he
          rw [he, if_neg (by decide)] at e2
          exact ⟨c, e2⟩
        | succ j => exact i1 j (by simpa using h1) (by simpa using h2) he
      · have em : min (x :: xs).length (y :: ys).length = min xs.length ys.length + 1 := by simp only [List.length_cons]; omega
        have ez : ordZ op (x :: xs).length (y :: ys).length = ordZ op xs.length ys.length := by cases op <;> simp [ordZ]
        rw [em, Ob.lexAt_succ, lexAt_shift, ez]
        show (if D.eqv x y = true then _ else (ordV op x y).getD false) = c
        by_cases q : D.eqv x y = true
        · rw [if_pos q] at e2 ⊢
          rw [← Option.some.inj e2]
          exact i2
        · rw [if_neg q] at e2 ⊢
          rw [e2]; rfl
theorem depth_ord {op : CmpOp} {a b : D} {c : Bool} (h : ordV op a b = some c) : (∃ i j, a = .int i ∧ b = .int j) ∨ (∃ i j, a = .str i ∧ b = .str j) ∨ ∃ i j, a = .tup i ∧ b = .tup j := by
  cases op <;> first | cases h | skip
  all_goals
    cases a <;> cases b <;> first | exact .inl ⟨_, _, rfl, rfl⟩ | exact .inr (.inl ⟨_, _, rfl, rfl⟩) | exact .inr (.inr ⟨_, _, rfl, rfl⟩) | (simp [ordV, D.lt] at h)

theorem ord_str {op : CmpOp} {a b : String} {c : Bool} {A : Around} {s : Shared} (h : ordV op (.str a) (.str b) = some c) (t u : Tok) : Ob.RcOp op A s (.str (Str.ofString a) t) (.str (Str.ofString b) u) c := by
  intro prog w E Q q
  have e : ∀ x y : String, decide ((Str.ofString x).cps.toList < (Str.ofString y).cps.toList) = ltS x y := fun x y => by rw [ofS_cps, ofS_cps]; rfl
  cases op <;> first | cases h | skip
  · exact PySem.P.lt_str (by rw [e]; exact q)
  · exact PySem.P.le_str (by rw [e]; exact q)
  · exact PySem.P.gt_str (by rw [e]; exact q)
  · exact PySem.P.ge_str (by rw [e]; exact q)
theorem ord_int {op : CmpOp} {a b : Int} {c : Bool} {A : Around} {s : Shared} (h : ordV op (.int a) (.int b) = some c) (t u : Tok) : Ob.RcOp op A s (.int a t) (.int b u) c := by
  cases op <;> first | cases h | skip
  · exact Ob.RcOp.lt_int a b t u
  · have e : (!decide (b < a)) = decide (a ≤ b) := by by_cases z : b < a <;> simp [z] <;> omega
    show Ob.RcOp .LtE A s (.int a t) (.int b u) (!decide (b < a))
    rw [e]
    exact Ob.RcOp.le_int a b t u
  · exact Ob.RcOp.gt_int a b t u
  · have e : (!decide (a < b)) = decide (b ≤ a) := by by_cases z : a < b <;> simp [z] <;> omega
    show Ob.RcOp .GtE A s (.int a t) (.int b u) (!decide (a < b))
    rw [e]
    exact Ob.RcOp.ge_int a b t u
theorem RDs.val {xs : List D} {vs : List V} {its : List Value} (q : RDs C r H xs vs) (rv : Vals vs its) {j : Nat} (h1 : j < its.toArray.size) :
    ∃ (h : j < xs.length) (v : V), RD C r H xs[j] v ∧ RelV v its.toArray[j] := by
  have hl : j < xs.length := by
    rw [q.length, rv.length]
    simpa using h1
  obtain ⟨v, e1, q1⟩ := q.get (List.getElem?_eq_getElem hl)
  obtain ⟨u, e2, r2⟩ := rv.get e1
  refine ⟨hl, v, q1, ?_⟩
  have e3 : its.toArray[j] = u := by
    rw [List.getElem?_eq_getElem (by simpa using h1)] at e2
    have := Option.some.inj e2
    simpa using this
  rw [e3]
  exact r2
theorem getD_at {α : Type} {xs : List α} {j : Nat} {d : α} (h : j < xs.length) : xs.getD j d = xs[j] := by
  simp [List.getD, h]
theorem eqAt_data {pins : List (Addr × Obj)} {σ : L2.St} {s : Shared} {a b : D} {x y : V} {v u : Value} {A : Around} (hK : X.K = C.K) (I : Inv X pins σ H s) (pa : D.pure a = true) (pb : D.pure b = true)
    (qa : RD C r H a x) (qb : RD C r H b y) (ra : RelV x v) (rb : RelV y u) (hu : A.units + min a.depth b.depth < cLine) : SeqAt.EqAt A s v u (D.eqv a b) := by
  obtain ⟨as, r1⟩ := Dp.reads I (toP a) x v (by rw [hK]; exact qa.dp pa) ra
  obtain ⟨bs, r2⟩ := Dp.reads I (toP b) y u (by rw [hK]; exact qb.dp pb) rb
  have h := SeqAt.eqAt_reads (toP a) (toP b) A s v u as bs r1 r2 (toP_lay a) (toP_lay b) (by rw [toP_depth, toP_depth]; exact hu)
  rw [toP_eqv a b pa pb] at h
  exact h
theorem ord_rc {pins : List (Addr × Obj)} {σ : L2.St} {s : Shared} (hK : X.K = C.K) (I : Inv X pins σ H s) (op : CmpOp) : ∀ (n : Nat) (a b : D) (c : Bool) (x y : V) (v u : Value) (A : Around), a.depth ≤ n → ordV op a b = some c →
    D.pure a = true → D.pure b = true → RD C r H a x → RD C r H b y → RelV x v → RelV y u → A.units + n < cLine → Ob.RcOp op A s v u c := by
  intro n
  induction n with
  | zero =>
    intro a b c x y v u A hd ho pa pb qa qb ra rb hu
    rcases depth_ord ho with ⟨i, j, rfl, rfl⟩ | ⟨i, j, rfl, rfl⟩ | ⟨i, j, rfl, rfl⟩
    · cases qa; cases qb
      obtain ⟨t, rfl⟩ := ra
      obtain ⟨t', rfl⟩ := rb
      exact ord_int ho t t'
    · cases qa; cases qb
      obtain ⟨t, rfl⟩ := ra
      obtain ⟨t', rfl⟩ := rb
      exact ord_str ho t t'
    · rw [D.depth] at hd; omega
  | succ n ih =>
    intro a b c x y v u A hd ho pa pb qa qb ra rb hu
    rcases depth_ord ho with ⟨i, j, rfl, rfl⟩ | ⟨i, j, rfl, rfl⟩ | ⟨xs, ys, rfl, rfl⟩
    · cases qa; cases qb
      obtain ⟨t, rfl⟩ := ra
      obtain ⟨t', rfl⟩ := rb
      exact ord_int ho t t'
    · cases qa; cases qb
      obtain ⟨t, rfl⟩ := ra
      obtain ⟨t', rfl⟩ := rb
      exact ord_str ho t t'
    · have pxs : D.pures xs = true := by simpa [D.pure] using pa
      have pys : D.pures ys = true := by simpa [D.pure] using pb
      have hdx : D.depths xs ≤ n := by rw [D.depth] at hd; omega
      obtain ⟨o1, o2⟩ := lts_lex op xs ys c ho
      cases qa with
      | @tup aa _ vs ha ta =>
        cases qb with
        | @tup bb _ us hb tb =>
          cases ra; cases rb
          obtain ⟨its, rv, t1, z1⟩ := I.tuple (by rw [hK]; exact ha.sq)
          obtain ⟨its2, rv2, t2, z2⟩ := I.tuple (by rw [hK]; exact hb.sq)
          have l1 : its.toArray.size = xs.length := by rw [List.size_toArray, ← rv.length, ta.length]
          have l2 : its2.toArray.size = ys.length := by rw [List.size_toArray, ← rv2.length, tb.length]
          have he : ∀ j (h1 : j < its.toArray.size) (h2 : j < its2.toArray.size), SeqAt.EqAt A.in1 s its.toArray[j] its2.toArray[j] (D.eqv (xs.getD j .non) (ys.getD j .non)) := fun j h1 h2 => by
            obtain ⟨k1, v1, q1, r1⟩ := ta.val rv h1
            obtain ⟨k2, v2, q2, r2⟩ := tb.val rv2 h2
            rw [getD_at k1, getD_at k2]
            refine eqAt_data hK I (D.pure_mem pxs (List.getElem_mem k1)) (D.pure_mem pys (List.getElem_mem k2)) q1 q2 r1 r2 ?_
            have := D.depth_mem (List.getElem_mem k1)
            show A.units + 1 + _ < _
            omega
          have hr : ∀ j (h1 : j < its.toArray.size) (h2 : j < its2.toArray.size), D.eqv (xs.getD j .non) (ys.getD j .non) = false → Ob.RcOp op A.in1 s its.toArray[j] its2.toArray[j] ((ordV op (xs.getD j .non) (ys.getD j .non)).getD false) := fun j h1 h2 hne => by
            obtain ⟨k1, v1, q1, r1⟩ := ta.val rv h1
            obtain ⟨k2, v2, q2, r2⟩ := tb.val rv2 h2
            rw [getD_at k1, getD_at k2] at hne ⊢
            obtain ⟨b', hb'⟩ := o1 j k1 k2 hne
            rw [hb']
            refine ih xs[j] ys[j] b' v1 v2 _ _ A.in1 (Nat.le_trans (D.depth_mem (List.getElem_mem k1)) hdx) hb' (D.pure_mem pxs (List.getElem_mem k1)) (D.pure_mem pys (List.getElem_mem k2)) q1 q2 r1 r2 ?_
            show A.units + 1 + n < cLine
            omega
          have hu0 : A.units < cLine := by omega
          rw [← l1, ← l2] at o2
          cases op <;> first | cases ho | skip
          · rw [← o2]; exact Ob.RcOp.tuples_lt t1 t2 hu0 he hr
          · rw [← o2]; exact Ob.RcOp.tuples_le t1 t2 hu0 he hr
          · rw [← o2]; exact Ob.RcOp.tuples_gt t1 t2 hu0 he hr
          · rw [← o2]; exact Ob.RcOp.tuples_ge t1 t2 hu0 he hr
end

/-! ### the comparisons -/
def Cop.op : Cop → CmpOp
  | .eq => .Eq | .ne => .NotEq | .lt => .Lt | .le => .LtE | .gt => .Gt | .ge => .GtE | .is_ => .Is | .isnot => .IsNot | .in_ => .In | .notin => .NotIn
def rCmp (C : Ct) (o : Cop) : R2 := fun x y H Q => ∃ r st dx dy Q', Rel C r st H ∧ RD C r H dx x ∧ RD C r H dy y ∧ wpCmp o dx dy st (fun d => Q' d st) ∧ Kp C r H Q' Q
section
variable {C : Ct} {X : Cx}
theorem ord_run {r : Lay} {H : Hp} {pins : List (Addr × Obj)} {s : Shared} {σ : L2.St} {op : CmpOp} {a b : D} {x y : V} {v u : Value} {c : Bool} {st : Sto} {Q' : D → Sto → Prop} {Q : VK} (hK : X.K = C.K) (hu : X.A.units + 64 < cLine) (I : Inv X pins σ H s) (R : Rel C r st H)
    (hop : ∀ a b, compareOp op a b = richCompare op a b) (ho : ordV op a b = some c) (pa : cmpD a = true) (pb : cmpD b = true) (qa : RD C r H a x) (qb : RD C r H b y) (ra : RelV x v) (rb : RelV y u) (k : Kp C r H Q' Q) (h : Q' (.bl c) st) :
    wpAny (model X.prog X.w) X.A (compareOp op v u) (EP X pins σ Q) X.xe s := by
  rw [hop]
  obtain ⟨p1, d1⟩ := cmpD_iff pa
  obtain ⟨p2, _⟩ := cmpD_iff pb
  exact ord_rc hK I op 60 a b c x y v u X.A d1 ho p1 p2 qa qb ra rb (by omega) X.prog X.w X.xe _ ⟨.bl c, H, I, rfl, k.now R (.bl c) h⟩
theorem wpOrd_iff {f : Bool → Bool} {a b : D} {Q : D → Prop} (h : wpOrd f a b Q) : cmpD a = true ∧ cmpD b = true ∧ ∃ c, D.lt a b = some c ∧ Q (.bl (f c)) := by
  cases a <;> cases b <;> first | exact h.elim | skip
  · exact ⟨rfl, rfl, _, rfl, h⟩
  · exact ⟨rfl, rfl, _, rfl, h⟩
  · obtain ⟨⟨h1, h2⟩, h⟩ := h
    obtain ⟨c, e, q⟩ := onSome_iff h
    exact ⟨h1, h2, c, e, q⟩
theorem wpLe_iff {a b : D} {st : Sto} {Q : D → Prop} (h : wpCmp .le a b st Q) : cmpD a = true ∧ cmpD b = true ∧ ∃ c, ordV .LtE a b = some c ∧ Q (.bl c) := by
  have gen : wpOrd (fun c => !c) b a Q → cmpD a = true ∧ cmpD b = true ∧ ∃ c, ordV .LtE a b = some c ∧ Q (.bl c) := fun h => by
    obtain ⟨h1, h2, c, e, q⟩ := wpOrd_iff h
    exact ⟨h2, h1, _, by rw [ordV, e]; rfl, q⟩
  cases a <;> cases b <;> first | exact gen h | skip
  rename_i i j
  refine ⟨rfl, rfl, _, rfl, ?_⟩
  have e : (!decide (j < i)) = decide (i ≤ j) := by by_cases z : j < i <;> simp [z] <;> omega
  show Q (.bl (!decide (j < i)))
  rw [e]
  exact h
theorem wpGe_iff {a b : D} {st : Sto} {Q : D → Prop} (h : wpCmp .ge a b st Q) : cmpD a = true ∧ cmpD b = true ∧ ∃ c, ordV .GtE a b = some c ∧ Q (.bl c) := by
  have gen : wpOrd (fun c => !c) a b Q → cmpD a = true ∧ cmpD b = true ∧ ∃ c, ordV .GtE a b = some c ∧ Q (.bl c) := fun h => by
    obtain ⟨h1, h2, c, e, q⟩ := wpOrd_iff h
    exact ⟨h1, h2, _, by rw [ordV, e]; rfl, q⟩
  cases a <;> cases b <;> first | exact gen h | skip
  rename_i i j
  refine ⟨rfl, rfl, _, rfl, ?_⟩
  have e : (!decide (i < j)) = decide (j ≤ i) := by by_cases z : i < j <;> simp [z] <;> omega
  show Q (.bl (!decide (i < j)))
  rw [e]
  exact h
theorem wpEq_iff {a b : D} {st : Sto} {Q : D → Prop} (h : wpCmp .eq a b st Q) : cmpD (flatOf st a) = true ∧ cmpD (flatOf st b) = true ∧ Q (.bl (D.eqv (flatOf st a) (flatOf st b))) := by
  cases a <;> cases b <;> first | exact ⟨h.1.1, h.1.2, h.2⟩ | skip
  · rename_i i j
    refine ⟨rfl, rfl, ?_⟩
    show Q (.bl (i == j))
    rw [Bool.beq_eq_decide_eq]
    exact h
  · rename_i i j
    refine ⟨rfl, rfl, ?_⟩
    show Q (.bl (i == j))
    rw [Bool.beq_eq_decide_eq]
    exact h
theorem wpNe_iff {a b : D} {st : Sto} {Q : D → Prop} (h : wpCmp .ne a b st Q) : cmpD (flatOf st a) = true ∧ cmpD (flatOf st b) = true ∧ Q (.bl (!D.eqv (flatOf st a) (flatOf st b))) := by
  cases a <;> cases b <;> first | exact ⟨h.1.1, h.1.2, h.2⟩ | skip
  · rename_i i j
    refine ⟨rfl, rfl, ?_⟩
    show Q (.bl (!(i == j)))
    rw [Bool.beq_eq_decide_eq]
    exact h
  · rename_i i j
    refine ⟨rfl, rfl, ?_⟩
    show Q (.bl (!(i == j)))
    rw [Bool.beq_eq_decide_eq]
    exact h
/-- in a list, a tuple of data -/
theorem any_toP {x : D} : ∀ {ys : List D}, D.pures ys = true → D.pure x = true → ((toPs ys).any fun z => PyData.eqv z (toP x)) = ys.any fun z => D.eqv z x
  | [], _, _ => rfl
  | y :: ys, p, q => by
    rw [D.pures, Bool.and_eq_true] at p
    rw [toPs, List.any_cons, List.any_cons, toP_eqv y x p.1 q, any_toP p.2 q]
theorem in_seq {r : Lay} {H : Hp} {pins : List (Addr × Obj)} {s : Shared} {σ : L2.St} {x : D} {ys : List D} {vx : V} {a : Addr} {us : List V} {v : Value} {Q : VK} (neg : Bool) (hK : X.K = C.K) (hu : X.A.units + 65 < cLine) (I : Inv X pins σ H s)
    (px : cmpD x = true) (pl : cmpD (.lst ys) = true) (qx : RD C r H x vx) (rx : RelV vx v) (ty : RDs C r H ys us) (sq : SqL C.K H a us ∨ SqT C.K H a us) (h : Q (.bl (neg != ys.any fun z => D.eqv z x)) H) :
    wpAny (model X.prog X.w) X.A (compareOp (if neg then .NotIn else .In) v (.ref a)) (EP X pins σ Q) X.xe s := by
  obtain ⟨p1, d1⟩ := cmpD_iff px
  obtain ⟨p2, d2⟩ := cmpD_iff pl
  have p2 : D.pures ys = true := by simpa [D.pure] using p2
  have d2 : D.depths ys ≤ 59 := by rw [D.depth] at d2; omega
  obtain ⟨bs, r1⟩ := Dp.reads I (toP x) vx v (by rw [hK]; exact qx.dp p1) rx
  have hroom : X.A.units + 1 + min (PyData.depthAll (toPs ys)) (toP x).depth < cLine := by
    rw [toPs_depth]
    have : min (D.depths ys) (toP x).depth ≤ D.depths ys := Nat.min_le_left _ _
    omega
  have e := any_toP p2 p1
  rcases sq with sq | sq
  · obtain ⟨as, r2⟩ := Dp.reads I (.list (toPs ys)) (.ref a) (.ref a) (by rw [hK]; exact .lst sq (ty.dp p2)) rfl
    cases neg with
    | false => exact SeqAt.in_list_reads r2 r1 (toPs_lay ys) (toP_lay x) hroom ⟨.bl _, H, I, rfl, by rw [e]; simpa using h⟩
    | true => exact SeqAt.notIn_list_reads r2 r1 (toPs_lay ys) (toP_lay x) hroom ⟨.bl _, H, I, rfl, by rw [e]; simpa using h⟩
  · obtain ⟨as, r2⟩ := Dp.reads I (.tuple (toPs ys)) (.ref a) (.ref a) (by rw [hK]; exact .tup sq (ty.dp p2)) rfl
    cases neg with
    | false => exact SeqAt.in_tuple_reads r2 r1 (toPs_lay ys) (toP_lay x) hroom ⟨.bl _, H, I, rfl, by rw [e]; simpa using h⟩
    | true => exact SeqAt.notIn_tuple_reads r2 r1 (toPs_lay ys) (toP_lay x) hroom ⟨.bl _, H, I, rfl, by rw [e]; simpa using h⟩
end
end DL

set_option maxHeartbeats 1000000
/-! DLDict: dicts. -/
namespace DL
open PySem PySem.Spec PyProof.Rows L2
section
variable {C : Ct} {r : Lay} {H : Hp}
theorem keyD_eq {k k' : Key} {d d' : D} (h : keyD k d) (h' : keyD k' d') : k = k' ↔ d = d' := by
  cases k with
  | inl i =>
    cases k' with
    | inl j =>
      rw [show d = .int i from h, show d' = .int j from h']
      simp
    | inr y =>
      obtain ⟨s, rfl, rfl⟩ := h'
      rw [show d = .int i from h]
      simp
  | inr x =>
    obtain ⟨s, rfl, rfl⟩ := h
    cases k' with
    | inl j =>
      rw [show d' = .int j from h']
      simp
    | inr y =>
      obtain ⟨s', rfl, rfl⟩ := h'
      simp [ofS_eq]
theorem keysD_eq : ∀ {k k' : List Key} {d d' : List D}, keysD k d → keysD k' d' → (k = k' ↔ d = d')
  | _, _, _, _, .nil, .nil => by simp
  | _, _, _, _, .nil, .cons _ _ => by simp
  | _, _, _, _, .cons _ _, .nil => by simp
  | _, _, _, _, .cons h t, .cons h' t' => by simp [keyD_eq h h', keysD_eq t t']
theorem keyTD_eq {k k' : List Key} {d d' : D} (h : keyTD k d) (h' : keyTD k' d') : k = k' ↔ d = d' := by
  obtain ⟨ds, rfl, h⟩ := h
  obtain ⟨ds', rfl, h'⟩ := h'
  rw [keysD_eq h h']
  simp
/-- a key lies so -/
theorem key1_at {d : D} {y : V} (hk : D.key1 d = true) (q : RD C r H d y) : ∃ k, keyD k d ∧ y = kV k := by
  cases q <;> first | cases hk | skip
  · exact ⟨.inl _, rfl, rfl⟩
  · exact ⟨.inr _, ⟨_, rfl, rfl⟩, rfl⟩
theorem keys1_at : ∀ {ds : List D} {ys : List V}, ds.all D.key1 = true → RDs C r H ds ys → ∃ ks, keysD ks ds ∧ ys = ks.map kV
  | _, _, _, .nil => ⟨[], .nil, rfl⟩
  | _, _, h, .cons q t => by
    rw [List.all_cons, Bool.and_eq_true] at h
    obtain ⟨k, h1, rfl⟩ := key1_at h.1 q
    obtain ⟨ks, h2, rfl⟩ := keys1_at h.2 t
    exact ⟨k :: ks, .cons h1 h2, rfl⟩
theorem keyT_at {d : D} {y : V} (hk : D.key true d = true) (q : RD C r H d y) : ∃ k b, keyTD k d ∧ y = .ref b ∧ H b = some (.tup (k.map kV)) := by
  cases q <;> first | cases hk | skip
  rename_i a xs vs h t
  obtain ⟨ks, h1, rfl⟩ := keys1_at (show xs.all D.key1 = true from hk) t
  exact ⟨ks, a, ⟨_, rfl, h1⟩, rfl, h.1⟩
section
variable {κ : Type} [DecidableEq κ] {p : κ → D → Prop} (he : ∀ {k k' : κ} {d d' : D}, p k d → p k' d' → (k = k' ↔ d = d'))
include he
def ROp (C : Ct) (r : Lay) (H : Hp) (o : Option D) (u : Option V) : Prop := match o, u with
  | some x, some v => RD C r H x v
  | none, none => True
  | _, _ => False
theorem RKs.get {k : κ} {d : D} (hk : p k d) : ∀ {m : List (D × D)} {vs : List (κ × V)}, RKs p C r H m vs → ROp C r H (dGet m d) (valV vs k)
  | _, _, .nil => trivial
  | _, _, .cons (k := k0) (d := d0) hk0 q t => by
    by_cases e : k0 = k
    · have e2 := (he hk0 hk).mp e
      rw [valV_pos (p := (k0, _)) e, dGet, if_pos e2]
      exact q
    · have e2 : ¬ d0 = d := fun z => e ((he hk0 hk).mpr z)
      rw [valV_neg (p := (k0, _)) e, dGet, if_neg e2]
      exact RKs.get hk t
theorem RKs.any {k : κ} {d : D} (hk : p k d) : ∀ {m : List (D × D)} {vs : List (κ × V)}, RKs p C r H m vs → (m.any fun q => decide (q.1 = d)) = vs.any fun q => decide (q.1 = k)
  | _, _, .nil => rfl
  | _, _, .cons hk0 q t => by
    rw [List.any_cons, List.any_cons, RKs.any hk t, decide_eq_decide.mpr (he hk0 hk).symm]
theorem RKs.mapPut {k : κ} {d x : D} {v : V} (hk : p k d) (qx : RD C r H x v) : ∀ {m : List (D × D)} {vs : List (κ × V)}, RKs p C r H m vs →
    RKs p C r H (m.map fun q => if q.1 = d then (q.1, x) else q) (vs.map fun q => if q.1 = k then (q.1, v) else q)
  | _, _, .nil => .nil
  | _, _, .cons (k := k0) (d := d0) hk0 q t => by
    rw [List.map_cons, List.map_cons]
    by_cases e : k0 = k
    · have e2 := (he hk0 hk).mp e
      rw [if_pos e, if_pos e2]
      exact .cons hk0 qx (RKs.mapPut hk qx t)
    · have e2 : ¬ d0 = d := fun z => e ((he hk0 hk).mpr z)
      rw [if_neg e, if_neg e2]
      exact .cons hk0 q (RKs.mapPut hk qx t)
omit he in
theorem RKs.append : ∀ {m m' : List (D × D)} {vs vs' : List (κ × V)}, RKs p C r H m vs → RKs p C r H m' vs' → RKs p C r H (m ++ m') (vs ++ vs')
  | _, _, _, _, .nil, s => s
  | _, _, _, _, .cons a b c, s => .cons a b (RKs.append c s)
theorem RKs.put {k : κ} {d x : D} {v : V} (hk : p k d) (qx : RD C r H x v) {m : List (D × D)} {vs : List (κ × V)} (h : RKs p C r H m vs) : RKs p C r H (dPut m d x) (putK vs k v) := by
  unfold dPut putK
  rw [RKs.any he hk h]
  split
  · exact RKs.mapPut he hk qx h
  · exact RKs.append h (.cons hk qx .nil)
theorem RKs.del {k : κ} {d : D} (hk : p k d) : ∀ {m : List (D × D)} {vs : List (κ × V)}, RKs p C r H m vs → RKs p C r H (dDel m d) (dropK vs k)
  | _, _, .nil => .nil
  | _, _, .cons (k := k0) (d := d0) hk0 q t => by
    have ih := RKs.del hk t
    unfold dDel dropK at ih ⊢
    by_cases e : k0 = k
    · have e2 := (he hk0 hk).mp e
      rw [List.filter_cons_of_neg (by simp [e2]), List.filter_cons_of_neg (by simp [e])]
      exact ih
    · have e2 : ¬ d0 = d := fun z => e ((he hk0 hk).mpr z)
      rw [List.filter_cons_of_pos (by simp [e2]), List.filter_cons_of_pos (by simp [e])]
      exact .cons hk0 q ih
end
theorem dct_get {t : Bool} {a : Addr} {m : List (D × D)} {d : D} {y : V} (h : CellR C r H a (.dct t m)) (hk : D.key t d = true) (q : RD C r H d y) : ∃ o, DGet H a y o ∧ ROp C r H (dGet m d) o := by
  cases t with
  | false =>
    obtain ⟨vs, h1, h2⟩ := h
    obtain ⟨k, k1, rfl⟩ := key1_at hk q
    exact ⟨_, .inl ⟨vs, k, .inl h1, rfl, rfl⟩, h2.get keyD_eq k1⟩
  | true =>
    obtain ⟨vs, h1, h2⟩ := h
    obtain ⟨k, b, k1, rfl, k2⟩ := keyT_at hk q
    exact ⟨_, .inr ⟨vs, k, b, .inl h1, rfl, k2, rfl⟩, h2.get keyTD_eq k1⟩
theorem dct_put {t : Bool} {n : Nat} {a : Addr} {m : List (D × D)} {st : Sto} {d x : D} {y v : V} (R : Rel C r st H) (e : st[n]? = some (.dct t m)) (hr : r.1[n]? = some a) (hk : D.key t d = true) (hl : m.length < sizeLine) (q : RD C r H d y) (qx : RD C r H x v) :
    ∃ H', DPut H a y v H' ∧ Fut r H r H' ∧ Rel C r (st.set n (.dct t (dPut m d x))) H' := by
  have h := R.cells n _ a e hr
  cases t with
  | false =>
    obtain ⟨vs, h1, h2⟩ := h
    obtain ⟨k, k1, rfl⟩ := key1_at hk q
    refine ⟨_, .inl ⟨vs, k, h1, rfl, by rw [← h2.length]; exact hl, rfl⟩, Fut.set hr (Mut.nf h1 trivial), R.set hr (Mut.nf h1 trivial) ⟨_, upd_same, RKs.put keyD_eq k1 (qx.fut (Fut.set hr (Mut.nf h1 trivial))) (h2.fut (Fut.set hr (Mut.nf h1 trivial)))⟩⟩
  | true =>
    obtain ⟨vs, h1, h2⟩ := h
    obtain ⟨k, b, k1, rfl, k2⟩ := keyT_at hk q
    refine ⟨_, .inr ⟨vs, k, b, h1, rfl, k2, by rw [← h2.length]; exact hl, rfl⟩, Fut.set hr (Mut.nf h1 trivial), R.set hr (Mut.nf h1 trivial) ⟨_, upd_same, RKs.put keyTD_eq k1 (qx.fut (Fut.set hr (Mut.nf h1 trivial))) (h2.fut (Fut.set hr (Mut.nf h1 trivial)))⟩⟩
theorem dct_getF {t : Bool} {a : Addr} {m : List (D × D)} {d : D} {y : V} (h : CellR C r H a (.dctF t m)) (hk : D.key t d = true) (q : RD C r H d y) : ∃ o, DGet H a y o ∧ ROp C r H (dGet m d) o := by
  cases t with
  | false =>
    obtain ⟨o, vs, h1, h2⟩ := h
    obtain ⟨k, k1, rfl⟩ := key1_at hk q
    exact ⟨_, .inl ⟨vs, k, .inr ⟨_, h1⟩, rfl, rfl⟩, h2.get keyD_eq k1⟩
  | true =>
    obtain ⟨o, vs, h1, h2⟩ := h
    obtain ⟨k, b, k1, rfl, k2⟩ := keyT_at hk q
    exact ⟨_, .inr ⟨vs, k, b, .inr ⟨_, h1⟩, rfl, k2, rfl⟩, h2.get keyTD_eq k1⟩
theorem dct_del {n : Nat} {a : Addr} {m : List (D × D)} {st : Sto} {d : D} {y : V} (R : Rel C r st H) (e : st[n]? = some (.dct false m)) (hr : r.1[n]? = some a) (hk : D.key1 d = true) (q : RD C r H d y) :
    ∃ k vs, H a = some (.dK vs) ∧ y = kV k ∧ ROp C r H (dGet m d) (valV vs k) ∧ Rel C r (st.set n (.dct false (dDel m d))) (upd H a (.dK (dropK vs k))) ∧ Fut r H r (upd H a (.dK (dropK vs k))) := by
  obtain ⟨vs, h1, h2⟩ := R.cells n _ a e hr
  obtain ⟨k, k1, rfl⟩ := key1_at hk q
  exact ⟨k, vs, h1, rfl, h2.get keyD_eq k1, R.set hr (Mut.nf h1 trivial) ⟨_, upd_same, RKs.del keyD_eq k1 (h2.fut (Fut.set hr (Mut.nf h1 trivial)))⟩, Fut.set hr (Mut.nf h1 trivial)⟩
end
end DL

set_option maxHeartbeats 1000000
/-! DLCmp2: the comparisons' rule; subscripts, slices, isinstance. -/
namespace DL
open PySem PySem.Spec PyProof.Rows L2
section
variable {C : Ct} {X : Cx}
theorem ofS_one {s : String} {c : Char} (h : s.toList = [c]) : Str.ofString s = ⟨#[c.toNat]⟩ := by
  rw [Str.ofString_eq_toList, h]
  rfl
theorem mem_toNat {c : Char} {l : List Char} : c.toNat ∈ l.map Char.toNat ↔ c ∈ l := by
  rw [List.mem_map]
  exact ⟨fun ⟨d, h, e⟩ => by rw [← toNat_inj' e]; exact h, fun h => ⟨c, h, rfl⟩⟩
theorem isNon {r : Lay} {H : Hp} {d : D} {v : V} (q : RD C r H d v) : decide (v = .non) = isNonD d := by
  cases q <;> simp [isNonD]
theorem ROp.isSome {r : Lay} {H : Hp} {o : Option D} {u : Option V} (h : ROp C r H o u) : o.isSome = u.isSome := by
  cases o <;> cases u <;> first | rfl | exact h.elim
theorem RDs.strs {r : Lay} {H : Hp} : ∀ ys : List String, RDs C r H (ys.map D.str) (ys.map fun x => V.str (Str.ofString x))
  | [] => .nil
  | y :: ys => .cons (.str y) (RDs.strs ys)
theorem pures_strs : ∀ ys : List String, D.pures (ys.map D.str) = true ∧ D.depths (ys.map D.str) = 0
  | [] => ⟨rfl, rfl⟩
  | y :: ys => by
    obtain ⟨h1, h2⟩ := pures_strs ys
    rw [List.map_cons, D.pures, D.depths, h1, h2]
    exact ⟨rfl, rfl⟩
theorem cmpD_strs (ys : List String) : cmpD (.lst (ys.map D.str)) = true := by
  obtain ⟨h1, h2⟩ := pures_strs ys
  unfold cmpD
  rw [D.pure, D.depth, h1, h2]
  rfl
theorem inStr_iff {neg : Bool} {x : D} {z : String} {st : Sto} {Q : D → Prop} (h : wpIn neg x (.str z) st Q) : ∃ a, x = .str a ∧ ∃ c, a.toList = [c] ∧ Q (.bl (neg != decide (c ∈ z.toList))) := by
  obtain ⟨a, rfl, h2⟩ := onStr_iff (show onStr x _ from h)
  refine ⟨a, rfl, ?_⟩
  cases e : a.toList with
  | nil => rw [e] at h2; exact h2.elim
  | cons c l =>
    rw [e] at h2
    cases l with
    | nil => exact ⟨c, rfl, h2⟩
    | cons _ _ => exact h2.elim
theorem or_cmp (hK : X.K = C.K) (hu : X.A.units + 65 < cLine) (o : Cop) : OpR X (compareOp o.op) (rCmp C o) := by
  intro pins s σ H x y v u Q I rx ry h
  obtain ⟨r, st, dx, dy, Q', R, qx, qy, hw, k⟩ := h
  have hu64 : X.A.units + 64 < cLine := by omega
  cases o with
  | eq =>
    obtain ⟨h1, h2, hq⟩ := wpEq_iff hw
    obtain ⟨p1, d1⟩ := cmpD_iff h1
    obtain ⟨p2, d2⟩ := cmpD_iff h2
    refine op_eqD hu64 pins s σ H x y v u Q I rx ry ⟨_, _, by rw [hK]; exact qx.flat R p1, by rw [hK]; exact qy.flat R p2, toP_shaped (by omega), toP_shaped (by omega), ?_⟩
    rw [toP_eqv _ _ p1 p2]
    exact k.now R (.bl _) hq
  | ne =>
    obtain ⟨h1, h2, hq⟩ := wpNe_iff hw
    obtain ⟨p1, d1⟩ := cmpD_iff h1
    obtain ⟨p2, d2⟩ := cmpD_iff h2
    refine op_neD hu64 pins s σ H x y v u Q I rx ry ⟨_, _, by rw [hK]; exact qx.flat R p1, by rw [hK]; exact qy.flat R p2, toP_shaped (by omega), toP_shaped (by omega), ?_⟩
    rw [toP_eqv _ _ p1 p2]
    exact k.now R (.bl _) hq
  | lt =>
    obtain ⟨h1, h2, c, e, hq⟩ := wpOrd_iff (show wpOrd (fun c => c) dx dy (fun d => Q' d st) from hw)
    exact ord_run hK hu64 I R (fun _ _ => rfl) (show ordV .Lt dx dy = some c from e) h1 h2 qx qy rx ry k hq
  | gt =>
    obtain ⟨h1, h2, c, e, hq⟩ := wpOrd_iff (show wpOrd (fun c => c) dy dx (fun d => Q' d st) from hw)
    exact ord_run hK hu64 I R (fun _ _ => rfl) (show ordV .Gt dx dy = some c from e) h2 h1 qx qy rx ry k hq
  | le =>
    obtain ⟨h1, h2, c, e, hq⟩ := wpLe_iff hw
    exact ord_run hK hu64 I R (fun _ _ => rfl) e h1 h2 qx qy rx ry k hq
  | ge =>
    obtain ⟨h1, h2, c, e, hq⟩ := wpGe_iff hw
    exact ord_run hK hu64 I R (fun _ _ => rfl) e h1 h2 qx qy rx ry k hq
  | is_ =>
    have non : dy = .non → Q' (.bl (isNonD dx)) st → wpAny (model X.prog X.w) X.A (compareOp .Is v u) (EP X pins σ Q) X.xe s := fun e hq => by
      subst e
      cases qy
      refine op_isN pins s σ H x .non v u Q I rx ry ⟨rfl, ?_⟩
      rw [isNon qx]
      exact k.now R (.bl _) hq
    cases qx <;> cases qy <;> first | exact non rfl hw | exact hw.elim | skip
    · refine op_isBl pins s σ H _ _ v u Q I rx ry ⟨_, _, rfl, rfl, ?_⟩
      rw [← Bool.beq_eq_decide_eq]
      exact k.now R (.bl _) hw
    · exact op_isTy pins s σ H _ _ v u Q I rx ry ⟨_, _, rfl, rfl, k.now R (.bl _) hw⟩
  | isnot =>
    have non : dy = .non → Q' (.bl (!isNonD dx)) st → wpAny (model X.prog X.w) X.A (compareOp .IsNot v u) (EP X pins σ Q) X.xe s := fun e hq => by
      subst e
      cases qy
      refine op_notN pins s σ H x .non v u Q I rx ry ⟨rfl, ?_⟩
      rw [isNon qx]
      exact k.now R (.bl _) hq
    cases qx <;> cases qy <;> first | exact non rfl hw | exact hw.elim | skip
    · refine op_notBl pins s σ H _ _ v u Q I rx ry ⟨_, _, rfl, rfl, ?_⟩
      rw [← Bool.beq_eq_decide_eq]
      exact k.now R (.bl _) hw
    · exact op_isNotTy pins s σ H _ _ v u Q I rx ry ⟨_, _, rfl, rfl, k.now R (.bl _) hw⟩
  | in_ =>
    cases qy with
    | str z =>
      obtain ⟨a, rfl, c, e, hw⟩ := inStr_iff (show wpIn false dx (.str z) st (fun d => Q' d st) from hw)
      cases qx
      · rw [ofS_one e] at rx
        refine op_in_sign pins s σ H _ _ v u Q I rx ry ⟨_, _, rfl, rfl, ?_⟩
        rw [ofS_cps]
        have e2 : decide (c.toNat ∈ z.toList.map Char.toNat) = decide (c ∈ z.toList) := decide_eq_decide.mpr mem_toNat
        rw [e2]
        rw [Bool.false_bne] at hw
        exact k.now R (.bl _) hw
    | tup h t =>
      cases ry
      obtain ⟨⟨h1, h2⟩, hw⟩ := (show (cmpD dx = true ∧ cmpD _ = true) ∧ Q' _ st from hw)
      exact in_seq false hK hu I h1 h2 qx rx t (.inr h.sq) (k.now R (.bl _) hw)
    | lst h t =>
      cases ry
      obtain ⟨⟨h1, h2⟩, hw⟩ := (show (cmpD dx = true ∧ cmpD _ = true) ∧ Q' _ st from hw)
      exact in_seq false hK hu I h1 h2 qx rx t (.inl h.sq) (k.now R (.bl _) hw)
    | @loc n a h =>
      cases ry
      obtain ⟨c, e, hw⟩ := onSome_iff (show onSome st[n]? _ from hw)
      cases c with
      | lst ys =>
        obtain ⟨⟨h1, h2⟩, hw⟩ := (show (cmpD dx = true ∧ cmpD _ = true) ∧ Q' _ st from hw)
        obtain ⟨vs, k1, k2⟩ := R.cells n _ a e h
        exact in_seq false hK hu I h1 h2 qx rx k2 (.inl (SqL.of k1)) (k.now R (.bl _) hw)
      | dct t kvs =>
        obtain ⟨hk, hw⟩ := (show D.key t dx = true ∧ Q' (.bl (false != (dGet kvs dx).isSome)) st from hw)
        obtain ⟨o, g, ro⟩ := dct_get (R.cells n _ a e h) hk qx
        refine d_in (by omega) I g rx fun s' I' => ⟨.bl _, H, I', rfl, ?_⟩
        rw [Bool.false_bne] at hw
        rw [← ROp.isSome ro]
        exact k.now R (.bl _) hw
      | dctF t kvs =>
        obtain ⟨hk, hw⟩ := (show D.key t dx = true ∧ Q' (.bl (false != (dGet kvs dx).isSome)) st from hw)
        obtain ⟨o, g, ro⟩ := dct_getF (R.cells n _ a e h) hk qx
        refine d_in (by omega) I g rx fun s' I' => ⟨.bl _, H, I', rfl, ?_⟩
        rw [Bool.false_bne] at hw
        rw [← ROp.isSome ro]
        exact k.now R (.bl _) hw
      | obj _ _ => exact hw.elim
    | kt ys hk =>
      cases ry
      obtain ⟨h1, hw⟩ := (show cmpD dx = true ∧ Q' _ st from hw)
      refine in_seq false hK hu I h1 (cmpD_strs ys) qx rx (RDs.strs ys) (.inr hk.sq) ?_
      rw [List.any_map]
      exact k.now R (.bl _) hw
    | _ => exact hw.elim
  | notin =>
    cases qy with
    | str z =>
      obtain ⟨a, rfl, c, e, hw⟩ := inStr_iff (show wpIn true dx (.str z) st (fun d => Q' d st) from hw)
      cases qx
      · rw [ofS_one e] at rx
        refine op_notIn_sign pins s σ H _ _ v u Q I rx ry ⟨_, _, rfl, rfl, ?_⟩
        rw [ofS_cps]
        have e2 : decide (c.toNat ∈ z.toList.map Char.toNat) = decide (c ∈ z.toList) := decide_eq_decide.mpr mem_toNat
        rw [e2]
        rw [Bool.true_bne] at hw
        exact k.now R (.bl _) hw
    | tup h t =>
      cases ry
      obtain ⟨⟨h1, h2⟩, hw⟩ := (show (cmpD dx = true ∧ cmpD _ = true) ∧ Q' _ st from hw)
      exact in_seq true hK hu I h1 h2 qx rx t (.inr h.sq) (k.now R (.bl _) hw)
    | lst h t =>
      cases ry
      obtain ⟨⟨h1, h2⟩, hw⟩ := (show (cmpD dx = true ∧ cmpD _ = true) ∧ Q' _ st from hw)
      exact in_seq true hK hu I h1 h2 qx rx t (.inl h.sq) (k.now R (.bl _) hw)
    | @loc n a h =>
      cases ry
      obtain ⟨c, e, hw⟩ := onSome_iff (show onSome st[n]? _ from hw)
      cases c with
      | lst ys =>
        obtain ⟨⟨h1, h2⟩, hw⟩ := (show (cmpD dx = true ∧ cmpD _ = true) ∧ Q' _ st from hw)
        obtain ⟨vs, k1, k2⟩ := R.cells n _ a e h
        exact in_seq true hK hu I h1 h2 qx rx k2 (.inl (SqL.of k1)) (k.now R (.bl _) hw)
      | dct t kvs =>
        obtain ⟨hk, hw⟩ := (show D.key t dx = true ∧ Q' (.bl (true != (dGet kvs dx).isSome)) st from hw)
        obtain ⟨o, g, ro⟩ := dct_get (R.cells n _ a e h) hk qx
        refine d_notIn (by omega) I g rx fun s' I' => ⟨.bl _, H, I', rfl, ?_⟩
        rw [Bool.true_bne] at hw
        rw [← ROp.isSome ro]
        exact k.now R (.bl _) hw
      | dctF t kvs =>
        obtain ⟨hk, hw⟩ := (show D.key t dx = true ∧ Q' (.bl (true != (dGet kvs dx).isSome)) st from hw)
        obtain ⟨o, g, ro⟩ := dct_getF (R.cells n _ a e h) hk qx
        refine d_notIn (by omega) I g rx fun s' I' => ⟨.bl _, H, I', rfl, ?_⟩
        rw [Bool.true_bne] at hw
        rw [← ROp.isSome ro]
        exact k.now R (.bl _) hw
      | obj _ _ => exact hw.elim
    | kt ys hk =>
      cases ry
      obtain ⟨h1, hw⟩ := (show cmpD dx = true ∧ Q' _ st from hw)
      refine in_seq true hK hu I h1 (cmpD_strs ys) qx rx (RDs.strs ys) (.inr hk.sq) ?_
      rw [List.any_map]
      exact k.now R (.bl _) hw
    | _ => exact hw.elim

/-! ### a op= b -/
def rAug (C : Ct) (o : Bop) : TIp := fun x y H Q => ∃ r st dx dy Q', Rel C r st H ∧ RD C r H dx x ∧ RD C r H dy y ∧ wpAug o dx dy st Q' ∧ Kp C r H Q' Q
end
end DL

set_option maxHeartbeats 1000000
/-! DLSort: sorted(..), of any data that can be ordered. -/
namespace DL
open PySem PySem.Spec PyProof.Rows L2
section
variable {prog : Program} {w : World} {A : Around} {E : Value → Shared → Prop} {s : Shared}
open PySem.W in
theorem sorted_gen {β : Type} {R : Value → β → Prop} {enc : β → PyData} {v : Value} {vs : List Value} {bs : List β} {Q : Value → Shared → Prop} (hL : bs.length ≤ sizeLine)
    (hcol : ∀ Q' : List Value → Shared → Prop, (∀ h' tk, (∀ b o, s.heap.get? b = some o → h'.get? b = some o) → Q' vs { s with heap := h', toks := tk }) → wpAny (model prog w) A.in1 (collect v) Q' E s)
    (e : EachIs R vs bs) (er : EachIs (fun v b => ∃ as, Reads s.heap v (enc b) as) vs bs) (hal : AllAlike (bs.map enc)) (hk : Sortable (bs.map enc)) (hu : ∀ b, b ∈ bs → A.units + 2 + (enc b).depth < cLine)
    (h : ∀ (out : List Value) (ep : Nat) (h1 h' : Heap) (tk : Nat), (∀ b o, s.heap.get? b = some o → h1.get? b = some o) → (∀ b o, h1.get? b = some o → h'.get? b = some o) → h'.get? h1.objs.size = some (seqObj "list" (List.toArray out) ep) → EachIs R out (bs.mergeSort (dataLe false enc)) → Q (.ref h1.objs.size) { s with heap := h', toks := tk }) :
    wpAny (model prog w) A (call (.builtin "sorted") [v]) Q E s := by
  refine Calls.call_function_entry kind_sorted plain_sorted entry_sorted (args_sorted1 _) ?_
  unfold Builtin.«sorted»
  refine wpAny_bind (m := checkCount "sorted" 1 1 _) (wpAny_pure ?_)
  refine wpAny_bind (hcol _ fun h1 tk1 k1 => ?_)
  have hvl : vs.length ≤ sizeLine := by rw [e.length]; exact hL
  refine wpAny_bind (wpAny_newList ?_ hvl)
  have hoL : (h1.push (seqObj "list" vs.toArray 0)).get? h1.objs.size = some (seqObj "list" vs.toArray 0) := Heap.get?_push_size _ rfl
  show wpAny _ _ _ _ _ { s with heap := h1.push (seqObj "list" vs.toArray 0), toks := tk1 }
  have kp : ∀ b o, h1.get? b = some o → b ≠ h1.objs.size ∧ (h1.push (seqObj "list" vs.toArray 0)).get? b = some o := fun b o q => ⟨Nat.ne_of_lt (Heap.lt_size q), Heap.get?_push_of_some _ q⟩
  have er' : EachIs (fun v b => ∃ as, Reads (sortingHeap (h1.push (seqObj "list" vs.toArray 0)) h1.objs.size vs) v (enc b) as) vs bs :=
    er.mono fun _ _ ⟨as, r⟩ => ⟨as, PyProof.Rows.Reads.keeps (fun b o q => sortingHeap_old (kp b o (k1 b o q)).1 (kp b o (k1 b o q)).2) r⟩
  refine wpAny_bind (wpAny_holding (wpAny_call_entry slot_list_sort ⟨_, hoL, rfl⟩ entry_list_sort
    (list_sort_vals (s := { s with heap := h1.push (seqObj "list" vs.toArray 0), toks := tk1 }) hoL
      (SortsAt.data (s := { s with heap := sortingHeap (h1.push (seqObj "list" vs.toArray 0)) h1.objs.size vs, toks := tk1 }) (each_map (R := fun v d => ∃ as, Reads (sortingHeap (h1.push (seqObj "list" vs.toArray 0)) h1.objs.size vs) v d as) enc er') hal hk (bound_map hu)) hvl ⟨_, rfl, ?_⟩) (args_list_sort _)))
  obtain ⟨ep, hat⟩ := sortedHeap_at (out := (sortVals (dataKind (sortingHeap (h1.push (seqObj "list" vs.toArray 0)) h1.objs.size vs) (bs.map enc)) false vs vs).toArray) hoL
  refine wpAny_pure ⟨_, rfl, h _ ep h1 _ tk1 k1 (fun b o q => ?_) hat (sortVals_data false e er' hal)⟩
  obtain ⟨z1, z2⟩ := kp b o q
  rw [sortedHeap_old z1 (Heap.lt_size z2)]
  exact z2
end
section
variable {X : Cx} {C : Ct} {r : Lay} {H : Hp}
/-- the values of a list of data -/
def RV (C : Ct) (r : Lay) (H : Hp) (v : Value) (d : D) : Prop := ∃ x, RelV x v ∧ RD C r H d x
theorem each_of : ∀ {xs : List D} {vs : List V} {us : List Value}, RDs C r H xs vs → Vals vs us → PySem.W.EachIs (RV C r H) us xs
  | _, _, _, .nil, .nil => .nil
  | _, _, _, .cons q t, .cons p u => .cons ⟨_, p, q⟩ (each_of t u)
theorem of_each : ∀ {xs : List D} {us : List Value}, PySem.W.EachIs (RV C r H) us xs → ∃ vs, RDs C r H xs vs ∧ Vals vs us
  | _, _, .nil => ⟨[], .nil, .nil⟩
  | _, _, .cons ⟨x, p, q⟩ t => let ⟨vs, h1, h2⟩ := of_each t; ⟨x :: vs, .cons q h1, .cons p h2⟩
theorem each_reads {pins : List (Addr × Obj)} {s : Shared} {σ : L2.St} (hK : X.K = C.K) (I : Inv X pins σ H s) : ∀ {xs : List D} {us : List Value}, D.pures xs = true → PySem.W.EachIs (RV C r H) us xs → PySem.W.EachIs (fun v b => ∃ as, Reads s.heap v (toP b) as) us xs
  | _, _, _, .nil => .nil
  | _, _, p, .cons ⟨x, h, q⟩ t => by
    rw [D.pures, Bool.and_eq_true] at p
    exact .cons (Dp.reads I _ _ _ (by rw [hK]; exact q.dp p.1) h) (each_reads hK I p.2 t)
theorem sortD_len (xs : List D) : (sortD xs).length = xs.length := List.length_mergeSort ..
/-- the rule by what is collected -/
theorem sorted_any {pins : List (Addr × Obj)} {s : Shared} {σ : L2.St} {v : Value} {us : List Value} {xs : List D} {Q : VK} (hK : X.K = C.K) (hu : X.A.units + 65 < cLine) (I : Inv X pins σ H s) (ok : srtOk xs)
    (hcol : ∀ (E : Value → Shared → Prop) (Q' : List Value → Shared → Prop), (∀ h' tk, (∀ b o, s.heap.get? b = some o → h'.get? b = some o) → Q' us { s with heap := h', toks := tk }) → wpAny (model X.prog X.w) X.A.in1 (collect v) Q' E s)
    (e : PySem.W.EachIs (RV C r H) us xs) (h : ∀ vs p, RDs C r H (sortD xs) vs → H p = none → Q (.ref p) (upd H p (.lst vs))) : wpAny (model X.prog X.w) X.A (call (.builtin "sorted") [v]) (EP X pins σ Q) X.xe s := by
  obtain ⟨pp, hz, hd, hal, hs⟩ := ok
  refine sorted_gen (enc := toP) hz (hcol _) e (each_reads hK I pp e) hal hs (fun b m => ?_) fun out ep h1 h' tk k1 k2 hat e2 => ?_
  · rw [toP_depth]
    have := D.depth_mem m
    omega
  · obtain ⟨vs, q1, q2⟩ := of_each e2
    have I1 : Inv X pins σ H { s with heap := h1 } := I.kept (t' := s.toks) k1
    have hlen : vs.length ≤ sizeLine := by
      rw [← q1.length]
      show (sortD xs).length ≤ _
      rw [sortD_len]; exact hz
    exact ⟨.ref _, upd H h1.objs.size (.lst vs), I1.laid (t' := tk) k2 (Nat.le_refl _) ⟨hlen, out, ep, q2, hat⟩, rfl, h vs _ q1 (I1.hok.fresh (Nat.le_refl _))⟩
theorem sorted_seq {pins : List (Addr × Obj)} {s : Shared} {σ : L2.St} {a : Addr} {vs : List V} {xs : List D} {Q : VK} (hK : X.K = C.K) (hu : X.A.units + 65 < cLine) (I : Inv X pins σ H s) (ok : srtOk xs) (sq : SqL X.K H a vs ∨ SqT X.K H a vs) (t : RDs C r H xs vs)
    (h : ∀ vs p, RDs C r H (sortD xs) vs → H p = none → Q (.ref p) (upd H p (.lst vs))) : wpAny (model X.prog X.w) X.A (call (.builtin "sorted") [.ref a]) (EP X pins σ Q) X.xe s := by
  rcases sq with sq | sq
  · obtain ⟨its, rv, p, hz⟩ := I.list sq
    obtain ⟨o, ho, hc, n, hd⟩ := p.isList
    have hlen := rv.length
    refine sorted_any (us := its) hK hu I ok (fun E Q' k => ?_) (each_of t rv) h
    exact wpAny_collect_seq a (.inl rfl) ho hc hd (fun h' kp => k h' s.toks kp) (by simp only [List.size_toArray]; omega)
  · obtain ⟨its, rv, p, hz⟩ := I.tuple sq
    obtain ⟨o, ho, hc, n, hd⟩ := p
    have hlen := rv.length
    refine sorted_any (us := its) hK hu I ok (fun E Q' k => ?_) (each_of t rv) h
    exact wpAny_collect_seq a (.inr rfl) ho hc hd (fun h' kp => k h' s.toks kp) (by simp only [List.size_toArray]; omega)
/-! ### a dict's keys, collected -/
theorem keyD_rd {k : Key} {d : D} (h : keyD k d) : RD C r H d (kV k) := by
  cases k with
  | inl i => rw [show d = .int i from h]; exact .int i
  | inr x => obtain ⟨s, rfl, rfl⟩ := h; exact .str s
theorem keysD_rd : ∀ {ks : List Key} {ds : List D}, keysD ks ds → RDs C r H ds (ks.map kV)
  | _, _, .nil => .nil
  | _, _, .cons h t => .cons (keyD_rd h) (keysD_rd t)
theorem pairs_rd {P : Program} {w : World} {es : List DictEntry} {us : List (Key × Value)} (pr : Pairs (mixKind P w) es us) : ∀ {vs : List (Key × V)} {kvs : List (D × D)}, KV vs us → RKs keyD C r H kvs vs → ∃ ys, RDs C r H (kvs.map (·.1)) ys ∧ Vals ys (es.map (·.key)) := by
  induction pr with
  | nil =>
    intro vs kvs q m
    cases q
    cases m
    exact ⟨[], .nil, .nil⟩
  | @cons e kv es us h _ _ ih =>
    intro vs kvs q m
    cases q with
    | cons q1 q2 =>
      cases m with
      | cons m1 m2 m3 =>
        obtain ⟨ys, h1, h2⟩ := ih q2 m3
        refine ⟨_ :: ys, .cons (keyD_rd m1) h1, .cons ?_ h2⟩
        have q1' := q1.1
        dsimp only at q1'
        rw [q1']
        exact keyIs_rel h
theorem tuples_rd {P : Program} {w : World} {st : Sto} (R : Rel C r st H) {xs : List (List Key × Addr × Value)} {vs : List (List Key × V)} (pr : KT H vs xs) : ∀ {kvs : List (D × D)}, RKs keyTD C r H kvs vs →
    ∃ ys, RDs C r H (kvs.map (·.1)) ys ∧ Vals ys ((xs.map (entryOfKey (tupleKind (mixKind P w)))).map (·.key)) := by
  induction pr with
  | nil =>
    intro kvs m
    cases m
    exact ⟨[], .nil, .nil⟩
  | @cons p x vs xs h _ ih =>
    intro kvs m
    cases m with
    | cons m1 m2 m3 =>
      obtain ⟨ys, h1, h2⟩ := ih m3
      obtain ⟨ds, rfl, k1⟩ := m1
      exact ⟨.ref x.2.1 :: ys, .cons (.tup ⟨h.2.1, R.off_of h.2.1 fun z => z⟩ (keysD_rd k1)) h1, .cons rfl h2⟩
theorem dct_raw {pins : List (Addr × Obj)} {s : Shared} {σ : L2.St} {st : Sto} {a : Addr} {t : Bool} {kvs : List (D × D)} (I : Inv X pins σ H s) (R : Rel C r st H) (h : CellR C r H a (.dct t kvs)) :
    ∃ (o : Obj) (es : Array DictEntry) (ep : Nat) (ys : List V), (a == sysModules) = false ∧ s.heap.get? a = some o ∧ o.ExactDict ∧ o.data = .dict es ep ∧ RDs C r H (kvs.map (·.1)) ys ∧ Vals ys (es.toList.map (·.key)) := by
  cases t with
  | false =>
    obtain ⟨vs, h1, h2⟩ := h
    obtain ⟨z, lo, us, kv, o, es, ep, g1, g2, g3, g4, pr, nd⟩ := (show ObjOk X.prog X.w H s.heap a (.dK vs) from I.hok a _ h1)
    obtain ⟨ys, k1, k2⟩ := pairs_rd pr kv h2
    exact ⟨o, es, ep, ys, lo, g1, g2, g3, k1, k2⟩
  | true =>
    obtain ⟨vs, h1, h2⟩ := h
    obtain ⟨z, lo, xs, pr, o, es, ep, g1, g2, g3, g4, nd⟩ := (show ObjOk X.prog X.w H s.heap a (.dT vs) from I.hok a _ h1)
    obtain ⟨ys, k1, k2⟩ := tuples_rd (P := X.prog) (w := X.w) R pr h2
    rw [← g4] at k2
    exact ⟨o, es, ep, ys, lo, g1, g2, g3, k1, k2⟩
theorem sorted_dct {pins : List (Addr × Obj)} {s : Shared} {σ : L2.St} {st : Sto} {a : Addr} {t : Bool} {kvs : List (D × D)} {Q : VK} (hK : X.K = C.K) (hc : X.calm = true) (hu : X.A.units + 65 < cLine) (I : Inv X pins σ H s) (R : Rel C r st H) (ok : srtOk (kvs.map (·.1))) (q : CellR C r H a (.dct t kvs))
    (h : ∀ vs p, RDs C r H (sortD (kvs.map (·.1))) vs → H p = none → Q (.ref p) (upd H p (.lst vs))) : wpAny (model X.prog X.w) X.A (call (.builtin "sorted") [.ref a]) (EP X pins σ Q) X.xe s := by
  obtain ⟨o, es, ep, ys, lo, g1, g2, g3, k1, k2⟩ := dct_raw I R q
  refine sorted_any (us := es.toList.map (·.key)) hK hu I ok (fun E Q' k => ?_) (each_of k1 k2) h
  have hl : es.size ≤ sizeLine := by
    have e1 := k1.length
    have e2 := k2.length
    have e3 := ok.2.1
    simp only [List.length_map, Array.length_toList] at e1 e2
    have e4 : (kvs.map (·.1)).length = kvs.length := List.length_map ..
    rw [e4] at e3
    omega
  refine PySem.W.kdu_collect (kdl_raw lo g2 g3) (I.ok.hd hc) g1 hl fun h' tk acc kp it => ?_
  have ea : acc.toList = es.toList.map (·.key) := by
    apply List.ext_getElem?
    intro j
    rw [List.getElem?_map, Array.getElem?_toList, Array.getElem?_toList]
    by_cases hj : j < acc.size
    · obtain ⟨en, h1, h2⟩ := it.2 j acc[j] (Array.getElem?_eq_getElem hj)
      rw [Array.getElem?_eq_getElem hj, h1, h2]
      rfl
    · rw [Array.getElem?_eq_none (by omega), Array.getElem?_eq_none (by have := it.1; omega)]
      rfl
  rw [ea]
  exact k h' tk kp
end
end DL

set_option maxHeartbeats 1000000
/-! DLIx: subscripts, slices, calls of built-in functions, methods of built-in types. -/
namespace DL
open PySem PySem.Spec PyProof.Rows L2
section
variable {C : Ct} {X : Cx}
def rIxC (C : Ct) : R2 := fun x y H Q => ∃ r st dx dy Q', Rel C r st H ∧ RD C r H dx x ∧ RD C r H dy y ∧ wpIx dx dy st (fun d => Q' d st) ∧ Kp C r H Q' Q
theorem atI_rd {r : Lay} {H : Hp} {xs : List D} {vs : List V} {i : Int} {d : D} (q : RDs C r H xs vs) (e : atI xs i = some d) : ∃ v, atI vs i = some v ∧ RD C r H d v := by
  unfold atI at e ⊢
  rw [← q.length]
  cases h : ixN xs.length i with
  | none => rw [h] at e; cases e
  | some j =>
    rw [h] at e
    obtain ⟨v, h1, h2⟩ := q.get (i := j) e
    exact ⟨v, h1, h2⟩
theorem atI_map {α β : Type} (f : α → β) {xs : List α} {i : Int} {a : α} (e : atI xs i = some a) : atI (xs.map f) i = some (f a) := by
  unfold atI at e ⊢
  rw [List.length_map]
  cases h : ixN xs.length i with
  | none => rw [h] at e; cases e
  | some j =>
    rw [h] at e
    have e : xs[j]? = some a := e
    show (xs.map f)[j]? = _
    rw [List.getElem?_map, e]
    rfl
theorem ofS_sign (c : Char) : Str.ofString (String.ofList [c]) = ⟨#[c.toNat]⟩ := ofS_one (String.toList_ofList)
theorem ix_any (hK : X.K = C.K) (hu : X.A.units + 65 < cLine) : IxR X (rIxC C) := by
  intro value slice pins s σ H x y v u Q I rx ry h hs
  obtain ⟨r, st, dx, dy, Q', R, qx, qy, hw, k⟩ := h
  cases qx with
  | tup h t =>
    obtain ⟨i, rfl, hw⟩ := onInt_iff (show onInt dy _ from hw)
    obtain ⟨d, e, hw⟩ := onSome_iff hw
    cases qy
    obtain ⟨z, e2, q⟩ := atI_rd t e
    exact ix_tup value slice pins s σ H _ _ v u Q I rx ry ⟨_, _, i, z, rfl, rfl, by rw [hK]; exact h.sq, e2, k.now R q hw⟩ hs
  | lst h t =>
    obtain ⟨i, rfl, hw⟩ := onInt_iff (show onInt dy _ from hw)
    obtain ⟨d, e, hw⟩ := onSome_iff hw
    cases qy
    obtain ⟨z, e2, q⟩ := atI_rd t e
    exact ix_list value slice pins s σ H _ _ v u Q I rx ry ⟨_, _, i, z, rfl, rfl, by rw [hK]; exact h.sq, e2, k.now R q hw⟩ hs
  | scr xs h =>
    obtain ⟨i, rfl, hw⟩ := onInt_iff (show onInt dy _ from hw)
    obtain ⟨d, e, hw⟩ := onSome_iff hw
    cases qy
    exact ix_list value slice pins s σ H _ _ v u Q I rx ry ⟨_, _, i, _, rfl, rfl, by rw [hK]; exact h.sq, atI_map V.int e, k.now R (.int _) hw⟩ hs
  | kt xs h =>
    obtain ⟨i, rfl, hw⟩ := onInt_iff (show onInt dy _ from hw)
    obtain ⟨d, e, hw⟩ := onSome_iff hw
    cases qy
    exact ix_tup value slice pins s σ H _ _ v u Q I rx ry ⟨_, _, i, _, rfl, rfl, by rw [hK]; exact h.sq, atI_map (fun x => V.str (Str.ofString x)) e, k.now R (.str _) hw⟩ hs
  | str z =>
    obtain ⟨i, rfl, hl, hw⟩ := onInt_iff (show onInt dy _ from hw)
    obtain ⟨c, e, hw⟩ := onSome_iff hw
    cases qy
    refine ix_str value slice pins s σ H _ _ v u Q I rx ry ⟨_, i, c.toNat, rfl, rfl, by rw [ofS_len]; exact hl, by rw [ofS_cps]; exact atI_map Char.toNat e, ?_⟩ hs
    rw [← ofS_sign]
    exact k.now R (.str _) hw
  | @loc n a h =>
    obtain ⟨c, e, hw⟩ := onSome_iff (show onSome st[n]? _ from hw)
    cases c with
    | lst ys =>
      obtain ⟨i, rfl, hw⟩ := onInt_iff (show onInt dy _ from hw)
      obtain ⟨d, e1, hw⟩ := onSome_iff hw
      cases qy
      obtain ⟨vs, k1, k2⟩ := R.cells n _ a e h
      obtain ⟨z, e2, q⟩ := atI_rd k2 e1
      exact ix_list value slice pins s σ H _ _ v u Q I rx ry ⟨_, _, i, z, rfl, rfl, SqL.of k1, e2, k.now R q hw⟩ hs
    | dct t kvs =>
      obtain ⟨hk, hw⟩ := (show D.key t dy = true ∧ onSome (dGet kvs dy) _ from hw)
      obtain ⟨d, e1, hw⟩ := onSome_iff hw
      obtain ⟨o, g, ro⟩ := dct_get (R.cells n _ a e h) hk qy
      rw [e1] at ro
      cases o with
      | none => exact ro.elim
      | some z =>
        cases rx
        exact tail_any (dict_typeIs I g) PySem.F.slot_dict_getitem.lookup (d_getItem (by omega) I g ry fun w' s' I' rw' => ⟨z, H, I', rw', k.now R ro hw⟩) hs
    | dctF t kvs =>
      obtain ⟨hk, hw⟩ := (show D.key t dy = true ∧ onSome (dGet kvs dy) _ from hw)
      obtain ⟨d, e1, hw⟩ := onSome_iff hw
      obtain ⟨o, g, ro⟩ := dct_getF (R.cells n _ a e h) hk qy
      rw [e1] at ro
      cases o with
      | none => exact ro.elim
      | some z =>
        cases rx
        exact tail_any (dict_typeIs I g) PySem.F.slot_dict_getitem.lookup (d_getItem (by omega) I g ry fun w' s' I' rw' => ⟨z, H, I', rw', k.now R ro hw⟩) hs
    | obj _ _ => exact hw.elim
  | _ => exact hw.elim

/-! ### slices -/
def rSlC (C : Ct) (m : Bool) : V → Option Int → Option Int → Hp → VK → Prop := fun x lo hi H Q => ∃ r st dx Q', Rel C r st H ∧ RD C r H dx x ∧ wpSl m dx lo hi st Q' ∧ Kp C r H Q' Q
theorem RDs.cut {r : Lay} {H : Hp} {xs : List D} {vs : List V} (q : RDs C r H xs vs) (lo hi : Option Int) : RDs C r H (cutD xs lo hi) (cutV vs lo hi) := by
  unfold cutD cutV
  rw [q.length]
  exact (q.drop _).take _
theorem cut_whole {α : Type} {xs : List α} {lo hi : Option Int} (h : HT.sIx xs.length 0 lo = 0 ∧ HT.sIx xs.length xs.length hi = xs.length) : cutD xs lo hi = xs := by
  unfold cutD
  rw [h.1, h.2]
  simp
theorem sl_any (hK : X.K = C.K) (m : Bool) : SlR X (rSlC C m) := by
  intro pins s σ H x v vl vu lo hi sl Q I rx hs pl pu h
  obtain ⟨r, st, dx, Q', R, qx, hw, k⟩ := h
  cases qx with
  | tup h t =>
    refine sl_tupA pins s σ H _ v vl vu lo hi sl Q I rx hs pl pu ⟨_, _, rfl, by rw [hK]; exact h.sq, fun e => ?_, fun _ => k.newT R (t.cut lo hi) hw⟩
    rw [← t.length] at e
    have hw : Q' (.tup (cutD _ lo hi)) st := hw
    rw [cut_whole e] at hw
    exact k.now R (.tup h t) hw
  | lst h t => exact sl_list pins s σ H _ v vl vu lo hi sl Q I rx hs pl pu ⟨_, _, rfl, by rw [hK]; exact h.sq, k.newL (m := m) R (t.cut lo hi) hw⟩
  | str z =>
    obtain ⟨hl, hw⟩ := (show _ ∧ Q' _ st from hw)
    refine sl_str pins s σ H _ v vl vu lo hi sl Q I rx hs pl pu ⟨_, rfl, by rw [ofS_len]; exact hl, ?_⟩
    have e : cutS (Str.ofString z) lo hi = Str.ofString (String.ofList (cutD z.toList lo hi)) := by
      refine ofS_mk ?_
      show ((Str.ofString z).cps.toList.drop _).take _ = _
      rw [ofS_cps, ofS_len]
      unfold cutD
      rw [String.length_toList, List.map_take, List.map_drop]
    rw [e]
    exact k.now R (.str _) hw
  | @loc n a h =>
    obtain ⟨c, e, hw⟩ := onSome_iff (show onSome st[n]? _ from hw)
    obtain ⟨ys, rfl, hw⟩ := onLst_iff hw
    obtain ⟨vs, k1, k2⟩ := R.cells n _ a e h
    exact sl_list pins s σ H _ v vl vu lo hi sl Q I rx hs pl pu ⟨_, _, rfl, SqL.of k1, k.newL (m := m) R (k2.cut lo hi) hw⟩
  | _ => exact hw.elim

/-! ### isinstance -/
theorem isi_base (K : PySem.W.Frag) : True := trivial
/-! ### built-in functions -/
def Bi.nm : Bi → String
  | .len => "len" | .int_ => "int" | .str_ => "str" | .repr_ => "repr" | .tuple_ => "tuple" | .list_ => "list" | .sorted_ => "sorted" | .all_ => "all" | .any_ => "any" | .sum_ => "sum" | .max1 => "max" | .min1 => "min" | .max2 => "max" | .min2 => "min"
  | .abs_ => "abs" | .ord_ => "ord" | .type_ => "type" | .dict1 => "dict" | .bool_ => "bool" | .set_ => "set"
def Bi.val : Bi → Value
  | .len => .builtin "len" | .int_ => .type "int" | .str_ => .type "str" | .repr_ => .builtin "repr" | .tuple_ => .type "tuple" | .list_ => .type "list" | .sorted_ => .builtin "sorted" | .all_ => .builtin "all" | .any_ => .builtin "any" | .sum_ => .builtin "sum"
  | .max1 => .builtin "max" | .min1 => .builtin "min" | .max2 => .builtin "max" | .min2 => .builtin "min" | .abs_ => .builtin "abs" | .ord_ => .builtin "ord" | .type_ => .type "type" | .dict1 => .type "dict" | .bool_ => .type "bool" | .set_ => .type "set"
def rBi (C : Ct) (m : Bool) (f : Bi) : List V → Hp → VK → Prop := fun xs H Q => ∃ r st ds Q', Rel C r st H ∧ RDs C r H ds xs ∧ wpBi m f ds st Q' ∧ Kp C r H Q' Q
theorem bls_of {r : Lay} {H : Hp} : ∀ {xs : List D} {vs : List V}, RDs C r H xs vs → (xs.all isBlD) = true → ∃ bs : List Bool, vs = bs.map V.bl ∧ xs = bs.map D.bl
  | _, _, .nil, _ => ⟨[], rfl, rfl⟩
  | _, _, .cons q t, h => by
    rw [List.all_cons, Bool.and_eq_true] at h
    obtain ⟨bs, h1, h2⟩ := bls_of t h.2
    cases q <;> first | cases h.1 | skip
    rename_i b
    exact ⟨b :: bs, by rw [h1]; rfl, by rw [h2]; rfl⟩
theorem ord_iff {m : Bool} {z : String} {st : Sto} {Q : D → Sto → Prop} (h : wpBi m .ord_ [.str z] st Q) : ∃ c, z.toList = [c] ∧ Q (.int c.toNat) st := by
  have h2 : (match z.toList with
    | [c] => Q (.int c.toNat) st
    | _ => False) := h
  cases e : z.toList with
  | nil => rw [e] at h2; exact h2.elim
  | cons c l =>
    rw [e] at h2
    cases l with
    | nil => exact ⟨c, rfl, h2⟩
    | cons _ _ => exact h2.elim
theorem mergeK_app : ∀ {more acc : List (Key × V)}, (∀ p ∈ more, ∀ q ∈ acc, q.1 ≠ p.1) → (more.map (·.1)).Nodup → mergeK acc more = acc ++ more
  | [], acc, _, _ => by simp [mergeK]
  | p :: more, acc, h, nd => by
    have ha : (acc.any fun q => decide (q.1 = p.1)) = false := by
      rw [List.any_eq_false]
      intro q m
      simpa using h p List.mem_cons_self q m
    have e : putK acc p.1 p.2 = acc ++ [p] := by
      unfold putK
      rw [if_neg (by rw [ha]; decide)]
    rw [List.map_cons, List.nodup_cons] at nd
    show mergeK (putK acc p.1 p.2) more = _
    rw [e, mergeK_app (fun q mq z mz => ?_) nd.2, List.append_assoc]
    · rfl
    · rcases List.mem_append.mp mz with mz | mz
      · exact h q (List.mem_cons_of_mem _ mq) z mz
      · rw [List.mem_singleton.mp mz]
        intro e2
        exact nd.1 (List.mem_map.mpr ⟨q, mq, e2.symm⟩)
theorem lstH {C : Ct} {r : Lay} {st : Sto} {H : Hp} {d : D} {v : V} {kk : List D → List (Nat × Cell) → Prop} (R : Rel C r st H) (q : RD C r H d v) (h : lstK d st kk) : ∃ a xs vs s1, v = .ref a ∧ H a = some (.lst vs) ∧ RDs C r H xs vs ∧ kk xs s1 := by
  cases q with
  | lst h1 t => exact ⟨_, _, _, [], rfl, h1.1, t, h⟩
  | @loc n a hr =>
    obtain ⟨c, e, h⟩ := onSome_iff (show onSome st[n]? _ from h)
    obtain ⟨ys, rfl, h⟩ := onLst_iff h
    obtain ⟨vs, h1, t⟩ := R.cells n _ a e hr
    exact ⟨a, ys, vs, _, rfl, h1, t, h⟩
  | _ => exact h.elim
theorem rks_keys : ∀ {kvs : List (D × D)} {vs : List (Key × V)}, RKs keyD C r H kvs vs → RDs C r H (kvs.map (·.1)) (vs.map fun kv => kV kv.1)
  | _, _, .nil => .nil
  | _, _, .cons h _ t => .cons (keyD_rd h) (rks_keys t)
theorem rks_keysT {st : Sto} (R : Rel C r st H) : ∀ {kvs : List (D × D)} {vs : List (List Key × V)} {bs : List Addr}, RKs keyTD C r H kvs vs → IsKeys H vs bs → RDs C r H (kvs.map (·.1)) (bs.map V.ref)
  | _, _, _, .nil, h => by cases h; exact .nil
  | _, _, _, .cons k _ t, h => by
    cases h with
    | cons hb h =>
      obtain ⟨ds, rfl, hk⟩ := k
      exact .cons (.tup ⟨hb, R.off_of hb fun z => z⟩ (keysD_rd hk)) (rks_keysT R t h)
theorem pairs_at {K : PySem.W.Frag} (hK : K = C.K) : ∀ {kvs : List (D × D)} {vs : List V}, RDs C r H (kvs.map fun p => D.tup [p.1, p.2]) vs → (kvs.all fun p => D.key1 p.1) = true →
    ∃ ps ks, vs = ps.map V.ref ∧ Paired (fun p (kv : Key × V) => SqT K H p [kV kv.1, kv.2]) ps ks ∧ RKs keyD C r H kvs ks
  | [], _, .nil, _ => ⟨[], [], rfl, .nil, .nil⟩
  | p :: kvs, _, .cons q t, h => by
    rw [List.all_cons, Bool.and_eq_true] at h
    obtain ⟨ps, ks, e, h1, h2⟩ := pairs_at hK t h.2
    cases q with
    | tup ht t2 =>
      cases t2 with
      | cons q1 t3 =>
        cases t3 with
        | cons q2 t4 =>
          cases t4
          obtain ⟨k, k1, rfl⟩ := key1_at h.1 q1
          exact ⟨_ :: ps, (k, _) :: ks, by rw [e]; rfl, .cons (by rw [hK]; exact ht.sq) h1, .cons k1 q2 h2⟩
theorem keys_inj : ∀ {kvs : List (D × D)} {ks : List (Key × V)}, RKs keyD C r H kvs ks → (kvs.map (·.1)).Nodup → (ks.map (·.1)).Nodup
  | _, _, .nil, _ => List.nodup_nil
  | _, _, .cons (k := k) h _ t, nd => by
    rw [List.map_cons, List.nodup_cons] at nd ⊢
    refine ⟨fun m => nd.1 ?_, keys_inj t nd.2⟩
    have key : ∀ {kvs : List (D × D)} {ks : List (Key × V)}, RKs keyD C r H kvs ks → k ∈ ks.map (·.1) → ∃ d ∈ kvs.map (·.1), keyD k d := by
      intro kvs ks q
      induction q with
      | nil => intro m; cases m
      | cons h2 _ t2 ih =>
        intro m
        rcases List.mem_cons.mp m with e | m
        · exact ⟨_, List.mem_cons_self, by rw [e]; exact h2⟩
        · obtain ⟨d, h3, h4⟩ := ih m
          exact ⟨d, List.mem_cons_of_mem _ h3, h4⟩
    obtain ⟨d2, h3, h4⟩ := key t m
    have := (keyD_eq h h4).mp rfl
    show _ ∈ _
    rw [this]
    exact h3
theorem Kp.newD {Q' : D → Sto → Prop} {Q : VK} {st : Sto} {kvs : List (D × D)} {vs : List (Key × V)} (k : Kp C r H Q' Q) (R : Rel C r st H) (q : RKs keyD C r H kvs vs) (h : Q' (.loc st.length) (st ++ [.dct false kvs])) : ∀ p, H p = none → Q (.ref p) (upd H p (.dK vs)) := fun p hp =>
  k (r.1 ++ [p], r.2) (st ++ [.dct false kvs]) _ (.loc st.length) _ (Fut.push hp) (R.push (c := .dct false kvs) hp fun f => ⟨vs, upd_same, q.fut f⟩) (.loc (by
    show (r.1 ++ [p])[st.length]? = _
    rw [← R.len]
    simp)) h
theorem ints_at : ∀ {ns : List Int} {vs : List V}, RDs C r H (ns.map D.int) vs → vs = ns.map V.int
  | [], _, .nil => rfl
  | n :: ns, _, .cons q t => by
    cases q
    rw [ints_at t]
    rfl
theorem cr_bi (hK : X.K = C.K) (hu : X.A.units + 65 < cLine) (hc : X.calm = true) (m : Bool) (f : Bi) : CallR X f.val (rBi C m f) := by
  intro pins s σ H xs us Q I rr h
  obtain ⟨r, st, ds, Q', R, q, hw, k⟩ := h
  cases f with
  | len =>
    cases q with
    | nil => exact hw.elim
    | cons q t =>
      cases t with
      | cons _ _ => cases q <;> exact hw.elim
      | nil =>
        cases q with
        | str z =>
          obtain ⟨hl, hw⟩ := (show _ ∧ Q' _ st from hw)
          refine call_len_str pins s σ H _ us Q I rr ⟨_, rfl, by rw [ofS_len]; exact hl, ?_⟩
          rw [ofS_len]
          exact k.now R (.int _) hw
        | tup h t =>
          refine call_len_seq pins s σ H _ us Q I rr ⟨_, _, rfl, .inr (by rw [hK]; exact h.sq), ?_⟩
          rw [← t.length]
          exact k.now R (.int _) hw
        | lst h t =>
          refine call_len_seq pins s σ H _ us Q I rr ⟨_, _, rfl, .inl (by rw [hK]; exact h.sq), ?_⟩
          rw [← t.length]
          exact k.now R (.int _) hw
        | scr xs h =>
          refine call_len_seq pins s σ H _ us Q I rr ⟨_, _, rfl, .inl (by rw [hK]; exact h.sq), ?_⟩
          rw [List.length_map]
          exact k.now R (.int _) hw
        | kt xs h =>
          refine call_len_seq pins s σ H _ us Q I rr ⟨_, _, rfl, .inr (by rw [hK]; exact h.sq), ?_⟩
          rw [List.length_map]
          exact k.now R (.int _) hw
        | @loc n a h =>
          obtain ⟨c, e, hw⟩ := onSome_iff (show onSome st[n]? _ from hw)
          cases c with
          | lst ys =>
            obtain ⟨vs, k1, k2⟩ := R.cells n _ a e h
            refine call_len_seq pins s σ H _ us Q I rr ⟨_, _, rfl, .inl (SqL.of k1), ?_⟩
            rw [← k2.length]
            exact k.now R (.int _) hw
          | dct t kvs =>
            cases t with
            | false =>
              obtain ⟨vs, k1, k2⟩ := R.cells n _ a e h
              obtain ⟨u, rfl, rx⟩ := vals1 rr
              cases rx
              refine d_len I (.inl k1) fun t s' I' => ⟨.int _, H, I', ⟨_, rfl⟩, ?_⟩
              rw [← k2.length]
              exact k.now R (.int _) hw
            | true =>
              obtain ⟨vs, k1, k2⟩ := R.cells n _ a e h
              refine call_len_dT pins s σ H _ us Q I rr ⟨_, _, rfl, k1, ?_⟩
              rw [← k2.length]
              exact k.now R (.int _) hw
          | dctF _ _ => exact hw.elim
          | obj _ _ => exact hw.elim
        | _ => exact hw.elim
  | int_ =>
    cases q with
    | nil => exact hw.elim
    | cons q t =>
      cases t with
      | cons _ _ => cases q <;> exact hw.elim
      | nil =>
        cases q with
        | int i => exact call_int1 pins s σ H _ us Q I rr (.inl ⟨i, rfl, k.now R (.int _) hw⟩)
        | bl b => exact call_int1 pins s σ H _ us Q I rr (.inr ⟨b, rfl, k.now R (.int _) hw⟩)
        | str z =>
          obtain ⟨n, e1, e2, hw⟩ := hw
          exact call_int_str pins s σ H _ us Q I rr ⟨_, n, rfl, e1, by rw [ofS_len]; exact e2, k.now R (.int _) hw⟩
        | _ => exact hw.elim
  | str_ =>
    cases q with
    | nil => exact hw.elim
    | cons q t =>
      cases t with
      | cons _ _ => cases q <;> exact hw.elim
      | nil =>
        cases q with
        | int i => exact call_str_int pins s σ H _ us Q I rr ⟨i, rfl, hw.1, k.now R (.str (toString i)) hw.2⟩
        | _ => exact hw.elim
  | tuple_ =>
    cases q with
    | nil => exact hw.elim
    | cons q t =>
      cases t with
      | cons _ _ => cases q <;> exact hw.elim
      | nil =>
        cases q with
        | tup h t => exact call_tuple_of pins s σ H _ us Q I rr ⟨_, _, rfl, .inr ⟨by rw [hK]; exact h.sq, k.now R (.tup h t) hw⟩⟩
        | lst h t => exact call_tuple_of pins s σ H _ us Q I rr ⟨_, _, rfl, .inl ⟨by rw [hK]; exact h.sq, k.newT R t hw⟩⟩
        | @loc n a h =>
          obtain ⟨c, e, hw⟩ := onSome_iff (show onSome st[n]? _ from hw)
          obtain ⟨ys, rfl, hw⟩ := onLst_iff hw
          obtain ⟨vs, k1, k2⟩ := R.cells n _ a e h
          exact call_tuple_of pins s σ H _ us Q I rr ⟨_, _, rfl, .inl ⟨SqL.of k1, k.newT R k2 hw⟩⟩
        | _ => exact hw.elim
  | list_ =>
    cases q with
    | nil => exact hw.elim
    | cons q t =>
      cases t with
      | cons _ _ => cases q <;> exact hw.elim
      | nil =>
        cases q with
        | tup h t => exact call_list_of pins s σ H _ us Q I rr ⟨_, _, rfl, .inr (by rw [hK]; exact h.sq), k.newL (m := m) R t hw⟩
        | lst h t => exact call_list_of pins s σ H _ us Q I rr ⟨_, _, rfl, .inl (by rw [hK]; exact h.sq), k.newL (m := m) R t hw⟩
        | @loc n a h =>
          obtain ⟨c, e, hw⟩ := onSome_iff (show onSome st[n]? _ from hw)
          cases c with
          | lst ys =>
            obtain ⟨vs, k1, k2⟩ := R.cells n _ a e h
            exact call_list_of pins s σ H _ us Q I rr ⟨_, _, rfl, .inl (SqL.of k1), k.newL (m := m) R k2 hw⟩
          | dct t kvs =>
            cases t with
            | true =>
              obtain ⟨vs, k1, k2⟩ := R.cells n _ a e h
              exact call_list_dT hc pins s σ H _ us Q I rr ⟨_, vs, rfl, .inl k1, fun p bs hp hb => k.newL (m := m) R (rks_keysT R k2 hb) (show newL m _ st Q' from hw) p hp⟩
            | false =>
              obtain ⟨vs, k1, k2⟩ := R.cells n _ a e h
              exact call_list_dK hc pins s σ H _ us Q I rr ⟨_, vs, rfl, k1, k.newL (m := m) R (rks_keys k2) (show newL m _ st Q' from hw)⟩
          | dctF _ _ => exact hw.elim
          | obj _ _ => exact hw.elim
        | _ => exact hw.elim
  | all_ =>
    cases q with
    | nil => exact hw.elim
    | cons q t =>
      cases t with
      | cons _ _ => cases q <;> exact hw.elim
      | nil =>
        cases q with
        | lst h t =>
          obtain ⟨h1, hw⟩ := (show _ ∧ Q' _ st from hw)
          obtain ⟨bs, e1, e2⟩ := bls_of t h1
          subst e1 e2
          refine cr_all hc pins s σ H _ us Q I rr ⟨_, bs, rfl, by rw [hK]; exact h.sq, ?_⟩
          rw [List.all_map] at hw
          exact k.now R (.bl _) hw
        | _ => exact hw.elim
  | any_ =>
    cases q with
    | nil => exact hw.elim
    | cons q t =>
      cases t with
      | cons _ _ => cases q <;> exact hw.elim
      | nil =>
        cases q with
        | lst h t =>
          obtain ⟨h1, hw⟩ := (show _ ∧ Q' _ st from hw)
          obtain ⟨bs, e1, e2⟩ := bls_of t h1
          subst e1 e2
          refine cr_any hc pins s σ H _ us Q I rr ⟨_, bs, rfl, by rw [hK]; exact h.sq, ?_⟩
          rw [List.any_map] at hw
          exact k.now R (.bl _) hw
        | _ => exact hw.elim
  | max2 =>
    cases q with
    | nil => exact hw.elim
    | cons q t =>
      cases t with
      | nil => cases q <;> exact hw.elim
      | cons q2 t =>
        cases t with
        | cons _ _ => cases q <;> cases q2 <;> exact hw.elim
        | nil =>
          cases q <;> cases q2 <;> first | exact hw.elim | skip
          rename_i i j
          refine call_max2 hc pins s σ H _ us Q I rr ⟨i, j, rfl, ?_⟩
          have e : (if j > i then j else i) = max i j := by by_cases z : j > i <;> simp [z] <;> omega
          rw [e]
          exact k.now R (.int _) hw
  | min2 =>
    cases q with
    | nil => exact hw.elim
    | cons q t =>
      cases t with
      | nil => cases q <;> exact hw.elim
      | cons q2 t =>
        cases t with
        | cons _ _ => cases q <;> cases q2 <;> exact hw.elim
        | nil =>
          cases q <;> cases q2 <;> first | exact hw.elim | skip
          rename_i i j
          refine call_min2 hc pins s σ H _ us Q I rr ⟨i, j, rfl, ?_⟩
          have e : (if j < i then j else i) = min i j := by by_cases z : j < i <;> simp [z] <;> omega
          rw [e]
          exact k.now R (.int _) hw
  | abs_ =>
    cases q with
    | nil => exact hw.elim
    | cons q t =>
      cases t with
      | cons _ _ => cases q <;> exact hw.elim
      | nil =>
        cases q with
        | int i => exact call_abs pins s σ H _ us Q I rr ⟨i, rfl, k.now R (.int _) hw⟩
        | _ => exact hw.elim
  | ord_ =>
    cases q with
    | nil => exact hw.elim
    | cons q t =>
      cases t with
      | cons _ _ => cases q <;> exact hw.elim
      | nil =>
        cases q with
        | str z =>
          obtain ⟨c, e, hw⟩ := ord_iff hw
          refine call_ord pins s σ H _ us Q I rr ⟨_, rfl, by rw [ofS_one e]; rfl, ?_⟩
          rw [ofS_one e]
          exact k.now R (.int _) hw
        | _ => exact hw.elim
  | sorted_ =>
    cases q with
    | nil => exact hw.elim
    | cons q t =>
      cases t with
      | cons _ _ => cases q <;> exact hw.elim
      | nil =>
        obtain ⟨u, rfl, rx⟩ := vals1 rr
        cases q with
        | tup h t => cases rx; exact sorted_seq hK hu I hw.1 (.inr (by rw [hK]; exact h.sq)) t fun vs p q2 hp => (k.newL (m := m) R q2 hw.2) p hp
        | lst h t => cases rx; exact sorted_seq hK hu I hw.1 (.inl (by rw [hK]; exact h.sq)) t fun vs p q2 hp => (k.newL (m := m) R q2 hw.2) p hp
        | @loc n a h =>
          cases rx
          obtain ⟨xs, e, hw⟩ := onSome_iff (show onSome (itemsOf st (.loc n)) _ from hw)
          have e : (match st[n]? with
            | some (.lst xs) => some xs
            | some (.dct _ kvs) => some (kvs.map (·.1))
            | _ => none) = some xs := e
          cases e2 : st[n]? with
          | none => rw [e2] at e; cases e
          | some c =>
            rw [e2] at e
            cases c with
            | lst ys =>
              cases e
              obtain ⟨vs, k1, k2⟩ := R.cells n _ a e2 h
              exact sorted_seq hK hu I hw.1 (.inl (SqL.of k1)) k2 fun vs p q2 hp => (k.newL (m := m) R q2 hw.2) p hp
            | dct t kvs =>
              cases e
              exact sorted_dct hK hc hu I R hw.1 (R.cells n _ a e2 h) fun vs p q2 hp => (k.newL (m := m) R q2 hw.2) p hp
            | dctF _ _ => cases e
            | obj _ _ => cases e
        | _ => exact hw.elim
  | repr_ =>
    cases q with
    | nil => exact hw.elim
    | cons q t =>
      cases t with
      | cons _ _ => cases q <;> exact hw.elim
      | nil =>
        obtain ⟨u, rfl, rx⟩ := vals1 rr
        cases q with
        | bl b =>
          cases (show u = Value.bool b from rx)
          refine PySem.P.repr_of_bool ⟨.str (if b = true then ("True" : Str) else ("False" : Str)), H, I.tok _, ⟨s.toks, ?_⟩, ?_⟩
          · cases b <;> rfl
          · cases b
            · exact k.now R (.str _) (show Q' (.str "False") st from hw)
            · exact k.now R (.str _) (show Q' (.str "True") st from hw)
        | _ => exact hw.elim
  | sum_ =>
    cases q with
    | nil => exact hw.elim
    | cons q t =>
      cases t with
      | cons _ _ => cases q <;> exact hw.elim
      | nil =>
        rename_i d0 _
        obtain ⟨a, xs, vs, s1, rfl, h1, h2, ns, rfl, h3⟩ := lstH R q (show lstK d0 st (fun xs _ => ∃ ns : List Int, xs = ns.map .int ∧ Q' (.int ns.sum) st) from hw)
        have e := ints_at h2
        subst e
        exact cr_sum hc pins s σ H _ us Q I rr ⟨a, ns, rfl, SqL.of h1, k.now R (.int _) h3⟩
  | max1 =>
    cases q with
    | nil => exact hw.elim
    | cons q t =>
      cases t with
      | cons _ _ => cases q <;> exact hw.elim
      | nil =>
        rename_i d0 _
        obtain ⟨a, xs, vs, s1, rfl, h1, h2, ns, rfl, h3, h4⟩ := lstH R q (show lstK d0 st (fun xs _ => ∃ ns : List Int, xs = ns.map .int ∧ 0 < ns.length ∧ ∀ m, m ∈ ns → (∀ y ∈ ns, y ≤ m) → Q' (.int m) st) from hw)
        have e := ints_at h2
        subst e
        exact cr_max hc pins s σ H _ us Q I rr ⟨a, ns, rfl, SqL.of h1, h3, fun mm m1 m2 => k.now R (.int _) (h4 mm m1 m2)⟩
  | dict1 =>
    cases q with
    | nil => exact hw.elim
    | cons q t =>
      cases t with
      | cons _ _ => cases q <;> exact hw.elim
      | nil =>
        cases q with
        | @loc n a hr =>
          obtain ⟨c, e, hw⟩ := onSome_iff (show onSome st[n]? _ from hw)
          cases c with
          | dct t kvs =>
            cases t with
            | true => exact hw.elim
            | false =>
              obtain ⟨vs, k1, k2⟩ := R.cells n _ a e hr
              exact call_dictD pins s σ H _ us Q I rr ⟨a, vs, rfl, .inl k1, k.newD R k2 hw⟩
          | lst _ => exact hw.elim
          | dctF _ _ => exact hw.elim
          | obj _ _ => exact hw.elim
        | lst h1 t =>
          obtain ⟨kvs, rfl, h2, h3, hw⟩ := (show ∃ kvs : List (D × D), _ from hw)
          obtain ⟨ps, ks, rfl, h4, h5⟩ := pairs_at hK t h2
          refine call_dictP hc pins s σ H _ us Q I rr ⟨_, ps, ks, rfl, by rw [hK]; exact h1.sq, h4, ?_⟩
          rw [mergeK_app (fun _ _ _ z => by cases z) (keys_inj h5 h3), List.nil_append]
          exact k.newD R h5 hw
        | _ => exact hw.elim
  | _ => exact hw.elim
end
end DL

set_option maxHeartbeats 1000000
/-! DLOk: whether a text is read rightly. -/
namespace DL
open PySem PySem.Spec PyProof.Rows L2

/-- what stands in the module: defs, methods (class, name), classes that are made, constants, built-in names that are free, exception classes -/
structure Tab where
  fns : List String
  meths : List (String × String)
  news : List String
  globs : List String
  free : List String
  excs : List String
deriving Inhabited

def visB (sc : Scope) (x : Str) : Bool := match sc.names.lookup x with
  | some .local | some .cell | some .free => true
  | _ => false
def locB (sc : Scope) (x : Str) : Bool := match sc.names.lookup x with
  | some .local | some .cell => true
  | _ => false
def glB (sc : Scope) (x : Str) : Bool := match sc.names.lookup x with
  | some .globalImplicit => true
  | _ => false
def okNm (x : Str) : Bool := !(x == ("__debug__" : Str)) && !(x == ("__classdict__" : Str)) && decide (x ≠ "__name__")
def Uop.op : Uop → UnaryOp
  | .neg => .USub
  | .inv => .Invert
/-- as many arguments -/
def Bm.ok : Bm → Nat → Bool
  | .append, 1 | .extend, 1 | .pop0, 0 | .pop1, 1 | .remove, 1 | .get1, 1 | .get2, 2 | .setdefault, 2 | .join, 1 | .scount, 1 | .index, 1 => true
  | _, _ => false
def noStar : Expr → Bool
  | .Starred _ _ => false
  | _ => true
def noSet : Expr → Bool
  | .Set _ _ _ => false
  | _ => true
def noSlice : Expr → Bool
  | .Slice _ _ _ _ => false
  | _ => true
/-- no comprehension -/
def noComp : Expr → Bool
  | .ListComp _ _ _ _ | .SetComp _ _ _ _ | .DictComp _ _ _ _ _ => false
  | _ => true
/-- a call of nothing (super() among them) -/
def noCall0 : Expr → Bool
  | .Call _ [] _ _ => false
  | _ => true

mutual
def T.slots : T → List Nat
  | .v i => [i]
  | .tup ts => Ts.slots ts
def Ts.slots : Ts → List Nat
  | .nil => []
  | .cons t ts => T.slots t ++ Ts.slots ts
end
mutual
def okT (N : List Str) (sc : Scope) : T → Expr → Bool
  | .v i, ex => (match ex with
    | .Name x _ => decide (N[i]? = some x) && locB sc x
    | _ => false)
  | .tup ts, ex => (match ex with
    | .Tuple xs _ _ => okTs N sc ts xs
    | _ => false)
def okTs (N : List Str) (sc : Scope) : Ts → List Expr → Bool
  | .nil, xs => xs.isEmpty
  | .cons t ts, xs => (match xs with
    | x :: xs => okT N sc t x && noStar x && okTs N sc ts xs
    | [] => false)
end
def isNm : Expr → Bool
  | .Name _ _ => true
  | _ => false
def isTupE : Expr → Bool
  | .Tuple _ _ _ => true
  | _ => false
/-- the names of a block's own slots -/
def ownOf (N : List Str) (vs : List Nat) : List (Str × Nat) := vs.filterMap fun i => (N[i]?).map fun x => (x, i)

def okKs : List String → List (Option Expr) → Bool
  | [], xs => xs.isEmpty
  | k :: ks, xs => (match xs with
    | some (.Constant (.str x) _ _) :: xs => decide (x = Str.ofString k) && okKs ks xs
    | _ => false)

def isPeek : E → Bool
  | .v _ => true
  | .fld (.v _) _ => true
  | .ix (.v _) (.str _) => true
  | _ => false
def notKeys : It → Bool
  | .keys _ => false
  | _ => true
def noKeysLc : E → Bool
  | .lc _ _ _ it _ => notKeys it
  | _ => true
mutual
def okE (T : Tab) (N : List Str) (sc : Scope) (cm : Bool) : E → Expr → Bool
  | .dead, _ => true
  | .non, ex => (match ex with
    | .Constant .none _ _ => true
    | _ => false)
  | .bl b, ex => (match ex with
    | .Constant (.bool c) _ _ => decide (b = c)
    | _ => false)
  | .int i, ex => (match ex with
    | .Constant (.int j) _ _ => decide (i = j)
    | _ => false)
  | .str s, ex => (match ex with
    | .Constant (.str x) _ _ => decide (x = Str.ofString s)
    | _ => false)
  | .v i, ex => (match ex with
    | .Name x _ => decide (N[i]? = some x) && visB sc x && okNm x
    | _ => false)
  | .g s, ex => (match ex with
    | .Name x _ => decide (x = Str.ofString s) && glB sc x && okNm x && T.globs.contains s
    | _ => false)
  | .tup es, ex => (match ex with
    | .Tuple xs _ _ => okEs T N sc cm es xs
    | _ => false)
  | .lst _ es, ex => (match ex with
    | .List xs _ => okEs T N sc cm es xs
    | _ => false)
  | .dct _, ex => (match ex with
    | .Dict [] [] _ => true
    | _ => false)
  | .dsp ks vs, ex => (match ex with
    | .Dict kxs vxs _ => okKs ks kxs && decide ks.Nodup && !ks.isEmpty && decide (ks.length ≤ 15) && okEs T N sc cm vs vxs && decide (vxs.length = ks.length)
    | _ => false)
  | .lrep _ a k, ex => (match ex with
    | .BinOp x op y _ => decide (op = .Mult) && okE T N sc cm a x && okE T N sc cm k y
    | _ => false)
  | .lcat _ a b, ex => (match ex with
    | .BinOp x op y _ => decide (op = .Add) && okE T N sc cm a x && okE T N sc cm b y
    | _ => false)
  | .ssort _ a, ex => (match ex with
    | .Call (.Name f _) [.Call (.Name g _) [x] [] _] [] _ => cm && decide (f = Str.ofString "sorted") && glB sc f && T.free.contains "sorted" && decide (g = Str.ofString "set") && glB sc g && T.free.contains "set" && okE T N sc cm a x && noStar x
    | _ => false)
  | .nilq neg a, ex => (match ex with
    | .Compare x [op] [.Tuple [] _ _] _ => decide (op = match neg with | true => CmpOp.NotEq | false => CmpOp.Eq) && okE T N sc cm a x
    | _ => false)
  | .isi2 a t u, ex => (match ex with
    | .Call (.Name f _) [x, .Tuple [.Name c _, .Name d _] _ _] [] _ => decide (f = Str.ofString "isinstance") && glB sc f && decide (c = Str.ofString t.nm) && glB sc c && decide (d = Str.ofString u.nm) && glB sc d && T.free.contains "isinstance" && T.free.contains t.nm && T.free.contains u.nm &&
        decide (t ≠ .non) && decide (u ≠ .non) && okE T N sc cm a x && noStar x
    | _ => false)
  | .bin o a b, ex => (match ex with
    | .BinOp x op y _ => decide (op = o.op) && okE T N sc cm a x && okE T N sc cm b y
    | _ => false)
  | .un o a, ex => (match ex with
    | .UnaryOp op x _ => decide (op = o.op) && okE T N sc cm a x
    | _ => false)
  | .cmp o a b, ex => (match ex with
    | .Compare x [op] [y] _ => decide (op = o.op) && okE T N sc cm a x && okE T N sc cm b y && noSet y
    | _ => false)
  | .cmp2 o o' a b c, ex => (match ex with
    | .Compare x [op, op'] [y, z] _ => decide (op = o.op) && decide (op' = o'.op) && okE T N sc cm a x && okE T N sc cm b y && okE T N sc cm c z && noSet z
    | _ => false)
  | .and_ es, ex => (match ex with
    | .BoolOp .And xs _ => okEs T N sc cm es xs
    | _ => false)
  | .or_ es, ex => (match ex with
    | .BoolOp .Or xs _ => okEs T N sc cm es xs
    | _ => false)
  | .not_ a, ex => (match ex with
    | .UnaryOp .Not x _ => okE T N sc cm a x
    | _ => false)
  | .ife c a b, ex => (match ex with
    | .IfExp x y z _ => okE T N sc cm c x && okE T N sc cm a y && okE T N sc cm b z
    | _ => false)
  | .ix a i, ex => (match ex with
    | .Subscript x y _ => okE T N sc cm a x && okE T N sc cm i y && noSlice y
    | _ => false)
  | .sl _ a lo hi, ex => (match ex with
    | .Subscript x (.Slice l h none _) _ => okE T N sc cm a x && okEo T N sc cm lo l && okEo T N sc cm hi h
    | _ => false)
  | .rev _ a, ex => (match ex with
    | .Subscript x (.Slice none none (some (.UnaryOp .USub (.Constant (.int 1) _ _) _)) _) _ => okE T N sc cm a x
    | _ => false)
  | .isi a t, ex => (match ex with
    | .Call (.Name f _) [x, .Name c _] [] _ => decide (f = Str.ofString "isinstance") && glB sc f && decide (c = Str.ofString t.nm) && glB sc c && T.free.contains "isinstance" && T.free.contains t.nm &&
        decide (t ≠ .non) && okE T N sc cm a x && noStar x
    | _ => false)
  | .call f es, ex => (match ex with
    | .Call (.Name x _) xs [] _ => decide (x = Str.ofString f) && glB sc x && okNm x && cm && T.fns.contains f && okEs T N sc cm es xs
    | _ => false)
  | .new c es, ex => (match ex with
    | .Call (.Name x _) xs [] _ => decide (x = Str.ofString c) && glB sc x && okNm x && cm && T.news.contains c && okEs T N sc cm es xs
    | _ => false)
  | .fld o f, ex => (match ex with
    | .Attribute x a _ => decide (a = Str.ofString f) && okE T N sc cm o x && noCall0 x
    | _ => false)
  | .meth c m o es, ex => (match ex with
    | .Call (.Attribute x a ap) xs [] cp => decide (a = Str.ofString m) && okE T N sc cm o x && noCall0 x && okEs T N sc cm es xs && (ap.endLine == cp.line) && decide (xs.length < 29) && cm && T.meths.contains (c, m)
    | _ => false)
  | .bm b o es, ex => (match ex with
    | .Call (.Attribute x a ap) xs [] cp => decide (a = Str.ofString b.nm) && okE T N sc cm o x && noCall0 x && okEs T N sc cm es xs && (ap.endLine == cp.line) && b.ok xs.length
    | _ => false)
  | .bi _ f es, ex => (match ex with
    | .Call (.Name x _) xs [] _ => decide (x = Str.ofString f.nm) && glB sc x && okNm x && cm && T.free.contains f.nm && !xs.isEmpty && okEs T N sc cm es xs
    | _ => false)
  | .lc _ elt t it c, ex => (match ex with
    | .ListComp x [⟨tg, iter, ifs, k⟩] scope _ => cm && decide (k = 0) && okIt T N sc cm it iter && noSet iter && (!itTup it || isTupE tg) && okT N scope t tg && blkC N sc scope (ownOf N t.slots) && decide ((ownOf N t.slots).map (·.2) = t.slots) && okE T N scope cm elt x && okC T N scope cm c ifs
    | _ => false)
  | .lc2 .., _ => false
  | .dc _ ke ve t it c, ex => (match ex with
    | .DictComp x y [⟨tg, iter, ifs, k⟩] scope _ => cm && decide (k = 0) && okIt T N sc cm it iter && noSet iter && (!itTup it || isTupE tg) && okT N scope t tg && blkC N sc scope (ownOf N t.slots) && decide ((ownOf N t.slots).map (·.2) = t.slots) && okE T N scope cm ke x && okE T N scope cm ve y && okC T N scope cm c ifs
    | _ => false)
def okEs (T : Tab) (N : List Str) (sc : Scope) (cm : Bool) : Es → List Expr → Bool
  | .nil, xs => xs.isEmpty
  | .cons e es, xs => (match xs with
    | x :: xs => okE T N sc cm e x && noStar x && okEs T N sc cm es xs
    | [] => false)
def okEo (T : Tab) (N : List Str) (sc : Scope) (cm : Bool) : Eo → Option Expr → Bool
  | .none, x => x.isNone
  | .some e, x => (match x with
    | some x => okE T N sc cm e x
    | none => false)
def okC (T : Tab) (N : List Str) (sc : Scope) (cm : Bool) : Eo → List Expr → Bool
  | .none, ys => ys.isEmpty
  | .some e, ys => (match ys with
    | [y] => okE T N sc cm e y
    | _ => false)
def okIt (T : Tab) (N : List Str) (sc : Scope) (cm : Bool) : It → Expr → Bool
  | .e a, ex => okE T N sc cm a ex
  | .keys a, ex => okE T N sc cm a ex && isPeek a
  | .range1 a, ex => (match ex with
    | .Call (.Name f _) [x] [] _ => decide (f = Str.ofString "range") && glB sc f && T.free.contains "range" && okE T N sc cm a x && noStar x
    | _ => false)
  | .range2 a b, ex => (match ex with
    | .Call (.Name f _) [x, y] [] _ => decide (f = Str.ofString "range") && glB sc f && T.free.contains "range" && okE T N sc cm a x && okE T N sc cm b y && noStar x && noStar y
    | _ => false)
  | .zip a b, ex => (match ex with
    | .Call (.Name f _) [x, y] [] _ => decide (f = Str.ofString "zip") && glB sc f && T.free.contains "zip" && okE T N sc cm a x && okE T N sc cm b y && noStar x && noStar y
    | _ => false)
  | .enum a, ex => (match ex with
    | .Call (.Name f _) [x] [] _ => decide (f = Str.ofString "enumerate") && glB sc f && T.free.contains "enumerate" && okE T N sc cm a x && noStar x
    | _ => false)
  | .rev a, ex => (match ex with
    | .Call (.Name f _) [x] [] _ => decide (f = Str.ofString "reversed") && glB sc f && T.free.contains "reversed" && okE T N sc cm a x && noStar x
    | _ => false)
  | _, _ => false
/-- these give tuples to a target of several names -/
def itTup : It → Bool
  | .zip .. | .enum .. | .items .. => true
  | _ => false
end
/-! ### statements -/
def isLoc (sc : Scope) (x : Str) : Bool := match sc.names.lookup x with
  | some .local => true
  | _ => false
/-- a comprehension that a plain name of the frame takes on its own line -/
def okLcN (sc : Scope) (l : Nat) : Expr → Expr → Bool
  | .Name y py, .ListComp _ _ scope p => isLoc sc y && py.line == p.line && !(scope.names.any fun (n, k) => n == y && (k == .local || k == .cell))
  | _, _ => false
/-- a name that is captured -/
def isCellT (sc : Scope) : Expr → Bool
  | .Name y _ => (match sc.names.lookup y with
    | some .cell => true
    | _ => false)
  | _ => false
def okTg (T : Tab) (N : List Str) (sc : Scope) (cm : Bool) : Tg → Expr → Bool
  | .t (.v i), ex => okT N sc (.v i) ex
  | .t (.tup ts), ex => cm && okT N sc (.tup ts) ex
  | .ix a i, ex => (match ex with
    | .Subscript x y _ => okE T N sc cm a x && okE T N sc cm i y && noSlice y
    | _ => false)
  | .fld o f, ex => (match ex with
    | .Attribute x a _ => decide (a = Str.ofString f) && okE T N sc cm o x
    | _ => false)
def okAug : Bop → Bool
  | .add | .sub => true
  | _ => false
def okAugT (T : Tab) (N : List Str) (sc : Scope) (cm : Bool) : Tg → Expr → Bool
  | .t (.v i), ex => (match ex with
    | .Name x _ => decide (N[i]? = some x) && locB sc x
    | _ => false)
  | .ix a i, ex => (match ex with
    | .Subscript x y _ => okE T N sc cm a x && okE T N sc cm i y && noSlice y
    | _ => false)
  | .fld o f, ex => (match ex with
    | .Attribute x a _ => decide (a = Str.ofString f) && okE T N sc cm o x
    | _ => false)
  | _, _ => false
def isNil : Es → Bool
  | .nil => true
  | _ => false
mutual
def okS (T : Tab) (N : List Str) (sc : Scope) (cm : Bool) : S → Stmt → Bool
  | .asg t e, s => (match s with
    | .Assign [tg] ex p => okTg T N sc cm t tg && okE T N sc cm e ex && (!isTupE tg || !isTupE ex) && (noComp ex || (okLcN sc p.line tg ex && noKeysLc e) || !isNm tg || isCellT sc tg)
    | _ => false)
  | .par i j es, s => (match s with
    | .Assign [.Tuple [.Name x _, .Name y _] _ _] (.Tuple [a, b] _ _) _ => cm && decide (N[i]? = some x) && decide (N[j]? = some y) && decide (i ≠ j) && isLoc sc x && isLoc sc y && okEs T N sc cm es [a, b] && false
    | _ => false)
  | .aug o t e, s => (match s with
    | .AugAssign tg op ex _ => decide (op = o.op) && okAug o && okE T N sc cm e ex && okAugT T N sc cm t tg
    | _ => false)
  | .ex e, s => (match s with
    | .Expr ex _ => okE T N sc cm e ex && noComp ex
    | _ => false)
  | .ret e, s => (match s with
    | .Return (some ex) _ => okE T N sc cm e ex
    | _ => false)
  | .ret0, s => (match s with
    | .Return none _ => true
    | _ => false)
  | .ite c a b, s => (match s with
    | .If ex x y _ => okE T N sc cm c ex && okSs T N sc cm a x && okSs T N sc cm b y
    | _ => false)
  | .for_ t it body, s => (match s with
    | .For tg iter x [] _ => notKeys it && cm && okT N sc t tg && okIt T N sc cm it iter && noSet iter && (!itTup it || isTupE tg) && okSs T N sc cm body x
    | _ => false)
  | .while_ c body, s => (match s with
    | .While ex x [] _ => cm && okE T N sc cm c ex && okSs T N sc cm body x
    | _ => false)
  | .brk, s => (match s with
    | .Break _ => true
    | _ => false)
  | .cont, s => (match s with
    | .Continue _ => true
    | _ => false)
  | .pass, s => (match s with
    | .Pass _ => true
    | _ => false)
  | .raise c es, s => (match s with
    | .Raise (some (.Call (.Name x _) [] [] _)) none _ => cm && decide (x = Str.ofString c) && glB sc x && okNm x && T.excs.contains c && isNil es
    | .Raise (some (.Call (.Name x _) (y :: ys) [] _)) none _ => cm && decide (x = Str.ofString c) && glB sc x && okNm x && T.excs.contains c && okEs T N sc cm es (y :: ys)
    | _ => false)
  | .try_ body hs, s => (match s with
    | .Try b (e :: es) [] [] _ => cm && okSs T N sc cm body b && okHs T N sc hs (e :: es)
    | _ => false)
  | .dead, _ => true
  | .tryf body c i f, s => (match s with
    | .Try b [.ExceptHandler (some (.Name x _)) (some n) [.Return (some (.Attribute (.Name n2 _) a _)) _] _] [] [] _ => cm && okSs T N sc cm body b && decide (x = Str.ofString c) && glB sc x && okNm x && T.excs.contains c && decide (N[i]? = some n) && decide (sc.names.lookup n = some .local) && okNm n && decide (n2 = n) && decide (a = Str.ofString f)
    | _ => false)
  | .del a i, s => (match s with
    | .Delete [.Subscript x y _] _ => okE T N sc cm a x && okE T N sc cm i y
    | _ => false)
def okHs (T : Tab) (N : List Str) (sc : Scope) : Hs → List ExceptHandler → Bool
  | .nil, es => es.isEmpty
  | .cons c n suite hs, es => (match es with
    | .ExceptHandler (some (.Name x _)) none (h :: hb) _ :: es => decide (n = none) && decide (x = Str.ofString c) && glB sc x && okNm x && T.excs.contains c && okSs T N sc false suite (h :: hb) && okHs T N sc hs es
    | _ => false)
def okSs (T : Tab) (N : List Str) (sc : Scope) (cm : Bool) : Ss → List Stmt → Bool
  | .nil, ss => ss.isEmpty
  | .cons s ss, xs => (match xs with
    | x :: xs => okS T N sc cm s x && okSs T N sc cm ss xs
    | [] => false)
  | .stop ss, xs => okSs T N sc cm ss xs
end
end DL

set_option maxHeartbeats 1000000
/-! DLSnd: what wp says of an expression is so. -/
namespace DL
open PySem PySem.Spec PyProof.Rows L2

/-! ### what is wanted -/
/-- an exception lies so -/
def XR (C : Ct) (r : Lay) (H : Hp) (x : Xc) (cls : Value) (dx : Option Addr) : Prop :=
  ∃ A, cls = .ref A ∧ C.mg (Str.ofString x.cls) = some (.ref A) ∧ ((x.fs = [] ∧ dx = none) ∨ ∃ d vs, dx = some d ∧ H d = some (.xd vs) ∧ RFs C r H x.fs vs)
def XW (C : Ct) (r : Lay) (H : Hp) (s : L2.St) (X' : EX) (W : WX) : Prop :=
  ∀ (r' : Lay) (st' : Sto) (H' : Hp) (x : Xc) (cls : Value) (dx : Option Addr), Fut r H r' H' → Rel C r' st' H' → XR C r' H' x cls dx → X' x st' → W cls dx s H'
theorem XW.mono {C : Ct} {r r' : Lay} {H H' : Hp} {s : L2.St} {X' : EX} {W : WX} (k : XW C r H s X' W) (f : Fut r H r' H') : XW C r' H' s X' W := fun r2 st2 H2 x c d g R q h => k r2 st2 H2 x c d (f.trans g) R q h
def Kps (C : Ct) (r : Lay) (H : Hp) (Q' : List D → Sto → Prop) (Q : List V → Hp → Prop) : Prop :=
  ∀ (r' : Lay) (st' : Sto) (H' : Hp) (d : List D) (v : List V), Fut r H r' H' → Rel C r' st' H' → RDs C r' H' d v → Q' d st' → Q v H'
def KpB (C : Ct) (r : Lay) (H : Hp) (Q' : Bool → Sto → Prop) (Q : Bool → Hp → Prop) : Prop :=
  ∀ (r' : Lay) (st' : Sto) (H' : Hp) (b : Bool), Fut r H r' H' → Rel C r' st' H' → Q' b st' → Q b H'
def KpO (C : Ct) (r : Lay) (H : Hp) (Q' : Option Int → Sto → Prop) (Q : Option Int → Hp → Prop) : Prop :=
  ∀ (r' : Lay) (st' : Sto) (H' : Hp) (b : Option Int), Fut r H r' H' → Rel C r' st' H' → Q' b st' → Q b H'
theorem KpB.mono {C : Ct} {r r' : Lay} {H H' : Hp} {Q' : Bool → Sto → Prop} {Q : Bool → Hp → Prop} (k : KpB C r H Q' Q) (f : Fut r H r' H') : KpB C r' H' Q' Q := fun r2 st2 H2 b g R h => k r2 st2 H2 b (f.trans g) R h
def rdE (C : Ct) (L : Lib) (W : WX) (e : E) : TE := fun σ H Q => ∃ r env st Q' X', Rel C r st H ∧ RE C r H env σ ∧ wpE L e env st Q' X' ∧ Kp C r H Q' Q ∧ XW C r H σ X' W
def rdEs (C : Ct) (L : Lib) (W : WX) (e : Es) : TA := fun σ H Q => ∃ r env st Q' X', Rel C r st H ∧ RE C r H env σ ∧ wpEs L e env st Q' X' ∧ Kps C r H Q' Q ∧ XW C r H σ X' W
def rdT (C : Ct) (L : Lib) (W : WX) (e : E) : TT := fun σ H Q => ∃ r env st Q' X', Rel C r st H ∧ RE C r H env σ ∧ wpE L e env st (fun d st => onBl d fun b => Q' b st) X' ∧ KpB C r H Q' Q ∧ XW C r H σ X' W
def rdEo (C : Ct) (L : Lib) (W : WX) (e : Eo) : L2.St → Hp → (Option Int → Hp → Prop) → Prop := fun σ H Q => ∃ r env st Q' X', Rel C r st H ∧ RE C r H env σ ∧ wpEo L e env st Q' X' ∧ KpO C r H Q' Q ∧ XW C r H σ X' W

theorem peI {X : Cx} {e : Expr} {t t' : TE} (h : PE X e t) (i : ∀ σ H Q, t' σ H Q → t σ H Q) : PE X e t' := ⟨fun pins s σ H Q I q => h.run pins s σ H Q I (i σ H Q q)⟩
theorem ptI {X : Cx} {e : Expr} {t t' : TT} (h : PT X e t) (i : ∀ σ H Q, t' σ H Q → t σ H Q) : PT X e t' := ⟨fun pins s σ H Q I q => h.run pins s σ H Q I (i σ H Q q)⟩
theorem pwI {X : Cx} {e : Expr} {t t' : TT} (h : PW X e t) (i : ∀ σ H Q, t' σ H Q → t σ H Q) : PW X e t' := ⟨fun wh pins s σ H Q I q => h.run wh pins s σ H Q I (i σ H Q q)⟩
theorem paI {X : Cx} {e : List Expr} {t t' : TA} (h : PA X e t) (i : ∀ σ H Q, t' σ H Q → t σ H Q) : PA X e t' := ⟨fun pos pins s σ H Q I q => h.run pos pins s σ H Q I (i σ H Q q)⟩

/-! ### the context -/
def ctOf (X : Cx) : Ct := ⟨X.K, X.mg, X.prog, X.w⟩
/-- a def's promise by its data -/
def spD (C : Ct) (S : List D → Sto → (D → Sto → Prop) → EX → Prop) (n : Nat) : Sp := fun vs H Q E => vs.length = n ∧ ∃ r st ds Q' X', Rel C r st H ∧ RDs C r H ds vs ∧ S ds st Q' X' ∧ Kp C r H Q' Q ∧
  ∀ (r' : Lay) (st' : Sto) (H' : Hp) (x : Xc) (cls : Value) (dx : Option Addr), Fut r H r' H' → Rel C r' st' H' → XR C r' H' x cls dx → X' x st' → E cls dx H'
/-- a method that may be called; a class that may be made -/
def MethOk (C : Ct) (L : Lib) (k : Nat) (base : Heap) (p : String × String) : Prop :=
  ∃ A a fd ps, C.mg (Str.ofString p.1) = some (.ref A) ∧ L2.Meth C.K A (Str.ofString p.2) a ∧ Binds C.K fd ps [] ∧ FnOk C.P C.w C.K C.mg base (L2.CX C.P C.w) k a fd ps (spD C (L.meth p.1 p.2) ps.length) ∧ ∀ ds st Q X, L.meth p.1 p.2 ds st Q X → ds.length = ps.length
def NewOk (C : Ct) (L : Lib) (k : Nat) (base : Heap) (c : String) : Prop :=
  ∃ A a fd ps j, j + 1 ≤ k ∧ C.mg (Str.ofString c) = some (.ref A) ∧ L2.Cls C.K A ∧ L2.Mk C.K A a ∧ Binds C.K fd ps [] ∧ FnOk C.P C.w C.K C.mg base (L2.CX C.P C.w) j a fd ps (spD C (L.meth c "__init__") ps.length) ∧ ∀ ds st Q X, L.meth c "__init__" ds st Q X → ds.length = ps.length
/-- an own exception's __init__ that keeps its one argument in a field -/
def spX (A : Addr) (f : Str) : Sp := fun vs H Q _ => ∃ a y, vs = [.ref a, y] ∧ H a = some (exo a A none) ∧ ∀ dx, H dx = none → dx ≠ a → Q .non (upd (upd H dx (exd dx [(f, y)])) a (exo a A (some dx)))
/-- an exception that may be raised and caught: without fields, with one field -/
def ExcAny (C : Ct) (L : Lib) (k : Nat) (base : Heap) (c : String) : Prop :=
  ∃ A, C.mg (Str.ofString c) = some (.ref A) ∧ PySem.W.keepIn C.K (.ref A) = true ∧ PySem.W.subIn C.K (.ref A) (.type "BaseException") = some true ∧ PySem.W.typeIn C.K (.ref A) = some (.type "type") ∧
    ((L.exf c = some [] ∧ ∃ (bm : List Value) (B n i : String), ExcBaseFacts B n i bm ∧ PySem.W.excIn C.K A bm n = true) ∨
      ∃ (f : String) (fI : Addr) (fd : FuncData) (ps : List Str) (j : Nat), L.exf c = some [f] ∧ j + 1 ≤ k ∧ OexC C.K A ∧ PySem.W.findIn C.K (.ref A) "__init__" = some (some (.ref fI)) ∧ PySem.W.typeIn C.K (.ref fI) = some (.type "function") ∧
        FnOk C.P C.w C.K C.mg base (L2.CX C.P C.w) j fI fd ps (spX A (Str.ofString f)) ∧ Binds C.K fd ps [] ∧ XfC C.K A ∧ PySem.W.findIn C.K (.ref A) (Str.ofString f) = some none)
structure LibOk (C : Ct) (L : Lib) (T : Tab) (k : Nat) (base : Heap) : Prop where
  call : ∀ f ∈ T.fns, ∃ a fd ps, C.mg (Str.ofString f) = some (.ref a) ∧ PySem.W.keepIn C.K (.ref a) = true ∧ Binds C.K fd ps [] ∧ FnOk C.P C.w C.K C.mg base (L2.CX C.P C.w) k a fd ps (spD C (L.call f) ps.length) ∧ ∀ ds st Q X, L.call f ds st Q X → ds.length = ps.length
  meth : ∀ p ∈ T.meths, MethOk C L k base p
  new : ∀ c ∈ T.news, NewOk C L k base c
  attr : ∀ c f A, L.attr c f = true → C.mg (Str.ofString c) = some (.ref A) → L2.NoAttr C.K A (Str.ofString f)
  free : ∀ x ∈ T.free, C.mg (Str.ofString x) = none
  exc : ∀ c ∈ T.excs, ExcAny C L k base c
  sub : ∀ c d b A B, L.sub c d = some b → C.mg (Str.ofString c) = some (.ref A) → C.mg (Str.ofString d) = some (.ref B) → PySem.W.exmOne C.K (.ref A) (.ref B) = some b
  glob : ∀ x ∈ T.globs, ∃ d u v, L.glob x = some d ∧ C.mg (Str.ofString x) = some u ∧ RelV v u ∧ ∀ (r : Lay) (H : Hp), RD C r H d v

/-- the names of a frame's scope stand so, or (in a comprehension's block) a free one is a cell -/
structure ScOk (s s0 : Scope) : Prop where
  lc : ∀ x, s0.names.lookup x = some .local → s.names.lookup x = some .local
  cl : ∀ x, s0.names.lookup x = some .cell → s.names.lookup x = some .cell
  fr : ∀ x, s0.names.lookup x = some .free → s.names.lookup x = some .free ∨ s.names.lookup x = some .cell
  gl : ∀ x, s0.names.lookup x = some .globalImplicit → s.names.lookup x = some .globalImplicit
theorem ScOk.refl {s : Scope} : ScOk s s := ⟨fun _ h => h, fun _ h => h, fun _ h => .inl h, fun _ h => h⟩
structure Good (L : Lib) (T : Tab) (k : Nat) (X : Cx) (sc : Scope) (W : WX) (cm : Bool) : Prop where
  nd : X.N.Nodup
  so : ScOk X.env.scope sc
  fn : ∀ x, sc.names.lookup x = some .cell → X.fn x = true
  calm : cm = true → X.calm = true ∧ Room k X.A
  un : X.A.units + 65 < cLine
  tk : Takes X W
  lib : LibOk (ctOf X) L T k X.base

/-! ### small facts of texts -/
theorem star_cons {e : Expr} {es : List Expr} {env : Env} (h : noStar e = true) : starEach (e :: es) env = (false, eval e env) :: starEach es env := by
  cases e <;> first | rfl | cases h
theorem any_star : ∀ {es : List Expr} {env : Env} {pos : Pos}, (∀ e ∈ es, noStar e = true) → (backTo pos (starEach es env)).any (·.1) = false
  | [], _, _, _ => rfl
  | e :: es, env, pos, h => by
    rw [star_cons (h e (by simp))]
    show (false || (backTo pos (starEach es env)).any (·.1)) = false
    rw [any_star fun x m => h x (by simp [m])]
    rfl
theorem okEs_star {T : Tab} {N : List Str} {sc : Scope} {cm : Bool} : ∀ {es : Es} {xs : List Expr}, okEs T N sc cm es xs = true → ∀ x ∈ xs, noStar x = true
  | .nil, xs, h => by
    cases xs with
    | nil => exact fun _ m => nomatch m
    | cons _ _ => cases h
  | .cons e es, xs, h => by
    cases xs with
    | nil => cases h
    | cons x xs =>
      have h : (okE T N sc cm e x && noStar x && okEs T N sc cm es xs) = true := h
      simp only [Bool.and_eq_true] at h
      intro y m
      rcases List.mem_cons.mp m with e | m
      · subst e; exact h.1.2
      · exact okEs_star h.2 y m
theorem behind_of {op : CmpOp} {e : Expr} (h : noSet e = true) : behindInMarks op e = false := by
  cases e <;> first | rfl | cases h
theorem plainIx_of {e : Expr} (h : noSlice e = true) : PlainIx e := fun o i => by
  cases e <;> first | rfl | cases h
theorem base_of {o : Expr} {f : Str} {env : Env} (h : noCall0 o = true) : attributeBase o f env (eval o env) = eval o env := by
  cases o <;> first | rfl | skip
  rename_i fn args kws pos
  cases args with
  | nil => cases h
  | cons _ _ => cases fn <;> rfl
theorem folded_of {e : Expr} {env : Env} (h : noSet e = true) (x : Value) : foldedSetIterable e env x = pure x := by
  cases e <;> first | rfl | cases h
theorem vis_of {s sc : Scope} (K : ScOk s sc) {x : Str} (h : visB sc x = true) : Vis s x := by
  unfold visB at h
  unfold Vis
  split at h <;> rename_i e
  · exact .inl (K.lc x e)
  · exact .inr (.inl (K.cl x e))
  · rcases K.fr x e with q | q
    · exact .inr (.inr q)
    · exact .inr (.inl q)
  · cases h
theorem loc_of {s sc : Scope} (K : ScOk s sc) {x : Str} (h : locB sc x = true) : L2.Loc s x := by
  unfold locB at h
  unfold L2.Loc
  split at h <;> rename_i e
  · exact .inl (K.lc x e)
  · exact .inr (K.cl x e)
  · cases h
theorem gl_of {X : Cx} {sc : Scope} (K : ScOk X.env.scope sc) {x : Str} (h : glB sc x = true) : Gl X x := by
  unfold glB at h
  show X.env.scope.names.lookup x = _
  split at h <;> rename_i e
  · exact K.gl x e
  · cases h
theorem fn_of {X : Cx} {sc : Scope} (K : ScOk X.env.scope sc) (F : ∀ x, sc.names.lookup x = some .cell → X.fn x = true) {x : Str} (h : locB sc x = true) : X.fn x = true ∨ X.env.scope.names.lookup x = some .local := by
  unfold locB at h
  split at h <;> rename_i e
  · exact .inr (K.lc x e)
  · exact .inl (F x e)
  · cases h
theorem okNm_of {x : Str} (h : okNm x = true) : (x == ("__debug__" : Str)) = false ∧ (x == ("__classdict__" : Str)) = false ∧ x ≠ "__name__" := by
  unfold okNm at h
  simp only [Bool.and_eq_true, Bool.not_eq_true', decide_eq_true_eq] at h
  exact ⟨h.1.1, h.1.2, h.2⟩

section
variable {X : Cx} {L : Lib} {T : Tab} {k : Nat} {sc : Scope} {W : WX} {cm : Bool}

/-! ### the rules, one by one -/
theorem sd_c {ex : Expr} {e : E} {d : D} {v : V} (h : PE X ex (tC v)) (hd : ∀ (r : Lay) (H : Hp), RD (ctOf X) r H d v) (hw : ∀ env st Q X', wpE L e env st Q X' → Q d st) : PE X ex (rdE (ctOf X) L W e) :=
  peI h fun σ H Q ⟨r, env, st, Q', X', R, Re, w, k, _⟩ => k.now R (hd r H) (hw _ _ _ _ w)
theorem sd_v {i : Nat} {x : Str} {p : Pos} (hN : X.N[i]? = some x) (hv : Vis X.env.scope x) (h1 : (x == ("__debug__" : Str)) = false) (h2 : (x == ("__classdict__" : Str)) = false) : PE X (.Name x p) (rdE (ctOf X) L W (.v i)) :=
  peI (pe_var hN hv h1 h2) fun σ H Q ⟨r, env, st, Q', X', R, Re, w, k, _⟩ => by
    obtain ⟨d, e, q⟩ := getS_iff (show getS env i fun d => Q' d st from w)
    obtain ⟨v, e2, qd⟩ := Re.2 i d e
    exact ⟨v, e2, k.now R qd q⟩
theorem sd_bin {o : Bop} {a b : E} {x y : Expr} {p : Pos} (ha : PE X x (rdE (ctOf X) L W a)) (hb : PE X y (rdE (ctOf X) L W b)) : PE X (.BinOp x o.op y p) (rdE (ctOf X) L W (.bin o a b)) :=
  peI (pe_op (or_bin (C := ctOf X) rfl o) ha hb) fun σ H Q ⟨r, env, st, Q', X', R, Re, w, k, xw⟩ =>
    ⟨r, env, st, _, X', R, Re, w, fun r1 st1 H1 d v f1 R1 q1 w1 => ⟨r1, env, st1, _, X', R1, Re.fut f1, w1, fun r2 st2 H2 d2 v2 f2 R2 q2 w2 =>
      ⟨r2, st2, d, d2, Q', R2, q1.fut f2, q2, w2, (k.mono f1).mono f2⟩, xw.mono f1⟩, xw⟩
theorem sd_cmp {o : Cop} {a b : E} {x y : Expr} {p : Pos} (hu : X.A.units + 65 < cLine) (hs : noSet y = true) (ha : PE X x (rdE (ctOf X) L W a)) (hb : PE X y (rdE (ctOf X) L W b)) : PE X (.Compare x [o.op] [y] p) (rdE (ctOf X) L W (.cmp o a b)) :=
  peI (pe_cmpR (or_cmp (C := ctOf X) rfl hu o) ha hb (behind_of hs)) fun σ H Q ⟨r, env, st, Q', X', R, Re, w, k, xw⟩ =>
    ⟨r, env, st, _, X', R, Re, w, fun r1 st1 H1 d v f1 R1 q1 w1 => ⟨r1, env, st1, _, X', R1, Re.fut f1, w1, fun r2 st2 H2 d2 v2 f2 R2 q2 w2 =>
      ⟨r2, st2, d, d2, Q', R2, q1.fut f2, q2, w2, (k.mono f1).mono f2⟩, xw.mono f1⟩, xw⟩
theorem st_cmp {o : Cop} {a b : E} {x y : Expr} {p : Pos} (hu : X.A.units + 65 < cLine) (hs : noSet y = true) (ha : PE X x (rdE (ctOf X) L W a)) (hb : PE X y (rdE (ctOf X) L W b)) : PT X (.Compare x [o.op] [y] p) (rdT (ctOf X) L W (.cmp o a b)) :=
  ptI (pt_cmpR (or_cmp (C := ctOf X) rfl hu o) ha hb (behind_of hs)) fun σ H Q ⟨r, env, st, Q', X', R, Re, w, k, xw⟩ =>
    ⟨r, env, st, _, X', R, Re, w, fun r1 st1 H1 d v f1 R1 q1 w1 => ⟨r1, env, st1, _, X', R1, Re.fut f1, w1, fun r2 st2 H2 d2 v2 f2 R2 q2 w2 =>
      ⟨r2, st2, d, d2, fun d st => onBl d fun b => Q' b st, R2, q1.fut f2, q2, w2, fun r3 st3 H3 d3 v3 f3 R3 q3 w3 => by
        obtain ⟨b, rfl, w3⟩ := onBl_iff w3
        cases q3
        exact ⟨b, rfl, k r3 st3 H3 b (f1.trans (f2.trans f3)) R3 w3⟩⟩, xw.mono f1⟩, xw⟩

theorem ifB_if {b : Bool} {p q : Prop} (h : ifB b p q) : if b = true then p else q := ifB_iff h
theorem sd_un {o : Uop} {a : E} {x : Expr} {p : Pos} (ha : PE X x (rdE (ctOf X) L W a)) : PE X (.UnaryOp o.op x p) (rdE (ctOf X) L W (.un o a)) := by
  cases o with
  | neg => exact peI (pe_un un_neg ha) fun σ H Q ⟨r, env, st, Q', X', R, Re, w, k, xw⟩ => ⟨r, env, st, _, X', R, Re, w, fun r1 st1 H1 d v f1 R1 q1 w1 => by
      obtain ⟨i, rfl, w1⟩ := onInt_iff (show onInt d _ from w1)
      cases q1
      exact ⟨i, rfl, k r1 st1 H1 _ _ f1 R1 (.int _) w1⟩, xw⟩
  | inv => exact peI (pe_un un_inv ha) fun σ H Q ⟨r, env, st, Q', X', R, Re, w, k, xw⟩ => ⟨r, env, st, _, X', R, Re, w, fun r1 st1 H1 d v f1 R1 q1 w1 => by
      obtain ⟨i, rfl, w1⟩ := onInt_iff (show onInt d _ from w1)
      cases q1
      exact ⟨i, rfl, k r1 st1 H1 _ _ f1 R1 (.int _) w1⟩, xw⟩
theorem ch_cmp {o o' : Cop} {a b c : E} {x y z : Expr} {σ : L2.St} {H : Hp} {Q : VK} (h : rdE (ctOf X) L W (.cmp2 o o' a b c) σ H Q) :
    tChain (rCmp (ctOf X) o) (rCmp (ctOf X) o') (rdE (ctOf X) L W a) (rdE (ctOf X) L W b) (rdE (ctOf X) L W c) σ H Q := by
  obtain ⟨r, env, st, Q', X', R, Re, w, k, xw⟩ := h
  refine ⟨r, env, st, _, X', R, Re, w, fun r1 st1 H1 d v f1 R1 q1 w1 => ⟨r1, env, st1, _, X', R1, Re.fut f1, w1, fun r2 st2 H2 d2 v2 f2 R2 q2 w2 => ?_, xw.mono f1⟩, xw⟩
  refine ⟨r2, st2, d, d2, fun z st => onBl z fun t => ifB t (wpE L c env st (fun z st => wpCmp o' d2 z st fun d => Q' d st) X') (Q' (.bl false) st), R2, q1.fut f2, q2, w2, fun r3 st3 H3 d3 v3 f3 R3 q3 w3 => ?_⟩
  obtain ⟨t, rfl, w3⟩ := onBl_iff (show onBl d3 _ from w3)
  cases q3
  refine ⟨t, rfl, ?_⟩
  cases t with
  | true =>
    rw [if_pos rfl]
    exact ⟨r3, env, st3, _, X', R3, Re.fut (f1.trans (f2.trans f3)), w3, fun r4 st4 H4 d4 v4 f4 R4 q4 w4 => ⟨r4, st4, d2, d4, Q', R4, q2.fut (f3.trans f4), q4, w4, k.mono (f1.trans (f2.trans (f3.trans f4)))⟩, xw.mono (f1.trans (f2.trans f3))⟩
  | false =>
    rw [if_neg (by decide)]
    exact k r3 st3 H3 _ _ (f1.trans (f2.trans f3)) R3 (.bl _) w3
theorem last_of {op op' : CmpOp} {y z : Expr} (h : noSet z = true) : lastMarks [op, op'] [y, z] = false := behind_of h
theorem sd_cmp2 {o o' : Cop} {a b c : E} {x y z : Expr} {p : Pos} (hu : X.A.units + 65 < cLine) (hs : noSet z = true) (ha : PE X x (rdE (ctOf X) L W a)) (hb : PE X y (rdE (ctOf X) L W b)) (hc : PE X z (rdE (ctOf X) L W c)) :
    PE X (.Compare x [o.op, o'.op] [y, z] p) (rdE (ctOf X) L W (.cmp2 o o' a b c)) :=
  peI (pe_chain (or_cmp (C := ctOf X) rfl hu o) (or_cmp (C := ctOf X) rfl hu o') ha hb hc (last_of hs)) fun σ H Q h => ch_cmp (x := x) (y := y) (z := z) h
theorem st_cmp2 {o o' : Cop} {a b c : E} {x y z : Expr} {p : Pos} (hu : X.A.units + 65 < cLine) (hs : noSet z = true) (ha : PE X x (rdE (ctOf X) L W a)) (hb : PE X y (rdE (ctOf X) L W b)) (hc : PE X z (rdE (ctOf X) L W c)) :
    PT X (.Compare x [o.op, o'.op] [y, z] p) (rdT (ctOf X) L W (.cmp2 o o' a b c)) :=
  ptI (pt_chain (or_cmp (C := ctOf X) rfl hu o) (or_cmp (C := ctOf X) rfl hu o') ha hb hc (last_of hs)) fun σ H Q ⟨r, env, st, Q', X', R, Re, w, k, xw⟩ =>
    ch_cmp (x := x) (y := y) (z := z) ⟨r, env, st, fun d st => onBl d fun b => Q' b st, X', R, Re, w, fun r1 st1 H1 d v f1 R1 q1 w1 => by
      obtain ⟨b, rfl, w1⟩ := onBl_iff w1
      cases q1
      exact ⟨b, rfl, k r1 st1 H1 b f1 R1 w1⟩, xw⟩
/-- a test by its value -/
theorem rdT_of {e : E} {x : Expr} {σ : L2.St} {H : Hp} {Q : Bool → Hp → Prop} (h : rdT (ctOf X) L W e σ H Q) : rdE (ctOf X) L W e σ H (fun v H1 => ∃ b, v = .bl b ∧ Q b H1) := by
  obtain ⟨r, env, st, Q', X', R, Re, w, k, xw⟩ := h
  exact ⟨r, env, st, _, X', R, Re, w, fun r1 st1 H1 d v f1 R1 q1 w1 => by
    obtain ⟨b, rfl, w1⟩ := onBl_iff w1
    cases q1
    exact ⟨b, rfl, k r1 st1 H1 b f1 R1 w1⟩, xw⟩
theorem sd_not {a : E} {x : Expr} {p : Pos} (ha : PE X x (rdE (ctOf X) L W a)) : PE X (.UnaryOp .Not x p) (rdE (ctOf X) L W (.not_ a)) :=
  peI (pe_not ha) fun σ H Q ⟨r, env, st, Q', X', R, Re, w, k, xw⟩ => ⟨r, env, st, _, X', R, Re, w, fun r1 st1 H1 d v f1 R1 q1 w1 => by
    obtain ⟨b, rfl, w1⟩ := onBl_iff (show onBl d _ from w1)
    cases q1
    exact ⟨b, rfl, k r1 st1 H1 _ _ f1 R1 (.bl _) w1⟩, xw⟩
theorem st_not {a : E} {x : Expr} {p : Pos} (ha : PT X x (rdT (ctOf X) L W a)) : PT X (.UnaryOp .Not x p) (rdT (ctOf X) L W (.not_ a)) :=
  ptI (pt_not ha) fun σ H Q ⟨r, env, st, Q', X', R, Re, w, k, xw⟩ => by
    have w' : wpE L a env st (fun x st => onBl x fun b => Q' (!b) st) X' := w
    exact ⟨r, env, st, fun b st => Q' (!b) st, X', R, Re, w', fun r1 st1 H1 b f1 R1 w1 => k r1 st1 H1 _ f1 R1 w1, xw⟩
theorem sd_ife {c a b : E} {x y z : Expr} {p : Pos} (hc : PT X x (rdT (ctOf X) L W c)) (ha : PE X y (rdE (ctOf X) L W a)) (hb : PE X z (rdE (ctOf X) L W b)) : PE X (.IfExp x y z p) (rdE (ctOf X) L W (.ife c a b)) :=
  peI (pe_ifExp hc ha hb) fun σ H Q ⟨r, env, st, Q', X', R, Re, w, k, xw⟩ => ⟨r, env, st, fun t st => ifB t (wpE L a env st Q' X') (wpE L b env st Q' X'), X', R, Re, w, fun r1 st1 H1 t f1 R1 w1 => by
    cases t with
    | true => rw [if_pos rfl]; exact ⟨r1, env, st1, Q', X', R1, Re.fut f1, w1, k.mono f1, xw.mono f1⟩
    | false => rw [if_neg (by decide)]; exact ⟨r1, env, st1, Q', X', R1, Re.fut f1, w1, k.mono f1, xw.mono f1⟩, xw⟩
/-! ### and, or -/
theorem sd_and1 {e : E} {x : Expr} {p : Pos} (h : PE X x (rdE (ctOf X) L W e)) : PE X (.BoolOp .And [x] p) (rdE (ctOf X) L W (.and_ (.cons e .nil))) := peI (pe_one h) fun _ _ _ q => q
theorem sd_or1 {e : E} {x : Expr} {p : Pos} (h : PE X x (rdE (ctOf X) L W e)) : PE X (.BoolOp .Or [x] p) (rdE (ctOf X) L W (.or_ (.cons e .nil))) := peI (pe_one h) fun _ _ _ q => q
theorem sd_and {e e2 : E} {es : Es} {x y : Expr} {xs : List Expr} {p : Pos} (h : PE X x (rdE (ctOf X) L W e)) (h2 : PE X (.BoolOp .And (y :: xs) p) (rdE (ctOf X) L W (.and_ (.cons e2 es)))) :
    PE X (.BoolOp .And (x :: y :: xs) p) (rdE (ctOf X) L W (.and_ (.cons e (.cons e2 es)))) :=
  peI (pe_and h h2) fun σ H Q ⟨r, env, st, Q', X', R, Re, w, k, xw⟩ => ⟨r, env, st, _, X', R, Re, w, fun r1 st1 H1 d v f1 R1 q1 w1 => by
    obtain ⟨b, rfl, w1⟩ := onBl_iff (show onBl d _ from w1)
    cases q1
    refine ⟨b, rfl, ?_⟩
    cases b with
    | true => rw [if_pos rfl]; exact ⟨r1, env, st1, Q', X', R1, Re.fut f1, w1, k.mono f1, xw.mono f1⟩
    | false => rw [if_neg (by decide)]; exact k r1 st1 H1 _ _ f1 R1 (.bl _) w1, xw⟩
theorem sd_or {e e2 : E} {es : Es} {x y : Expr} {xs : List Expr} {p : Pos} (h : PE X x (rdE (ctOf X) L W e)) (h2 : PE X (.BoolOp .Or (y :: xs) p) (rdE (ctOf X) L W (.or_ (.cons e2 es)))) :
    PE X (.BoolOp .Or (x :: y :: xs) p) (rdE (ctOf X) L W (.or_ (.cons e (.cons e2 es)))) :=
  peI (pe_or h h2) fun σ H Q ⟨r, env, st, Q', X', R, Re, w, k, xw⟩ => ⟨r, env, st, _, X', R, Re, w, fun r1 st1 H1 d v f1 R1 q1 w1 => by
    obtain ⟨b, rfl, w1⟩ := onBl_iff (show onBl d _ from w1)
    cases q1
    refine ⟨b, rfl, ?_⟩
    cases b with
    | true => rw [if_pos rfl]; exact k r1 st1 H1 _ _ f1 R1 (.bl _) w1
    | false => rw [if_neg (by decide)]; exact ⟨r1, env, st1, Q', X', R1, Re.fut f1, w1, k.mono f1, xw.mono f1⟩, xw⟩
theorem st_and1 {e : E} {x : Expr} {p : Pos} (h : PT X x (rdT (ctOf X) L W e)) : PW X (.BoolOp .And [x] p) (rdT (ctOf X) L W (.and_ (.cons e .nil))) := pwI (pw_and1 h) fun _ _ _ q => q
theorem st_or1 {e : E} {x : Expr} {p : Pos} (h : PT X x (rdT (ctOf X) L W e)) : PW X (.BoolOp .Or [x] p) (rdT (ctOf X) L W (.or_ (.cons e .nil))) := pwI (pw_or1 h) fun _ _ _ q => q
theorem st_and {e e2 : E} {es : Es} {x y : Expr} {xs : List Expr} {p : Pos} (h : PT X x (rdT (ctOf X) L W e)) (h2 : PW X (.BoolOp .And (y :: xs) p) (rdT (ctOf X) L W (.and_ (.cons e2 es)))) :
    PW X (.BoolOp .And (x :: y :: xs) p) (rdT (ctOf X) L W (.and_ (.cons e (.cons e2 es)))) :=
  pwI (pw_and h h2) fun σ H Q ⟨r, env, st, Q', X', R, Re, w, k, xw⟩ => by
    have w' : wpE L e env st (fun d st => onBl d fun b => ifB b (wpAnd L (.cons e2 es) env st (fun d st => onBl d fun b => Q' b st) X') (Q' false st)) X' := w
    refine ⟨r, env, st, fun b st => ifB b (wpAnd L (.cons e2 es) env st (fun d st => onBl d fun b => Q' b st) X') (Q' false st), X', R, Re, w', fun r1 st1 H1 b f1 R1 w1 => ?_, xw⟩
    cases b with
    | true => rw [if_pos rfl]; exact ⟨r1, env, st1, Q', X', R1, Re.fut f1, w1, k.mono f1, xw.mono f1⟩
    | false => rw [if_neg (by decide)]; exact k r1 st1 H1 _ f1 R1 w1
theorem st_or {e e2 : E} {es : Es} {x y : Expr} {xs : List Expr} {p : Pos} (h : PT X x (rdT (ctOf X) L W e)) (h2 : PW X (.BoolOp .Or (y :: xs) p) (rdT (ctOf X) L W (.or_ (.cons e2 es)))) :
    PW X (.BoolOp .Or (x :: y :: xs) p) (rdT (ctOf X) L W (.or_ (.cons e (.cons e2 es)))) :=
  pwI (pw_or h h2) fun σ H Q ⟨r, env, st, Q', X', R, Re, w, k, xw⟩ => by
    have w' : wpE L e env st (fun d st => onBl d fun b => ifB b (Q' true st) (wpOr L (.cons e2 es) env st (fun d st => onBl d fun b => Q' b st) X')) X' := w
    refine ⟨r, env, st, fun b st => ifB b (Q' true st) (wpOr L (.cons e2 es) env st (fun d st => onBl d fun b => Q' b st) X'), X', R, Re, w', fun r1 st1 H1 b f1 R1 w1 => ?_, xw⟩
    cases b with
    | true => rw [if_pos rfl]; exact k r1 st1 H1 _ f1 R1 w1
    | false => rw [if_neg (by decide)]; exact ⟨r1, env, st1, Q', X', R1, Re.fut f1, w1, k.mono f1, xw.mono f1⟩
/-! ### argument lists, displays -/
theorem sa_nil : PA X [] (rdEs (ctOf X) L W .nil) := paI pa_nil fun σ H Q ⟨r, env, st, Q', X', R, Re, w, k, _⟩ => k r st H [] [] .refl R .nil w
theorem sa_cons {e : E} {es : Es} {x : Expr} {xs : List Expr} (hs : noStar x = true) (h : PE X x (rdE (ctOf X) L W e)) (h2 : PA X xs (rdEs (ctOf X) L W es)) : PA X (x :: xs) (rdEs (ctOf X) L W (.cons e es)) :=
  paI (pa_cons h h2 (star_cons hs)) fun σ H Q ⟨r, env, st, Q', X', R, Re, w, k, xw⟩ => ⟨r, env, st, _, X', R, Re, w, fun r1 st1 H1 d v f1 R1 q1 w1 => ⟨r1, env, st1, _, X', R1, Re.fut f1, w1, fun r2 st2 H2 ds vs f2 R2 q2 w2 =>
    k r2 st2 H2 _ _ (f1.trans f2) R2 (.cons (q1.fut f2) q2) w2, xw.mono f1⟩, xw⟩
theorem sd_tup {es : Es} {xs : List Expr} {j : Nat} {p : Pos} (h : PA X xs (rdEs (ctOf X) L W es)) : PE X (.Tuple xs j p) (rdE (ctOf X) L W (.tup es)) :=
  peI (pe_tup h) fun σ H Q ⟨r, env, st, Q', X', R, Re, w, k, xw⟩ => ⟨r, env, st, _, X', R, Re, w, fun r1 st1 H1 ds vs f1 R1 q1 w1 => by
    refine ⟨by rw [← q1.length]; exact w1.1, (k.mono f1).newT R1 q1 w1.2⟩, xw⟩
theorem sd_lst {m : Bool} {es : Es} {xs : List Expr} {p : Pos} (h : PA X xs (rdEs (ctOf X) L W es)) : PE X (.List xs p) (rdE (ctOf X) L W (.lst m es)) :=
  peI (pe_lst h) fun σ H Q ⟨r, env, st, Q', X', R, Re, w, k, xw⟩ => ⟨r, env, st, _, X', R, Re, w, fun r1 st1 H1 ds vs f1 R1 q1 w1 => by
    refine ⟨by rw [← q1.length]; exact w1.1, (k.mono f1).newL (m := m) R1 q1 w1.2⟩, xw⟩
theorem sd_dct {t : Bool} {p : Pos} : PE X (.Dict [] [] p) (rdE (ctOf X) L W (.dct t)) := by
  cases t with
  | false =>
    refine peI pe_dnewK fun σ H Q ⟨r, env, st, Q', X', R, Re, w, k, xw⟩ p hp => ?_
    have w' : Q' (.loc st.length) (st ++ [.dct false []]) := w
    refine k (r.1 ++ [p], r.2) (st ++ [.dct false []]) _ (.loc st.length) _ (Fut.push hp) (R.push (c := .dct false []) hp fun f => ⟨[], upd_same, .nil⟩) (.loc ?_) w'
    show (r.1 ++ [p])[st.length]? = _
    rw [← R.len]
    simp
  | true =>
    refine peI pe_dnewT fun σ H Q ⟨r, env, st, Q', X', R, Re, w, k, xw⟩ p hp => ?_
    have w' : Q' (.loc st.length) (st ++ [.dct true []]) := w
    refine k (r.1 ++ [p], r.2) (st ++ [.dct true []]) _ (.loc st.length) _ (Fut.push hp) (R.push (c := .dct true []) hp fun f => ⟨[], upd_same, .nil⟩) (.loc ?_) w'
    show (r.1 ++ [p])[st.length]? = _
    rw [← R.len]
    simp
/-! ### subscripts, slices -/
theorem sd_ix {a i : E} {x y : Expr} {p : Pos} (hu : X.A.units + 65 < cLine) (hs : noSlice y = true) (ha : PE X x (rdE (ctOf X) L W a)) (hb : PE X y (rdE (ctOf X) L W i)) : PE X (.Subscript x y p) (rdE (ctOf X) L W (.ix a i)) :=
  peI (pe_ix (ix_any (C := ctOf X) rfl hu) ha hb (plainIx_of hs)) fun σ H Q ⟨r, env, st, Q', X', R, Re, w, k, xw⟩ =>
    ⟨r, env, st, _, X', R, Re, w, fun r1 st1 H1 d v f1 R1 q1 w1 => ⟨r1, env, st1, _, X', R1, Re.fut f1, w1, fun r2 st2 H2 d2 v2 f2 R2 q2 w2 =>
      ⟨r2, st2, d, d2, Q', R2, q1.fut f2, q2, w2, (k.mono f1).mono f2⟩, xw.mono f1⟩, xw⟩
theorem so_none : PO X none (rdEo (ctOf X) L W .none) := ⟨fun pins s σ H Q I ⟨r, env, st, Q', X', R, Re, w, k, _⟩ => po_none.run pins s σ H Q I (k r st H _ .refl R w)⟩
theorem so_some {e : E} {x : Expr} (h : PE X x (rdE (ctOf X) L W e)) : PO X (some x) (rdEo (ctOf X) L W (.some e)) := ⟨fun pins s σ H Q I ⟨r, env, st, Q', X', R, Re, w, k, xw⟩ =>
  (po_some h).run pins s σ H Q I ⟨r, env, st, _, X', R, Re, w, fun r1 st1 H1 d v f1 R1 q1 w1 => by
    obtain ⟨i, rfl, w1⟩ := onInt_iff (show onInt d _ from w1)
    cases q1
    exact ⟨i, rfl, k r1 st1 H1 _ f1 R1 w1⟩, xw⟩⟩
theorem sd_sl {m : Bool} {a : E} {lo hi : Eo} {x : Expr} {l h : Option Expr} {p p2 : Pos} (ha : PE X x (rdE (ctOf X) L W a)) (hl : PO X l (rdEo (ctOf X) L W lo)) (hh : PO X h (rdEo (ctOf X) L W hi)) :
    PE X (.Subscript x (.Slice l h none p2) p) (rdE (ctOf X) L W (.sl m a lo hi)) :=
  peI (pe_slice (sl_any (C := ctOf X) rfl m) ha hl hh) fun σ H Q ⟨r, env, st, Q', X', R, Re, w, k, xw⟩ =>
    ⟨r, env, st, _, X', R, Re, w, fun r1 st1 H1 d v f1 R1 q1 w1 => ⟨r1, env, st1, _, X', R1, Re.fut f1, w1, fun r2 st2 H2 o f2 R2 w2 =>
      ⟨r2, env, st2, _, X', R2, Re.fut (f1.trans f2), w2, fun r3 st3 H3 o2 f3 R3 w3 => ⟨r3, st3, d, Q', R3, q1.fut (f2.trans f3), w3, k.mono (f1.trans (f2.trans f3))⟩, xw.mono (f1.trans f2)⟩, xw.mono f1⟩, xw⟩
/-! ### calls -/
theorem sd_call {f : String} {es : Es} {xs : List Expr} {p p2 : Pos} {x : Str} (G : Good L T k X sc W cm) (hc : cm = true) (ex : x = Str.ofString f) (hg : Gl X x) (hd : (x == ("__debug__" : Str)) = false) (hf : f ∈ T.fns)
    (hok : okEs T X.N sc cm es xs = true) (h : PA X xs (rdEs (ctOf X) L W es)) : PE X (.Call (.Name x p2) xs [] p) (rdE (ctOf X) L W (.call f es)) := by
  have hs := okEs_star hok
  obtain ⟨a, fd, ps, hm, hk, hb, F, hlen⟩ := G.lib.call f hf
  subst ex
  obtain ⟨hcalm, hr⟩ := G.calm hc
  refine ⟨fun pins s σ H Q I ⟨r, env, st, Q', X', R, Re, w, k, xw⟩ => ?_⟩
  have key : ∀ r1 st1 H1 (ds : List D) vs, Fut r H r1 H1 → Rel (ctOf X) r1 st1 H1 → RDs (ctOf X) r1 H1 ds vs → L.call f ds st1 Q' X' → spD (ctOf X) (L.call f) ps.length vs H1 Q (WE W σ) := fun r1 st1 H1 ds vs f1 R1 q1 w1 =>
    ⟨by rw [← q1.length]; exact hlen _ _ _ _ w1, r1, st1, ds, Q', X', R1, q1, w1, k.mono f1, (xw.mono f1)⟩
  cases xs with
  | cons y ys => exact (pe_callS F hr hg hm hk hb (fun σ => passAt G.tk σ) h hd (star_cons (hs y (by simp))) (any_star fun z m => hs z (by simp [m]))).run pins s σ H Q I ⟨r, env, st, _, X', R, Re, w, fun r1 st1 H1 ds vs f1 R1 q1 w1 => key r1 st1 H1 ds vs f1 R1 q1 w1, xw⟩
  | nil =>
    cases es with
    | nil =>
      refine wpAny_Call_Name_kw (ld_glob I hg hm ?_ hd)
      exact PySem.W.callWith_K0 I.kIn hk (run_fnS (us := []) F hr hb (passAt G.tk σ) I .nil (key r st H [] [] .refl R .nil w))
    | cons e es => cases hok
end
end DL

set_option maxHeartbeats 1000000
/-! DLEnum: enumerate of a tuple. -/
namespace DL
open PySem PySem.Spec PyProof.Rows L2

theorem meets_enum1 {vv : Value} {oo : Obj} {HH : Heap → Prop} (BB : Begins vv oo HH) :
    Meets (Builtin.«enumerate.__new__» ⟨[.type "enumerate", vv], []⟩) (fun _ RR ss => HH ss.heap ∧
      RR (.ok (.ret (.ref (ss.heap.push oo).objs.size))) { ss with heap := (ss.heap.push oo).push { cls := .type "enumerate", data := .fields #[.none, .bool false, .ref ss.heap.objs.size, rawInt 0, .none, .none] } }) :=
  .of_wp fun pr ww AA RR ss hh => by
    obtain ⟨hp, gg, dd, tk, os⟩ := ss; obtain ⟨h1, hh⟩ := hh
    have hsub := sub_enumerate
    have step : ∀ {A' : Around} {E' : Value → Shared → Prop} {Q' : Value → Shared → Prop}, Q' (.ref hp.objs.size) ⟨hp.push oo, gg, dd, tk, os⟩ → wpAny (model pr ww) A' (pyIter vv) Q' E' ⟨hp, gg, dd, tk, os⟩ :=
      fun qq => BB.iter pr ww _ _ ⟨hp, gg, dd, tk, os⟩ _ h1 qq
    wp_walk using step
    refine wpAny_stack_any fun st => wpAny_pure ?_
    split
    · rename_i cc _ _ _ _ _
      cases (cc == Value.type "enumerate") <;>
        (wp_walk using step
         exact ⟨_, rfl, hh⟩)
    · wp_walk using step
      exact ⟨_, rfl, hh⟩
theorem call_enum1 {prog : Program} {w : World} {A : Around} {E : Value → Shared → Prop} {s : Shared} {vv : Value} {oo : Obj} {HH : Heap → Prop} {Q : Value → Shared → Prop} (BB : Begins vv oo HH) (h1 : HH s.heap)
    (hQ : ∀ h', IsEnum h' (s.heap.objs.size + 1) s.heap.objs.size 0 .none → h'.get? s.heap.objs.size = some oo → (∀ b o, s.heap.get? b = some o → h'.get? b = some o) → Q (.ref (s.heap.objs.size + 1)) { s with heap := h' }) :
    wpAny (model prog w) A (call (.type "enumerate") [vv]) Q E s := by
  refine callType_new F.called_enumerate (by decide) (F.typeCall_enumerate_1 _) (F.newCall_enumerate_1 _) (fun z => F.args_object_init_2 z _) F.entry_enumerate_new (meets_enum1 BB) ⟨h1, ?_⟩
  have sz : (s.heap.push oo).objs.size = s.heap.objs.size + 1 := Heap.size_push ..
  show _ ∧ _
  rw [sz]
  have en : IsEnum ((s.heap.push oo).push { cls := .type "enumerate", data := .fields #[.none, .bool false, .ref s.heap.objs.size, rawInt 0, .none, .none] }) (s.heap.objs.size + 1) s.heap.objs.size 0 .none := by
    have z := Heap.get?_push_size (s.heap.push oo) (o := { cls := .type "enumerate", data := .fields #[.none, .bool false, .ref s.heap.objs.size, rawInt 0, .none, .none] }) rfl
    rw [sz] at z
    exact z
  exact ⟨⟨_, en, rfl⟩, hQ _ en (Heap.get?_push_of_some _ (Heap.get?_push_size _ BB.free)) fun b o x => Heap.get?_push_of_some _ (Heap.get?_push_of_some _ x)⟩
/-- the tuple at a of n items, each in a new pair -/
def IteT (K : PySem.W.Frag) (a : Addr) (n : Nat) : L2.It :=
  ⟨fun i H => ∃ (xs : List V) (x : V), SqT K H a xs ∧ xs.length = n ∧ xs[i]? = some x, fun i H v H' => ∃ p x, v = .ref p ∧ H p = none ∧ H' = upd H p (.tup [.int (i : Nat), x]) ∧ ∀ xs, SqT K H a xs → xs[i]? = some x, fun i H => ∃ xs : List V, SqT K H a xs ∧ xs.length = n ∧ n ≤ i⟩
theorem turn_enumT {P : Program} {w : World} {K : PySem.W.Frag} {es : List Expr} {kk : Nat} {tp : Pos} (a e it : Addr) (n : Nat) :
    Turn P w K (.Tuple es kk tp) (IteT K a n) [e, it] e (fun i h => (∃ old, IsEnum h e it ((i : Nat) : Int) old) ∧ h.IsTupleIter it a i ∧ e ≠ it ∧ i ≤ n) where
  mem := List.mem_cons_self
  obj := fun i h st b hb => by
    obtain ⟨⟨old, en⟩, ⟨o, ho, hc, hd⟩, _⟩ := st
    rcases List.mem_cons.mp hb with z | hb
    · subst z; exact ⟨_, en, fun v q => nomatch q⟩
    · obtain rfl := List.mem_singleton.mp hb
      exact ⟨o, ho, fun v q => by rw [hd] at q; cases q⟩
  keep := fun i h h' st k => let ⟨⟨old, en⟩, hi, ne⟩ := st; ⟨⟨old, k e List.mem_cons_self _ en⟩, hi.at fun o q => k it (by simp) o q, ne⟩
  item := by
    intro X hP hw hK hc i pins s σ H E I hf st hg
    subst hP hw hK
    obtain ⟨⟨old, en⟩, ti, ne, _⟩ := st
    obtain ⟨xs, x, sq, hn, ex⟩ := hg
    obtain ⟨us, rv, tp, hz⟩ := I.tuple sq
    obtain ⟨u, eu, ru⟩ := rv.get ex
    have le : e < s.heap.objs.size := Heap.lt_size en
    have li : it < s.heap.objs.size := by obtain ⟨_, q, _⟩ := ti; exact Heap.lt_size q
    have ea : e ≠ a := fun z => by
      obtain ⟨o, q1, q2, _⟩ := tp
      rw [← z, en] at q1
      cases q1
      have q3 : Value.type "enumerate" = Value.type "tuple" := q2
      injection q3 with q
      exact absurd q (by decide)
    have ia : a ≠ it := fun z => by
      obtain ⟨o, q1, q2, _⟩ := tp
      obtain ⟨o', q3, q4, _⟩ := ti
      rw [z, q3] at q1
      cases q1
      rw [q4] at q2
      injection q2 with q
      exact absurd q (by decide)
    have tp' : s.heap.IsTuple a us.toArray := tp
    refine wpAny_pyNext_enum_itemD (Draws.tuple (A := X.A.in1) (I.ok.hd hc) it a ia us.toArray) en ⟨ti, tp'⟩ (by have := (List.getElem?_eq_some_iff.mp eu).1; simpa using this) ne (by simp [ne, ea]) fun y h' tk hy eo hs hT hsz hk => ?_
    have ey : y = u := by
      have hy : us.toArray[i]? = some y := hy
      rw [List.getElem?_toArray, eu] at hy
      exact (Option.some.inj hy).symm
    subst ey
    refine ⟨_, rfl, wpAny_letOwnedTupleGo_enum (s := { s with heap := h', toks := tk + 1 }) eo fun h'' en2 sb => ?_⟩
    have hT2 := (sb.2 _ (Nat.ne_of_gt le)).trans hT
    have mk : ObjOk X.prog X.w (upd H s.heap.objs.size (.tup [.int (i : Nat), x])) h'' s.heap.objs.size (.tup [.int (i : Nat), x]) := ⟨by show 2 ≤ sizeLine; decide, [.int i tk, y], .cons ⟨_, rfl⟩ (.cons ru .nil), ⟨_, hT2, rfl, _, rfl⟩⟩
    have I1 : Inv X pins σ (upd H s.heap.objs.size (.tup [.int (i : Nat), x])) { s with heap := h'', toks := tk + 1 } :=
      I.turnedNew (ch := [e, it]) (fun b ob hb q => (sb.2 b fun z => hb (by simp [z])).trans (hk b ob (fun z => hb (by simp [z])) (fun z => hb (by simp [z])) q)) hf (Nat.le_refl _) mk
    refine ⟨.ref s.heap.objs.size, _, I1, rfl, ⟨_, x, rfl, I.hok.fresh (Nat.le_refl _), rfl, fun ys hy => by rw [I.tuple_inj hy sq, ex]⟩, ⟨⟨y, ?_⟩, hs.1.at fun o q => (sb.2 it (Ne.symm ne)).trans q, ne, ?_⟩, fun b hb => ?_⟩
    · have e1 : ((i + 1 : Nat) : Int) = (i : Int) + 1 := by omega
      rw [e1]; exact en2
    · have := (List.getElem?_eq_some_iff.mp ex).1
      omega
    · have hb' : b < s.heap.objs.size := by
        rcases List.mem_cons.mp hb with z | z
        · rw [z]; exact le
        · rw [List.mem_singleton.mp z]; exact li
      rw [upd_ne (Nat.ne_of_lt hb')]
      exact (hf b hb).1
  done := by
    intro X hP hw hK hc i pins s σ H E I hf st hg
    subst hP hw hK
    obtain ⟨⟨old, en⟩, ti, ne, hi⟩ := st
    obtain ⟨xs, sq, hn, ex⟩ := hg
    obtain ⟨us, rv, tp, hz⟩ := I.tuple sq
    obtain ⟨f0, f1, f2, f3, f4, f5⟩ := hf it (by simp)
    have ia : a ≠ it := fun z => by
      obtain ⟨o, q1, q2, _⟩ := tp
      obtain ⟨o', q3, q4, _⟩ := ti
      rw [z, q3] at q1
      cases q1
      rw [q4] at q2
      injection q2 with q
      exact absurd q (by decide)
    have hl := rv.length
    have ei : us.toArray.size = i := by rw [List.size_toArray]; omega
    have tp' : s.heap.IsTuple a us.toArray := tp
    exact wpAny_pyNext_enum_endD (Draws.tuple (A := X.A.in1) (I.ok.hd hc) it a ia us.toArray) en ⟨by rw [ei]; exact ti, tp'⟩ fun h' eb => ⟨rfl, I.turned (t' := s.toks) (fun b o hb q => eb b o hb q) f0 f1 f3 f4 f5⟩
  self := fun A i s Q E st h => let ⟨⟨_, en⟩, _⟩ := st; wpAny_pyIter_enum en h
end DL

set_option maxHeartbeats 1000000
/-! DLIt: what is walked; comprehensions; calls of built-in functions. -/
namespace DL
open PySem PySem.Spec PyProof.Rows L2

def StayP (stay : List (Nat × Cell)) (st : Sto) : Prop := ∀ p ∈ stay, st[p.1]? = some p.2
theorem stayOk_iff : ∀ {stay : List (Nat × Cell)} {st : Sto} {p : Prop}, stayOk stay st p → StayP stay st ∧ p
  | [], st, p, h => ⟨(fun _ m => nomatch m), h⟩
  | (n, c) :: l, st, p, h => by
    obtain ⟨h1, h2⟩ := h
    obtain ⟨h3, h4⟩ := stayOk_iff h2
    refine ⟨fun q m => ?_, h4⟩
    rcases List.mem_cons.mp m with e | m
    · subst e; exact h1
    · exact h3 q m
/-- J walks these items -/
def ItR (C : Ct) (J : L2.It) (r0 : Lay) (H0 : Hp) (xs : List D) (stay : List (Nat × Cell)) : Prop :=
  ∀ (i : Nat) (r : Lay) (st : Sto) (H : Hp), FutW r0 H0 r H → Rel C r st H → StayP stay st →
    (xs.length ≤ i → J.stop i H) ∧ ∀ d, xs[i]? = some d → J.go i H ∧ ∀ x H', J.yld i H x H' → Fut r H r H' ∧ Rel C r st H' ∧ RD C r H' d x
def KpI (C : Ct) (r : Lay) (H : Hp) (Q' : List D → List (Nat × Cell) → Sto → Prop) (R : L2.It → Hp → Prop) : Prop :=
  ∀ (r' : Lay) (st' : Sto) (H' : Hp) (xs : List D) (stay : List (Nat × Cell)) (J : L2.It), Fut r H r' H' → Rel C r' st' H' → ItR C J r' H' xs stay → Q' xs stay st' → R J H'
theorem KpI.mono {C : Ct} {r r' : Lay} {H H' : Hp} {Q' : List D → List (Nat × Cell) → Sto → Prop} {R : L2.It → Hp → Prop} (k : KpI C r H Q' R) (f : Fut r H r' H') : KpI C r' H' Q' R := fun r2 st2 H2 xs stay J g R h => k r2 st2 H2 xs stay J (f.trans g) R h
def rdIt (C : Ct) (L : Lib) (W : WX) (e : It) : TI := fun σ H R => ∃ r env st Q' X', Rel C r st H ∧ RE C r H env σ ∧ wpIt L e env st Q' X' ∧ KpI C r H Q' R ∧ XW C r H σ X' W
theorem piI {X : Cx} {tg e : Expr} {t t' : TI} (h : PI X tg e t) (i : ∀ σ H Q, t' σ H Q → t σ H Q) : PI X tg e t' := ⟨fun pins s σ H Q I q => h.run pins s σ H Q I (i σ H Q q)⟩
theorem piOr {X : Cx} {tg e : Expr} {t t' : TI} (h : PI X tg e t) (h' : PI X tg e t') : PI X tg e (fun σ H Q => t σ H Q ∨ t' σ H Q) := ⟨fun pins s σ H Q I q => by
  rcases q with q | q
  · exact h.run pins s σ H Q I q
  · exact h'.run pins s σ H Q I q⟩

section
variable {C : Ct} {r : Lay} {H : Hp}
theorem itr_list {a : Addr} {xs : List D} {vs : List V} (h : LstAt C r H a vs) (t : RDs C r H xs vs) : ItR C (Itl C.K a) r H xs [] := fun i r1 st1 H1 f R _ => by
  have h1 := (h.futW f).sq
  have t1 := t.futW f
  refine ⟨fun hi => ⟨vs, h1, by rw [← t1.length]; exact hi⟩, fun d e => ?_⟩
  obtain ⟨v, e1, q⟩ := t1.get e
  refine ⟨⟨vs, v, h1, e1⟩, fun x H' hy => ?_⟩
  obtain ⟨rfl, hy⟩ := hy
  have e2 := (hy vs h1).symm.trans e1
  cases e2
  exact ⟨.refl, R, q⟩
theorem itr_tup {a : Addr} {xs : List D} {vs : List V} (h : TupAt C r H a vs) (t : RDs C r H xs vs) : ItR C (Itt C.K a) r H xs [] := fun i r1 st1 H1 f R _ => by
  have h1 := (h.futW f).sq
  have t1 := t.futW f
  refine ⟨fun hi => ⟨vs, h1, by rw [← t1.length]; exact hi⟩, fun d e => ?_⟩
  obtain ⟨v, e1, q⟩ := t1.get e
  refine ⟨⟨vs, v, h1, e1⟩, fun x H' hy => ?_⟩
  obtain ⟨rfl, hy⟩ := hy
  have e2 := (hy vs h1).symm.trans e1
  cases e2
  exact ⟨.refl, R, q⟩
theorem itr_scr {a : Addr} {xs : List Int} (h : ScrAt C r H a (xs.map V.int)) : ItR C (Itl C.K a) r H (xs.map D.int) [] := fun i r1 st1 H1 f R _ => by
  have h1 := (h.futW f).sq
  have t1 : RDs C r1 H1 (xs.map D.int) (xs.map V.int) := RDs.ints xs
  refine ⟨fun hi => ⟨_, h1, by rw [← t1.length]; exact hi⟩, fun d e => ?_⟩
  obtain ⟨v, e1, q⟩ := t1.get e
  refine ⟨⟨_, v, h1, e1⟩, fun x H' hy => ?_⟩
  obtain ⟨rfl, hy⟩ := hy
  have e2 := (hy _ h1).symm.trans e1
  cases e2
  exact ⟨.refl, R, q⟩
theorem itr_kt {a : Addr} {xs : List String} (h : KTup C.K a (xs.map fun x => V.str (Str.ofString x))) : ItR C (Itt C.K a) r H (xs.map D.str) [] := fun i r1 st1 H1 f R _ => by
  have h1 := h.sq (H := H1)
  have t1 : RDs C r1 H1 (xs.map D.str) (xs.map fun x => V.str (Str.ofString x)) := RDs.strs xs
  refine ⟨fun hi => ⟨_, h1, by rw [← t1.length]; exact hi⟩, fun d e => ?_⟩
  obtain ⟨v, e1, q⟩ := t1.get e
  refine ⟨⟨_, v, h1, e1⟩, fun x H' hy => ?_⟩
  obtain ⟨rfl, hy⟩ := hy
  have e2 := (hy _ h1).symm.trans e1
  cases e2
  exact ⟨.refl, R, q⟩
theorem itr_loc {n : Nat} {a : Addr} {xs : List D} (hr : r.1[n]? = some a) : ItR C (Itl C.K a) r H xs [(n, .lst xs)] := fun i r1 st1 H1 f R hs => by
  have hr1 := prefix_get f.ext hr
  obtain ⟨vs, k1, t1⟩ := R.cells n _ a (hs (n, .lst xs) (by simp)) hr1
  have h1 : SqL C.K H1 a vs := SqL.of k1
  refine ⟨fun hi => ⟨vs, h1, by rw [← t1.length]; exact hi⟩, fun d e => ?_⟩
  obtain ⟨v, e1, q⟩ := t1.get e
  refine ⟨⟨vs, v, h1, e1⟩, fun x H' hy => ?_⟩
  obtain ⟨rfl, hy⟩ := hy
  have e2 := (hy vs h1).symm.trans e1
  cases e2
  exact ⟨.refl, R, q⟩
theorem itr_str {s : String} : ItR C (Its (Str.ofString s)) r H (strItems s) [] := fun i r1 st1 H1 f R _ => by
  have hl : (Str.ofString s).cps.size = s.toList.length := by
    rw [← Array.length_toList, ofS_cps, List.length_map]
  refine ⟨fun hi => ?_, fun d e => ?_⟩
  · show (Str.ofString s).cps.size ≤ i
    rw [hl]
    unfold strItems at hi
    rwa [List.length_map] at hi
  · unfold strItems at e
    rw [List.getElem?_map] at e
    cases ec : s.toList[i]? with
    | none => rw [ec] at e; cases e
    | some c =>
      rw [ec] at e
      cases e
      refine ⟨?_, fun x H' hy => ?_⟩
      · show i < (Str.ofString s).cps.size
        rw [hl]
        exact (List.getElem?_eq_some_iff.mp ec).1
      · obtain ⟨rfl, c', e1, rfl⟩ := hy
        refine ⟨.refl, R, ?_⟩
        have e2 : (Str.ofString s).cps.toList[i]? = some c.toNat := by rw [ofS_cps, List.getElem?_map, ec]; rfl
        rw [Array.getElem?_toList, e1] at e2
        cases e2
        rw [← ofS_sign]
        exact .str _
theorem itr_range (lo : Int) (n : Nat) : ItR C (Itr lo n) r H (rangeD lo n) [] := fun i r1 st1 H1 f R _ => by
  unfold rangeD
  refine ⟨fun hi => show n ≤ i by simpa using hi, fun d e => ?_⟩
  have hi : i < n := by
    have := (List.getElem?_eq_some_iff.mp e).1
    simpa using this
  rw [List.getElem?_map, List.getElem?_range hi] at e
  cases e
  refine ⟨hi, fun x H' hy => ?_⟩
  obtain ⟨rfl, rfl⟩ := hy
  exact ⟨.refl, R, .int _⟩
end

section
variable {X : Cx} {L : Lib} {T : Tab} {k : Nat} {sc : Scope} {W : WX} {cm : Bool} {tg : Expr}
/-- a list, a tuple, a text: its iterator -/
theorem iter_val {pins : List (Addr × Obj)} {s : Shared} {σ : L2.St} {H : Hp} {x : V} {v : Value} {R : L2.It → Hp → Prop} {E' : Value → Shared → Prop} (I : Inv X pins σ H s) (rx : RelV x v)
    (h : (∃ a xs, x = .ref a ∧ SqL X.K H a xs ∧ R (Itl X.K a) H) ∨ (∃ a xs, x = .ref a ∧ SqT X.K H a xs ∧ R (Itt X.K a) H) ∨ ∃ z, x = .str z ∧ R (Its z) H) : wpAny (model X.prog X.w) X.A (pyIter v) (PIE X pins σ tg R) E' s := by
  rcases h with ⟨a, xs, rfl, hq, q⟩ | ⟨a, xs, rfl, hq, q⟩ | ⟨z, rfl, q⟩
  · cases rx
    obtain ⟨its, rv, p, hz⟩ := I.list hq
    exact wpAny_pyIter_list p.isList (pi_one (tk := s.toks) I _ (turn_list a _) ⟨_, Heap.get?_push_size _ rfl, rfl, rfl⟩ q)
  · cases rx
    obtain ⟨its, rv, p, hz⟩ := I.tuple hq
    exact wpAny_pyIter_tuple (show s.heap.IsTuple a its.toArray from p) (pi_one (tk := s.toks) I _ (turn_tuple a _) ⟨_, Heap.get?_push_size _ rfl, rfl, rfl⟩ q)
  · obtain ⟨t, rfl⟩ := rx
    cases ha : z.cps.all (· < 128)
    · exact wpAny_pyIter_wide ha (pi_one (tk := s.toks) I _ (turn_str _ z t "str_iterator" (.inr rfl)) ⟨_, Heap.get?_push_size _ rfl, rfl, rfl⟩ q)
    · exact wpAny_pyIter_ascii ha (pi_one (tk := s.toks) I _ (turn_str _ z t "str_ascii_iterator" (.inl rfl)) ⟨_, Heap.get?_push_size _ rfl, rfl, rfl⟩ q)
theorem si_e {a : E} {x : Expr} (ha : PE X x (rdE (ctOf X) L W a)) : PI X tg x (rdIt (ctOf X) L W (.e a)) := by
  refine ⟨fun pins s σ H R I ⟨r, env, st, Q', X', Rl, Re, w, k, xw⟩ => ?_⟩
  have key : rdE (ctOf X) L W a σ H fun x H1 => (∃ a xs, x = .ref a ∧ SqL X.K H1 a xs ∧ R (Itl X.K a) H1) ∨ (∃ a xs, x = .ref a ∧ SqT X.K H1 a xs ∧ R (Itt X.K a) H1) ∨ ∃ z, x = .str z ∧ R (Its z) H1 :=
    ⟨r, env, st, _, X', Rl, Re, w, fun r1 st1 H1 d v f1 R1 q1 w1 => by
      have w1 : itOf d st1 fun xs stay => Q' xs stay st1 := w1
      cases q1 with
      | tup h t => exact .inr (.inl ⟨_, _, rfl, h.sq, k r1 st1 H1 _ _ _ f1 R1 (itr_tup h t) w1⟩)
      | lst h t => exact .inl ⟨_, _, rfl, h.sq, k r1 st1 H1 _ _ _ f1 R1 (itr_list h t) w1⟩
      | scr xs h => exact .inl ⟨_, _, rfl, h.sq, k r1 st1 H1 _ _ _ f1 R1 (itr_scr h) w1⟩
      | kt xs h => exact .inr (.inl ⟨_, _, rfl, h.sq, k r1 st1 H1 _ _ _ f1 R1 (itr_kt h) w1⟩)
      | str z => exact .inr (.inr ⟨_, rfl, k r1 st1 H1 _ _ _ f1 R1 itr_str w1.2⟩)
      | @loc n a h =>
        obtain ⟨c, e, w1⟩ := onSome_iff (show onSome st1[n]? _ from w1)
        cases c with
        | lst ys =>
          obtain ⟨vs, k1, k2⟩ := R1.cells n _ a e h
          exact .inl ⟨_, _, rfl, SqL.of k1, k r1 st1 H1 _ _ _ f1 R1 (itr_loc h) w1⟩
        | dct t kvs => exact w1.elim
        | dctF _ _ => exact w1.elim
        | obj _ _ => exact w1.elim
      | _ => exact w1.elim, xw⟩
  exact thn (ha.run pins s σ H _ I key) fun v s1 ⟨x, H1, I1, r1, q1⟩ => iter_val I1 r1 q1
theorem si_range1 {a : E} {x : Expr} {p p2 : Pos} (hg : Gl X "range") (hm : X.mg "range" = none) (hs : noStar x = true) (ha : PE X x (rdE (ctOf X) L W a)) : PI X tg (.Call (.Name "range" p2) [x] [] p) (rdIt (ctOf X) L W (.range1 a)) :=
  piI (pi_range1 hg hm (pa_cons ha pa_nil (star_cons hs)) (star_cons hs)) fun σ H Q ⟨r, env, st, Q', X', R, Re, w, k, xw⟩ => ⟨r, env, st, _, X', R, Re, w, fun r1 st1 H1 d v f1 R1 q1 w1 => by
    obtain ⟨n, rfl, ⟨h1, h2⟩, w1⟩ := onInt_iff (show onInt d _ from w1)
    cases q1
    exact ⟨n, rfl, h1, h2, k r1 st1 H1 _ _ _ f1 R1 (itr_range 0 n.toNat) w1⟩, xw⟩
theorem si_range2 {a b : E} {x y : Expr} {p p2 : Pos} (hg : Gl X "range") (hm : X.mg "range" = none) (hs : noStar x = true) (hs2 : noStar y = true) (ha : PE X x (rdE (ctOf X) L W a)) (hb : PE X y (rdE (ctOf X) L W b)) :
    PI X tg (.Call (.Name "range" p2) [x, y] [] p) (rdIt (ctOf X) L W (.range2 a b)) :=
  piI (pi_range2 hg hm (pa_cons ha (pa_cons hb pa_nil (star_cons hs2)) (star_cons hs)) (by rw [star_cons hs, star_cons hs2]; rfl) (star_cons hs2)) fun σ H Q ⟨r, env, st, Q', X', R, Re, w, k, xw⟩ => ⟨r, env, st, _, X', R, Re, w, fun r1 st1 H1 d v f1 R1 q1 w1 => by
    obtain ⟨lo, rfl, w1⟩ := onInt_iff (show onInt d _ from w1)
    cases q1
    refine ⟨r1, env, st1, _, X', R1, Re.fut f1, w1, fun r2 st2 H2 d2 v2 f2 R2 q2 w2 => ?_, xw.mono f1⟩
    obtain ⟨hi, rfl, hb, w2⟩ := onInt_iff (show onInt d2 _ from w2)
    cases q2
    exact ⟨lo, hi, rfl, hb, k r2 st2 H2 _ _ _ (f1.trans f2) R2 (itr_range lo _) w2⟩, xw⟩
/-! ### zip, enumerate, reversed -/
theorem stay_app {s1 s2 : List (Nat × Cell)} {st : Sto} (h : StayP (s1 ++ s2) st) : StayP s1 st ∧ StayP s2 st :=
  ⟨fun p m => h p (List.mem_append_left _ m), fun p m => h p (List.mem_append_right _ m)⟩
/-- a list that is walked, as it lies from now on -/
def LsR (C : Ct) (a : Addr) (r0 : Lay) (H0 : Hp) (xs : List D) (stay : List (Nat × Cell)) : Prop :=
  ∀ (r : Lay) (st : Sto) (H : Hp), FutW r0 H0 r H → Rel C r st H → StayP stay st → ∃ vs, SqL C.K H a vs ∧ RDs C r H xs vs
theorem lstK_iff {C : Ct} {r : Lay} {st : Sto} {H : Hp} {d : D} {v : V} {kk : List D → List (Nat × Cell) → Prop} (R : Rel C r st H) (q : RD C r H d v) (h : lstK d st kk) :
    ∃ a xs stay, v = .ref a ∧ LsR C a r H xs stay ∧ StayP stay st ∧ kk xs stay := by
  cases q with
  | lst h1 t => exact ⟨_, _, [], rfl, fun r1 st1 H1 f R1 _ => ⟨_, (h1.futW f).sq, t.futW f⟩, (fun _ m => nomatch m), h⟩
  | @loc n a hr =>
    obtain ⟨c, e, h⟩ := onSome_iff (show onSome st[n]? _ from h)
    obtain ⟨ys, rfl, h⟩ := onLst_iff h
    refine ⟨a, ys, _, rfl, fun r1 st1 H1 f R1 hs => ?_, fun p m => ?_, h⟩
    · obtain ⟨vs, k1, t1⟩ := R1.cells n _ a (hs (n, .lst ys) (by simp)) (prefix_get f.ext hr)
      exact ⟨vs, SqL.of k1, t1⟩
    · simp at m; subst m; exact e
  | _ => exact h.elim
theorem pair_new {C : Ct} {r : Lay} {st : Sto} {H : Hp} {p : Addr} {x y : D} {v u : V} (R : Rel C r st H) (hp : H p = none) (q : RD C r H x v) (q' : RD C r H y u) :
    Fut r H r (upd H p (.tup [v, u])) ∧ Rel C r st (upd H p (.tup [v, u])) ∧ RD C r (upd H p (.tup [v, u])) (.tup [x, y]) (.ref p) :=
  ⟨Fut.frz hp, R.frz hp, .tup ⟨upd_same, R.free hp⟩ (.cons (q.fut (Fut.frz hp)) (.cons (q'.fut (Fut.frz hp)) .nil))⟩
theorem zip_get {xs ys : List D} {i : Nat} {d : D} (e : ((xs.zip ys).map fun p => D.tup [p.1, p.2])[i]? = some d) : ∃ x y, xs[i]? = some x ∧ ys[i]? = some y ∧ d = .tup [x, y] := by
  rw [List.getElem?_map] at e
  cases ez : (xs.zip ys)[i]? with
  | none => rw [ez] at e; cases e
  | some p =>
    rw [ez] at e
    cases e
    obtain ⟨h1, h2⟩ := List.getElem?_zip_eq_some.mp ez
    exact ⟨_, _, h1, h2, rfl⟩
theorem itr_zip {C : Ct} {r : Lay} {H : Hp} {a b : Addr} {xs ys : List D} {s1 s2 : List (Nat × Cell)} (h1 : LsR C a r H xs s1) (h2 : LsR C b r H ys s2) :
    ItR C (Itz C.K a b) r H ((xs.zip ys).map fun p => .tup [p.1, p.2]) (s1 ++ s2) := fun i r1 st1 H1 f R hs => by
  obtain ⟨z1, z2⟩ := stay_app hs
  obtain ⟨vs, q1, t1⟩ := h1 r1 st1 H1 f R z1
  obtain ⟨us, q2, t2⟩ := h2 r1 st1 H1 f R z2
  refine ⟨fun hi => ⟨vs, us, q1, q2, ?_⟩, fun d e => ?_⟩
  · rw [List.length_map, List.length_zip] at hi
    rw [← t1.length, ← t2.length]
    omega
  · obtain ⟨x, y, e1, e2, rfl⟩ := zip_get e
    obtain ⟨v, e3, p1⟩ := t1.get e1
    obtain ⟨u, e4, p2⟩ := t2.get e2
    refine ⟨⟨vs, us, v, u, q1, q2, e3, e4⟩, fun z H' hy => ?_⟩
    obtain ⟨p, v', u', rfl, hp, rfl, g1, g2⟩ := hy
    have e5 := (g1 vs q1).symm.trans e3
    have e6 := (g2 us q2).symm.trans e4
    cases e5
    cases e6
    exact pair_new R hp p1 p2
theorem itr_zipT {C : Ct} {r : Lay} {H : Hp} {a b : Addr} {xs ys : List D} {vs us : List V} (h1 : TupAt C r H a vs) (h2 : TupAt C r H b us) (t1 : RDs C r H xs vs) (t2 : RDs C r H ys us) :
    ItR C (RZ.ItzT C.K a b) r H ((xs.zip ys).map fun p => .tup [p.1, p.2]) [] := fun i r1 st1 H1 f R hs => by
  have q1 := (h1.futW f).sq
  have q2 := (h2.futW f).sq
  replace t1 := t1.futW f
  replace t2 := t2.futW f
  refine ⟨fun hi => ⟨vs, us, q1, q2, ?_⟩, fun d e => ?_⟩
  · rw [List.length_map, List.length_zip] at hi
    rw [← t1.length, ← t2.length]
    omega
  · obtain ⟨x, y, e1, e2, rfl⟩ := zip_get e
    obtain ⟨v, e3, p1⟩ := t1.get e1
    obtain ⟨u, e4, p2⟩ := t2.get e2
    refine ⟨⟨vs, us, v, u, q1, q2, e3, e4⟩, fun z H' hy => ?_⟩
    obtain ⟨p, v', u', rfl, hp, rfl, g1, g2⟩ := hy
    have e5 := (g1 vs q1).symm.trans e3
    have e6 := (g2 us q2).symm.trans e4
    cases e5
    cases e6
    exact pair_new R hp p1 p2
theorem si_zip {a b : E} {x y : Expr} {elts : List Expr} {kk : Nat} {tp p p2 : Pos} (hg : Gl X "zip") (hm : X.mg "zip" = none) (hs : noStar x = true) (hs2 : noStar y = true) (ha : PE X x (rdE (ctOf X) L W a)) (hb : PE X y (rdE (ctOf X) L W b)) :
    PI X (.Tuple elts kk tp) (.Call (.Name "zip" p2) [x, y] [] p) (rdIt (ctOf X) L W (.zip a b)) :=
  piI (RZ.pi_zipA hg hm (pa_cons ha (pa_cons hb pa_nil (star_cons hs2)) (star_cons hs)) (star_cons hs) (any_star (fun e m => by simp at m; subst m; exact hs2))) fun σ H Q ⟨r, env, st, Q', X', R, Re, w, k, xw⟩ => ⟨r, env, st, _, X', R, Re, w, fun r1 st1 H1 d v f1 R1 q1 w1 => by
    refine ⟨r1, env, st1, _, X', R1, Re.fut f1, w1, fun r2 st2 H2 d2 v2 f2 R2 q2 w2 => ?_, xw.mono f1⟩
    have w2 : zipK d d2 st2 fun xs ys stay => Q' ((xs.zip ys).map fun p => .tup [p.1, p.2]) stay st2 := w2
    have q1' := q1.fut f2
    have ls : (lstK d st2 fun xs s1 => lstK d2 st2 fun ys s2 => Q' ((xs.zip ys).map fun p => .tup [p.1, p.2]) (s1 ++ s2) st2) → (∃ a b xs ys, [v, v2] = [V.ref a, V.ref b] ∧ ((SqL X.K H2 a xs ∧ SqL X.K H2 b ys ∧ Q (Itz X.K a b) H2) ∨ (SqT X.K H2 a xs ∧ SqT X.K H2 b ys ∧ Q (RZ.ItzT X.K a b) H2))) := fun w2 => by
      obtain ⟨aa, xs, s1, e1, l1, z1, w2⟩ := lstK_iff R2 q1' w2
      obtain ⟨bb, ys, s2, e2, l2, z2, w2⟩ := lstK_iff R2 q2 w2
      obtain ⟨vs, g1, _⟩ := l1 r2 st2 H2 .refl R2 z1
      obtain ⟨us, g2, _⟩ := l2 r2 st2 H2 .refl R2 z2
      exact ⟨aa, bb, vs, us, by rw [e1, e2], .inl ⟨g1, g2, k r2 st2 H2 _ _ _ (f1.trans f2) R2 (itr_zip l1 l2) w2⟩⟩
    cases q1' with
    | tup h1 t1 =>
      cases q2 with
      | tup h2 t2 => exact ⟨_, _, _, _, rfl, .inr ⟨h1.sq, h2.sq, k r2 st2 H2 _ _ _ (f1.trans f2) R2 (itr_zipT h1 h2 t1 t2) w2⟩⟩
      | _ => exact w2.elim
    | non => exact ls w2
    | bl => exact ls w2
    | int => exact ls w2
    | str => exact ls w2
    | lst => exact ls w2
    | loc => exact ls w2
    | gl => exact ls w2
    | ty => exact ls w2
    | scr => exact ls w2
    | kt => exact ls w2, xw⟩
theorem itr_enum {C : Ct} {r : Lay} {H : Hp} {a : Addr} {xs : List D} {s1 : List (Nat × Cell)} (h1 : LsR C a r H xs s1) : ItR C (Ite C.K a) r H (xs.zipIdx.map fun p => .tup [.int p.2, p.1]) s1 := fun i r1 st1 H1 f R hs => by
  obtain ⟨vs, q1, t1⟩ := h1 r1 st1 H1 f R hs
  refine ⟨fun hi => ⟨vs, q1, ?_⟩, fun d e => ?_⟩
  · rw [List.length_map, List.length_zipIdx] at hi
    rw [← t1.length]
    exact hi
  · rw [List.getElem?_map] at e
    cases ez : xs.zipIdx[i]? with
    | none => rw [ez] at e; cases e
    | some p =>
      rw [ez] at e
      cases e
      rw [List.getElem?_zipIdx] at ez
      cases ex : xs[i]? with
      | none => rw [ex] at ez; cases ez
      | some x =>
        rw [ex] at ez
        cases ez
        obtain ⟨v, e3, p1⟩ := t1.get ex
        refine ⟨⟨vs, v, q1, e3⟩, fun z H' hy => ?_⟩
        obtain ⟨p, v', rfl, hp, rfl, g1⟩ := hy
        have e5 := (g1 vs q1).symm.trans e3
        cases e5
        have e6 : ((0 + i : Nat) : Int) = ((i : Nat) : Int) := by omega
        show _ ∧ _ ∧ RD C r1 _ (.tup [.int ((0 + i : Nat) : Int), x]) _
        rw [e6]
        exact pair_new R hp (.int _) p1
theorem itr_enumT {C : Ct} {r : Lay} {H : Hp} {a : Addr} {xs : List D} {vs : List V} (h1 : TupAt C r H a vs) (t1 : RDs C r H xs vs) : ItR C (IteT C.K a vs.length) r H (xs.zipIdx.map fun p => .tup [.int p.2, p.1]) [] := fun i r1 st1 H1 f R hs => by
  have q1 := (h1.futW f).sq
  replace t1 := t1.futW f
  refine ⟨fun hi => ⟨vs, q1, rfl, ?_⟩, fun d e => ?_⟩
  · rw [List.length_map, List.length_zipIdx] at hi
    rw [← t1.length]
    exact hi
  · rw [List.getElem?_map] at e
    cases ez : xs.zipIdx[i]? with
    | none => rw [ez] at e; cases e
    | some p =>
      rw [ez] at e
      cases e
      rw [List.getElem?_zipIdx] at ez
      cases ex : xs[i]? with
      | none => rw [ex] at ez; cases ez
      | some x =>
        rw [ex] at ez
        cases ez
        obtain ⟨v, e3, p1⟩ := t1.get ex
        refine ⟨⟨vs, v, q1, rfl, e3⟩, fun z H' hy => ?_⟩
        obtain ⟨p, v', rfl, hp, rfl, g1⟩ := hy
        have e5 := (g1 vs q1).symm.trans e3
        cases e5
        have e6 : ((0 + i : Nat) : Int) = ((i : Nat) : Int) := by omega
        show _ ∧ _ ∧ RD C r1 _ (.tup [.int ((0 + i : Nat) : Int), x]) _
        rw [e6]
        exact pair_new R hp (.int _) p1
theorem enum_or {X : Cx} {e : Expr} {ta : TA} {p pos tp : Pos} {es : List Expr} {kk : Nat} (hg : Gl X "enumerate") (hm : X.mg "enumerate" = none) (ha : PA X [e] ta) (hs : starEach [e] X.env = [(false, eval e X.env)]) :
    PI X (.Tuple es kk tp) (.Call (.Name "enumerate" p) [e] [] pos) (fun σ H R => ta σ H fun vs H1 => ∃ a, vs = [.ref a] ∧ ((∃ xs, SqL X.K H1 a xs ∧ R (Ite X.K a) H1) ∨ ∃ xs, SqT X.K H1 a xs ∧ R (IteT X.K a xs.length) H1)) := by
  refine ⟨fun pins s σ H R I h => ?_⟩
  refine Call_ (ld_blt I hg hm boot_enumerate (PyProof.Rows.callWith_type1 (thn (ha.run pos pins s σ H _ I h) fun us s1 ⟨vs, H1, I1, r1, a, ev, q⟩ => ?_) hs rfl))
  subst ev
  have fp : ∀ b ∈ [s1.heap.objs.size + 1, s1.heap.objs.size], FpOk X pins H1 b := fun b hb => by
    have hle : s1.heap.objs.size ≤ b := by
      rcases List.mem_cons.mp hb with z | z
      · rw [z]; exact Nat.le_add_right _ _
      · rw [List.mem_singleton.mp z]; exact Nat.le_refl _
    exact I1.fpOk hle (I1.hok.fresh hle)
  cases r1 with
  | cons r rr =>
    cases rr
    cases r
    rcases q with ⟨xs, sq, q⟩ | ⟨xs, sq, q⟩
    · obtain ⟨its, rv, lp, hz⟩ := I1.list sq
      refine call_enumerate_list lp.isList fun h' he hit hsz hk => wpAny_pyIter_enum he ?_
      exact ⟨_, [s1.heap.objs.size + 1, s1.heap.objs.size], _, _, H1, rfl, I1.kept (t' := s1.toks) hk, turn_enum a (s1.heap.objs.size + 1) s1.heap.objs.size, ⟨⟨.none, he⟩, hit, Nat.succ_ne_self _⟩, fp, q⟩
    · obtain ⟨its, rv, tp2, hz⟩ := I1.tuple sq
      have tp' : s1.heap.IsTuple a its.toArray := tp2
      refine call_enum1 (begins_tuple a its.toArray) tp' fun h' en hit hk => wpAny_pyIter_enum en ?_
      exact ⟨_, [s1.heap.objs.size + 1, s1.heap.objs.size], _, _, H1, rfl, I1.kept (t' := s1.toks) hk, turn_enumT a (s1.heap.objs.size + 1) s1.heap.objs.size xs.length, ⟨⟨.none, en⟩, ⟨_, hit, rfl, rfl⟩, Nat.succ_ne_self _, Nat.zero_le _⟩, fp, q⟩
theorem si_enum {a : E} {x : Expr} {elts : List Expr} {kk : Nat} {tp p p2 : Pos} (hg : Gl X "enumerate") (hm : X.mg "enumerate" = none) (hs : noStar x = true) (ha : PE X x (rdE (ctOf X) L W a)) :
    PI X (.Tuple elts kk tp) (.Call (.Name "enumerate" p2) [x] [] p) (rdIt (ctOf X) L W (.enum a)) :=
  piI (enum_or hg hm (pa_cons ha pa_nil (star_cons hs)) (star_cons hs)) fun σ H Q ⟨r, env, st, Q', X', R, Re, w, k, xw⟩ => ⟨r, env, st, _, X', R, Re, w, fun r1 st1 H1 d v f1 R1 q1 w1 => by
    have w1 : seqK d st1 fun xs s1 => Q' (xs.zipIdx.map fun p => .tup [.int p.2, p.1]) s1 st1 := w1
    cases q1 with
    | tup h1 t1 => exact ⟨_, rfl, .inr ⟨_, h1.sq, k r1 st1 H1 _ _ _ f1 R1 (itr_enumT h1 t1) w1⟩⟩
    | lst h1 t1 =>
      obtain ⟨aa, xs, s1, e1, l1, z1, w2⟩ := lstK_iff R1 (RD.lst h1 t1) (show lstK _ st1 (fun xs s1 => Q' (xs.zipIdx.map fun p => .tup [.int p.2, p.1]) s1 st1) from w1)
      obtain ⟨vs, g1, _⟩ := l1 r1 st1 H1 .refl R1 z1
      cases e1
      exact ⟨_, rfl, .inl ⟨vs, g1, k r1 st1 H1 _ _ _ f1 R1 (itr_enum l1) w2⟩⟩
    | loc hr =>
      obtain ⟨aa, xs, s1, e1, l1, z1, w2⟩ := lstK_iff R1 (RD.loc hr) (show lstK _ st1 (fun xs s1 => Q' (xs.zipIdx.map fun p => .tup [.int p.2, p.1]) s1 st1) from w1)
      obtain ⟨vs, g1, _⟩ := l1 r1 st1 H1 .refl R1 z1
      cases e1
      exact ⟨_, rfl, .inl ⟨vs, g1, k r1 st1 H1 _ _ _ f1 R1 (itr_enum l1) w2⟩⟩
    | _ => exact w1.elim, xw⟩
/-! ### keys of a locked dict -/
theorem itr_keys {C : Ct} {r : Lay} {H : Hp} {a : Addr} {n : Nat} {o : Obj} {kvs : List (D × D)} {vs : List (Key × V)} (hr : r.1[n]? = some a) (h : H a = some (.frz o (.dK vs))) (q : RKs keyD C r H kvs vs) :
    ItR C (Itk a o vs) r H (kvs.map (·.1)) [(n, .dctF false kvs)] := fun i r1 st1 H1 f R hs => by
  have h1 := f.lk a _ _ h
  have t1 := (rks_keys q).futW f
  refine ⟨fun hi => ⟨h1, by rw [List.length_map, q.length] at hi; exact hi⟩, fun d e => ?_⟩
  obtain ⟨v, e1, q1⟩ := t1.get e
  have hlt : i < vs.length := by
    have := (List.getElem?_eq_some_iff.mp e).1
    rw [List.length_map, q.length] at this
    exact this
  refine ⟨⟨h1, hlt⟩, fun x H' hy => ?_⟩
  obtain ⟨rfl, kk, u, e2, rfl⟩ := hy
  rw [List.getElem?_map, e2] at e1
  cases e1
  exact ⟨.refl, R, q1⟩
theorem rkst_at {C : Ct} {r : Lay} {H : Hp} : ∀ {kvs : List (D × D)} {vs : List (List Key × V)} {i : Nat} {d : D} {k : List Key} {v : V}, RKs keyTD C r H kvs vs → (kvs.map (·.1))[i]? = some d → vs[i]? = some (k, v) → keyTD k d
  | _, _, i, _, _, _, .nil, e, _ => by simp at e
  | _, _, 0, _, _, _, .cons h _ _, e, e2 => by
    simp at e e2
    obtain ⟨rfl, rfl⟩ := e2
    subst e
    exact h
  | _, _, i + 1, _, _, _, .cons _ _ t, e, e2 => rkst_at (i := i) t (by simpa using e) (by simpa using e2)
theorem itr_keysT {C : Ct} {r : Lay} {H : Hp} {a : Addr} {n : Nat} {o : Obj} {kvs : List (D × D)} {vs : List (List Key × V)} (hr : r.1[n]? = some a) (h : H a = some (.frz o (.dT vs))) (q : RKs keyTD C r H kvs vs) :
    ItR C (Itkt a o vs) r H (kvs.map (·.1)) [(n, .dctF true kvs)] := fun i r1 st1 H1 f R hs => by
  have h1 := f.lk a _ _ h
  refine ⟨fun hi => ⟨h1, by rw [List.length_map, q.length] at hi; exact hi⟩, fun d e => ?_⟩
  have hlt : i < vs.length := by
    have := (List.getElem?_eq_some_iff.mp e).1
    rw [List.length_map, q.length] at this
    exact this
  refine ⟨⟨h1, hlt⟩, fun x H' hy => ?_⟩
  obtain ⟨rfl, kk, u, b, e2, rfl, hb⟩ := hy
  obtain ⟨ds, rfl, hk⟩ := rkst_at q e e2
  exact ⟨.refl, R, .tup ⟨hb, R.off_of hb fun z => z⟩ (keysD_rd hk)⟩
theorem si_keys {a : E} {x : Expr} (ha : PE X x (rdE (ctOf X) L W a)) : PI X tg x (rdIt (ctOf X) L W (.keys a)) :=
  piI (pi_keys ha) fun σ H Q ⟨r, env, st, Q', X', R, Re, w, k, xw⟩ => ⟨r, env, st, _, fun _ _ => False, R, Re, w, fun r1 st1 H1 d v f1 R1 q1 w1 => by
    cases q1 with
    | @loc n aa hr =>
      obtain ⟨c, e, w1⟩ := onSome_iff (show onSome st1[n]? _ from w1)
      cases c with
      | dctF t kvs =>
        cases t with
        | false =>
          obtain ⟨o, vs, k1, k2⟩ := R1.cells n _ aa e hr
          exact ⟨aa, o, rfl, .inl ⟨vs, k1, k r1 st1 H1 _ _ _ f1 R1 (itr_keys hr k1 k2) w1⟩⟩
        | true =>
          obtain ⟨o, vs, k1, k2⟩ := R1.cells n _ aa e hr
          exact ⟨aa, o, rfl, .inr ⟨vs, k1, k r1 st1 H1 _ _ _ f1 R1 (itr_keysT hr k1 k2) w1⟩⟩
      | _ => exact w1.elim
    | _ => exact w1.elim, fun _ _ _ _ _ _ _ _ _ h => h.elim⟩
end
end DL

set_option maxHeartbeats 1000000
/-! DLLc: targets; list comprehensions. -/
namespace DL
open PySem PySem.Spec PyProof.Rows L2

/-! ### targets -/
/-- behind a target's names: these slots are set, all others stay -/
def TgK (C : Ct) (r : Lay) (H : Hp) (P : Nat → Prop) (vs : List Nat) (σ : L2.St) (k : St' → Prop) (Q : L2.St → Hp → Prop) : Prop :=
  ∀ env' σ', REp C r H (fun j => P j ∨ j ∈ vs) env' σ' → σ'.length = σ.length → (∀ j, j ∉ vs → σ'[j]? = σ[j]?) → k env' → Q σ' H
def rdG (C : Ct) (t : T) : TG := fun v σ H Q => ∃ r st P env d k, Rel C r st H ∧ REp C r H P env σ ∧ RD C r H d v ∧ wpT t d env k ∧ TgK C r H P t.slots σ k Q
def rdGs (C : Ct) (t : Ts) : TGs := fun v σ H Q => ∃ r st P env d k, Rel C r st H ∧ REp C r H P env σ ∧ RDs C r H d v ∧ wpTs t d env k ∧ TgK C r H P t.slots σ k Q
theorem pgI {X : Cx} {e : Expr} {t t' : TG} (h : PG X e t) (i : ∀ v σ H Q, t' v σ H Q → t v σ H Q) : PG X e t' := ⟨fun pins s σ H v u Q I r q => h.run pins s σ H v u Q I r (i v σ H Q q)⟩
theorem pgsI {X : Cx} {e : List Expr} {t t' : TGs} (h : PGs X e t) (i : ∀ v σ H Q, t' v σ H Q → t v σ H Q) : PGs X e t' := ⟨fun pins s σ H v u Q I r q => h.run pins s σ H v u Q I r (i v σ H Q q)⟩
theorem pgOr {X : Cx} {e : Expr} {t t' : TG} (h : PG X e t) (h' : PG X e t') : PG X e (fun v σ H Q => t v σ H Q ∨ t' v σ H Q) := ⟨fun pins s σ H v u Q I r q => by
  rcases q with q | q
  · exact h.run pins s σ H v u Q I r q
  · exact h'.run pins s σ H v u Q I r q⟩
theorem each_cons {e : Expr} {es : List Expr} {env : Env} (h : noStar e = true) : assignEach (e :: es) env = (false, assign e env) :: assignEach es env := by
  cases e <;> first | rfl | cases h
theorem each_len {env : Env} : ∀ {es : List Expr}, (assignEach es env).length = es.length
  | [] => rfl
  | e :: es => by cases e <;> exact congrArg (· + 1) (each_len (es := es))
theorem each_star {env : Env} : ∀ {es : List Expr}, (∀ e ∈ es, noStar e = true) → (assignEach es env).findIdx? (·.1) = none
  | [], _ => rfl
  | e :: es, h => by
    rw [each_cons (h e (by simp)), List.findIdx?_cons]
    simp only [Bool.false_eq_true, if_false]
    rw [each_star fun x m => h x (by simp [m])]
    rfl
theorem okTs_star {N : List Str} {sc : Scope} : ∀ {ts : Ts} {xs : List Expr}, okTs N sc ts xs = true → ∀ x ∈ xs, noStar x = true
  | .nil, xs, h => by
    cases xs with
    | nil => exact fun _ m => nomatch m
    | cons _ _ => cases h
  | .cons t ts, xs, h => by
    cases xs with
    | nil => cases h
    | cons x xs =>
      have h : (okT N sc t x && noStar x && okTs N sc ts xs) = true := h
      simp only [Bool.and_eq_true] at h
      intro y m
      rcases List.mem_cons.mp m with e | m
      · subst e; exact h.1.2
      · exact okTs_star h.2 y m
mutual
theorem wpT_ex : ∀ (t : T) {x : D} {env : St'} {k : St' → Prop}, wpT t x env k → ∃ env', k env'
  | .v i, x, env, k, w => ⟨_, w⟩
  | .tup ts, x, env, k, w => by cases x <;> first | exact wpTs_ex ts w | exact w.elim
theorem wpTs_ex : ∀ (ts : Ts) {xs : List D} {env : St'} {k : St' → Prop}, wpTs ts xs env k → ∃ env', k env'
  | .nil, xs, env, k, w => by cases xs <;> first | exact ⟨_, w⟩ | exact w.elim
  | .cons t ts, xs, env, k, w => by
    cases xs with
    | nil => exact w.elim
    | cons x xs =>
      obtain ⟨e1, w1⟩ := wpT_ex t (show wpT t x env fun env => wpTs ts xs env k from w)
      exact wpTs_ex ts w1
end
theorem wpTs_len {N : List Str} {sc : Scope} : ∀ {ts : Ts} {xs : List D} {env : St'} {k : St' → Prop} {es : List Expr}, okTs N sc ts es = true → wpTs ts xs env k → xs.length = es.length
  | .nil, xs, env, k, es, h, w => by
    cases xs with
    | nil => cases es with
      | nil => rfl
      | cons _ _ => cases h
    | cons _ _ => exact w.elim
  | .cons t ts, xs, env, k, es, h, w => by
    cases xs with
    | nil => exact w.elim
    | cons x xs => cases es with
      | nil => cases h
      | cons e es =>
        have h : (okT N sc t e && noStar e && okTs N sc ts es) = true := h
        simp only [Bool.and_eq_true] at h
        obtain ⟨env', w'⟩ := wpT_ex t (show wpT t x env fun env => wpTs ts xs env k from w)
        have := wpTs_len h.2 w'
        simp [this]

mutual
theorem sg_t {X : Cx} {N : List Str} {sc : Scope} (hN : N = X.N) (hnd : X.N.Nodup) (hs : ScOk X.env.scope sc) (hf : ∀ x, sc.names.lookup x = some .cell → X.fn x = true) (hc : X.calm = true) : ∀ (t : T) (e : Expr), okT N sc t e = true → PG X e (rdG (ctOf X) t)
  | .v i, e, h => by
    cases e with
    | Name x p =>
      have h : (decide (N[i]? = some x) && locB sc x) = true := h
      simp only [Bool.and_eq_true, decide_eq_true_eq] at h
      refine pgI (pg_name hnd (hN ▸ h.1) (loc_of hs h.2) (fn_of hs hf h.2)) fun v σ H Q ⟨r, st, P, env, d, k, R, Re, q, w, K⟩ => ?_
      refine K _ _ ?_ (by simp) (fun j hj => ?_) (show k (setS env i d) from w)
      · rw [setS_eq]
        have := Re.set i q
        refine ⟨this.1, fun j e p => this.2 j e ?_⟩
        rcases p with p | p
        · exact .inl p
        · exact .inr (by simpa [T.slots] using p)
      · have : j ≠ i := by simpa [T.slots] using hj
        exact List.getElem?_set_ne (Ne.symm this)
    | _ => cases h
  | .tup ts, e, h => by
    cases e with
    | Tuple xs kk p =>
      have h : okTs N sc ts xs = true := h
      refine pgI (pgOr (pg_tup (n := xs.length) hc (sg_ts hN hnd hs hf hc ts xs h) each_len (each_star (okTs_star h))) (pg_lst (n := xs.length) hc (sg_ts hN hnd hs hf hc ts xs h) each_len (each_star (okTs_star h)))) fun v σ H Q ⟨r, st, P, env, d, k, R, Re, q, w, K⟩ => ?_
      cases q with
      | tup hq t =>
        have w : wpTs ts _ env k := w
        refine .inl ⟨_, _, rfl, hq.sq, ?_, r, st, P, env, _, k, R, Re, t, w, K⟩
        rw [← t.length]
        exact wpTs_len h w
      | lst hq t =>
        have w : wpTs ts _ env k := w
        refine .inr ⟨_, _, rfl, hq.sq, ?_, r, st, P, env, _, k, R, Re, t, w, K⟩
        rw [← t.length]
        exact wpTs_len h w
      | _ => exact w.elim
    | _ => cases h
theorem sg_ts {X : Cx} {N : List Str} {sc : Scope} (hN : N = X.N) (hnd : X.N.Nodup) (hs : ScOk X.env.scope sc) (hf : ∀ x, sc.names.lookup x = some .cell → X.fn x = true) (hc : X.calm = true) : ∀ (ts : Ts) (es : List Expr), okTs N sc ts es = true → PGs X es (rdGs (ctOf X) ts)
  | .nil, es, h => by
    cases es with
    | nil =>
      refine pgsI pgs_nil fun v σ H Q ⟨r, st, P, env, d, k, R, Re, q, w, K⟩ => ?_
      cases q with
      | nil => exact ⟨rfl, K env σ ⟨Re.1, fun i d p => Re.2 i d (p.resolve_right (by simp [Ts.slots]))⟩ rfl (fun _ _ => rfl) w⟩
      | cons _ _ => exact w.elim
    | cons _ _ => cases h
  | .cons t ts, es, h => by
    cases es with
    | nil => cases h
    | cons e es =>
      have h : (okT N sc t e && noStar e && okTs N sc ts es) = true := h
      simp only [Bool.and_eq_true] at h
      refine pgsI (pgs_cons (sg_t hN hnd hs hf hc t e h.1.1) (sg_ts hN hnd hs hf hc ts es h.2) (by rw [each_cons h.1.2]; rfl)) fun v σ H Q ⟨r, st, P, env, d, k, R, Re, q, w, K⟩ => ?_
      cases q with
      | nil => exact w.elim
      | cons q1 q2 =>
        refine ⟨_, _, rfl, r, st, P, env, _, _, R, Re, q1, (show wpT t _ env _ from w), fun env1 σ1 Re1 hl1 hk1 w1 => ?_⟩
        refine ⟨r, st, _, env1, _, k, R, Re1, q2, w1, fun env2 σ2 Re2 hl2 hk2 w2 => ?_⟩
        refine K env2 σ2 ⟨Re2.1, fun i d p => Re2.2 i d ?_⟩ (hl2.trans hl1) (fun j hj => ?_) w2
        · rcases p with p | p
          · exact .inl (.inl p)
          · rcases List.mem_append.mp (show i ∈ T.slots t ++ Ts.slots ts from p) with p | p
            · exact .inl (.inr p)
            · exact .inr p
        · have hj : j ∉ T.slots t ++ Ts.slots ts := hj
          rw [List.mem_append] at hj
          rw [hk2 j fun m => hj (.inr m), hk1 j fun m => hj (.inl m)]
end

/-! ### list comprehensions -/
theorem wipe_get {σ : L2.St} {j : Nat} : ∀ {vs : List Nat}, (wipe σ vs)[j]? = if j ∈ vs then (if j < σ.length then some none else none) else σ[j]?
  | [] => by simp [wipe]
  | v :: vs => by
    unfold wipe
    rw [List.getElem?_set, wipe_get (vs := vs)]
    by_cases h : v = j
    · subst h
      simp [wipe_length]
    · have h' : ¬ j = v := fun e => h e.symm
      simp [h, h']
theorem wipe_same {σ σ2 : L2.St} {vs : List Nat} (hl : σ2.length = (wipe σ vs).length) (h : ∀ j, j ∉ vs → σ2[j]? = (wipe σ vs)[j]?) : wipe σ2 vs = wipe σ vs := by
  rw [wipe_length] at hl
  apply List.ext_getElem?
  intro j
  rw [wipe_get, wipe_get, hl]
  by_cases m : j ∈ vs
  · rw [if_pos m, if_pos m]
  · rw [if_neg m, if_neg m, h j m, wipe_get, if_neg m]
theorem re_of {C : Ct} {r : Lay} {H : Hp} {P : Nat → Prop} {env : St'} {s : L2.St} (h : REp C r H P env s) (p : ∀ i, P i) : RE C r H env s := ⟨h.1, fun i d e => h.2 i d (p i) e⟩
def W0 : WX := fun _ _ _ _ => False
theorem xw0 {C : Ct} {r : Lay} {H : Hp} {σ : L2.St} {W : WX} : XW C r H σ (fun _ _ => False) W := fun _ _ _ _ _ _ _ _ _ h => h.elim
/-- the tests of a clause -/
def rdC (C : Ct) (L : Lib) (c : Eo) : TT := fun σ H Q => ∃ r env st Q', Rel C r st H ∧ RE C r H env σ ∧ wpC L c env st Q' (fun _ _ => False) ∧ KpB C r H Q' Q
/-- what a reading asks, without the lock -/
def rdP (C : Ct) (W : WX) (w : St' → Sto → (DL.D → Sto → Prop) → EX → Prop) : TE := fun σ H Q => ∃ r env st Q' X', Rel C r st H ∧ RE C r H env σ ∧ w env st Q' X' ∧ Kp C r H Q' Q ∧ XW C r H σ X' W
def lcW (L : Lib) (m : Bool) (elt : E) (t : T) (it : It) (c : Eo) : St' → Sto → (DL.D → Sto → Prop) → EX → Prop := fun env st Q' X' =>
  wpIt L it env st (fun xs stay st => lcGo stay (fun d k => wpT t d env k) (fun env st k => wpC L c env st (fun b st => k b st) fun _ _ => False) (fun env st k => wpE L elt env st k fun _ _ => False) xs [] st fun ds st => newL m ds st Q') X'
def lockW (a : E) (w : St' → Sto → (DL.D → Sto → Prop) → EX → Prop) : St' → Sto → (DL.D → Sto → Prop) → EX → Prop := fun env st Q' X' =>
  peekK a env st fun n => onSome st[n]? fun c => onDct c fun b kvs => w env (st.set n (.dctF b kvs)) (fun d st => st[n]? = some (.dctF b kvs) ∧ Q' d (st.set n (.dct b kvs))) X'
theorem lockIt_no {it : It} {env : St'} {st : Sto} {k : Sto → (Sto → Prop → Prop) → (Sto → Sto) → Prop} (h : notKeys it = true) : lockIt it env st k = k st (fun _ p => p) fun st => st := by
  cases it <;> first | rfl | cases h
theorem locK_iff {d : DL.D} {k : Nat → Prop} (h : locK d k) : ∃ n, d = .loc n ∧ k n := by
  cases d <;> first | exact ⟨_, rfl, h⟩ | exact h.elim
theorem peek_iff {C : Ct} {r : Lay} {H : Hp} {a : E} {env : St'} {st : Sto} {σ : L2.St} {k : Nat → Prop} (R : Rel C r st H) (h : peekK a env st k) : ∃ n, k n := by
  unfold peekK at h
  split at h
  · obtain ⟨d, _, h⟩ := getS_iff h
    obtain ⟨n, _, h⟩ := locK_iff h
    exact ⟨n, h⟩
  · obtain ⟨d, _, h⟩ := getS_iff h
    obtain ⟨n, _, h⟩ := locK_iff h
    obtain ⟨c, _, h⟩ := onSome_iff h
    cases c with
    | obj _ fs =>
      obtain ⟨d2, _, _, h⟩ := getF_iff h
      obtain ⟨m, _, h⟩ := locK_iff h
      exact ⟨m, h⟩
    | _ => exact h.elim
  · obtain ⟨d, _, h⟩ := getS_iff h
    obtain ⟨n, _, h⟩ := locK_iff h
    obtain ⟨c, _, h⟩ := onSome_iff h
    cases c with
    | dct _ kvs =>
      obtain ⟨d2, _, h⟩ := onSome_iff h
      obtain ⟨m, _, h⟩ := locK_iff h
      exact ⟨m, h⟩
    | _ => exact h.elim
  · exact h.elim
theorem lock_imp {C : Ct} {W : WX} {a : E} {w : St' → Sto → (DL.D → Sto → Prop) → EX → Prop} {σ : L2.St} {H : Hp} {Q : VK} (hX : ∀ env st Q X X', w env st Q X → w env st Q X') (h : rdP C W (lockW a w) σ H Q) : tLockE (rdP C W w) σ H Q := by
  obtain ⟨r, env, st, Q', X', R, Re, h, k, xw⟩ := h
  obtain ⟨n, h⟩ := peek_iff (σ := σ) R h
  obtain ⟨c, ec, h⟩ := onSome_iff h
  cases c with
  | dct b kvs =>
    have h : w env (st.set n (.dctF b kvs)) (fun d st => st[n]? = some (.dctF b kvs) ∧ Q' d (st.set n (.dct b kvs))) X' := h
    obtain ⟨p, hr, hc⟩ := R.at_ ec
    obtain ⟨u, hu, mu, lk, ul⟩ : ∃ u, H p = some u ∧ Mut (some u) ∧ (∀ od, FutW r H r (upd H p (.frz od u)) → CellR C r (upd H p (.frz od u)) p (.dctF b kvs)) ∧
        ∀ (od : Obj) (r' : Lay) (H' : Hp), H' p = some (.frz od u) → CellR C r' H' p (.dctF b kvs) → FutV r' H' r' (upd H' p u) → CellR C r' (upd H' p u) p (.dct b kvs) := by
      cases b with
      | false =>
        obtain ⟨vs, h1, h2⟩ := hc
        exact ⟨_, h1, trivial, fun od f => ⟨od, vs, upd_same, h2.futW f⟩, fun od r' H' e ⟨o, vs', e2, q⟩ f => by
          rw [e] at e2; cases e2
          exact ⟨vs, upd_same, q.futV f⟩⟩
      | true =>
        obtain ⟨vs, h1, h2⟩ := hc
        exact ⟨_, h1, trivial, fun od f => ⟨od, vs, upd_same, h2.futW f⟩, fun od r' H' e ⟨o, vs', e2, q⟩ f => by
          rw [e] at e2; cases e2
          exact ⟨vs, upd_same, q.futV f⟩⟩
    refine ⟨p, u, hu, mu, fun od => ?_⟩
    have nf := Mut.nf hu mu
    have f0 : Fut r H r (upd H p (.frz od u)) := Fut.set hr nf
    refine ⟨r, env, _, _, fun _ _ => False, R.set hr nf (lk od f0.w), Re.fut f0, hX _ _ _ _ _ h, fun r' st' H' d v f R' q h' => ?_, fun _ _ _ _ _ _ _ _ _ h => h.elim⟩
    have e1 : H' p = some (.frz od u) := f.lk p od u upd_same
    have hr' := prefix_get f.ext hr
    refine ⟨e1, k r' (st'.set n (.dct b kvs)) _ d v (Fut.locked (o := u) hr hu mu f) (R'.unlock hr' (ul od r' H' e1 (R'.cells n _ p h'.1 hr') (FutV.unlock hr'))) (q.futV (FutV.unlock hr')) h'.2⟩
  | _ => exact h.elim
theorem lc_imp {C : Ct} {L : Lib} {W : WX} {m : Bool} {elt : E} {t : T} {it : It} {c : Eo} {σ : L2.St} {H : Hp} {Q : VK} (h : rdP C W (lcW L m elt t it c) σ H Q) :
    tLc (rdIt C L W it) (rdG C t) (rdC C L c) (rdE C L W0 elt) t.slots σ H Q := by
  obtain ⟨r, env, st, Q', X', R, Re, w, k, xw⟩ := h
  refine ⟨r, env, st, _, X', R, Re, w, fun r1 st1 H1 xs stay J f1 R1 itr w1 => ?_, xw⟩
  intro D hD
  have hD1 : r1.off D := R1.free hD
  have Re1 := Re.fut f1
  refine ⟨fun i mm H => mm = xs.length - i ∧ i ≤ xs.length ∧ ∃ (r2 : Lay) (st2 : Sto) (ds : List DL.D) (vs : List V), Fut r1 H1 (r2.1, r1.2) H ∧ FutW r1 H1 r2 H ∧ r2.2 = D :: r1.2 ∧ Rel C r2 st2 H ∧ H D = some (.lst vs) ∧ RDs C r2 H ds.reverse vs ∧
    lcGo stay (fun d k => wpT t d env k) (fun env st k => wpC L c env st (fun b st => k b st) fun _ _ => False) (fun env st k => wpE L elt env st k fun _ _ => False) (xs.drop i) ds st2 fun ds st => newL m ds st Q', ?_, ?_⟩
  · refine ⟨xs.length, by simp, Nat.zero_le _, (r1.1, D :: r1.2), st1, [], [], ?_, FutW.hide hD, rfl, R1.hide hD trivial, upd_same, .nil, w1⟩
    exact Fut.frz hD
  · rintro i mm H ⟨rfl, hi, r2, st2, ds, vs, f2, f2w, e2, R2, hDv, qd, w2⟩
    have DinH : D ∈ r2.2 := by rw [e2]; exact List.mem_cons_self
    have Dn1 : D ∉ r2.1 := (R2.hid D DinH).1
    by_cases hlt : i < xs.length
    · refine .inr ?_
      rw [List.drop_eq_getElem_cons hlt] at w2
      obtain ⟨hst, w2⟩ := stayOk_iff w2
      obtain ⟨hgo, hy⟩ := (itr i r2 st2 H f2w R2 hst).2 _ (List.getElem?_eq_getElem hlt)
      refine ⟨hgo, fun H' => ∃ (r2 : Lay) (st2 : Sto) (ds : List DL.D) (vs : List V), Fut r1 H1 (r2.1, r1.2) H' ∧ FutW r1 H1 r2 H' ∧ r2.2 = D :: r1.2 ∧ Rel C r2 st2 H' ∧ H' D = some (.lst vs) ∧ RDs C r2 H' ds.reverse vs ∧
        lcGo stay (fun d k => wpT t d env k) (fun env st k => wpC L c env st (fun b st => k b st) fun _ _ => False) (fun env st k => wpE L elt env st k fun _ _ => False) (xs.drop (i + 1)) ds st2 fun ds st => newL m ds st Q',
        fun H' z => ⟨xs.length - (i + 1), by omega, rfl, hlt, z⟩, fun x H' hyy => ?_⟩
      obtain ⟨f3, R3, q3⟩ := hy x H' hyy
      -- later states of the block, seen from the start of the turn
      have later : ∀ (r5 : Lay) (H5 : Hp), Fut r2 H r5 H5 → Fut r1 H1 (r5.1, r1.2) H5 ∧ FutW r1 H1 r5 H5 ∧ r5.2 = D :: r1.2 ∧ D ∉ r5.1 ∧ H5 D = some (.lst vs) := fun r5 H5 g => by
        refine ⟨⟨fun a o u e => g.lk a o u (f2.lk a o u e), fun a o e n => g.keep a o (f2.keep a o e n) (f2.notin e n), f2.ext.trans g.ext, rfl, fun a m => ?_⟩, f2w.trans g.w, g.hid.trans e2, g.notin hDv Dn1, g.keep D _ hDv Dn1⟩
        rcases g.new a m with z | z
        · exact f2.new a z
        · by_cases n : a ∈ r1.1
          · exact .inl n
          · cases e : H1 a with
            | none => exact .inr rfl
            | some o => rw [f2.keep a o e n] at z; cases z
      have Rew : REp C r2 H' (fun j => j ∉ t.slots) env (wipe σ t.slots) := ⟨by rw [wipe_length]; exact Re1.1, fun j d p e => by
        obtain ⟨v, e1, q1⟩ := Re1.2 j d e
        exact ⟨v, by rw [wipe_get, if_neg p]; exact e1, (q1.futW f2w).fut f3⟩⟩
      refine ⟨r2, st2, _, env, _, _, R3, Rew, q3, w2, fun env' σ' Re' hl hk w3 => ⟨wipe_same hl hk, ?_⟩⟩
      have Re' : RE C r2 H' env' σ' := re_of Re' fun j => (Classical.em _).symm
      refine ⟨r2, env', st2, _, R3, Re', w3, fun r4 st4 H4 b f4 R4 w4 => ?_⟩
      have g4 := f3.trans f4
      obtain ⟨a1, a2, a3, a4, a5⟩ := later r4 H4 g4
      cases b with
      | false =>
        simp only [Bool.false_eq_true, if_false]
        exact ⟨r4, st4, ds, vs, a1, a2, a3, R4, a5, qd.fut g4, w4⟩
      | true =>
        simp only [if_true]
        refine ⟨r4, env', st4, _, _, R4, Re'.fut f4, w4, fun r5 st5 H5 d5 v5 f5 R5 q5 w5 => ?_, xw0⟩
        have g5 := g4.trans f5
        obtain ⟨b1, b2, b3, b4, b5⟩ := later r5 H5 g5
        have DinH5 : D ∈ r5.2 := by rw [b3]; exact List.mem_cons_self
        have hlen : vs.length = ds.length := by rw [← qd.length, List.length_reverse]
        have kD : ∀ a, a ≠ D → upd H5 D (.lst (vs ++ [v5])) a = H5 a := fun a n => upd_ne n
        refine ⟨vs, b5, by rw [hlen]; exact w5.1, r5, st5, d5 :: ds, vs ++ [v5], ⟨fun a o u e => lk_set (R5.nfH DinH5) a o u (b1.lk a o u e), fun a o e n => ?_, b1.ext, rfl, b1.new⟩, b2.trans (FutW.setH DinH5 (R5.nfH DinH5)), b3, R5.setH DinH5 trivial, upd_same, ?_, w5.2⟩
        · rw [kD a fun z => by subst z; rw [hD] at e; cases e]
          exact b1.keep a o e n
        · rw [List.reverse_cons]
          exact ((qd.fut g5).append (.cons q5 .nil)).futW (FutW.setH DinH5 (R5.nfH DinH5))
    · have hi' : i = xs.length := by omega
      subst hi'
      rw [List.drop_length] at w2
      obtain ⟨hst, w2⟩ := stayOk_iff w2
      refine .inl ⟨(itr _ r2 st2 H f2w R2 hst).1 (Nat.le_refl _), ?_⟩
      cases m with
      | false =>
        have sh : FutW r2 H (r2.1, r1.2) H := FutW.show_ e2
        exact k (r2.1, r1.2) st2 H _ _ (f1.trans f2) (R2.show_ e2) (.lst ⟨hDv, Dn1, hD1.2⟩ (qd.futW sh)) w2
      | true =>
        have sh : FutW r2 H (r2.1 ++ [D], r1.2) H := FutW.adopt e2
        refine k (r2.1 ++ [D], r1.2) (st2 ++ [Cell.lst ds.reverse]) H (.loc st2.length) _ (f1.trans ⟨f2.lk, f2.keep, f2.ext.trans ⟨[D], rfl⟩, rfl, fun a z => ?_⟩) (R2.adopt (c := .lst ds.reverse) e2 hD1.2 ⟨vs, hDv, qd.futW sh⟩) (.loc ?_) (show Q' (.loc st2.length) (st2 ++ [Cell.lst ds.reverse]) from w2)
        · rcases List.mem_append.mp z with z | z
          · exact f2.new a z
          · simp at z; subst z; exact .inr hD
        · show (r2.1 ++ [D])[st2.length]? = _
          rw [← R2.len]
          simp

theorem relS_lookup {scope sc : Scope} {x : Str} {k : NameKind} (hk : k ≠ .free) (h : scope.names.lookup x = some k) : (relS scope sc).names.lookup x = some k := lookup_relS_keep hk h
theorem relS_free {sc : Scope} : ∀ {names : List (Str × NameKind)} {x : Str}, names.lookup x = some .free →
    (names.map fun (n, k) => if (k == NameKind.free && sc.kind == .function && sc.names.lookup n == some .cell) then (n, NameKind.cell) else (n, k)).lookup x = some .free ∨
    (names.map fun (n, k) => if (k == NameKind.free && sc.kind == .function && sc.names.lookup n == some .cell) then (n, NameKind.cell) else (n, k)).lookup x = some .cell
  | [], x, h => by simp at h
  | (n, k) :: r, x, h => by
    have ih := @relS_free sc r x
    show List.lookup x ((if (k == NameKind.free && sc.kind == .function && sc.names.lookup n == some .cell) = true then (n, NameKind.cell) else (n, k)) :: (r.map _)) = some .free ∨
      List.lookup x ((if (k == NameKind.free && sc.kind == .function && sc.names.lookup n == some .cell) = true then (n, NameKind.cell) else (n, k)) :: (r.map _)) = some .cell
    cases hx : x == n with
    | true =>
      simp only [List.lookup_cons, hx] at h
      cases h
      by_cases hc : (NameKind.free == NameKind.free && sc.kind == .function && sc.names.lookup n == some .cell) = true
      · rw [if_pos hc]; simp only [List.lookup_cons, hx]; exact .inr trivial
      · rw [if_neg hc]; simp only [List.lookup_cons, hx]; exact .inl trivial
    | false =>
      simp only [List.lookup_cons, hx] at h
      by_cases hc : (k == NameKind.free && sc.kind == .function && sc.names.lookup n == some .cell) = true
      · rw [if_pos hc]; simp only [List.lookup_cons, hx]; exact ih h
      · rw [if_neg hc]; simp only [List.lookup_cons, hx]; exact ih h
theorem relS_ok {scope sc : Scope} : ScOk (relS scope sc) scope := ⟨fun _ h => lookup_relS_keep (by decide) h, fun _ h => lookup_relS_keep (by decide) h, fun _ h => relS_free h, fun _ h => lookup_relS_keep (by decide) h⟩

section
variable {X : Cx} {L : Lib} {T : Tab} {k : Nat} {sc : Scope} {W : WX} {cm : Bool}
theorem good_blk (G : Good L T k X sc W cm) {s : Shared} {H : Hp} {scope : Scope} {cl : List (Str × Addr)} {C : Addr} {fp : List Addr} : Good L T k (X.blk s H scope (compEnvC scope cl C X.env) fp) scope W0 cm where
  nd := G.nd
  so := relS_ok
  fn := fun x h => by
    show (scope.names.lookup x == some .cell) = true
    rw [h]
    rfl
  calm := G.calm
  un := G.un
  tk := fun _ _ ⟨_, _, _, _, _, _, _, _, _, _, _, _, _, _, _, _, w⟩ => w.elim
  lib := G.lib
theorem blk_of (G : Good L T k X sc W cm) {scope : Scope} {own : List (Str × Nat)} (h : blkC X.N sc scope own = true) : BlkOk X.N X.env.scope scope own := by
  have B := blkOk_by h
  refine ⟨B.kind, B.uniq, B.ix, fun y hy e => ?_, B.own⟩
  rcases B.free y hy e with q | q
  · exact .inl (G.so.cl _ q)
  · exact (G.so.fr _ q).symm
/-- the tests of a clause, as they are read -/
theorem sd_lc {m : Bool} {elt : E} {tt : DL.T} {it : DL.It} {c : Eo} {x tg iter : Expr} {ifs : List Expr} {scope : Scope} {pos : Pos} (G : Good L T k X sc W cm) (hc : cm = true) (hi : PI X tg iter (rdIt (ctOf X) L W it))
    (hb : blkC X.N sc scope (ownOf X.N tt.slots) = true) (ho : (ownOf X.N tt.slots).map (·.2) = tt.slots) (hT : okT X.N scope tt tg = true) (hs : noSet iter = true)
    (he : ∀ (s : Shared) (H : Hp) (C : Addr) (cl : List (Str × Addr)) (fp : List Addr), PE (X.blk s H scope (compEnvC scope cl C X.env) fp) x (rdE (ctOf X) L W0 elt))
    (ht : ∀ (s : Shared) (H : Hp) (C : Addr) (cl : List (Str × Addr)) (fp : List Addr), PTs (X.blk s H scope (compEnvC scope cl C X.env) fp) ifs (rdC (ctOf X) L c)) :
    PE X (.ListComp x [⟨tg, iter, ifs, 0⟩] scope pos) (rdE (ctOf X) L W (.lc m elt tt it c)) := by
  have base : PE X (.ListComp x [⟨tg, iter, ifs, 0⟩] scope pos) (rdP (ctOf X) W (lcW L m elt tt it c)) :=
    peI (pe_lc (G.calm hc).1 G.nd hi (blk_of G hb) (fun s H C cl fp => sg_t (X := X.blk s H scope (compEnvC scope cl C X.env) fp) rfl G.nd relS_ok (good_blk G (s := s) (H := H) (scope := scope) (cl := cl) (C := C) (fp := fp)).fn (G.calm hc).1 tt tg hT) ht he (folded_of hs)) fun σ H Q h => by
      rw [ho]
      exact lc_imp h
  cases hk : notKeys it with
  | true =>
    refine peI base fun σ H Q ⟨r, env, st, Q', X', R, Re, w, k, xw⟩ => ⟨r, env, st, Q', X', R, Re, ?_, k, xw⟩
    unfold wpE at w
    rw [lockIt_no hk] at w
    exact w
  | false =>
    cases it with
    | keys a => exact peI (pe_lock base) fun σ H Q h => lock_imp (fun _ _ _ _ _ z => z) h
    | _ => cases hk
end
end DL

set_option maxHeartbeats 1000000
/-! DLBi: built-in functions and methods, isinstance, constants, [::-1]. -/
namespace PySem
open Sem (wp)
open Builtin AutoSeq1
theorem list_extend_list_tupleG (l : Addr) (items : Array Value) (n : Nat) (b : Addr) (items2 : Array Value) (n2 : Nat) (dd : Option Addr) (sl : Array (Option Value)) (hs0 : ¬(!items.isEmpty && Builtin.List.listTooLong (items.size + items2.size)) = true) (hs1 : items.size ≤ sizeLine) (hs2 : items.size + items2.size ≤ sizeLine + 1) :
    Meets (Builtin.«list.extend» ⟨[.ref l, .ref b], []⟩) (fun _ R s => s.heap.get? l = some { cls := .type "list", dict := none, data := .seq items n, slots := #[] } ∧ s.heap.get? b = some { cls := .type "tuple", dict := dd, data := .seq items2 n2, slots := sl } ∧ R (.ok (.ret Value.none)) { s with heap := s.heap.update l (Obj.mapSeq fun x => x ++ items2), toks := s.toks }) :=
  .of_wp fun prog w A R s h => by
    obtain ⟨hp, g, d, tk, os⟩ := s; obtain ⟨hl, hb, h⟩ := h; have f1 := idx_int; have f2 := sub_tuple_tuple; have f3 := sub_list_list; have f4 := sub_tuple_list; have f5 := sub_list_tuple;
    have hz' : (items ++ items2).size ≤ sizeLine + 1 := by rw [Array.size_append]; exact hs2
    wp_walk using (wpAny_updateSeq hl rfl (hz := hs1) (_hz' := hz')), wpAny_loadPart' hl, wpAny_loadPart' hb; exact ⟨_, rfl, h⟩
end PySem
namespace DL
open PySem PySem.Spec PyProof.Rows L2

def Bi.isTy : Bi → Bool
  | .int_ | .str_ | .tuple_ | .list_ | .type_ | .dict1 | .bool_ | .set_ => true
  | _ => false
theorem boot_of (f : Bi) : bootBuiltins (Str.ofString f.nm) = some f.val := by cases f <;> decide +kernel
theorem nm_ok (f : Bi) : Str.ofString f.nm ≠ "__name__" ∧ (Str.ofString f.nm == ("__debug__" : Str)) = false := by cases f <;> decide +kernel

section
variable {X : Cx} {L : Lib} {T : Tab} {k : Nat} {sc : Scope} {W : WX} {cm : Bool}
theorem bi_now {m : Bool} {f : Bi} {es : Es} {σ : L2.St} {H : Hp} {Q : VK} (h : rdE (ctOf X) L W (.bi m f es) σ H Q) : tCB (rBi (ctOf X) m f) (rdEs (ctOf X) L W es) σ H Q := by
  obtain ⟨r, env, st, Q', X', R, Re, w, k, xw⟩ := h
  exact ⟨r, env, st, _, X', R, Re, w, fun r1 st1 H1 ds vs f1 R1 q1 w1 => ⟨r1, st1, ds, Q', R1, q1, w1, k.mono f1⟩, xw⟩
theorem sd_bi {m : Bool} {f : Bi} {es : Es} {x : Expr} {xs : List Expr} {p p2 : Pos} {nm : Str} (G : Good L T k X sc W cm) (hc : cm = true) (en : nm = Str.ofString f.nm) (hg : Gl X nm) (hf : T.free.contains f.nm = true)
    (hs : ∀ y ∈ x :: xs, noStar y = true) (h : PA X (x :: xs) (rdEs (ctOf X) L W es)) : PE X (.Call (.Name nm p2) (x :: xs) [] p) (rdE (ctOf X) L W (.bi m f es)) := by
  subst en
  have hm : X.mg (Str.ofString f.nm) = none := G.lib.free _ (by simpa using hf)
  have cr := cr_bi (C := ctOf X) rfl G.un (G.calm hc).1 m f
  have e1 := star_cons (es := xs) (env := X.env) (hs x (by simp))
  have e2 : (backTo p (starEach xs X.env)).any (·.1) = false := any_star fun z m => hs z (by simp [m])
  cases hv : f.val with
  | builtin id =>
    rw [hv] at cr
    exact peI (pe_callB cr hg hm (by rw [boot_of, hv]) h (nm_ok f).1 (nm_ok f).2 e1 e2) fun σ H Q q => bi_now q
  | type id =>
    rw [hv] at cr
    exact peI (pe_callTy cr hg hm (by rw [boot_of, hv]) h (nm_ok f).1 (nm_ok f).2 e1 e2) fun σ H Q q => bi_now q
  | _ => cases f <;> cases hv
/-! ### isinstance -/
theorem ty_at {C : Ct} {r : Lay} {st : Sto} {H : Hp} {d : D} {v : V} {u : TyN} (R : Rel C r st H) (q : RD C r H d v) (e : tyOf st d = some u) : TyX C.K H v (.type u.nm) := by
  cases q with
  | non => cases e; exact .base .non
  | bl b => cases e; exact .base (.bl b)
  | int i => cases e; exact .base (.int i)
  | str s => cases e; exact .base (.str _)
  | tup h t => cases e; exact .base (.tup h.1)
  | lst h t => cases e; exact .base (.lst h.1)
  | scr xs h =>
    cases e
    rcases h with ⟨⟨o, h⟩, _⟩ | ⟨o, its, n, h1, h2, _⟩
    · exact .base (.frz h)
    · exact .kList h1 h2
  | kt xs h => cases e; obtain ⟨o, its, n, h1, h2, _⟩ := h; exact .kTuple h1 h2
  | gl => cases e
  | ty => cases e
  | @loc n a h =>
    have e : (match st[n]? with
      | some (.lst _) => some TyN.list
      | some (.dct _ _) => some TyN.dict
      | _ => none) = some u := e
    cases e2 : st[n]? with
    | none => rw [e2] at e; cases e
    | some c =>
      rw [e2] at e
      have k := R.cells n c a e2 h
      cases c with
      | lst ys => cases e; obtain ⟨vs, k1, _⟩ := k; exact .base (.lst k1)
      | dct t kvs =>
        cases e
        cases t with
        | false => obtain ⟨vs, k1, _⟩ := k; exact .base (.dK k1)
        | true => obtain ⟨vs, k1, _⟩ := k; exact .base (.dT k1)
      | dctF _ _ => cases e
      | obj _ _ => cases e
theorem kit_sub (u t : TyN) (ht : t ≠ .non) : kitB u.nm t.nm = some (TyN.sub u t) := by
  cases t <;> first | exact absurd rfl ht | (cases u <;> decide +kernel)
theorem ty_boot (t : TyN) (ht : t ≠ .non) : bootBuiltins (Str.ofString t.nm) = some (.type t.nm) := by
  cases t <;> first | exact absurd rfl ht | decide +kernel
theorem ty_nm (t : TyN) : Str.ofString t.nm ≠ "__name__" ∧ (Str.ofString t.nm == ("__debug__" : Str)) = false := by cases t <;> decide +kernel
theorem sd_isi {a : E} {t : TyN} {x : Expr} {p p2 p3 : Pos} (G : Good L T k X sc W cm) (ht : t ≠ .non) (hg : Gl X "isinstance") (hg2 : Gl X (Str.ofString t.nm)) (hf : T.free.contains "isinstance" = true) (hf2 : T.free.contains t.nm = true) (hs : noStar x = true)
    (ha : PE X x (rdE (ctOf X) L W a)) : PE X (.Call (.Name "isinstance" p2) [x, .Name (Str.ofString t.nm) p3] [] p) (rdE (ctOf X) L W (.isi a t)) := by
  have hm : X.mg "isinstance" = none := G.lib.free "isinstance" (by simpa using hf)
  have hm2 : X.mg (Str.ofString t.nm) = none := G.lib.free _ (by simpa using hf2)
  have pt : PE X (.Name (Str.ofString t.nm) p3) (tC (.ty t.nm)) := pe_bltn hg2 hm2 (ty_boot t ht) rfl (ty_nm t).1 (ty_nm t).2
  refine peI (pe_callB call_isi hg hm (by decide +kernel) (pa_cons ha (pa_cons pt pa_nil (star_cons rfl)) (star_cons hs)) (by decide) (by decide) (star_cons hs) (any_star fun e m => by simp at m; subst m; rfl)) fun σ H Q ⟨r, env, st, Q', X', R, Re, w, k, xw⟩ => ?_
  refine ⟨r, env, st, _, X', R, Re, w, fun r1 st1 H1 d v f1 R1 q1 w1 => ?_, xw⟩
  obtain ⟨u, e, w1⟩ := onSome_iff (show onSome (tyOf st1 d) _ from w1)
  exact ⟨v, .ty t.nm, _, _, _, rfl, .ty _, ty_at R1 q1 e, kit_ty (kit_sub u t ht), k r1 st1 H1 _ _ f1 R1 (.bl _) w1⟩
/-! ### the module's names -/
theorem sd_g {x : String} {nm : Str} {p : Pos} (G : Good L T k X sc W cm) (en : nm = Str.ofString x) (hg : Gl X nm) (hd : (nm == ("__debug__" : Str)) = false) (hf : x ∈ T.globs) : PE X (.Name nm p) (rdE (ctOf X) L W (.g x)) := by
  subst en
  obtain ⟨d, u, v, e, hm, rv, q⟩ := G.lib.glob x hf
  refine sd_c (pe_glob hg hm rv hd) q fun env st Q X' w => ?_
  have w : onSome (L.glob x) fun d => Q d st := w
  rw [e] at w
  exact w
/-! ### methods of built-in types -/
def Bm.id : Bm → String
  | .append => "list.append" | .extend => "list.extend" | .pop0 => "list.pop" | .pop1 => "list.pop" | .remove => "list.remove" | .index => "list.index" | .count => "list.count" | .get1 => "dict.get" | .get2 => "dict.get" | .setdefault => "dict.setdefault"
  | .join => "str.join" | .split1 => "str.split" | .find => "str.find" | .reverse => "list.reverse" | .insert => "list.insert" | .update => "dict.update" | .clear => "dict.clear" | .dpop1 => "dict.pop" | .scount => "str.count"
def rBm (C : Ct) (f : Bm) : V → List V → Hp → VK → Prop := fun x xs H Q => ∃ r st o ds Q', Rel C r st H ∧ RD C r H o x ∧ RDs C r H ds xs ∧ wpBm f o ds st Q' ∧ Kp C r H Q' Q
theorem rds0 {C : Ct} {r : Lay} {H : Hp} {vs : List V} (q : RDs C r H [] vs) : vs = [] := by cases q; rfl
theorem rds1 {C : Ct} {r : Lay} {H : Hp} {d : D} {vs : List V} (q : RDs C r H [d] vs) : ∃ v, vs = [v] ∧ RD C r H d v := by
  cases q with | cons a t => cases t; exact ⟨_, rfl, a⟩
theorem rds2 {C : Ct} {r : Lay} {H : Hp} {d e : D} {vs : List V} (q : RDs C r H [d, e] vs) : ∃ v u, vs = [v, u] ∧ RD C r H d v ∧ RD C r H e u := by
  cases q with | cons a t => cases t with | cons b t => cases t; exact ⟨_, _, rfl, a, b⟩
/-- the store's list is written -/
theorem Kp.setL {C : Ct} {r : Lay} {H : Hp} {Q' : D → Sto → Prop} {Q : VK} {st : Sto} {n : Nat} {a : Addr} {xs : List D} {vs : List V} {d : D} {v : V} (k : Kp C r H Q' Q) (R : Rel C r st H) (hr : r.1[n]? = some a) {ws : List V} (k0 : H a = some (.lst ws)) (q : RDs C r H xs vs) (qd : RD C r H d v)
    (h : Q' d (st.set n (.lst xs))) : Q v (upd H a (.lst vs)) :=
  k r (st.set n (.lst xs)) _ d v (Fut.set hr (Mut.nf k0 trivial)) (R.set (c := .lst xs) hr (Mut.nf k0 trivial) ⟨vs, upd_same, q.fut (Fut.set hr (Mut.nf k0 trivial))⟩) (qd.fut (Fut.set hr (Mut.nf k0 trivial))) h
theorem RDs.dropLast {C : Ct} {r : Lay} {H : Hp} {xs : List D} {vs : List V} (q : RDs C r H xs vs) : RDs C r H xs.dropLast vs.dropLast := by
  rw [List.dropLast_eq_take, List.dropLast_eq_take, q.length]
  exact q.take _
theorem strs_at {C : Ct} {r : Lay} {H : Hp} : ∀ {ys : List String} {vs : List V}, RDs C r H (ys.map D.str) vs → vs = (ys.map Str.ofString).map V.str
  | [], _, .nil => rfl
  | y :: ys, _, .cons q t => by
    cases q
    rw [strs_at t]
    rfl
theorem join_of' (z : String) : ∀ ys : List String, Str.join (Str.ofString z) (ys.map Str.ofString) = Str.ofString (String.intercalate z ys)
  | [] => by rw [String.intercalate_nil]; rfl
  | [y] => by rw [String.intercalate_singleton]; rfl
  | x :: y :: ys => by
    rw [String.intercalate_cons_cons, ← ofS_append, ← ofS_append, ← join_of' z (y :: ys)]
    rfl
theorem join_of (z : String) (ys : List String) : Txt.join (Str.ofString z) (ys.map Str.ofString) = Str.ofString (String.intercalate z ys) := by
  rw [TL.join_eq]
  exact join_of' z ys
theorem place_of {d : D} (pd : D.pure d = true) : ∀ {ys : List D}, D.pures ys = true → PySem.SeqAt.dataPlace (ys.map toP) (toP d) = ys.findIdx? fun y => D.eqv y d
  | [], _ => rfl
  | y :: ys, h => by
    rw [D.pures, Bool.and_eq_true] at h
    have ih := place_of pd h.2
    unfold PySem.SeqAt.dataPlace at ih ⊢
    rw [List.map_cons, List.findIdx?_cons, List.findIdx?_cons, toP_eqv y d h.1 pd, ih]
mutual
theorem toP_plain : ∀ d : D, (toP d).plain = true
  | .non | .bl _ | .int _ | .loc _ | .gl _ | .ty _ | .scr _ | .kt _ => by simp [toP, PyData.plain]
  | .str s => by simp [toP, PyData.plain]
  | .tup xs => by simp [toP, PyData.plain, toPs_plain xs]
  | .lst xs => by simp [toP, PyData.plain, toPs_plain xs]
theorem toPs_plain : ∀ d : List D, PyData.plainAll (toPs d) = true
  | [] => by simp [toPs, PyData.plainAll]
  | x :: xs => by simp [toPs, PyData.plainAll, toP_plain x, toPs_plain xs]
end
theorem cnt_of (c : Char) : ∀ l : List Char, cnt c.toNat (l.map Char.toNat) = (l.count c : Nat)
  | [] => rfl
  | x :: l => by
    rw [List.map_cons, cnt_cons, cnt_of c l, List.count_cons]
    by_cases e : x = c
    · subst e
      rw [if_pos rfl, if_pos (by simp)]
      omega
    · have ne : ¬ x.toNat = c.toNat := fun z => e (Char.ext (UInt32.toNat_inj.mp z))
      rw [if_neg ne, if_neg (by simpa using e)]
      omega
theorem count_of {s z : String} {c : Char} (e : z.toList = [c]) : Txt.count (Str.ofString s) (Str.ofString z) = (s.toList.count c : Nat) := by
  have ez : Str.ofString z = ⟨#[c.toNat]⟩ := by rw [Str.ofString_eq_toList, e]; rfl
  rw [ez, count_cnt, ofS_cps, cnt_of]
theorem scount_iff {s z : String} {st : Sto} {Q : D → Sto → Prop} (h : wpBm .scount (.str s) [.str z] st Q) : ∃ c, z.toList = [c] ∧ Q (.int (s.toList.count c : Nat)) st := by
  have h2 : (match z.toList with
    | [c] => Q (.int (s.toList.count c : Nat)) st
    | _ => False) := h
  split at h2
  · rename_i c e; exact ⟨c, e, h2⟩
  · exact h2.elim
/-- xs.extend(a tuple) -/
theorem mt_extendT : MtR X "list.extend" (fun x vs H Q => ∃ (l b : Addr) (xs zs : List V), x = .ref l ∧ vs = [.ref b] ∧ H l = some (.lst xs) ∧ SqT X.K H b zs ∧ xs.length + zs.length ≤ sizeLine ∧ Q .non (upd H l (.lst (xs ++ zs)))) := by
  intro pins s σ H x vs v us Q I rx rv h
  obtain ⟨l, b, xs, zs, rfl, rfl, hH, hB, hz, q⟩ := h
  cases rx
  obtain ⟨u, rfl, ru⟩ := vals1 rv
  cases ru
  obtain ⟨z, its, n, r, hl, e⟩ := I.lstM hH
  obtain ⟨its2, r2, ⟨o, e2, hc2, n2, hd2⟩, _⟩ := I.tuple hB
  obtain ⟨c2, dd, dat, sl⟩ := o
  dsimp only at hc2 hd2
  subst hc2 hd2
  have hl2 := r2.length
  have hsz : its.toArray.size + its2.toArray.size ≤ sizeLine := by rw [List.size_toArray, List.size_toArray]; omega
  have hlong : ¬ (!its.toArray.isEmpty && Builtin.List.listTooLong (its.toArray.size + its2.toArray.size)) = true := by
    rw [notLongL hsz, Bool.and_false]
    exact Bool.false_ne_true
  refine call_meets F.slot_list_extend ⟨_, e, rfl⟩ F.entry_list_extend (F.args_list_extend_2 _ _)
    (PySem.list_extend_list_tupleG l its.toArray n b its2.toArray n2 dd sl hlong (by rw [List.size_toArray]; omega) (by omega)) ⟨e, e2, ?_⟩
  refine ⟨.non, _, I.lset (its' := its ++ its2) hH e (by simp) (r.append r2) ?_, rfl, q⟩
  rw [List.length_append]
  omega
theorem strs_flat {C : Ct} {r : Lay} {H : Hp} : ∀ {ys : List D} {vs : List V}, RDs C r H ys vs → (ys.all isStrD) = true → vs.all flatV = true
  | _, _, .nil, _ => rfl
  | _, _, .cons q t, h => by
    rw [List.all_cons, Bool.and_eq_true] at h
    rw [List.all_cons, strs_flat t h.2]
    cases q <;> first | (cases h.1; done) | rfl
theorem str_eqV {C : Ct} {r : Lay} {H : Hp} {y : D} {z : String} {v : V} (q : RD C r H y v) (hs : isStrD y = true) : eqV v (.str (Str.ofString z)) = D.eqv y (.str z) := by
  cases q <;> first | (cases hs; done) | skip
  rename_i s
  show (Str.ofString s == Str.ofString z) = (s == z)
  by_cases e : s = z
  · subst e; simp
  · rw [beq_eq_false_iff_ne.mpr e, beq_eq_false_iff_ne.mpr fun h => e (ofS_inj h)]
theorem mt_bm (hu : X.A.units + 65 < cLine) (f : Bm) : MtR X f.id (rBm (ctOf X) f) := by
  intro pins s σ H x xs v us Q I rx rxs h
  obtain ⟨r, st, o, ds, Q', R, qo, qd, hw, k⟩ := h
  cases f with
  | append =>
    cases qo with
    | @loc n a hr =>
      match ds, hw, qd with
      | [d], hw, qd =>
        obtain ⟨y, rfl, qy⟩ := rds1 qd
        obtain ⟨c, e, hw⟩ := onSome_iff (show onSome st[n]? _ from hw)
        obtain ⟨ys, rfl, hz, hw⟩ := onLst_iff hw
        obtain ⟨vs, k1, k2⟩ := R.cells n _ a e hr
        exact mt_append pins s σ H _ _ v us Q I rx rxs ⟨a, vs, y, rfl, rfl, k1, by rw [← k2.length]; exact hz, k.setL R hr k1 (k2.append (.cons qy .nil)) .non hw⟩
      | [], hw, _ => exact hw.elim
      | _ :: _ :: _, hw, _ => exact hw.elim
    | _ => exact hw.elim
  | extend =>
    cases qo with
    | @loc n a hr =>
      match ds, hw, qd with
      | [d], hw, qd =>
        obtain ⟨y, rfl, qy⟩ := rds1 qd
        obtain ⟨c, e, hw⟩ := onSome_iff (show onSome st[n]? _ from hw)
        obtain ⟨ys, rfl, hw⟩ := onLst_iff hw
        obtain ⟨vs, k1, k2⟩ := R.cells n _ a e hr
        cases qy with
        | lst h t =>
          obtain ⟨hz, hw⟩ := (show _ ∧ Q' _ _ from hw)
          exact mt_extend pins s σ H _ _ v us Q I rx rxs ⟨a, _, vs, _, rfl, rfl, k1, h.1, by rw [← k2.length, ← t.length]; exact hz, k.setL R hr k1 (k2.append t) .non hw⟩
        | tup h t =>
          obtain ⟨hz, hw⟩ := (show _ ∧ Q' _ _ from hw)
          refine mt_extendT pins s σ H _ _ v us Q I rx rxs ⟨a, _, vs, _, rfl, rfl, k1, h.sq, by rw [← k2.length, ← t.length]; exact hz, k.setL R hr k1 (k2.append t) .non hw⟩
        | @loc m b hm =>
          obtain ⟨c, e2, hw⟩ := onSome_iff (show onSome st[m]? _ from hw)
          obtain ⟨zs, rfl, hz, hw⟩ := onLst_iff hw
          obtain ⟨us', k3, k4⟩ := R.cells m _ b e2 hm
          exact mt_extend pins s σ H _ _ v us Q I rx rxs ⟨a, _, vs, _, rfl, rfl, k1, k3, by rw [← k2.length, ← k4.length]; exact hz, k.setL R hr k1 (k2.append k4) .non hw⟩
        | _ => exact hw.elim
      | [], hw, _ => exact hw.elim
      | _ :: _ :: _, hw, _ => exact hw.elim
    | _ => exact hw.elim
  | pop0 =>
    cases qo with
    | @loc n a hr =>
      match ds, hw, qd with
      | [], hw, qd =>
        obtain rfl := rds0 qd
        obtain ⟨c, e, hw⟩ := onSome_iff (show onSome st[n]? _ from hw)
        obtain ⟨ys, rfl, hw⟩ := onLst_iff hw
        obtain ⟨d, e3, hw⟩ := onSome_iff hw
        obtain ⟨vs, k1, k2⟩ := R.cells n _ a e hr
        rw [List.getLast?_eq_getElem?] at e3
        obtain ⟨y, e4, qy⟩ := k2.get e3
        rw [k2.length] at e4
        exact mt_pop pins s σ H _ _ v us Q I rx rxs ⟨a, vs, y, rfl, rfl, k1, e4, k.setL R hr k1 k2.dropLast qy hw⟩
      | _ :: _, hw, _ => exact hw.elim
    | _ => exact hw.elim
  | pop1 =>
    cases qo with
    | @loc n a hr =>
      match ds, hw, qd with
      | [d], hw, qd =>
        obtain ⟨y, rfl, qy⟩ := rds1 qd
        obtain ⟨i, rfl, hw⟩ := onInt_iff (show onInt d _ from hw)
        cases qy
        obtain ⟨c, e, hw⟩ := onSome_iff hw
        obtain ⟨ys, rfl, hi, hw⟩ := onLst_iff hw
        obtain ⟨j, ej, hw⟩ := onSome_iff hw
        obtain ⟨d, e3, hw⟩ := onSome_iff hw
        obtain ⟨vs, k1, k2⟩ := R.cells n _ a e hr
        obtain ⟨y, e4, qy⟩ := k2.get e3
        refine mt_popAt pins s σ H _ _ v us Q I rx rxs ⟨a, vs, i, j, y, rfl, rfl, k1, hi.1, hi.2, ?_, e4, k.setL R hr k1 (k2.eraseIdx j) qy hw⟩
        rw [← k2.length]
        exact (ixN_seq ej).1
      | [], hw, _ => exact hw.elim
      | _ :: _ :: _, hw, _ => exact hw.elim
    | _ => exact hw.elim
  | setdefault =>
    cases qo with
    | @loc n a hr =>
      match ds, hw, qd with
      | [d, z], hw, qd =>
        obtain ⟨y, y2, rfl, qy, qz⟩ := rds2 qd
        obtain ⟨c, e, hw⟩ := onSome_iff (show onSome st[n]? _ from hw)
        obtain ⟨t, kvs, rfl, ⟨rfl, hk, hl⟩, h1, h2⟩ := onDct_iff hw
        obtain ⟨vs, k1, k2⟩ := R.cells n _ a e hr
        obtain ⟨kk, k3, rfl⟩ := key1_at hk qy
        obtain ⟨u, u2, rfl, ry, ry2⟩ := vals2 rxs
        cases rx
        have ro := k2.get keyD_eq k3
        refine d_setd I k1 ry ry2 (by rw [← k2.length]; exact hl) (fun v hv w' s' I' rw' => ?_) fun hv w' s' I' rw' => ?_
        · rw [hv] at ro
          cases e1 : dGet kvs d with
          | none => rw [e1] at ro; exact ro.elim
          | some x => rw [e1] at ro; exact ⟨_, H, I', rw', k.now R ro (h1 x e1)⟩
        · rw [hv] at ro
          cases e1 : dGet kvs d with
          | some x => rw [e1] at ro; exact ro.elim
          | none =>
            have f := Fut.set (o := .dK (putK vs kk y2)) hr (Mut.nf k1 trivial)
            exact ⟨_, _, I', rw', k r _ _ z _ f (R.set (c := .dct false (dPut kvs d z)) hr (Mut.nf k1 trivial) ⟨_, upd_same, RKs.put keyD_eq k3 (qz.fut f) (k2.fut f)⟩) (qz.fut f) (h2 e1)⟩
      | [], hw, _ => exact hw.elim
      | [_], hw, _ => exact hw.elim
      | _ :: _ :: _ :: _, hw, _ => exact hw.elim
    | _ => exact hw.elim
  | get1 =>
    cases qo with
    | @loc n a hr =>
      match ds, hw, qd with
      | [d], hw, qd =>
        obtain ⟨y, rfl, qy⟩ := rds1 qd
        obtain ⟨c, e, hw⟩ := onSome_iff (show onSome st[n]? _ from hw)
        obtain ⟨t, kvs, rfl, hk, hw⟩ := onDct_iff hw
        obtain ⟨o, g, ro⟩ := dct_get (R.cells n _ a e hr) hk qy
        obtain ⟨u, rfl, ry⟩ := vals1 rxs
        cases rx
        refine d_get1 (by have := hu; omega) I g ry fun w' s' I' rw' => ⟨_, H, I', rw', k.now R ?_ hw⟩
        unfold ROp at ro
        split at ro
        · next e1 => rw [e1]; exact ro
        · next e1 => rw [e1]; exact .non
        · exact ro.elim
      | [], hw, _ => exact hw.elim
      | _ :: _ :: _, hw, _ => exact hw.elim
    | _ => exact hw.elim
  | get2 =>
    cases qo with
    | @loc n a hr =>
      match ds, hw, qd with
      | [d, z], hw, qd =>
        obtain ⟨y, y2, rfl, qy, qz⟩ := rds2 qd
        obtain ⟨c, e, hw⟩ := onSome_iff (show onSome st[n]? _ from hw)
        obtain ⟨t, kvs, rfl, hk, hw⟩ := onDct_iff hw
        obtain ⟨o, g, ro⟩ := dct_get (R.cells n _ a e hr) hk qy
        obtain ⟨u, u2, rfl, ry, ry2⟩ := vals2 rxs
        cases rx
        refine d_get2 (by have := hu; omega) I g ry ry2 fun w' s' I' rw' => ⟨_, H, I', rw', k.now R ?_ hw⟩
        unfold ROp at ro
        split at ro
        · next e1 => rw [e1]; exact ro
        · next e1 => rw [e1]; exact qz
        · exact ro.elim
      | [], hw, _ => exact hw.elim
      | [_], hw, _ => exact hw.elim
      | _ :: _ :: _ :: _, hw, _ => exact hw.elim
    | _ => exact hw.elim
  | remove =>
    cases qo with
    | @loc n a hr =>
      match ds, hw, qd with
      | [d], hw, qd =>
        obtain ⟨y, rfl, qy⟩ := rds1 qd
        obtain ⟨c, e, hw⟩ := onSome_iff (show onSome st[n]? _ from hw)
        obtain ⟨ys, rfl, c1, c2, hw⟩ := onLst_iff hw
        obtain ⟨j, ej, hw⟩ := onSome_iff hw
        obtain ⟨vs, k1, k2⟩ := R.cells n _ a e hr
        obtain ⟨p1, d1⟩ := cmpD_iff c1
        obtain ⟨p2, d2⟩ := cmpD_iff c2
        have p2 : D.pures ys = true := by simpa [D.pure] using p2
        have d2 : D.depths ys ≤ 59 := by rw [D.depth] at d2; omega
        obtain ⟨u, rfl, ry⟩ := vals1 rxs
        cases rx
        obtain ⟨z, its, nn, rv, hl, e0⟩ := I.lstM k1
        obtain ⟨as, rs⟩ := PySem.W.each_readsAll toP (each_reads (C := ctOf X) rfl I p2 (each_of k2 rv))
        obtain ⟨bs, rx⟩ := Dp.reads I (toP d) y u (qy.dp p1) ry
        have hj : j < its.length := by
          have := List.findIdx?_eq_some_iff_getElem.mp ej
          obtain ⟨h1, _⟩ := this
          rw [← hl, ← k2.length]; exact h1
        refine PySem.SeqAt.remove_list_data (vs := its.toArray) (j := j) ⟨_, e0, rfl, _, rfl⟩ rs rx (by rw [← toPs_map]; exact toPs_plain ys) (toP_plain d) ?_ (by rw [place_of p1 p2]; exact ej) (by rw [List.size_toArray, ← hl]; exact z) ?_
        · rw [← toPs_map, toPs_depth]
          have : min (D.depths ys) (toP d).depth ≤ D.depths ys := Nat.min_le_left _ _
          omega
        · refine ⟨.non, _, I.lset (its' := its.eraseIdx j) k1 e0 ?_ (rv.eraseIdx j) ?_, rfl, k.setL R hr k1 (k2.eraseIdx j) .non hw⟩
          · show its.toArray.eraseIdxIfInBounds j = (its.eraseIdx j).toArray
            rw [List.eraseIdxIfInBounds_toArray]
          · have := List.length_eraseIdx_le (l := vs) (i := j)
            omega
      | [], hw, _ => exact hw.elim
      | _ :: _ :: _, hw, _ => exact hw.elim
    | _ => exact hw.elim
  | join =>
    cases qo with
    | str z =>
      match ds, hw, qd with
      | [d], hw, qd =>
        obtain ⟨y, rfl, qy⟩ := rds1 qd
        obtain ⟨xs, e, hw⟩ := onSome_iff (show onSome (seqOf st d) _ from hw)
        obtain ⟨ys, rfl, hz, hw⟩ := hw
        obtain ⟨p, vs, rfl, t, sq⟩ := seq_at R qy e
        obtain rfl := strs_at t
        refine mt_join pins s σ H _ _ v us Q I rx rxs ⟨_, p, ys.map Str.ofString, rfl, rfl, (sq.elim (fun ⟨_, _, h⟩ => .inr h.sq) .inl), ?_, ?_⟩
        · rw [List.map_map, List.length_map, ofS_len]
          have : (ys.map (·.length)) = ys.map ((fun x : Str => x.length) ∘ Str.ofString) := List.map_congr_left fun s _ => (ofS_len s).symm
          rw [← this]
          exact hz
        · rw [join_of]
          exact k.now R (.str _) hw
      | [], hw, _ => exact hw.elim
      | _ :: _ :: _, hw, _ => exact hw.elim
    | _ => exact hw.elim
  | index =>
    cases qo with
    | lst h t =>
      match ds, hw, qd with
      | [d], hw, qd =>
        obtain ⟨y, rfl, qy⟩ := rds1 qd
        cases qy with
        | str z =>
          obtain ⟨hs, hw⟩ := (show _ ∧ onSome _ _ from hw)
          obtain ⟨j, ej, hw⟩ := onSome_iff hw
          obtain ⟨hj, e1, e2⟩ := List.findIdx?_eq_some_iff_getElem.mp ej
          obtain ⟨w, ew, qw⟩ := t.get (List.getElem?_eq_getElem hj)
          refine mt_index pins s σ H _ _ v us Q I rx rxs ⟨_, _, _, j, w, rfl, rfl, h.sq, rfl, strs_flat t hs, ew, ?_, fun m z' hm ez => ?_, k.now R (.int _) hw⟩
          · rw [str_eqV qw (List.all_eq_true.mp hs _ (List.getElem_mem hj))]
            exact e1
          · have hm2 : m < _ := Nat.lt_trans hm hj
            obtain ⟨w2, ew2, qw2⟩ := t.get (List.getElem?_eq_getElem hm2)
            rw [ez] at ew2
            cases ew2
            rw [str_eqV qw2 (List.all_eq_true.mp hs _ (List.getElem_mem hm2))]
            have := e2 m hm
            simpa using this
        | _ => exact hw.elim
      | [], hw, _ => exact hw.elim
      | d :: _ :: _, hw, _ => cases d <;> exact hw.elim
    | _ => exact hw.elim
  | scount =>
    cases qo with
    | str z =>
      match ds, hw, qd with
      | [d], hw, qd =>
        obtain ⟨y, rfl, qy⟩ := rds1 qd
        cases qy with
        | str y =>
          obtain ⟨c, e, hw⟩ := scount_iff hw
          refine mt_count pins s σ H _ _ v us Q I rx rxs ⟨_, _, rfl, rfl, ?_⟩
          rw [count_of e]
          exact k.now R (.int _) hw
        | _ => exact hw.elim
      | [], hw, _ => exact hw.elim
      | d :: _ :: _, hw, _ => cases d <;> exact hw.elim
    | _ => exact hw.elim
  | _ => exact hw.elim
theorem bm_facts (f : Bm) {n : Nat} (h : f.ok n = true) : PySem.PlainAttrs f.ty.nm ∧ Slot f.ty.nm (Str.ofString f.nm) f.id ∧ typeOf (.builtin f.id) = pure (.type "method_descriptor") := by
  cases f <;> first | (cases h; done) | skip
  · exact ⟨PySem.F.plainAttrs_list, PySem.F.slot_list_append, PySem.F.type_list_append⟩
  · exact ⟨PySem.F.plainAttrs_list, PySem.F.slot_list_extend, PySem.F.type_list_extend⟩
  · exact ⟨PySem.F.plainAttrs_list, PySem.F.slot_list_pop, PySem.F.type_list_pop⟩
  · exact ⟨PySem.F.plainAttrs_list, PySem.F.slot_list_pop, PySem.F.type_list_pop⟩
  · exact ⟨PySem.F.plainAttrs_list, PySem.F.slot_list_remove, PySem.F.type_list_remove⟩
  · exact ⟨PySem.F.plainAttrs_list, PySem.F.slot_list_index, PySem.F.type_list_index⟩
  · exact ⟨PySem.F.plainAttrs_dict, PySem.F.slot_dict_get, PySem.F.type_dict_get⟩
  · exact ⟨PySem.F.plainAttrs_dict, PySem.F.slot_dict_get, PySem.F.type_dict_get⟩
  · exact ⟨PySem.F.plainAttrs_dict, PySem.F.slot_dict_setdefault, PySem.F.type_dict_setdefault⟩
  · exact ⟨PySem.F.plainAttrs_str, PySem.F.slot_str_join, PySem.F.type_str_join⟩
  · exact ⟨PySem.F.plainAttrs_str, PySem.F.slot_str_count, PySem.F.type_str_count⟩
theorem bmTy_at {C : Ct} {r : Lay} {st : Sto} {H : Hp} {d : D} {v : V} {f : Bm} (R : Rel C r st H) (q : RD C r H d v) (h : bmTy f d st) : tyV C.K f.ty.nm v H := by
  unfold bmTy at h
  cases e : f.ty with
  | list =>
    rw [e] at h
    cases q <;> first | exact h.elim | skip
    · rename_i a xs vs ha t
      exact .inl ⟨rfl, vs, ha.sq⟩
    rename_i n a hr
    obtain ⟨c, e2, h⟩ := onSome_iff (show onSome st[n]? _ from h)
    obtain ⟨ys, rfl, _⟩ := onLst_iff h
    obtain ⟨vs, k1, k2⟩ := R.cells n _ a e2 hr
    exact .inl ⟨rfl, vs, SqL.of k1⟩
  | str =>
    rw [e] at h
    cases q <;> first | exact h.elim | skip
    rfl
  | dict =>
    rw [e] at h
    cases q <;> first | exact h.elim | skip
    rename_i n a hr
    obtain ⟨c, e2, h⟩ := onSome_iff (show onSome st[n]? _ from h)
    obtain ⟨t, kvs, rfl, _⟩ := onDct_iff h
    cases t with
    | false => obtain ⟨vs, k1, k2⟩ := R.cells n _ a e2 hr; exact .inr (.inr (.inl ⟨rfl, .inl ⟨vs, k1⟩⟩))
    | true => obtain ⟨vs, k1, k2⟩ := R.cells n _ a e2 hr; exact .inr (.inr (.inl ⟨rfl, .inr ⟨vs, k1⟩⟩))
theorem ok_le {f : Bm} {n : Nat} (h : f.ok n = true) : n ≤ 2 := by
  match n, h with
  | 0, _ => omega
  | 1, _ => omega
  | 2, _ => omega
  | n + 3, h => cases f <;> cases h
theorem sd_bm {f : Bm} {o : E} {es : Es} {x : Expr} {xs : List Expr} {nm : Str} {ap cp : Pos} (G : Good L T k X sc W cm) (en : nm = Str.ofString f.nm) (ho : PE X x (rdE (ctOf X) L W o)) (hb : noCall0 x = true) (ha : PA X xs (rdEs (ctOf X) L W es))
    (hs : ∀ y ∈ xs, noStar y = true) (hl : (ap.endLine == cp.line) = true) (hok : f.ok xs.length = true) (hnil : xs = [] → es = .nil) : PE X (.Call (.Attribute x nm ap) xs [] cp) (rdE (ctOf X) L W (.bm f o es)) := by
  subst en
  obtain ⟨f1, f2, f3⟩ := bm_facts f hok
  have hle := ok_le hok
  have imp : ∀ σ H Q, rdE (ctOf X) L W (.bm f o es) σ H Q → tBM X.K f.ty.nm (rBm (ctOf X) f) (rdE (ctOf X) L W o) (rdEs (ctOf X) L W es) σ H Q := fun σ H Q ⟨r, env, st, Q', X', R, Re, w, k, xw⟩ =>
    ⟨r, env, st, _, X', R, Re, w, fun r1 st1 H1 d v g1 R1 q1 w1 => ⟨bmTy_at R1 q1 w1.1, r1, env, st1, _, X', R1, Re.fut g1, w1.2, fun r2 st2 H2 ds vs g2 R2 q2 w2 => ⟨r2, st2, d, ds, Q', R2, q1.fut g2, q2, w2, (k.mono g1).mono g2⟩, xw.mono g1⟩, xw⟩
  match xs, hs, hok, hle, ha, hnil with
  | [], _, _, _, _, hnil =>
    obtain rfl := hnil rfl
    refine peI (pe_bm0 f1 f2 f3 (mt_bm G.un f) ho (base_of hb) hl) fun σ H Q ⟨r, env, st, Q', X', R, Re, w, k, xw⟩ => ?_
    exact ⟨r, env, st, _, X', R, Re, w, fun r1 st1 H1 d v g1 R1 q1 w1 => ⟨bmTy_at R1 q1 w1.1, r1, st1, d, [], Q', R1, q1, .nil, w1.2, k.mono g1⟩, xw⟩
  | [a], hs, _, _, ha, _ =>
    have e1 := star_cons (es := []) (env := X.env) (hs a (by simp))
    exact peI (pe_bm f1 f2 f3 (mt_bm G.un f) ho ha (base_of hb) (by rw [e1]; rfl) hl e1 rfl) imp
  | [a, b], hs, _, _, ha, _ =>
    have e1 := star_cons (es := [b]) (env := X.env) (hs a (by simp))
    have e2 := star_cons (es := []) (env := X.env) (hs b (by simp))
    exact peI (pe_bm f1 f2 f3 (mt_bm G.un f) ho ha (base_of hb) (by rw [e1, e2]; rfl) hl e1 (by rw [e2]; rfl)) imp
  | _ :: _ :: _ :: _, _, _, hle, _, _ => exact absurd hle (by simp)
/-! ### x == () -/
def rNilq (C : Ct) (neg : Bool) : R2 := fun x y H Q => ∃ r st d Q', Rel C r st H ∧ RD C r H d x ∧ RD C r H (.tup []) y ∧ D.pure d = true ∧ Q' (.bl (neg != D.eqv d (.tup []))) st ∧ Kp C r H Q' Q
theorem or_nilq (hK : X.K = C.K) (hu : X.A.units + 65 < cLine) (neg : Bool) : OpR X (compareOp (match neg with | true => CmpOp.NotEq | false => CmpOp.Eq)) (rNilq C neg) := by
  intro pins s σ H x y v u Q I rx ry h
  obtain ⟨r, st, d, Q', R, qx, qy, hp, hw, k⟩ := h
  obtain ⟨as, r1⟩ := Dp.reads I (toP d) x v (by rw [hK]; exact qx.dp hp) rx
  obtain ⟨bs, r2⟩ := Dp.reads I (toP (.tup [])) y u (by rw [hK]; exact qy.dp rfl) ry
  have hd : (toP (.tup [])).depth ≤ 1 := by rw [toP_depth]; decide
  have hm : min (toP d).depth (toP (.tup [])).depth ≤ (toP (.tup [])).depth := Nat.min_le_right _ _
  cases neg with
  | true =>
    refine PySem.SeqAt.ne_plain r1 r2 (toP_plain d) (toP_plain _) (by omega) ⟨.bl _, H, I, rfl, ?_⟩
    rw [toP_eqv d (.tup []) hp rfl]
    have := k.now R (.bl _) hw
    rw [Bool.true_bne] at this
    exact this
  | false =>
    refine PySem.SeqAt.eq_plain r1 r2 (toP_plain d) (toP_plain _) (by omega) ⟨.bl _, H, I, rfl, ?_⟩
    rw [toP_eqv d (.tup []) hp rfl]
    have := k.now R (.bl _) hw
    rw [Bool.false_bne] at this
    exact this
theorem sd_nilq {neg : Bool} {a : E} {x b : Expr} {p : Pos} (hu : X.A.units + 65 < cLine) (ha : PE X x (rdE (ctOf X) L W a)) (hb : PE X b (rdE (ctOf X) L W (.tup .nil))) (hs : noSet b = true) :
    PE X (.Compare x [match neg with | true => CmpOp.NotEq | false => CmpOp.Eq] [b] p) (rdE (ctOf X) L W (.nilq neg a)) :=
  peI (pe_cmpR (or_nilq (C := ctOf X) rfl hu neg) ha hb (behind_of hs)) fun σ H Q ⟨r, env, st, Q', X', R, Re, w, k, xw⟩ =>
    ⟨r, env, st, _, X', R, Re, w, fun r1 st1 H1 d v f1 R1 q1 w1 => ⟨r1, env, st1, fun d2 st2 => d2 = .tup [] ∧ D.pure d = true ∧ Q' (.bl (neg != D.eqv d (.tup []))) st2, X', R1, Re.fut f1, ⟨Nat.zero_le _, rfl, w1⟩, fun r2 st2 H2 d2 v2 f2 R2 q2 w2 => by
      obtain ⟨rfl, w3, w4⟩ := w2
      exact ⟨r2, st2, d, Q', R2, q1.fut f2, q2, w3, w4, (k.mono f1).mono f2⟩, xw.mono f1⟩, xw⟩
/-! ### [::-1] -/
theorem sd_revL {m : Bool} {a : E} {x : Expr} {kk : Nat} {p p1 p2 p3 : Pos} (ha : PE X x (rdE (ctOf X) L W a)) : True := trivial
end
end DL

set_option maxHeartbeats 1000000
/-! DLRev: x[::-1]. -/
namespace DL
open PySem PySem.Spec PyProof.Rows L2
section
variable {prog : Program} {w : World} {A : Around} {E : Value → Shared → Prop} {s : Shared}
theorem adjust_rev (n : Nat) : Builtin.Slice.sliceAdjust none none (-1) (n : Int) = ((n : Int) - 1, -1) := by
  unfold Builtin.Slice.sliceAdjust
  simp
theorem places_rev (n : Nat) : Builtin.Slice.slicePlaces ((n : Int) - 1) (-1) (-1) = n := by
  unfold Builtin.Slice.slicePlaces
  by_cases h : n = 0
  · subst h; decide
  · have h1 : ¬ ((-1 : Int) > 0) := by decide
    have h2 : -(-1 : Int) = 1 := by decide
    simp only [h1, if_false, h2, Int.ediv_one]
    split <;> omega
theorem pick_rev {α : Type} (xs : Array α) : ((List.range xs.size).filterMap fun (m : Nat) => xs[(((xs.size : Int) - 1) + (m : Int) * -1).toNat]?) = xs.toList.reverse := by
  have key : ∀ k, k ≤ xs.size → ((List.range k).filterMap fun (m : Nat) => xs[(((xs.size : Int) - 1) + (m : Int) * -1).toNat]?) = xs.toList.reverse.take k := fun k => by
    induction k with
    | zero => intro _; simp
    | succ k ih =>
      intro hk
      rw [List.range_succ, List.filterMap_append, ih (by omega), List.take_add_one]
      congr 1
      have e : (((xs.size : Int) - 1) + (k : Int) * -1).toNat = xs.size - 1 - k := by omega
      have e2 : xs.toList.reverse[k]? = xs.toList[xs.toList.length - 1 - k]? := List.getElem?_reverse (by rw [Array.length_toList]; omega)
      rw [e2, Array.getElem?_toList, Array.length_toList]
      simp only [List.filterMap_cons, List.filterMap_nil, e]
      cases xs[xs.size - 1 - k]? <;> rfl
  rw [key xs.size (Nat.le_refl _), List.take_of_length_le (by simp)]
theorem applied_rev {sl : Addr} {vs : Value} {n : Nat} {Q : Int × Int × Nat → Shared → Prop} (hs : s.heap.IsSliceOf sl .none .none vs) (ps : IsPart vs (some (-1))) (h : Q ((n : Int) - 1, -1, n) s) :
    wpAny (model prog w) A (Builtin.Slice.sliceApplied (.ref sl) (pure (n : Int))) Q E s := by
  obtain ⟨ob, h1, h2, h3⟩ := id hs
  unfold Builtin.Slice.sliceApplied Builtin.Slice.sliceFields
  refine wpAny_bind (wpAny_bind (wpAny_field h1 h3 (x := .none) rfl (wpAny_bind (wpAny_field h1 h3 (x := .none) rfl (wpAny_bind (wpAny_field h1 h3 (x := vs) rfl (wpAny_pure ?_)))))))
  refine wpAny_bind (HT.slicePart_ ps ?_)
  show wpAny _ _ (if ((-1 : Int) == 0) = true then _ else _) _ _ s
  rw [if_neg (by decide)]
  refine wpAny_bind (slicePart_none (wpAny_bind (slicePart_none (wpAny_bind (wpAny_pure ?_)))))
  show wpAny _ _ (match Builtin.Slice.sliceAdjust none none (-1) (n : Int) with | (lo, hi) => pure (lo, (-1 : Int), Builtin.Slice.slicePlaces lo hi (-1))) _ _ s
  rw [adjust_rev n]
  show wpAny _ _ (pure ((n : Int) - 1, (-1 : Int), Builtin.Slice.slicePlaces ((n : Int) - 1) (-1) (-1))) _ _ s
  rw [places_rev]
  exact wpAny_pure h
theorem getItem_rev {t sl : Addr} {items : Array Value} {vs : Value} {Q : Value → Shared → Prop} (ht : IsTup s.heap t items) (hs : s.heap.IsSliceOf sl .none .none vs) (ps : IsPart vs (some (-1)))
    (h : Q (.ref s.heap.objs.size) { s with heap := s.heap.push { cls := .type "tuple", data := .seq items.toList.reverse.toArray } }) (hz : items.size ≤ sizeLine) : wpAny (model prog w) A (getItem (.ref t) (.ref sl)) Q E s := by
  have hok : sizeOk (.seq items.toList.reverse.toArray) := by
    show items.toList.reverse.toArray.size ≤ sizeLine
    rw [List.size_toArray, List.length_reverse, Array.length_toList]; exact hz
  obtain ⟨ob, h1, h2, h3⟩ := id hs
  have hT : s.TypeIs (.ref sl) "slice" := ⟨ob, h1, h2⟩
  unfold getItem
  try with_reducible refine wpAny_holding ?_
  first | refine wpAny_bind (wpAny_pure ?_) | skip
  refine wpAny_bind (wpAny_sequenceKey ht.typeIs (by decide) ?_)
  refine wpAny_bind (wpAny_callSpecial?_slot (name := Str.ofString "__getitem__") ht.typeIs PyProof.Rows.slot_tuple_getitem (wpAny_call_entry PyProof.Rows.slot_tuple_getitem ht.typeIs entry_tuple_getitem ?_ (args_tuple_getitem _ _)))
  show wpAny _ _ (Builtin.Tuple.tupleItemsOf (.ref t) >>= _) _ _ s
  refine wpAny_bind (tupleItemsOf_ ht ?_)
  refine wpAny_bind (wpAny_typeOf hT ?_)
  rw [if_pos (by decide)]
  refine wpAny_bind (applied_rev hs ps ?_)
  have hno : ¬ ((((items.size : Int) - 1) == 0 && (-1 : Int) == 1 && items.size == items.size) = true) := by
    intro q
    rw [Bool.and_eq_true, Bool.and_eq_true] at q
    exact absurd q.1.2 (by decide)
  show wpAny _ _ (if (((items.size : Int) - 1) == 0 && (-1 : Int) == 1 && items.size == items.size) = true then _ else _) _ _ s
  rw [if_neg hno, pick_rev]
  first
    | exact wpAny_bind (m := Builtin.Tuple.tupleExact _) (wpAny_newObj_type (wpAny_pure ⟨_, rfl, wpAny_pure h⟩) hok)
    | exact wpAny_bind (m := Builtin.Tuple.tupleExact _) (wpAny_newObj_type (wpAny_bind (wpAny_pure (wpAny_pure ⟨_, rfl, wpAny_pure h⟩))) hok)
    | exact wpAny_bind (wpAny_bind (m := Builtin.Tuple.tupleExact _) (wpAny_newObj_type (wpAny_pure (wpAny_pure ⟨_, rfl, wpAny_pure h⟩)) hok))
    | exact wpAny_bind (wpAny_bind (m := Builtin.Tuple.tupleExact _) (wpAny_newObj_type (wpAny_pure ⟨_, rfl, wpAny_pure h⟩) hok))
end
section
variable {X : Cx} {L : Lib} {T : Tab} {k : Nat} {sc : Scope} {W : WX} {cm : Bool}
theorem sd_rev {m : Bool} {a : E} {x : Expr} {kk : Nat} {p p1 p2 p3 : Pos} (ha : PE X x (rdE (ctOf X) L W a)) : PE X (.Subscript x (.Slice none none (some (.UnaryOp .USub (.Constant (.int 1) kk p1) p2)) p3) p) (rdE (ctOf X) L W (.rev m a)) := by
  refine ⟨fun pins s σ H Q I ⟨r, env, st, Q', X', R, Re, w, kp, xw⟩ => ?_⟩
  have key : rdE (ctOf X) L W a σ H fun x H1 => ∃ a xs, x = .ref a ∧ ((SqL X.K H1 a xs ∧ ∀ p, H1 p = none → Q (.ref p) (upd H1 p (.lst xs.reverse))) ∨ (SqT X.K H1 a xs ∧ ∀ p, H1 p = none → Q (.ref p) (upd H1 p (.tup xs.reverse)))) :=
    ⟨r, env, st, _, X', R, Re, w, fun r1 st1 H1 d v f1 R1 q1 w1 => by
      have w1 : wpRev m d st1 Q' := w1
      cases q1 with
      | tup h t => exact ⟨_, _, rfl, .inr ⟨h.sq, (kp.mono f1).newT R1 t.reverse w1⟩⟩
      | lst h t => exact ⟨_, _, rfl, .inl ⟨h.sq, (kp.mono f1).newL (m := m) R1 t.reverse w1⟩⟩
      | @loc n a h =>
        obtain ⟨c, e, w1⟩ := onSome_iff (show onSome st1[n]? _ from w1)
        obtain ⟨ys, rfl, w1⟩ := onLst_iff w1
        obtain ⟨vs, k1, k2⟩ := R1.cells n _ a e h
        exact ⟨_, _, rfl, .inl ⟨SqL.of k1, (kp.mono f1).newL (m := m) R1 k2.reverse w1⟩⟩
      | _ => exact w1.elim, xw⟩
  refine Subscript_ (thn (ha.run pins s σ H _ I key) fun v s1 ⟨x, H1, I1, r1, a, xs, ex, q⟩ => ?_)
  subst ex
  cases r1
  have hst : PO X (some (.UnaryOp .USub (.Constant (.int 1) kk p1) p2)) (tPart (tUn (rU fun i => .int (-i)) (tC (.int 1)))) := po_some (pe_un un_neg pe_int)
  refine wpAny_Slice (thn (po_none.run pins s1 σ H1 (fun o H2 => o = none ∧ H2 = H1) I1 ⟨rfl, rfl⟩) fun vl s2 ⟨l, H2, I2, pl, el, e2⟩ => ?_)
  subst el e2
  refine thn (po_none.run pins s2 σ H2 (fun o H3 => o = none ∧ H3 = H2) I2 ⟨rfl, rfl⟩) fun vu s3 ⟨u, H3, I3, pu, eu, e3⟩ => ?_
  subst eu e3
  refine thn (hst.run pins s3 σ H3 (fun o H4 => o = some (-1) ∧ H4 = H3) I3 ⟨1, rfl, -1, rfl, rfl, rfl⟩) fun vs s4 ⟨o, H4, I4, ps, eo, e4⟩ => ?_
  subst eo e4
  have I5 : Inv X pins σ H4 { s4 with heap := s4.heap.push { cls := .type "slice", data := .fields #[vl, vu, vs] } } := I4.kept (t' := s4.toks) fun b ob q => Heap.get?_push_of_some _ q
  show wpAny (model X.prog X.w) X.A (subscriptTail x (.Slice none none (some (.UnaryOp .USub (.Constant (.int 1) kk p1) p2)) p3) (.ref a) (.ref s4.heap.objs.size)) (EP X pins σ Q) X.xe { s4 with heap := s4.heap.push { cls := .type "slice", data := .fields #[vl, vu, vs] } }
  rcases q with ⟨hx, q⟩ | ⟨hx, q⟩
  · obtain ⟨its, r, ht, hz⟩ := I5.list hx
    have hlen := r.length
    refine tail_any (ops := [.ref a, .ref s4.heap.objs.size]) ht.isList.typeIs (PySem.slot_list_getitem.lookup) ?_ (by with_unfolding_all rfl)
    refine wpAny_getItem_list_slice ht.isList (Heap.IsSliceOf.new _ vl vu vs) pl pu ps (by decide) ?_ (by rw [List.size_toArray]; omega)
    rw [PySem.W.krv_pick]
    exact ⟨.ref _, _, I5.laid (t' := s4.toks) (o := .lst xs.reverse) (fun b ob z => Heap.get?_push_of_some _ z) (Nat.le_refl _) ⟨by rw [List.length_reverse]; exact hz, _, 0, r.reverse, Heap.get?_push_size _ rfl⟩, rfl, q _ (I5.hok.fresh (Nat.le_refl _))⟩
  · obtain ⟨its, r, ht, hz⟩ := I5.tuple hx
    have hlen := r.length
    cases pl
    cases pu
    have ht' : IsTup (s4.heap.push { cls := .type "slice", data := .fields #[.none, .none, vs] }) a its.toArray := ht
    refine tail_any (ops := [.ref a, .ref s4.heap.objs.size]) ht'.typeIs (PyProof.Rows.slot_tuple_getitem.lookup) ?_ (by with_unfolding_all rfl)
    refine getItem_rev ht' (Heap.IsSliceOf.new _ .none .none vs) ps ?_ (by rw [List.size_toArray]; omega)
    exact ⟨.ref _, _, I5.laid (t' := s4.toks) (o := .tup xs.reverse) (fun b ob z => Heap.get?_push_of_some _ z) (Nat.le_refl _) ⟨by rw [List.length_reverse]; exact hz, _, r.reverse, IsTup.new _ _⟩, rfl, q _ (I5.hok.fresh (Nat.le_refl _))⟩
/-! ### for x in reversed(..) -/
theorem rev_get {xs : List D} {i : Nat} {d : D} (e : xs.reverse[i]? = some d) : i < xs.length ∧ xs[xs.length - 1 - i]? = some d := by
  have hi : i < xs.length := by
    have := (List.getElem?_eq_some_iff.mp e).1
    simpa using this
  exact ⟨hi, by rw [← List.getElem?_reverse hi]; exact e⟩
theorem itr_revL {C : Ct} {r : Lay} {H : Hp} {a : Addr} {xs : List D} {n : Nat} {s1 : List (Nat × Cell)} (hn : n = xs.length) (h1 : LsR C a r H xs s1) : ItR C (Itv C.K a n) r H xs.reverse s1 := fun i r1 st1 H1 f R hs => by
  subst hn
  obtain ⟨vs, q1, t1⟩ := h1 r1 st1 H1 f R hs
  refine ⟨fun hi => show xs.length ≤ i by simpa using hi, fun d e => ?_⟩
  obtain ⟨hi, e⟩ := rev_get e
  obtain ⟨v, e1, q⟩ := t1.get e
  refine ⟨⟨hi, vs, v, q1, e1⟩, fun x H' hy => ?_⟩
  obtain ⟨rfl, hy⟩ := hy
  have e2 := (hy vs q1).symm.trans e1
  cases e2
  exact ⟨.refl, R, q⟩
theorem itr_revT {C : Ct} {r : Lay} {H : Hp} {a : Addr} {xs : List D} {vs : List V} {n : Nat} (hn : n = xs.length) (h : TupAt C r H a vs) (t : RDs C r H xs vs) : ItR C (RT.ItvT C.K a n) r H xs.reverse [] := fun i r1 st1 H1 f R hs => by
  subst hn
  have q1 := (h.futW f).sq
  have t1 := t.futW f
  refine ⟨fun hi => show xs.length ≤ i by simpa using hi, fun d e => ?_⟩
  obtain ⟨hi, e⟩ := rev_get e
  obtain ⟨v, e1, q⟩ := t1.get e
  refine ⟨⟨hi, vs, v, q1, e1⟩, fun x H' hy => ?_⟩
  obtain ⟨rfl, hy⟩ := hy
  have e2 := (hy vs q1).symm.trans e1
  cases e2
  exact ⟨.refl, R, q⟩
theorem si_rev {tg : Expr} {a : E} {x : Expr} {p p2 : Pos} (hg : Gl X "reversed") (hm : X.mg "reversed" = none) (hs : noStar x = true) (ha : PE X x (rdE (ctOf X) L W a)) :
    PI X tg (.Call (.Name "reversed" p2) [x] [] p) (rdIt (ctOf X) L W (.rev a)) :=
  piI (RT.pi_revA hg hm ha (star_cons hs)) fun σ H Q ⟨r, env, st, Q', X', R, Re, w, k, xw⟩ => ⟨r, env, st, _, X', R, Re, w, fun r1 st1 H1 d v f1 R1 q1 w1 => by
    have w1 : seqK d st1 fun xs s1 => Q' xs.reverse s1 st1 := w1
    have ls : lstK d st1 (fun xs s1 => Q' xs.reverse s1 st1) → ∃ (a : Addr) (xs : List V), v = .ref a ∧ ((SqL X.K H1 a xs ∧ Q (Itv X.K a xs.length) H1) ∨ (SqT X.K H1 a xs ∧ Q (RT.ItvT X.K a xs.length) H1)) := fun w1 => by
      obtain ⟨aa, xs, s1, e1, l1, z1, w2⟩ := lstK_iff R1 q1 w1
      obtain ⟨vs, g1, t1⟩ := l1 r1 st1 H1 FutW.refl R1 z1
      exact ⟨aa, vs, e1, .inl ⟨g1, k r1 st1 H1 _ _ _ f1 R1 (itr_revL t1.length.symm l1) w2⟩⟩
    cases q1 with
    | tup h t => exact ⟨_, _, rfl, .inr ⟨h.sq, k r1 st1 H1 _ _ _ f1 R1 (itr_revT t.length.symm h t) w1⟩⟩
    | lst h t => exact ls w1
    | loc h => exact ls w1
    | _ => exact w1.elim, xw⟩
end
end DL

set_option maxHeartbeats 1000000
/-! DLCls: objects of own classes; written dicts; list + list, list * int. -/
namespace DL
open PySem PySem.Spec PyProof.Rows L2
theorem NoAttr.ne {K : PySem.W.Frag} {A a : Addr} {f m : Str} (n : L2.NoAttr K A f) (k : L2.Meth K A m a) : f ≠ m := fun e => by
  subst e
  have h1 : PySem.W.findIn K (.ref A) f = some none := n
  have h2 := k.at_
  rw [h1] at h2
  cases h2
theorem fs_none {C : Ct} {r : Lay} {H : Hp} {K : PySem.W.Frag} {A a : Addr} {m : Str} (k : L2.Meth K A m a) : ∀ {fs : List (String × D)} {vs : List (Str × V)}, (∀ p ∈ fs, L2.NoAttr K A (Str.ofString p.1)) → RFs C r H fs vs → vs.lookup m = none
  | fs, vs, h, q => by
    induction q with
    | nil => rfl
    | @cons f x v xs vs _ t ih =>
      have ne : (m == Str.ofString f) = false := beq_eq_false_iff_ne.mpr fun z => NoAttr.ne (h (f, x) List.mem_cons_self) k z.symm
      rw [List.lookup_cons, ne]
      exact ih fun p m => h p (List.mem_cons_of_mem _ m)
section
variable {X : Cx} {L : Lib} {T : Tab} {k : Nat} {sc : Scope} {W : WX} {cm : Bool}
theorem sd_fld {o : E} {f : String} {x : Expr} {nm : Str} {p : Pos} (en : nm = Str.ofString f) (hb : noCall0 x = true) (ho : PE X x (rdE (ctOf X) L W o)) : PE X (.Attribute x nm p) (rdE (ctOf X) L W (.fld o f)) := by
  subst en
  refine peI (pe_fld ho (base_of hb)) fun σ H Q ⟨r, env, st, Q', X', R, Re, w, k, xw⟩ => ⟨r, env, st, _, X', R, Re, w, fun r1 st1 H1 d v f1 R1 q1 w1 => ?_, xw⟩
  cases q1 with
  | @loc n a hr =>
    obtain ⟨c, ec, w1⟩ := onSome_iff (show onSome st1[n]? _ from w1)
    cases c with
    | obj c fs =>
      obtain ⟨d, h1, ⟨g, h2, h3⟩, w2⟩ := getF_iff (show getF fs f fun d => Q' d st1 from w1)
      obtain ⟨A, dx, vs, _, e1, cl, na, q⟩ := R1.cells n _ a ec hr
      obtain ⟨v, e2, qv⟩ := h1 q
      exact ⟨a, A, dx, vs, v, rfl, e1, cl, h3 ▸ na g h2, e2, k r1 st1 H1 d v f1 R1 qv w2⟩
    | _ => exact w1.elim
  | _ => exact w1.elim
theorem meth_tree {env : Env} {o : Expr} {m : Str} {ap cp : Pos} {args : List Expr} (hb : noCall0 o = true) (hs : ∀ y ∈ args, noStar y = true) (hl : (ap.endLine == cp.line) = true) (hn : args.length < 29) :
    eval (.Call (.Attribute o m ap) args [] cp) env = (do
      let u ← eval o env
      standAt ap.atName
      let (g, first) ← holding [u] (getMethod u m (do return (← importBound o env).getD true))
      callWith cp g first (backTo cp (starEach args env)) (backToKw cp (keywordEach [] env))) := by
  have few : methodCallForm (args.length + ([] : List Keyword).length) (backTo cp (starEach args env)) (backToKw cp (keywordEach [] env)) = true := by
    have h1 : (backTo cp (starEach args env)).all (fun x => !x.1) = true := by
      have h := any_star (env := env) (pos := cp) hs
      rw [List.all_eq_true]
      intro y hy
      have := List.any_eq_false.mp h y hy
      simpa using this
    unfold methodCallForm
    rw [h1]
    simp [keywordEach, backToKw]
    omega
  rw [arm_eval_Call, base_of hb]
  unfold methodCall calleeOf methodCallPos
  simp only [few, hl, Bool.not_true, Bool.false_or, if_true]
  rfl
theorem sd_meth {c m : String} {o : E} {es : Es} {x : Expr} {xs : List Expr} {nm : Str} {ap cp : Pos} (G : Good L T k X sc W cm) (hc : cm = true) (en : nm = Str.ofString m) (ho : PE X x (rdE (ctOf X) L W o)) (hb : noCall0 x = true) (hok : okEs T X.N sc cm es xs = true) (ha : PA X xs (rdEs (ctOf X) L W es))
    (hl : (ap.endLine == cp.line) = true) (hn : xs.length < 29) (hm : (c, m) ∈ T.meths) : PE X (.Call (.Attribute x nm ap) xs [] cp) (rdE (ctOf X) L W (.meth c m o es)) := by
  subst en
  have hs := okEs_star hok
  obtain ⟨A, a, fd, ps, m1, M, hbd, F, hlen⟩ := G.lib.meth _ hm
  obtain ⟨hcalm, hr⟩ := G.calm hc
  refine ⟨fun pins s σ H Q I ⟨r, env, st, Q', X', R, Re, w, k, xw⟩ => ?_⟩
  refine PySem.W.methodCall_KW (thn (ho.run pins s σ H (fun x H1 => ∃ r1 st1 n b dx vs, Fut r H r1 H1 ∧ Rel (ctOf X) r1 st1 H1 ∧ r1.1[n]? = some b ∧ x = .ref b ∧ H1 b = some (.ins A dx vs) ∧ L2.Cls X.K A ∧ vs.lookup (Str.ofString m) = none ∧ wpEs L es env st1 (fun ds st => L.meth c m (.loc n :: ds) st Q' X') X') I
    ⟨r, env, st, _, X', R, Re, w, fun r1 st1 H1 d v f1 R1 q1 w1 => ?_, xw⟩) fun u s1 ⟨y, H1, I1, rx, r1, st1, n, b, dx, vs, f1, R1, hr1, ex, eb, cl, lk, w1⟩ => ?_) (meth_tree hb hs hl hn)
  · cases q1 with
    | @loc n b hr1 =>
      obtain ⟨cc, ec, w1⟩ := onSome_iff (show onSome st1[n]? _ from w1)
      cases cc with
      | obj c' fs =>
        obtain ⟨rfl, w1⟩ := w1
        obtain ⟨A', dx, vs, g1, e1, cl, na, q⟩ := R1.cells n _ b ec hr1
        have e2 := g1.symm.trans m1
        cases e2
        exact ⟨r1, st1, n, b, dx, vs, f1, R1, hr1, rfl, e1, cl, fs_none M na q, w1⟩
      | _ => exact w1.elim
    | _ => exact w1.elim
  · subst ex
    obtain rfl : u = Value.ref b := rx
    refine getmeth_ok I1 eb cl M lk ?_
    have key : ∀ r2 st2 H2 (ds : List D) us, Fut r1 H1 r2 H2 → Rel (ctOf X) r2 st2 H2 → RDs (ctOf X) r2 H2 ds us → L.meth c m (.loc n :: ds) st2 Q' X' → spD (ctOf X) (L.meth c m) ps.length (.ref b :: us) H2 Q (WE W σ) := fun r2 st2 H2 ds us f2 R2 q2 w2 =>
      have q0 : RDs (ctOf X) r2 H2 (.loc n :: ds) (.ref b :: us) := .cons (.loc (prefix_get f2.ext hr1)) q2
      ⟨by rw [← q0.length]; exact hlen _ _ _ _ w2, r2, st2, _, Q', X', R2, q0, w2, k.mono (f1.trans f2), xw.mono (f1.trans f2)⟩
    cases xs with
    | cons y ys =>
      refine PySem.W.callWith_K (first := [.ref b]) (h₀ := X.base) I.ok.mod.kin M.kp (thn (ha.run cp pins s1 σ H1 _ I1 ⟨r1, env, st1, _, X', R1, Re.fut f1, w1, fun r2 st2 H2 ds us f2 R2 q2 w2 => key r2 st2 H2 ds us f2 R2 q2 w2, xw.mono f1⟩) fun us s2 ⟨vs2, H2, I2, r2, q2⟩ => ⟨I2.kIn, ?_⟩)
        (star_cons (hs y (by simp))) (any_star fun z m => hs z (by simp [m]))
      exact run_fnS (us := .ref b :: us) (vs := .ref b :: vs2) F hr hbd (passAt G.tk σ) I2 (.cons rfl r2) q2
    | nil =>
      cases es with
      | nil => exact PySem.W.callWith_K0 (first := [.ref b]) I1.kIn M.kp (run_fnS (us := [.ref b]) (vs := [.ref b]) F hr hbd (passAt G.tk σ) I1 (.cons rfl .nil) (key r1 st1 H1 [] [] .refl R1 .nil w1))
      | cons _ _ => cases hok
/-! ### C(..) -/
theorem run_mk {pins : List (Addr × Obj)} {σ : L2.St} {H : Hp} {s : Shared} {Q : VK} {us : List Value} {vs : List V} {A a : Addr} {fd : FuncData} {ps : List Str} {sp : Sp} {j : Nat} {EE : L2.St → XK} (M : L2.Mk X.K A a) (F : FnOk X.prog X.w X.K X.mg X.base (L2.CX X.prog X.w) j a fd ps sp) (hr : Room (j + 1) X.A) (hb : Binds X.K fd ps [])
    (hx : PassesAt (L2.CX X.prog X.w) X σ (EE σ)) (I : Inv X pins σ H s) (r : Vals vs us)
    (h : ∀ p dx, H p = none → H dx = none → dx ≠ p → sp (.ref p :: vs) (upd (upd H dx (.own p)) p (.ins A dx [])) (fun v H2 => v = .non ∧ Q (.ref p) H2) (EE σ)) : wpAny (model X.prog X.w) X.A (call (.ref A) us) (EP X pins σ Q) X.xe s := by
  have promise := h (s.heap.objs.size + 1) s.heap.objs.size (I.hok.fresh (Nat.le_succ _)) (I.hok.fresh (Nat.le_refl _)) (Nat.ne_of_lt (Nat.lt_succ_self _))
  have I2 := Inv.made (C := A) I
  have rv : Vals (V.ref (s.heap.objs.size + 1) :: vs) (Value.ref (s.heap.objs.size + 1) :: us) := .cons rfl r
  have hl : (Value.ref (s.heap.objs.size + 1) :: us).length = ps.length := by rw [← rv.length]; exact F.len _ _ _ _ promise
  have bd := hb _ (Value.ref (s.heap.objs.size + 1) :: us) I2.kIn (by rw [List.append_nil]; exact hl)
  rw [List.append_nil] at bd
  refine wpAny_call (make_map (f := a) I.kIn M.makes M.init (beq_iff_eq.mp M.fn) (codeAny_mono (F.run _ X.stack _ _ ⟨_ :: us, []⟩ _ _ _ (EE σ) (hr.make A us []) (I2.env0.make A us []) bd rv promise) fun res s' q => ?_))
  cases res with
  | error e => exact hx pins _ _ e s' I2 q
  | ok fl =>
    cases fl with
    | ret u =>
      obtain ⟨v, H', I3, rv3, ev, q3⟩ := I2.after q
      subst ev
      exact ⟨rv3, ⟨.ref _, H', I3, rfl, q3⟩⟩
    | next | brk | cont => exact q.elim
theorem sd_new {c : String} {es : Es} {xs : List Expr} {p p2 : Pos} {x : Str} (G : Good L T k X sc W cm) (hc : cm = true) (ex : x = Str.ofString c) (hg : Gl X x) (hd : (x == ("__debug__" : Str)) = false) (hf : c ∈ T.news)
    (hok : okEs T X.N sc cm es xs = true) (h : PA X xs (rdEs (ctOf X) L W es)) : PE X (.Call (.Name x p2) xs [] p) (rdE (ctOf X) L W (.new c es)) := by
  subst ex
  have hs := okEs_star hok
  obtain ⟨A, a, fd, ps, j, hj, hm, cl, M, hb, F, hlen⟩ := G.lib.new c hf
  obtain ⟨hcalm, hr⟩ := G.calm hc
  refine ⟨fun pins s σ H Q I ⟨r, env, st, Q', X', R, Re, w, k, xw⟩ => ?_⟩
  have key : ∀ r1 st1 H1 (ds : List D) vs, Fut r H r1 H1 → Rel (ctOf X) r1 st1 H1 → RDs (ctOf X) r1 H1 ds vs → L.meth c "__init__" (.loc st1.length :: ds) (st1 ++ [.obj c []]) (fun d st' => (match d with
      | .non => Q' (.loc st1.length) st'
      | _ => False)) X' → ∀ q dx, H1 q = none → H1 dx = none → dx ≠ q → spD (ctOf X) (L.meth c "__init__") ps.length (.ref q :: vs) (upd (upd H1 dx (.own q)) q (.ins A dx [])) (fun v H2 => v = .non ∧ Q (.ref q) H2) (WE W σ) := fun r1 st1 H1 ds vs f1 R1 q1 w1 q dx hq hdx ne => by
    have g1 : Fut r1 H1 r1 (upd H1 dx (.own q)) := Fut.frz hdx
    have R2 : Rel (ctOf X) r1 st1 (upd H1 dx (.own q)) := R1.frz hdx
    have hq2 : upd H1 dx (.own q) q = none := by rw [upd_ne (Ne.symm ne)]; exact hq
    have g2 := g1.trans (Fut.push (r := r1) (o := .ins A dx []) hq2)
    have R3 := R2.push (o := .ins A dx []) (c := .obj c []) hq2 fun _ => ⟨A, dx, [], hm, upd_same, cl, (fun _ m => nomatch m), .nil⟩
    have hloc : (r1.1 ++ [q])[st1.length]? = some q := by rw [← R1.len]; simp
    have q0 : RDs (ctOf X) (r1.1 ++ [q], r1.2) (upd (upd H1 dx (.own q)) q (.ins A dx [])) (.loc st1.length :: ds) (.ref q :: vs) := .cons (.loc hloc) (q1.fut g2)
    refine ⟨by rw [← q0.length]; exact hlen _ _ _ _ w1, _, _, _, _, X', R3, q0, w1, fun r4 st4 H4 d v f4 R4 q4 w4 => ?_, (xw.mono f1).mono g2⟩
    cases q4 with
    | non => exact ⟨rfl, k r4 st4 H4 _ _ (f1.trans (g2.trans f4)) R4 (.loc (prefix_get f4.ext hloc)) w4⟩
    | _ => exact w4.elim
  refine wpAny_Call_Name_kw (ld_glob I hg hm ?_ hd)
  cases xs with
  | cons y ys =>
    refine PySem.W.callWith_K (h₀ := X.base) I.ok.mod.kin M.kp (thn (h.run p pins s σ H (fun vs H1 => ∀ q dx, H1 q = none → H1 dx = none → dx ≠ q → spD (ctOf X) (L.meth c "__init__") ps.length (.ref q :: vs) (upd (upd H1 dx (.own q)) q (.ins A dx [])) (fun v H2 => v = .non ∧ Q (.ref q) H2) (WE W σ)) I
      ⟨r, env, st, _, X', R, Re, w, fun r1 st1 H1 ds vs f1 R1 q1 w1 => key r1 st1 H1 ds vs f1 R1 q1 w1, xw⟩) fun us s1 ⟨vs, H1, I1, rr, q⟩ => ⟨I1.kIn, run_mk (EE := WE W) M F (hr.mono hj) hb (passAt G.tk σ) I1 rr q⟩) (star_cons (hs y (by simp))) (any_star fun z m => hs z (by simp [m]))
  | nil =>
    cases es with
    | nil => exact PySem.W.callWith_K0 I.kIn M.kp (run_mk (us := []) (vs := []) (EE := WE W) M F (hr.mono hj) hb (passAt G.tk σ) I .nil (key r st H [] [] .refl R .nil w))
    | cons _ _ => cases hok
/-! ### list * int, list + list -/
theorem sd_lrep {m : Bool} {a b : E} {x y : Expr} {p : Pos} (ha : PE X x (rdE (ctOf X) L W a)) (hb : PE X y (rdE (ctOf X) L W b)) : PE X (.BinOp x .Mult y p) (rdE (ctOf X) L W (.lrep m a b)) :=
  peI (pe_op op_rep ha hb) fun σ H Q ⟨r, env, st, Q', X', R, Re, w, k, xw⟩ =>
    ⟨r, env, st, _, X', R, Re, w, fun r1 st1 H1 d v f1 R1 q1 w1 => ⟨r1, env, st1, _, X', R1, Re.fut f1, w1, fun r2 st2 H2 d2 v2 f2 R2 q2 w2 => by
      obtain ⟨l, xs, vs, _, rfl, hl, t, w2⟩ := lstH R2 (q1.fut f2) (show lstK d st2 _ from w2)
      obtain ⟨i, rfl, ⟨h1, h2, hz⟩, w2⟩ := onInt_iff w2
      cases q2
      exact ⟨l, i, vs, rfl, rfl, hl, h1, h2, by rw [← t.length]; exact hz, (k.mono (f1.trans f2)).newL (m := m) R2 (RDs.rep t i.toNat) w2⟩, xw.mono f1⟩, xw⟩
theorem sd_lcat {m : Bool} {a b : E} {x y : Expr} {p : Pos} (ha : PE X x (rdE (ctOf X) L W a)) (hb : PE X y (rdE (ctOf X) L W b)) : PE X (.BinOp x .Add y p) (rdE (ctOf X) L W (.lcat m a b)) :=
  peI (pe_op op_cat ha hb) fun σ H Q ⟨r, env, st, Q', X', R, Re, w, k, xw⟩ =>
    ⟨r, env, st, _, X', R, Re, w, fun r1 st1 H1 d v f1 R1 q1 w1 => ⟨r1, env, st1, _, X', R1, Re.fut f1, w1, fun r2 st2 H2 d2 v2 f2 R2 q2 w2 => by
      obtain ⟨l, xs, vs, _, rfl, hl, t, w2⟩ := lstH R2 (q1.fut f2) (show lstK d st2 _ from w2)
      obtain ⟨l2, ys, us, _, rfl, hl2, t2, hz, w2⟩ := lstH R2 q2 w2
      exact ⟨l, l2, vs, us, rfl, rfl, hl, hl2, by rw [← t.length, ← t2.length]; exact hz, (k.mono (f1.trans f2)).newL (m := m) R2 (t.append t2) w2⟩, xw.mono f1⟩, xw⟩
/-! ### isinstance(x, (T1, T2)) -/
theorem kit_any (u t t2 : TyN) (ht : t ≠ .non) (ht2 : t2 ≠ .non) : PySem.W.kitAny X.K (.type u.nm) [.type t.nm, .type t2.nm] = some (TyN.sub u t || TyN.sub u t2) := by
  have k1 := kit_ty (K := X.K) (kit_sub u t ht)
  have k2 := kit_ty (K := X.K) (kit_sub u t2 ht2)
  refine kitAny_cons k1 (fun e => ?_) fun e => by rw [e]; rfl
  rw [e, Bool.false_or]
  exact kitAny_cons k2 (fun e => by rw [e]; rfl) fun e => e
theorem sd_isi2 {a : E} {t u : TyN} {x : Expr} {p p2 p3 p4 p5 : Pos} {kk : Nat} (G : Good L T k X sc W cm) (ht : t ≠ .non) (ht2 : u ≠ .non) (hg : Gl X "isinstance") (hg2 : Gl X (Str.ofString t.nm)) (hg3 : Gl X (Str.ofString u.nm)) (hf : T.free.contains "isinstance" = true) (hf2 : T.free.contains t.nm = true) (hf3 : T.free.contains u.nm = true) (hs : noStar x = true)
    (ha : PE X x (rdE (ctOf X) L W a)) : PE X (.Call (.Name "isinstance" p2) [x, .Tuple [.Name (Str.ofString t.nm) p3, .Name (Str.ofString u.nm) p4] kk p5] [] p) (rdE (ctOf X) L W (.isi2 a t u)) := by
  have hm : X.mg "isinstance" = none := G.lib.free "isinstance" (by simpa using hf)
  have hm2 : X.mg (Str.ofString t.nm) = none := G.lib.free _ (by simpa using hf2)
  have hm3 : X.mg (Str.ofString u.nm) = none := G.lib.free _ (by simpa using hf3)
  have pt : PE X (.Name (Str.ofString t.nm) p3) (tC (.ty t.nm)) := pe_bltn hg2 hm2 (ty_boot t ht) rfl (ty_nm t).1 (ty_nm t).2
  have pu : PE X (.Name (Str.ofString u.nm) p4) (tC (.ty u.nm)) := pe_bltn hg3 hm3 (ty_boot u ht2) rfl (ty_nm u).1 (ty_nm u).2
  have pp : PE X (.Tuple [.Name (Str.ofString t.nm) p3, .Name (Str.ofString u.nm) p4] kk p5) _ := pe_tup (pa_cons pt (pa_cons pu pa_nil (star_cons rfl)) (star_cons rfl))
  refine peI (pe_callB call_isiT hg hm (by decide +kernel) (pa_cons ha (pa_cons pp pa_nil (star_cons rfl)) (star_cons hs)) (by decide) (by decide) (star_cons hs) (any_star fun e m => by simp at m; subst m; rfl)) fun σ H Q ⟨r, env, st, Q', X', R, Re, w, k, xw⟩ => ?_
  refine ⟨r, env, st, _, X', R, Re, w, fun r1 st1 H1 d v f1 R1 q1 w1 => ?_, xw⟩
  obtain ⟨z, e, w1⟩ := onSome_iff (show onSome (tyOf st1 d) _ from w1)
  refine ⟨by show 2 ≤ sizeLine; decide, fun q hq => ?_⟩
  have g : Fut r1 H1 r1 (upd H1 q (.tup [.ty t.nm, .ty u.nm])) := Fut.frz hq
  have R2 := R1.frz (o := .tup [.ty t.nm, .ty u.nm]) hq
  exact ⟨v, q, _, _, [.type t.nm, .type u.nm], _, rfl, upd_same, .cons (.ty _) (.cons (.ty _) .nil), ty_at R2 (q1.fut g) e, kit_any z t u ht ht2, k r1 st1 _ _ _ (f1.trans g) R2 (.bl _) w1⟩
/-! ### written dicts -/
def trsOf (C : Ct) (L : Lib) (W : WX) : List String → Es → List (TE × TE)
  | k :: ks, .cons e es => (tC (.str (Str.ofString k)), rdE C L W e) :: trsOf C L W ks es
  | _, _ => []
def keyV : List String → List V → List (Key × V)
  | k :: ks, u :: us => (Sum.inr (Str.ofString k), u) :: keyV ks us
  | _, _ => []
def Es.len : Es → Nat
  | .nil => 0
  | .cons _ es => Es.len es + 1
theorem okEs_len {T : Tab} {N : List Str} {sc : Scope} {cm : Bool} : ∀ {es : Es} {xs : List Expr}, okEs T N sc cm es xs = true → es.len = xs.length
  | .nil, [], _ => rfl
  | .nil, _ :: _, h => nomatch h
  | .cons _ _, [], h => nomatch h
  | .cons e es, x :: xs, h => by
    have h : (okE T N sc cm e x && noStar x && okEs T N sc cm es xs) = true := h
    simp only [Bool.and_eq_true] at h
    simp [Es.len, okEs_len h.2]
theorem pairs_now : ∀ {ks : List String} {es : Es} {r : Lay} {env : St'} {st : Sto} {σ : L2.St} {H : Hp} {Q' : List D → Sto → Prop} {X' : EX} {Q : List (V × V) → Hp → Prop}, es.len = ks.length → Rel (ctOf X) r st H → RE (ctOf X) r H env σ → wpEs L es env st Q' X' →
    (∀ r' st' H' ds us, Fut r H r' H' → Rel (ctOf X) r' st' H' → RDs (ctOf X) r' H' ds us → Q' ds st' → Q ((keyV ks us).map fun kv => (kV kv.1, kv.2)) H') → XW (ctOf X) r H σ X' W → tPairs (trsOf (ctOf X) L W ks es) σ H Q
  | [], .nil, r, env, st, σ, H, Q', X', Q, hl, R, Re, w, k, xw => k r st H [] [] .refl R .nil w
  | _ :: _, .nil, r, env, st, σ, H, Q', X', Q, hl, R, Re, w, k, xw => nomatch hl
  | [], .cons e es, r, env, st, σ, H, Q', X', Q, hl, R, Re, w, k, xw => nomatch hl
  | kk :: ks, .cons e es, r, env, st, σ, H, Q', X', Q, hl, R, Re, w, k, xw => by
    refine ⟨r, env, st, _, X', R, Re, w, fun r1 st1 H1 d v f1 R1 q1 w1 => ?_, xw⟩
    exact pairs_now (Nat.succ.inj hl) R1 (Re.fut f1) w1 (fun r2 st2 H2 ds us f2 R2 q2 w2 => k r2 st2 H2 (d :: ds) (v :: us) (f1.trans f2) R2 (.cons (q1.fut f2) q2) w2) (xw.mono f1)
theorem keyV_fst : ∀ {ks : List String} {us : List V}, us.length = ks.length → (keyV ks us).map (·.1) = ks.map fun k => Sum.inr (Str.ofString k)
  | [], [], _ => rfl
  | [], _ :: _, h => nomatch h
  | _ :: _, [], h => nomatch h
  | k :: ks, u :: us, h => by simp [keyV, keyV_fst (Nat.succ.inj h)]
theorem keyV_len : ∀ {ks : List String} {us : List V}, us.length = ks.length → (keyV ks us).length = ks.length
  | [], [], _ => rfl
  | [], _ :: _, h => nomatch h
  | _ :: _, [], h => nomatch h
  | k :: ks, u :: us, h => by simp [keyV, keyV_len (Nat.succ.inj h)]
theorem keyV_rks {C : Ct} {r : Lay} {H : Hp} : ∀ {ks : List String} {ds : List D} {us : List V}, RDs C r H ds us → RKs keyD C r H (zipS ks ds) (keyV ks us)
  | [], _, _, _ => by unfold zipS keyV; exact .nil
  | _ :: _, _, _, .nil => .nil
  | k :: ks, _, _, .cons q t => .cons ⟨k, rfl, rfl⟩ q (keyV_rks t)
theorem XW.hide {C : Ct} {r : Lay} {H : Hp} {p : Addr} {o : HO} {σ : L2.St} {X' : EX} (xw : XW C r H σ X' W) (hp : H p = none) : XW C (r.1, p :: r.2) (upd H p o) σ X' W := fun r' st' H' x cls dx f R q h => by
  have sh : FutW r' H' (r'.1, r.2) H' := FutW.show_ f.hid
  obtain ⟨A, h1, h2, h3⟩ := q
  refine xw (r'.1, r.2) st' H' x cls dx ⟨fun a o u e => f.lk a o u (lk_new hp a o u e), fun a u e n => f.keep a u ?_ n, f.ext, rfl, fun a m => ?_⟩ (R.show_ f.hid) ⟨A, h1, h2, h3.imp (fun z => z) fun ⟨d, vs, e1, e2, t⟩ => ⟨d, vs, e1, e2, t.futW sh⟩⟩ h
  · rw [upd_ne (ne_of_none e hp)]; exact e
  · rcases f.new a m with z | z
    · exact .inl z
    · by_cases e : a = p
      · subst e; rw [upd_same] at z; cases z
      · rw [upd_ne e] at z; exact .inr z
theorem RE.futW {C : Ct} {r r' : Lay} {H H' : Hp} {env : St'} {s : L2.St} (h : RE C r H env s) (f : FutW r H r' H') : RE C r' H' env s := ⟨h.1, fun i d e => let ⟨v, h1, h2⟩ := h.2 i d e; ⟨v, h1, h2.futW f⟩⟩
theorem okKs_len : ∀ {ks : List String} {kxs : List (Option Expr)}, okKs ks kxs = true → kxs.length = ks.length ∧ kxs.all (·.isSome) = true
  | [], [], _ => ⟨rfl, rfl⟩
  | [], _ :: _, h => nomatch h
  | k :: ks, kxs, h => by
    unfold okKs at h
    split at h
    · rw [Bool.and_eq_true] at h
      have := okKs_len h.2
      exact ⟨by simp [this.1], by simpa using this.2⟩
    · cases h
theorem pps_step {pos : Pos} {k : String} {ks : List String} {kxs : List (Option Expr)} {e : E} {es : Es} {x : Expr} {xs : List Expr} (h : okKs (k :: ks) kxs = true) (hv : PE X x (rdE (ctOf X) L W e)) (hr : ∀ kxs', okKs ks kxs' = true → PPs X pos kxs' xs (trsOf (ctOf X) L W ks es)) :
    PPs X pos kxs (x :: xs) (trsOf (ctOf X) L W (k :: ks) (.cons e es)) := by
  unfold okKs at h
  split at h
  · simp only [Bool.and_eq_true, decide_eq_true_eq] at h
    obtain ⟨e1, h3⟩ := h
    subst e1
    exact pps_cons pe_str hv (hr _ h3)
  · cases h
theorem sd_dsp {ks : List String} {es : Es} {kxs : List (Option Expr)} {xs : List Expr} {p : Pos} (hp : PPs X p kxs xs (trsOf (ctOf X) L W ks es)) (nd : ks.Nodup) (h0 : ks ≠ []) (h15 : ks.length ≤ 15) (hel : es.len = xs.length) (hl : xs.length = ks.length) (hkl : kxs.length = ks.length) (hall : kxs.all (·.isSome) = true) :
    PE X (.Dict kxs xs p) (rdE (ctOf X) L W (.dsp ks es)) := by
  refine peI (pe_disp hp hall (by rw [hkl, hl]) (fun z => h0 (by rw [z] at hkl; exact List.length_eq_zero_iff.mp hkl.symm)) (by rw [hkl]; exact h15)) fun σ H Q ⟨r, env, st, Q', X', R, Re, w, k, xw⟩ q hq => ?_
  refine pairs_now (hel.trans hl) (R.hide (o := .dK []) hq trivial) (Re.futW (FutW.hide hq)) w (fun r2 st2 H2 ds us f2 R2 q2 w2 => ?_) (xw.hide hq)
  obtain ⟨wl, _, w2⟩ := w2
  have qi : q ∈ (r.1, q :: r.2).2 := List.mem_cons_self
  have qn : q ∉ r.1 := (R.free hq).1
  have e2 : H2 q = some (.dK []) := f2.keep q _ upd_same qn
  have hlu : us.length = ks.length := by rw [← q2.length]; exact wl
  have ndk : ((keyV ks us).map (·.1)).Nodup := by
    rw [keyV_fst hlu]
    exact List.Pairwise.map _ (fun a b ne e => ne (ofS_inj (Sum.inr.inj e))) nd
  have em : mergeK [] (keyV ks us) = keyV ks us := by rw [mergeK_app (fun _ _ _ m => absurd m List.not_mem_nil) ndk, List.nil_append]
  refine ⟨e2, keyV ks us, rfl, by rw [keyV_len hlu]; exact h15, ?_⟩
  rw [em]
  have q2n : q ∉ r2.1 := f2.notin upd_same qn
  have mem2 : q ∈ r2.2 := by rw [f2.hid]; exact qi
  have R3 := R2.setH (o := .dK (keyV ks us)) mem2 trivial
  have sh : FutW r2 H2 (r2.1 ++ [q], r.2) (upd H2 q (.dK (keyV ks us))) := (FutW.setH mem2 (R2.nfH mem2)).trans (FutW.adopt f2.hid)
  refine k (r2.1 ++ [q], r.2) (st2 ++ [.dct false (zipS ks ds)]) _ (.loc st2.length) _ ⟨fun a o u e => lk_set (R2.nfH mem2) a o u (f2.lk a o u (lk_new hq a o u e)), fun a u e n => ?_, f2.ext.trans ⟨[q], rfl⟩, rfl, fun a m => ?_⟩ (R3.adopt (c := .dct false (zipS ks ds)) f2.hid (R.free hq).2 ⟨_, upd_same, (keyV_rks q2).futW sh⟩) (.loc ?_) w2
  · have ne : a ≠ q := ne_of_none e hq
    rw [upd_ne ne]
    exact f2.keep a u (by rw [upd_ne ne]; exact e) n
  · rcases List.mem_append.mp m with m | m
    · rcases f2.new a m with z | z
      · exact .inl z
      · by_cases e : a = q
        · subst e; rw [upd_same] at z; cases z
        · rw [upd_ne e] at z; exact .inr z
    · rw [List.mem_singleton.mp m]; exact .inr hq
  · show (r2.1 ++ [q])[st2.length]? = _
    rw [← R2.len]
    simp
end
end DL

set_option maxHeartbeats 1000000
/-! DLDc: dict comprehensions, keys ints, texts or flat tuples. -/
namespace DL
open PySem PySem.Spec PyProof.Rows L2
def newD (t : Bool) : HO := match t with
  | false => .dK []
  | true => .dT []
theorem newD_ok {P : Program} {w : World} {H : Hp} (t : Bool) (hp : Heap) (hb : sysModules < hp.objs.size) : ObjOk P w H (hp.push { cls := .type "dict", data := .dict #[] }) hp.objs.size (newD t) := by
  cases t with
  | false => exact dk_empty hp hb
  | true => exact dt_empty hp hb
theorem dictSet_put {X : Cx} {pins : List (Addr × Obj)} {σ : L2.St} {H H' : Hp} {s : Shared} {E : Value → Shared → Prop} {a : Addr} {y v : V} {u r : Value} {Q : Unit → Shared → Prop} (hu : X.A.units < cLine) (I : Inv X pins σ H s) (g : DPut H a y v H') (ry : RelV y u) (rv : RelV v r) (h : ∀ s', Inv X pins σ H' s' → Q () s') :
    wpAny (model X.prog X.w) X.A (dictSet a u r) Q E s := by
  rcases g with ⟨kvs, kk, e, ey, l, eH⟩ | ⟨kvs, kk, b, e, ey, eb, l, eH⟩
  · rw [ey] at ry
    rw [eH] at h
    exact d_dictSet I e l ry rv h
  · rw [ey] at ry
    rw [eH] at h
    cases (show u = Value.ref b from ry)
    obtain ⟨z, hd, xs, rel, dd⟩ := dt_of I.hok e
    have z2 : xs.length ≤ sizeLine := Nat.le_trans (Nat.le_of_eq (Paired.length rel).symm) z
    refine wpAny_dictSet_heap (hsz := z2) hu (key_of I.hok eb) dd fun hp dp sb => h _ ?_
    obtain ⟨o, es, ep, k1, k2, k3, k4, _, k5⟩ := dp
    have z3 : (putK kvs kk v).length ≤ sizeLine := by have := length_putK kvs kk v; omega
    refine d_write I (by rw [e]; exact True.intro) sb ⟨o, k1⟩ ⟨z3, hd, _, (rel.put kk eb rv).keeps fun c ys ec => ?_, o, es, ep, k1, k2, k3, k4, k5⟩
    rw [upd_ne (ne_of ec e (fun z => nomatch z))]
    exact ec
def tDcG (t : Bool) (wi : TI) (g : TG) (tt : TT) (tk tv : TE) (vs : List Nat) : TE := fun σ H Q => wi σ H fun J H1 => ∀ a, H1 a = none → ∃ W : Nat → Nat → Hp → Prop, (∃ m, W 0 m (upd H1 a (newD t))) ∧ ∀ i m H, W i m H →
  (J.stop i H ∧ Q (.ref a) H) ∨ (J.go i H ∧ ∃ N : Hp → Prop, (∀ H', N H' → ∃ m', m' < m ∧ W (i + 1) m' H') ∧ ∀ x H', J.yld i H x H' → g x (wipe σ vs) H' fun σ2 H2 => wipe σ2 vs = wipe σ vs ∧ tt σ2 H2 fun b H3 =>
    if b = true then tk σ2 H3 fun y H4 => tv σ2 H4 fun z H5 => ∃ H6, DPut H5 a y z H6 ∧ N H6 else N H3)
abbrev AllB (X : Cx) (scope : Scope) (p : Cx → Prop) : Prop := ∀ (s : Shared) (H : Hp) (c : Addr) (cl : List (Str × Addr)) (fp : List Addr), p (X.blk s H scope (compEnvC scope cl c X.env) fp)
theorem dcg_core {X : Cx} {t : Bool} {pins : List (Addr × Obj)} {s : Shared} {σ : L2.St} {H : Hp} {Q : VK} {kx vx tg iter : Expr} {ifs : List Expr} {scope : Scope} {own : List (Str × Nat)} {pos pos' : Pos} {wi : TI} {g : TG} {tt : TT} {tk tv : TE} {Qf : Value → Shared → Prop}
    (hc : X.calm = true) (hu : X.A.units < cLine) (hN : X.N.Nodup) (I : Inv X pins σ H s) (hi : PI X tg iter wi) (ok : BlkOk X.N X.env.scope scope own) (hg : AllB X scope fun Y => PG Y tg g) (ht : AllB X scope fun Y => PTs Y ifs tt) (hk : AllB X scope fun Y => PE Y kx tk) (he : AllB X scope fun Y => PE Y vx tv)
    (hs : ∀ x, foldedSetIterable iter X.env x = pure x) (h : tDcG t wi g tt tk tv (own.map (·.2)) σ H Q)
    (fin : ∀ D C s' m H', Inv X pins σ H' s' → Q (.ref D) H' → s'.heap.Ns C m → FpOk X pins H' C → compPost (model X.prog X.w) X.A X.xe none Qf (.ref D) C (.ok .next) s') :
    wpAny (model X.prog X.w) X.A (comprehension (.DictComp kx vx [⟨tg, iter, ifs, 0⟩] scope pos) scope X.env pos' newDict false (eval iter X.env) none) Qf X.xe s := by
  have cells : ∀ y ∈ scope.names, y.2 = .free → ∃ c, X.env.cells.lookup y.1 = some c := fun y my e => (ok.free y my e).elim (fun z => I.ok.has _ (.inl z)) fun z => I.ok.has _ (.inr z)
  refine wpAny_comprehension_free (use := none) rfl hs (closure_ok cells) ok.kind (fun y my e => (ok.uniq y my).trans (congrArg some e)) (thn (hi.run pins s σ H _ I h) fun v1 s1 h1 => thn h1 fun v2 s2 ⟨it, fp, tn, J, H2, e, I2, T, st2, f2, q⟩ => ?_)
  subst e
  refine wpAny_newObj_type (newEnv_comp ?_)
  obtain ⟨W, ⟨m0, w0⟩, turn⟩ := q _ (I2.hok.fresh (Nat.le_refl s2.heap.objs.size))
  generalize ea : s2.heap.objs.size = a at turn w0 ⊢
  have na : H2 a = none := I2.hok.fresh (Nat.le_of_eq ea)
  generalize e3 : ({ s2 with heap := s2.heap.push { cls := .type "dict", data := .dict #[] } } : Shared) = s3
  have hp3 : s3.heap = s2.heap.push { cls := .type "dict", data := .dict #[] } := by rw [← e3]
  have I3 : Inv X pins σ (upd H2 a (newD t)) s3 := by
    subst e3
    refine I2.laid (t' := s2.toks) (fun b o z => Heap.get?_push_of_some _ z) (Nat.le_of_eq ea) ?_
    subst ea
    exact newD_ok t s2.heap I2.big
  have small : ∀ b ∈ fp, b < s2.heap.objs.size := fun b mb => let ⟨_, z, _⟩ := T.obj _ _ st2 b mb; Heap.lt_size z
  have f3 : ∀ b ∈ fp, FpOk X pins (upd H2 a (newD t)) b ∧ b < s3.heap.objs.size := fun b mb => by
    have lt := small b mb
    refine ⟨⟨(upd_ne (by rw [← ea]; exact Nat.ne_of_lt lt)).trans (f2 b mb).1, (f2 b mb).2⟩, ?_⟩
    rw [hp3, Heap.size_push]
    exact Nat.lt_succ_of_lt lt
  have st3 : tn 0 s3.heap := T.keep _ _ _ st2 fun b _ o z => by rw [hp3]; exact Heap.get?_push_of_some _ z
  have I4 := block_start I3 ok hN f3
  have nfp : ∀ b ∈ fp, (upd H2 a (newD t)) b = none := fun b mb => (f3 b mb).1.1
  show codeAny _ _ (.compStart (.DictComp kx vx [⟨tg, iter, ifs, 0⟩] scope pos) 0 (.ref it) (.ref a) (compEnvC scope (cellsFrom (s3.heap.objs.size + 1) scope.names (cloFrom X.env.cells scope.names [])) s3.heap.objs.size X.env)) (compPost (model X.prog X.w) X.A X.xe none Qf (.ref a) s3.heap.objs.size)
    { s3 with heap := pushCells (s3.heap.push { cls := .type "dict", data := .dict #[] }) scope.names }
  have pg := hg s3 (upd H2 a (newD t)) s3.heap.objs.size (cellsFrom (s3.heap.objs.size + 1) scope.names (cloFrom X.env.cells scope.names [])) fp
  have pt := ht s3 (upd H2 a (newD t)) s3.heap.objs.size (cellsFrom (s3.heap.objs.size + 1) scope.names (cloFrom X.env.cells scope.names [])) fp
  have pk := hk s3 (upd H2 a (newD t)) s3.heap.objs.size (cellsFrom (s3.heap.objs.size + 1) scope.names (cloFrom X.env.cells scope.names [])) fp
  have pv := he s3 (upd H2 a (newD t)) s3.heap.objs.size (cellsFrom (s3.heap.objs.size + 1) scope.names (cloFrom X.env.cells scope.names [])) fp
  generalize ec : compEnvC scope (cellsFrom (s3.heap.objs.size + 1) scope.names (cloFrom X.env.cells scope.names [])) s3.heap.objs.size X.env = ce at I4 pg pt pk pv ⊢
  have locs : ce.locals = s3.heap.objs.size := by rw [← ec]; rfl
  generalize eH : upd H2 a (newD t) = H3 at I3 I4 pg pt pk pv w0 nfp f3
  generalize e4 : ({ s3 with heap := pushCells (s3.heap.push { cls := .type "dict", data := .dict #[] }) scope.names } : Shared) = s4 at I4 ⊢
  have st4 : tn 0 s4.heap := T.keep _ _ _ st3 fun b _ o z => by rw [← e4]; exact pushCells_keeps _ _ _ _ (Heap.get?_push_of_some _ z)
  have own_ok : ∀ {σ' : L2.St} {H' : Hp} {s' : Shared}, Inv (X.blk s3 H3 scope ce fp) [] σ' H' s' → (∀ b ∈ fp, H' b = none) → ∀ b ∈ fp, FpOk (X.blk s3 H3 scope ce fp) [] H' b := fun {σ' H' s'} J' hn b mb =>
    ⟨hn b mb, (J'.ok.exf b mb).1, J'.ok.exfs b mb, .inl mb, fun x c z => (J'.ok.exf b mb).2 x c z, fun p mp => absurd (show p ∈ ([] : List (Addr × Obj)) ++ [] from mp) (by simp)⟩
  have loop : codeAny (model X.prog X.w) X.A (.compLoop (.DictComp kx vx [⟨tg, iter, ifs, 0⟩] scope pos) 0 (.ref it) (.ref a) ce) (compPost (model X.prog X.w) X.A X.xe none Qf (.ref a) s3.heap.objs.size) s4 := by
    refine compLoop_anyD (fun n s' => ∃ i H', Inv (X.blk s3 H3 scope ce fp) [] (wipe σ (own.map (·.2))) H' s' ∧ tn i s'.heap ∧ (∀ b ∈ fp, H' b = none) ∧ W i n H') (fun n s5 ⟨i, H5, I5, st5, n5, w5⟩ => ?_) m0 ⟨0, H3, I4, st4, nfp, w0⟩
    rcases turn i n H5 w5 with ⟨stop, done⟩ | ⟨go, N, hN2, step⟩
    · refine thnF (T.done (X.blk s3 H3 scope ce fp) rfl rfl rfl hc i [] s5 _ H5 (fun _ _ => False) I5 (own_ok I5 n5) st5 stop) fun r s6 ⟨hr, I6⟩ => ?_
      subst hr
      have I7 : Inv X pins σ H5 s6 := I3.call' (ch := fp) I6.os I6.base I6.hok I6.bare fun b mb => let z := (f3 b mb).1.2; ⟨z.2.2.1, z.1, z.2.2.2.1, z.2.2.2.2⟩
      obtain ⟨m, hns, _⟩ := I6.loc
      have hns : s6.heap.Ns ce.locals m := hns
      have nl : H5 ce.locals = none := I6.free
      rw [locs] at hns nl
      exact fin a s3.heap.objs.size s6 m H5 I7 done hns (I3.fpOk (Nat.le_refl _) nl)
    · refine thnF (T.item (X.blk s3 H3 scope ce fp) rfl rfl rfl hc i [] s5 _ H5 (fun _ _ => False) I5 (own_ok I5 n5) st5 go) fun r s6 ⟨u, hr, h6⟩ => ?_
      subst hr
      refine thnF h6 fun _ s7 ⟨x, H7, I7, r7, y7, st7, n7⟩ => ?_
      refine thnF (pg.run _ s7 _ H7 x u _ (I7.pinned (own_ok I7 n7) (T.obj _ _ st7)) r7 (step x H7 y7)) fun _ s8 ⟨σ8, H8, I8, wp8, q8⟩ => ?_
      have next : ∀ {s' : Shared} {H' : Hp}, Inv (X.blk s3 H3 scope ce fp) ([] ++ pinsAt fp s7.heap) σ8 H' s' → N H' → ∃ m, m < n ∧ ∃ i H', Inv (X.blk s3 H3 scope ce fp) [] (wipe σ (own.map (·.2))) H' s' ∧ tn i s'.heap ∧ (∀ b ∈ fp, H' b = none) ∧ W i m H' := fun {s' H'} J' nx => by
        obtain ⟨m', lt, w'⟩ := hN2 H' nx
        have pinned : ∀ b ∈ fp, ∀ o, s7.heap.get? b = some o → s'.heap.get? b = some o ∧ H' b = none := fun b mb o z =>
          have y := J'.pin (b, o) (List.mem_append_right _ (List.mem_append_right _ (mem_pinsAt mb z)))
          ⟨y.1, y.2.1⟩
        refine ⟨m', lt, i + 1, H', (J'.unpinned (pins := [])).weak (by rw [← wp8, wipe_length]) (fun j v z => ?_), T.keep _ _ _ st7 fun b mb o z => (pinned b mb o z).1, fun b mb => ?_, w'⟩
        · exact (wipe_some (by rw [wp8]; exact z)).1
        · have ⟨o, z, _⟩ := T.obj _ _ st7 b mb
          exact (pinned b mb o z).2
      refine thnF (pt.run _ s8 σ8 H8 _ I8 q8) fun b s9 ⟨H9, I9, q9⟩ => ?_
      cases b with
      | false =>
        simp only [Bool.false_eq_true, if_false] at q9 ⊢
        exact next I9 q9
      | true =>
        simp only [if_true] at q9 ⊢
        refine thnF (pk.run _ s9 σ8 H9 _ I9 q9) fun z1 s10 ⟨y1, H10, I10, r10, q10⟩ => thnF (pv.run _ s10 σ8 H10 _ I10 q10) fun z2 s11 ⟨y2, H11, I11, r11, H12, put, nx⟩ => ?_
        exact dictSet_put (X := X.blk s3 H3 scope ce fp) hu I11 put r10 r11 fun s12 I12 => next I12 nx
  exact codeAny_compStart_dict loop (T.self X.A 0 _ _ _ st4 loop)
theorem pe_dcg {X : Cx} {t : Bool} {kx vx tg iter : Expr} {ifs : List Expr} {scope : Scope} {own : List (Str × Nat)} {pos : Pos} {wi : TI} {g : TG} {tt : TT} {tk tv : TE} (hc : X.calm = true) (hu : X.A.units < cLine) (hN : X.N.Nodup) (hi : PI X tg iter wi) (ok : BlkOk X.N X.env.scope scope own)
    (hg : AllB X scope fun Y => PG Y tg g) (ht : AllB X scope fun Y => PTs Y ifs tt) (hk : AllB X scope fun Y => PE Y kx tk) (he : AllB X scope fun Y => PE Y vx tv) (hs : ∀ x, foldedSetIterable iter X.env x = pure x) : PE X (.DictComp kx vx [⟨tg, iter, ifs, 0⟩] scope pos) (tDcG t wi g tt tk tv (own.map (·.2))) := ⟨fun pins s σ H Q I h => by
  rw [arm_eval_DictComp]
  exact dcg_core hc hu hN I hi ok hg ht hk he hs h fun D C s' m H' I' q ns ⟨f0, f1, f2, f3, f4, f5⟩ => ⟨m, ns, fun h'' sb => ⟨.ref D, H', I'.turned (t' := s'.toks) (fun b o nb z => (sb.2 b nb).trans z) f0 f1 f3 f4 f5, rfl, q⟩⟩⟩
theorem dct_putH {C : Ct} {r : Lay} {H : Hp} {t : Bool} {a : Addr} {m : List (D × D)} {d x : D} {y v : V} (h : CellR C r H a (.dct t m)) (hk : D.key t d = true) (hl : m.length < sizeLine) (q : RD C r H d y) (qx : RD C r H x v) :
    ∃ o, DPut H a y v (upd H a o) ∧ Mut (some o) ∧ (FutW r H r (upd H a o) → CellR C r (upd H a o) a (.dct t (dPut m d x))) := by
  cases t with
  | false =>
    obtain ⟨vs, h1, h2⟩ := h
    obtain ⟨k, k1, rfl⟩ := key1_at hk q
    exact ⟨_, .inl ⟨vs, k, h1, rfl, by rw [← h2.length]; exact hl, rfl⟩, trivial, fun f => ⟨_, upd_same, RKs.put keyD_eq k1 (qx.futW f) (h2.futW f)⟩⟩
  | true =>
    obtain ⟨vs, h1, h2⟩ := h
    obtain ⟨k, b, k1, rfl, k2⟩ := keyT_at hk q
    exact ⟨_, .inr ⟨vs, k, b, h1, rfl, k2, by rw [← h2.length]; exact hl, rfl⟩, trivial, fun f => ⟨_, upd_same, RKs.put keyTD_eq k1 (qx.futW f) (h2.futW f)⟩⟩
theorem newD_cell {C : Ct} {r : Lay} {H : Hp} (t : Bool) (a : Addr) : CellR C r (upd H a (newD t)) a (.dct t []) := by
  cases t <;> exact ⟨[], upd_same, .nil⟩
theorem newD_mut (t : Bool) : Mut (some (newD t)) := by cases t <;> trivial
def dcW (L : Lib) (b : Bool) (ke ve : E) (t : T) (it : It) (c : Eo) : St' → Sto → (DL.D → Sto → Prop) → EX → Prop := fun env st Q' X' =>
  wpIt L it env st (fun xs stay st => dcGo b stay (fun d k => wpT t d env k) (fun env st k => wpC L c env st (fun b st => k b st) fun _ _ => False) (fun env st k => wpE L ke env st k fun _ _ => False) (fun env st k => wpE L ve env st k fun _ _ => False) xs [] st fun ds st => Q' (.loc st.length) (st ++ [.dct b ds])) X'
theorem dc_imp {C : Ct} {L : Lib} {W : WX} {b : Bool} {ke ve : E} {t : T} {it : It} {c : Eo} {σ : L2.St} {H : Hp} {Q : VK} (h : rdP C W (dcW L b ke ve t it c) σ H Q) :
    tDcG b (rdIt C L W it) (rdG C t) (rdC C L c) (rdE C L W0 ke) (rdE C L W0 ve) t.slots σ H Q := by
  obtain ⟨r, env, st, Q', X', R, Re, w, k, xw⟩ := h
  refine ⟨r, env, st, _, X', R, Re, w, fun r1 st1 H1 xs stay J f1 R1 itr w1 => ?_, xw⟩
  intro a ha
  have ha1 : r1.off a := R1.free ha
  have Re1 := Re.fut f1
  refine ⟨fun i mm H => mm = xs.length - i ∧ i ≤ xs.length ∧ ∃ (r2 : Lay) (st2 : Sto) (m : List (DL.D × DL.D)), Fut r1 H1 (r2.1, r1.2) H ∧ FutW r1 H1 r2 H ∧ r2.2 = a :: r1.2 ∧ Rel C r2 st2 H ∧ CellR C r2 H a (.dct b m) ∧
    dcGo b stay (fun d k => wpT t d env k) (fun env st k => wpC L c env st (fun b st => k b st) fun _ _ => False) (fun env st k => wpE L ke env st k fun _ _ => False) (fun env st k => wpE L ve env st k fun _ _ => False) (xs.drop i) m st2 fun ds st => Q' (.loc st.length) (st ++ [.dct b ds]), ?_, ?_⟩
  · exact ⟨xs.length, by simp, Nat.zero_le _, (r1.1, a :: r1.2), st1, [], Fut.frz ha, FutW.hide ha, rfl, R1.hide ha (newD_mut b), newD_cell b a, w1⟩
  · rintro i mm H ⟨rfl, hi, r2, st2, m, f2, f2w, e2, R2, hc, w2⟩
    have ain : a ∈ r2.2 := by rw [e2]; exact List.mem_cons_self
    have an : a ∉ r2.1 := (R2.hid a ain).1
    obtain ⟨oa, ea, _⟩ := hc.some
    by_cases hlt : i < xs.length
    · refine .inr ?_
      rw [List.drop_eq_getElem_cons hlt] at w2
      obtain ⟨hst, w2⟩ := stayOk_iff w2
      obtain ⟨hgo, hy⟩ := (itr i r2 st2 H f2w R2 hst).2 _ (List.getElem?_eq_getElem hlt)
      refine ⟨hgo, fun H' => ∃ (r2 : Lay) (st2 : Sto) (m : List (DL.D × DL.D)), Fut r1 H1 (r2.1, r1.2) H' ∧ FutW r1 H1 r2 H' ∧ r2.2 = a :: r1.2 ∧ Rel C r2 st2 H' ∧ CellR C r2 H' a (.dct b m) ∧
        dcGo b stay (fun d k => wpT t d env k) (fun env st k => wpC L c env st (fun b st => k b st) fun _ _ => False) (fun env st k => wpE L ke env st k fun _ _ => False) (fun env st k => wpE L ve env st k fun _ _ => False) (xs.drop (i + 1)) m st2 fun ds st => Q' (.loc st.length) (st ++ [.dct b ds]),
        fun H' z => ⟨xs.length - (i + 1), by omega, rfl, hlt, z⟩, fun x H' hyy => ?_⟩
      obtain ⟨f3, R3, q3⟩ := hy x H' hyy
      have later : ∀ (r5 : Lay) (H5 : Hp), Fut r2 H r5 H5 → Fut r1 H1 (r5.1, r1.2) H5 ∧ FutW r1 H1 r5 H5 ∧ r5.2 = a :: r1.2 ∧ CellR C r5 H5 a (.dct b m) := fun r5 H5 g => by
        refine ⟨⟨fun a o u e => g.lk a o u (f2.lk a o u e), fun z o e n => g.keep z o (f2.keep z o e n) (f2.notin e n), f2.ext.trans g.ext, rfl, fun z mz => ?_⟩, f2w.trans g.w, g.hid.trans e2, hc.fut g ((g.keep a _ ea an).trans ea.symm)⟩
        rcases g.new z mz with q | q
        · exact f2.new z q
        · by_cases n : z ∈ r1.1
          · exact .inl n
          · cases e : H1 z with
            | none => exact .inr rfl
            | some o => rw [f2.keep z o e n] at q; cases q
      have Rew : REp C r2 H' (fun j => j ∉ t.slots) env (wipe σ t.slots) := ⟨by rw [wipe_length]; exact Re1.1, fun j d p e => by
        obtain ⟨v, e1, q1⟩ := Re1.2 j d e
        exact ⟨v, by rw [wipe_get, if_neg p]; exact e1, (q1.futW f2w).fut f3⟩⟩
      refine ⟨r2, st2, _, env, _, _, R3, Rew, q3, w2, fun env' σ' Re' hl hk w3 => ⟨wipe_same hl hk, ?_⟩⟩
      have Re' : RE C r2 H' env' σ' := re_of Re' fun j => (Classical.em _).symm
      refine ⟨r2, env', st2, _, R3, Re', w3, fun r4 st4 H4 t4 f4 R4 w4 => ?_⟩
      have g4 := f3.trans f4
      cases t4 with
      | false =>
        obtain ⟨a1, a2, a3, a4⟩ := later r4 H4 g4
        simp only [Bool.false_eq_true, if_false]
        exact ⟨r4, st4, m, a1, a2, a3, R4, a4, w4⟩
      | true =>
        simp only [if_true]
        refine ⟨r4, env', st4, _, _, R4, Re'.fut f4, w4, fun r5 st5 H5 d5 v5 f5 R5 q5 w5 => ?_, xw0⟩
        refine ⟨r5, env', st5, _, _, R5, Re'.fut (f4.trans f5), w5, fun r6 st6 H6 d6 v6 f6 R6 q6 w6 => ?_, xw0⟩
        obtain ⟨b1, b2, b3, b4⟩ := later r6 H6 (g4.trans (f5.trans f6))
        obtain ⟨hkey, hlen, w6⟩ := w6
        obtain ⟨o6, put, mu, hc6⟩ := dct_putH b4 hkey hlen (q5.fut f6) q6
        have ain6 : a ∈ r6.2 := by rw [b3]; exact List.mem_cons_self
        refine ⟨_, put, r6, st6, dPut m d5 d6, ⟨fun a o u e => lk_set (R6.nfH ain6) a o u (b1.lk a o u e), fun z o e n => ?_, b1.ext, rfl, b1.new⟩, b2.trans (FutW.setH ain6 (R6.nfH ain6)), b3, R6.setH ain6 mu, hc6 (FutW.setH ain6 (R6.nfH ain6)), w6⟩
        rw [upd_ne fun q => by subst q; rw [ha] at e; cases e]
        exact b1.keep z o e n
    · have hi' : i = xs.length := by omega
      subst hi'
      rw [List.drop_length] at w2
      obtain ⟨hst, w2⟩ := stayOk_iff w2
      refine .inl ⟨(itr _ r2 st2 H f2w R2 hst).1 (Nat.le_refl _), ?_⟩
      have sh : FutW r2 H (r2.1 ++ [a], r1.2) H := FutW.adopt e2
      refine k (r2.1 ++ [a], r1.2) (st2 ++ [Cell.dct b m]) H (.loc st2.length) _ (f1.trans ⟨f2.lk, f2.keep, f2.ext.trans ⟨[a], rfl⟩, rfl, fun z mz => ?_⟩) (R2.adopt (c := .dct b m) e2 ha1.2 (hc.futW sh rfl)) (.loc ?_) w2
      · rcases List.mem_append.mp mz with q | q
        · exact f2.new z q
        · rw [List.mem_singleton.mp q]; exact .inr ha
      · show (r2.1 ++ [a])[st2.length]? = _
        rw [← R2.len]
        simp
section
variable {X : Cx} {L : Lib} {T : Tab} {k : Nat} {sc : Scope} {W : WX} {cm : Bool}
theorem sd_dc {b : Bool} {ke ve : E} {tt : DL.T} {it : DL.It} {c : Eo} {x y tg iter : Expr} {ifs : List Expr} {scope : Scope} {pos : Pos} (G : Good L T k X sc W cm) (hc : cm = true) (hi : PI X tg iter (rdIt (ctOf X) L W it))
    (hb : blkC X.N sc scope (ownOf X.N tt.slots) = true) (ho : (ownOf X.N tt.slots).map (·.2) = tt.slots) (hT : okT X.N scope tt tg = true) (hs : noSet iter = true)
    (hk : AllB X scope fun Y => PE Y x (rdE (ctOf X) L W0 ke)) (he : AllB X scope fun Y => PE Y y (rdE (ctOf X) L W0 ve)) (ht : AllB X scope fun Y => PTs Y ifs (rdC (ctOf X) L c)) :
    PE X (.DictComp x y [⟨tg, iter, ifs, 0⟩] scope pos) (rdE (ctOf X) L W (.dc b ke ve tt it c)) := by
  have base : PE X (.DictComp x y [⟨tg, iter, ifs, 0⟩] scope pos) (rdP (ctOf X) W (dcW L b ke ve tt it c)) :=
    peI (pe_dcg (t := b) (G.calm hc).1 (by have := G.un; omega) G.nd hi (blk_of G hb) (fun s H C cl fp => sg_t (X := X.blk s H scope (compEnvC scope cl C X.env) fp) rfl G.nd relS_ok (good_blk G (s := s) (H := H) (scope := scope) (cl := cl) (C := C) (fp := fp)).fn (G.calm hc).1 tt tg hT) ht hk he (folded_of hs)) fun σ H Q h => by
      rw [ho]
      exact dc_imp h
  cases hn : notKeys it with
  | true =>
    refine peI base fun σ H Q ⟨r, env, st, Q', X', R, Re, w, k, xw⟩ => ⟨r, env, st, Q', X', R, Re, ?_, k, xw⟩
    unfold wpE at w
    rw [lockIt_no hn] at w
    exact w
  | false =>
    cases it with
    | keys a => exact peI (pe_lock base) fun σ H Q h => lock_imp (fun _ _ _ _ _ z => z) h
    | _ => cases hn
end
end DL

set_option maxHeartbeats 3200000
/-! DLSet: sorted(set(list of ints)). -/
namespace DL
open PySem PySem.Spec PyProof.Rows L2
/-- a set that is begun -/
abbrev begun (w : World) : Obj := ⟨.type "set", none, .set #[] 0 (.fresh 0 0 (!w.params.followText "set-order")), #[]⟩
section
variable {P : Program} {w : World} {A : Around} {E : Value → Shared → Prop} {s : Shared}
/-- what set.__init__ leaves -/
def FullSet (w : World) (s : Shared) (S : Addr) (ns : List Int) (s2 : Shared) : Prop :=
  ∃ h2 t2 c, s2 = { s with heap := h2, toks := t2 } ∧ SetR w h2 S (fun j => decide (j ∈ ns)) c ∧ ∀ b o, b ≠ S → s.heap.get? b = some o → h2.get? b = some o
theorem set_filled {l S : Addr} {items : Array Value} {ns : List Int} (none0 : A.handled = none) (isL : s.heap.IsList l items) (it : IntsAre items.toList ns) (room : ns.length + 1 < scanBound) (gS : s.heap.get? S = some (begun w)) :
    codeAny (model P w) A (.call (.builtin "set.__init__") ⟨[.ref S, .ref l], []⟩) (wants (fun r s2 => r = .none ∧ FullSet w s S ns s2) E) s := by
  have tS : Shared.TypeIs s (.ref S) "set" := ⟨_, gS, rfl⟩
  refine codeAny_call_builtin F.called_set.init.plain F.entry_set_init (check_set_init_1 tS ?_)
  obtain ⟨ob, gl, cl, cap, dat⟩ := isL
  have isL := (⟨ob, gl, cl, cap, dat⟩ : s.heap.IsList l items)
  obtain ⟨c0, d0, x0, y0⟩ := ob
  obtain rfl : c0 = _ := cl
  obtain rfl : x0 = _ := dat
  have z1 := F.sub_list_set
  have z2 := F.sub_list_frozenset
  have z3 : (Value.type "list" == Value.type "dict") = false := by decide
  unfold Builtin.«set.__init__» noKeywords Builtin.Frozenset.updateFrom
  generalize eit : pyIter = walkOf
  wp_walk
  subst eit
  have zl : l < s.heap.objs.size := Heap.lt_size gl
  have zS : S < s.heap.objs.size := Heap.lt_size gS
  have ne : S ≠ l := fun e => by
    rw [e, gl] at gS
    have q : Value.type "list" = Value.type "set" := congrArg Obj.cls (Option.some.inj gS)
    exact absurd q (by decide)
  have len : items.size = ns.length := by
    have := IntsAre.length it
    rwa [Array.length_toList] at this
  refine wpAny_pyIter_list isL ?_
  refine wpAny_bind (wpAny_runValue ?_)
  refine set_update_ints (ns := ns) (n := items.size) ((Walks.list (by simp [none0]) _ l (Nat.ne_of_lt zl) items).toS) S ?_ len room ?_ _ 0 _ rfl (Nat.zero_le _) ?_ ⟨0, Nat.le_refl 0, setR_new_at (Heap.get?_push_of_some _ gS)⟩ ?_
  · simp only [List.mem_cons, List.not_mem_nil, or_false, not_or]
    exact ⟨Nat.ne_of_lt zS, ne⟩
  · intro i v e
    have e : items[i]? = some v := e
    have hi : i < ns.length := by
      rw [← len]
      exact (Array.getElem?_eq_some_iff.mp e).1
    obtain ⟨t, q⟩ := PyProof.Rows.IntsAre.int_at it i v (by rw [Array.getElem?_toList]; exact e)
    refine ⟨ns[i], t, List.getElem?_eq_getElem hi, q.trans ?_⟩
    rw [List.getD_eq_getElem?_getD, List.getElem?_eq_getElem hi]
    rfl
  · exact ⟨⟨_, Heap.get?_push_size _ rfl, rfl, rfl⟩, Heap.IsList.push isL _⟩
  · intro s2 c mv _ R
    obtain ⟨h2, g2, d2, t2, o2⟩ := s2
    obtain rfl : g2 = s.gens := mv.gens
    obtain rfl : d2 = s.drawn := mv.drawn
    obtain rfl : o2 = s.os := mv.os
    refine wpAny_pure ?_
    refine wpAny_pure ⟨rfl, h2, t2, c, rfl, R, fun b o n e => ?_⟩
    refine mv.heap b o ?_ (Heap.get?_push_of_some _ e)
    simp only [List.mem_cons, List.not_mem_nil, or_false, not_or]
    exact ⟨n, Nat.ne_of_lt (Heap.lt_size e)⟩
/-- set(xs) -/
theorem set_called {l : Addr} {items : Array Value} {ns : List Int} {Q : Value → Shared → Prop} (none0 : A.handled = none) (isL : s.heap.IsList l items) (it : IntsAre items.toList ns) (room : ns.length + 1 < scanBound)
    (fin : ∀ h2 t2 c, SetR w h2 s.heap.objs.size (fun j => decide (j ∈ ns)) c → (∀ b o, s.heap.get? b = some o → h2.get? b = some o) → Q (.ref s.heap.objs.size) { s with heap := h2, toks := t2 }) :
    wpAny (model P w) A (call (.type "set") [.ref l]) Q E s := by
  obtain ⟨c, tl, way⟩ := F.called_set.mro
  have q1 := F.called_set.made
  have q2 := F.called_set.sub
  have q3 := F.called_set.notType
  have q4 := F.called_set.canCreate
  have q5 := F.typeCall_set_1 (.ref l)
  refine wpAny_call (codeAny_of_tree ?_)
  show wpAny _ _ (callAny (.type "set") ⟨[.ref l], []⟩) _ _ _
  refine wpAny_pure ⟨Code.quiet_builtin _ (by decide +kernel), codeAny_builtin F.entry_type_call ?_⟩
  rw [Around.under_plain (weight_type_call_type "set" [.ref l] []) rfl]
  repeat any_goals first | assumption | wp_step
  refine codeAny_mono (code_set_led1 (.ref l) (E := E) (Q₁ := fun v s1 => v = .ref s.heap.objs.size ∧ s1 = { s with heap := s.heap.push (begun w) }) ⟨rfl, rfl⟩) fun out s1 made => ?_
  match out, made with
  | .error e, made => exact made
  | .ok (.ret v), made =>
    obtain ⟨rfl, rfl⟩ := made
    have g1 : (s.heap.push (begun w)).get? s.heap.objs.size = some (begun w) := Heap.get?_push_size _ rfl
    have ty : Shared.TypeIs { s with heap := s.heap.push (begun w) } (.ref s.heap.objs.size) "set" := ⟨_, g1, rfl⟩
    have q6 := F.called_set.init.lookup
    have q7 := F.called_set.init.bind (.ref s.heap.objs.size)
    repeat any_goals first | assumption | wp_step
    refine codeAny_mono (set_filled (E := E) none0 (Heap.IsList.push isL _) it room g1) fun out2 s2 done => ?_
    match out2, done with
    | .error e, done => exact done
    | .ok (.ret u), done =>
      obtain ⟨rfl, h2, t2, c2, rfl, R, kept⟩ := done
      repeat any_goals first | assumption | wp_step
      exact fin h2 t2 c2 R fun b o e => kept b o (Nat.ne_of_lt (Heap.lt_size e)) (Heap.get?_push_of_some _ e)
end
/-- a list without doubles is no longer than one that has all its items -/
theorem few_of {α : Type} [DecidableEq α] : ∀ {xs B : List α}, xs.Nodup → (∀ x ∈ xs, x ∈ B) → xs.length ≤ B.length
  | [], _, _, _ => Nat.zero_le _
  | x :: xs, B, nd, h => by
    rw [List.nodup_cons] at nd
    have hx := h x List.mem_cons_self
    have := few_of (B := B.erase x) nd.2 fun y my => (List.mem_erase_of_ne fun e => nd.1 (by rw [← e]; exact my)).mpr (h y (List.mem_cons_of_mem _ my))
    rw [List.length_erase_of_mem hx] at this
    have := List.length_pos_of_mem hx
    simp only [List.length_cons]
    omega
section
variable {X : Cx}
def rSetL (X : Cx) : List V → Hp → VK → Prop := fun xs H Q => ∃ (a : Addr) (ns B : List Int), xs = [.ref a] ∧ SqL X.K H a (ns.map V.int) ∧ ns.length ≤ 4000 ∧ B.length < 64 ∧ (∀ z ∈ ns, z ∈ B) ∧
  ∀ p c, H p = none → c < 64 → Q (.ref p) (upd H p (SetO X.w p (fun j => decide (j ∈ ns)) c))
theorem cr_setL (hc : X.calm = true) : CallR X (.type "set") (rSetL X) := by
  intro pins s σ H xs us Q I r ⟨a, ns, B, e, hl, h1, h2, h3, q⟩
  subst e
  obtain ⟨its, rv, pl, _⟩ := I.list hl
  rw [Vals.ref1 r]
  refine set_called (ns := ns) (I.ok.hd hc) pl.isList rv.ints (by unfold scanBound; omega) fun hp tk c R kept => ?_
  have few : c < 64 := by
    obtain ⟨o, es, ep, t, _, _, _, _, nd, mem, _, _, sz, _⟩ := R
    have := few_of (B := B) nd fun z mz => h3 z (by simpa using (mem z).mpr mz)
    rw [List.length_map, Array.length_toList] at this
    omega
  exact ⟨.ref _, _, I.laid (a := s.heap.objs.size) (o := SetO X.w _ (fun j => decide (j ∈ ns)) c) kept (Nat.le_refl _) (setO_new R), rfl, q _ c (I.hok.fresh (Nat.le_refl _)) few⟩
variable {L : Lib} {T : Tab} {k : Nat} {sc : Scope} {W : WX} {cm : Bool}
theorem sd_ssort {m : Bool} {a : E} {x : Expr} {p p2 p3 p4 : Pos} (G : Good L T k X sc W cm) (hc : cm = true) (g1 : Gl X "sorted") (g2 : Gl X "set") (m1 : X.mg "sorted" = none) (m2 : X.mg "set" = none) (hs : noStar x = true) (ha : PE X x (rdE (ctOf X) L W a)) :
    PE X (.Call (.Name (Str.ofString "sorted") p2) [.Call (.Name (Str.ofString "set") p3) [x] [] p4] [] p) (rdE (ctOf X) L W (.ssort m a)) := by
  have inner := pe_callTy (pos := p4) (p := p3) (cr_setL (X := X) (G.calm hc).1) g2 m2 (by decide +kernel) (pa_cons ha pa_nil (star_cons hs)) (by decide +kernel) (by decide +kernel) (star_cons hs) (any_star fun e z => nomatch z)
  refine peI (pe_callB (pos := p) (p := p2) (cr_sortedSet (X := X) (G.calm hc).1) g1 m1 (by decide +kernel) (pa_cons inner pa_nil (star_cons rfl)) (by decide +kernel) (by decide +kernel) (star_cons rfl) (any_star fun e z => nomatch z)) fun σ H Q ⟨r, env, st, Q', X', R, Re, w, k, xw⟩ => ?_
  refine ⟨r, env, st, _, X', R, Re, w, fun r1 st1 H1 d v f1 R1 q1 w1 => ?_, xw⟩
  obtain ⟨l, xs, vs, _, rfl, hl, t, ns, B, rfl, h1, h2, h3, w2⟩ := lstH R1 q1 (show lstK d st1 (fun xs _ => ∃ ns B : List Int, xs = ns.map .int ∧ ns.length ≤ 4000 ∧ B.length < 64 ∧ (∀ z ∈ ns, z ∈ B) ∧ ∀ out : List Int, out.Pairwise (· < ·) → (∀ z, z ∈ out ↔ z ∈ ns) → newL m (out.map .int) st1 Q') from w1)
  obtain rfl := ints_at t
  refine ⟨l, ns, B, rfl, SqL.of hl, h1, h2, h3, fun p c hp hc2 => ⟨p, _, c, rfl, upd_same, hc2, fun out p2 s1 s2 s3 hp2 => ?_⟩⟩
  have f2 : Fut r1 H1 r1 (upd H1 p (SetO X.w p (fun j => decide (j ∈ ns)) c)) := Fut.frz hp
  exact ((k.mono f1).mono f2).newL (m := m) (R1.frz hp) (RDs.ints out) (w2 out s1 fun z => by rw [s2 z]; simp) p2 hp2
end
end DL

set_option maxHeartbeats 1000000
/-! DLMain: every expression that okE takes is read as wpE says. -/
namespace DL
open PySem PySem.Spec PyProof.Rows L2
section
variable {X : Cx} {L : Lib} {T : Tab} {k : Nat} {sc : Scope} {W : WX} {cm : Bool}
/-- an expression's value, its test -/
structure PB (X : Cx) (L : Lib) (W : WX) (e : E) (ex : Expr) : Prop where
  v : PE X ex (rdE (ctOf X) L W e)
  t : PT X ex (rdT (ctOf X) L W e)
theorem pb_of {e : E} {ex : Expr} (h : PE X ex (rdE (ctOf X) L W e)) (he : ∀ whole, isTrue ex X.env whole = (do let v ← whole; standAt ex.pos; holding [v] (truthy v))) : PB X L W e ex :=
  ⟨h, ptI (pt_val h he) fun σ H Q q => rdT_of (x := ex) q⟩
theorem pt_ife {c a b : E} {x y z : Expr} {p : Pos} (hc : PT X x (rdT (ctOf X) L W c)) (ha : PT X y (rdT (ctOf X) L W a)) (hb : PT X z (rdT (ctOf X) L W b)) : PT X (.IfExp x y z p) (rdT (ctOf X) L W (.ife c a b)) := by
  refine ⟨fun pins s σ H Q I ⟨r, env, st, Q', X', R, Re, w, k, xw⟩ => ?_⟩
  have w : wpE L c env st (fun x st => onBl x fun t => ifB t (wpE L a env st (fun d st => onBl d fun b => Q' b st) X') (wpE L b env st (fun d st => onBl d fun b => Q' b st) X')) X' := w
  have key : rdT (ctOf X) L W c σ H fun t H1 => if t = true then rdT (ctOf X) L W a σ H1 Q else rdT (ctOf X) L W b σ H1 Q :=
    ⟨r, env, st, fun t st => ifB t (wpE L a env st (fun d st => onBl d fun b => Q' b st) X') (wpE L b env st (fun d st => onBl d fun b => Q' b st) X'), X', R, Re, w, fun r1 st1 H1 t f1 R1 w1 => by
      cases t with
      | true => simp only [if_true]; exact ⟨r1, env, st1, Q', X', R1, Re.fut f1, w1, k.mono f1, xw.mono f1⟩
      | false => simp only [Bool.false_eq_true, if_false]; exact ⟨r1, env, st1, Q', X', R1, Re.fut f1, w1, k.mono f1, xw.mono f1⟩, xw⟩
  rw [PySem.isTrue]
  refine wpAny_bind (thn (hc.run pins s σ H _ I key) fun d s1 ⟨H1, I1, q1⟩ => ?_)
  cases d with
  | true => simp only [if_true] at q1 ⊢; exact ha.run pins s1 σ H1 Q I1 q1
  | false => simp only [Bool.false_eq_true, if_false] at q1 ⊢; exact hb.run pins s1 σ H1 Q I1 q1
end
def nlOp : Bool → CmpOp
  | true => .NotEq
  | false => .Eq
theorem st_nilq {neg : Bool} {a : E} {x b : Expr} {p : Pos} (hu : X.A.units + 65 < cLine) (ha : PE X x (rdE (ctOf X) L W a)) (hb : PE X b (rdE (ctOf X) L W (.tup .nil))) (hs : noSet b = true) :
    PT X (.Compare x [nlOp neg] [b] p) (rdT (ctOf X) L W (.nilq neg a)) :=
  ptI (pt_cmpR (show OpR X (compareOp (nlOp neg)) (rNilq (ctOf X) neg) by cases neg <;> exact or_nilq (C := ctOf X) rfl hu _) ha hb (behind_of hs)) fun σ H Q ⟨r, env, st, Q', X', R, Re, w, k, xw⟩ =>
    ⟨r, env, st, _, X', R, Re, w, fun r1 st1 H1 d v f1 R1 q1 w1 => ⟨r1, env, st1, fun d2 st2 => d2 = .tup [] ∧ D.pure d = true ∧ Q' (neg != D.eqv d (.tup [])) st2, X', R1, Re.fut f1, ⟨Nat.zero_le _, rfl, w1⟩, fun r2 st2 H2 d2 v2 f2 R2 q2 w2 => by
      obtain ⟨rfl, w3, w4⟩ := w2
      exact ⟨r2, st2, d, fun d st => onBl d fun b => Q' b st, R2, q1.fut f2, q2, w3, w4, fun r3 st3 H3 d3 v3 f3 R3 q3 w5 => by
        obtain ⟨b, rfl, w5⟩ := onBl_iff w5
        cases q3
        exact ⟨b, rfl, k r3 st3 H3 b (f1.trans (f2.trans f3)) R3 w5⟩⟩, xw.mono f1⟩, xw⟩
mutual
theorem snd (L : Lib) (T : Tab) (k : Nat) : ∀ (e : E) {X : Cx} {sc : Scope} {W : WX} {cm : Bool} (ex : Expr), Good L T k X sc W cm → okE T X.N sc cm e ex = true → PB X L W e ex
  | .non, X, sc, W, cm, ex, G, h => by
    cases ex with
    | Constant c j p =>
      cases c with
      | none => exact pb_of (sd_c (d := .non) pe_non (fun _ _ => .non) fun _ _ _ _ w => w) fun _ => rfl
      | _ => cases h
    | _ => cases h
  | .dead, X, sc, W, cm, ex, G, h => ⟨⟨fun _ _ _ _ _ _ ⟨_, _, _, _, _, _, _, w, _⟩ => w.elim⟩, ⟨fun _ _ _ _ _ _ ⟨_, _, _, _, _, _, _, w, _⟩ => w.elim⟩⟩
  | .bl b, X, sc, W, cm, ex, G, h => by
    cases ex with
    | Constant c j p =>
      cases c with
      | bool y =>
        obtain rfl : b = y := of_decide_eq_true h
        exact pb_of (sd_c (d := .bl b) pe_bl (fun _ _ => .bl b) fun _ _ _ _ w => w) fun _ => rfl
      | _ => cases h
    | _ => cases h
  | .int i, X, sc, W, cm, ex, G, h => by
    cases ex with
    | Constant c j p =>
      cases c with
      | int y =>
        obtain rfl : i = y := of_decide_eq_true h
        exact pb_of (sd_c (d := .int i) pe_int (fun _ _ => .int i) fun _ _ _ _ w => w) fun _ => rfl
      | _ => cases h
    | _ => cases h
  | .str z, X, sc, W, cm, ex, G, h => by
    cases ex with
    | Constant c j p =>
      cases c with
      | str y =>
        obtain rfl : y = Str.ofString z := of_decide_eq_true h
        exact pb_of (sd_c (d := .str z) pe_str (fun _ _ => .str z) fun _ _ _ _ w => w) fun _ => rfl
      | _ => cases h
    | _ => cases h
  | .v i, X, sc, W, cm, ex, G, h => by
    cases ex with
    | Name x p =>
      have h : (decide (X.N[i]? = some x) && visB sc x && okNm x) = true := h
      simp only [Bool.and_eq_true, decide_eq_true_eq] at h
      obtain ⟨n1, n2, n3⟩ := okNm_of h.2
      exact pb_of (sd_v h.1.1 (vis_of G.so h.1.2) n1 n2) fun _ => rfl
    | _ => cases h
  | .g z, X, sc, W, cm, ex, G, h => by
    cases ex with
    | Name x p =>
      have h : (decide (x = Str.ofString z) && glB sc x && okNm x && T.globs.contains z) = true := h
      simp only [Bool.and_eq_true, decide_eq_true_eq] at h
      obtain ⟨n1, n2, n3⟩ := okNm_of h.1.2
      exact pb_of (sd_g G h.1.1.1 (gl_of G.so h.1.1.2) n1 (by simpa using h.2)) fun _ => rfl
    | _ => cases h
  | .tup es, X, sc, W, cm, ex, G, h => by
    cases ex with
    | Tuple xs j p => exact pb_of (sd_tup (sndEs L T k es xs G h)) fun _ => rfl
    | _ => cases h
  | .lst m es, X, sc, W, cm, ex, G, h => by
    cases ex with
    | List xs p => exact pb_of (sd_lst (sndEs L T k es xs G h)) fun _ => rfl
    | _ => cases h
  | .dct t, X, sc, W, cm, ex, G, h => by
    match ex, h with
    | .Dict [] [] p, h => exact pb_of sd_dct fun _ => rfl
  | .dsp ks vs, X, sc, W, cm, ex, G, h => by
    match ex, h with
    | .Dict kxs vxs p, h =>
      have h : (okKs ks kxs && decide ks.Nodup && !ks.isEmpty && decide (ks.length ≤ 15) && okEs T X.N sc cm vs vxs && decide (vxs.length = ks.length)) = true := h
      simp only [Bool.and_eq_true, decide_eq_true_eq, Bool.not_eq_true'] at h
      obtain ⟨⟨⟨⟨⟨h1, h2⟩, h3⟩, h4⟩, h5⟩, h6⟩ := h
      have hk := okKs_len h1
      exact pb_of (sd_dsp (sndPps L T k vs ks vxs kxs p G h1 h5 h6) h2 (fun z => by rw [z] at h3; cases h3) h4 (okEs_len h5) h6 hk.1 hk.2) fun _ => rfl
  | .lrep m a b, X, sc, W, cm, ex, G, h => by
    match ex, h with
    | .BinOp x op y p, h =>
      have h : (decide (op = .Mult) && okE T X.N sc cm a x && okE T X.N sc cm b y) = true := h
      simp only [Bool.and_eq_true, decide_eq_true_eq] at h
      obtain ⟨⟨rfl, h1⟩, h2⟩ := h
      exact pb_of (sd_lrep (snd L T k a x G h1).v (snd L T k b y G h2).v) fun _ => rfl
  | .lcat m a b, X, sc, W, cm, ex, G, h => by
    match ex, h with
    | .BinOp x op y p, h =>
      have h : (decide (op = .Add) && okE T X.N sc cm a x && okE T X.N sc cm b y) = true := h
      simp only [Bool.and_eq_true, decide_eq_true_eq] at h
      obtain ⟨⟨rfl, h1⟩, h2⟩ := h
      exact pb_of (sd_lcat (snd L T k a x G h1).v (snd L T k b y G h2).v) fun _ => rfl
  | .ssort m a, X, sc, W, cm, ex, G, h => by
    match ex, h with
    | .Call (.Name f p2) [.Call (.Name g p3) [x] [] p4] [] p, h =>
      have h : (cm && decide (f = Str.ofString "sorted") && glB sc f && T.free.contains "sorted" && decide (g = Str.ofString "set") && glB sc g && T.free.contains "set" && okE T X.N sc cm a x && noStar x) = true := h
      simp only [Bool.and_eq_true, decide_eq_true_eq] at h
      obtain ⟨⟨⟨⟨⟨⟨⟨⟨h1, h2⟩, h3⟩, h4⟩, h5⟩, h6⟩, h7⟩, h8⟩, h9⟩ := h
      subst h2 h5
      exact pb_of (sd_ssort (m := m) G h1 (gl_of G.so h3) (gl_of G.so h6) (G.lib.free "sorted" (by simpa using h4)) (G.lib.free "set" (by simpa using h7)) h9 (snd L T k a x G h8).v) fun _ => rfl
  | .nilq neg a, X, sc, W, cm, ex, G, h => by
    match ex, h with
    | .Compare x [op] [.Tuple [] kk p2] p, h =>
      have h : (decide (op = nlOp neg) && okE T X.N sc cm a x) = true := by cases neg <;> exact h
      obtain ⟨h0, h1⟩ := Bool.and_eq_true_iff.mp h
      have h0 := of_decide_eq_true h0
      subst h0
      match neg with
      | true => exact ⟨sd_nilq (neg := true) (p := p) G.un (snd L T k a x G h1).v (sd_tup (sndEs L T k .nil [] G rfl)) rfl, st_nilq (neg := true) (p := p) G.un (snd L T k a x G h1).v (sd_tup (sndEs L T k .nil [] G rfl)) rfl⟩
      | false => exact ⟨sd_nilq (neg := false) (p := p) G.un (snd L T k a x G h1).v (sd_tup (sndEs L T k .nil [] G rfl)) rfl, st_nilq (neg := false) (p := p) G.un (snd L T k a x G h1).v (sd_tup (sndEs L T k .nil [] G rfl)) rfl⟩
  | .isi2 a t u, X, sc, W, cm, ex, G, h => by
    match ex, h with
    | .Call (.Name f p2) [x, .Tuple [.Name c p3, .Name d p4] kk p5] [] p, h =>
      have h : (decide (f = Str.ofString "isinstance") && glB sc f && decide (c = Str.ofString t.nm) && glB sc c && decide (d = Str.ofString u.nm) && glB sc d && T.free.contains "isinstance" && T.free.contains t.nm && T.free.contains u.nm && decide (t ≠ .non) && decide (u ≠ .non) && okE T X.N sc cm a x && noStar x) = true := h
      simp only [Bool.and_eq_true, decide_eq_true_eq] at h
      obtain ⟨⟨⟨⟨⟨⟨⟨⟨⟨⟨⟨⟨h1, h2⟩, h3⟩, h4⟩, h5⟩, h6⟩, h7⟩, h8⟩, h9⟩, h10⟩, h11⟩, h12⟩, h13⟩ := h
      subst h1
      subst h3
      subst h5
      exact pb_of (sd_isi2 G h10 h11 (gl_of G.so h2) (gl_of G.so h4) (gl_of G.so h6) h7 h8 h9 h13 (snd L T k a x G h12).v) fun _ => rfl
  | .bin o a b, X, sc, W, cm, ex, G, h => by
    cases ex with
    | BinOp x op y p =>
      have h : (decide (op = o.op) && okE T X.N sc cm a x && okE T X.N sc cm b y) = true := h
      simp only [Bool.and_eq_true, decide_eq_true_eq] at h
      obtain rfl := h.1.1
      exact pb_of (sd_bin (snd L T k a x G h.1.2).v (snd L T k b y G h.2).v) fun _ => rfl
    | _ => cases h
  | .un o a, X, sc, W, cm, ex, G, h => by
    cases ex with
    | UnaryOp op x p =>
      have h : (decide (op = o.op) && okE T X.N sc cm a x) = true := h
      simp only [Bool.and_eq_true, decide_eq_true_eq] at h
      obtain rfl := h.1
      exact pb_of (sd_un (o := o) (snd L T k a x G h.2).v) fun _ => by cases o <;> rfl
    | _ => cases h
  | .cmp o a b, X, sc, W, cm, ex, G, h => by
    cases ex with
    | Compare x ops ys p =>
      cases ops with
      | nil => cases h
      | cons op ops =>
        cases ops with
        | cons _ _ => cases h
        | nil =>
          cases ys with
          | nil => cases h
          | cons y ys =>
            cases ys with
            | cons _ _ => cases h
            | nil =>
              have h : (decide (op = o.op) && okE T X.N sc cm a x && okE T X.N sc cm b y && noSet y) = true := h
              simp only [Bool.and_eq_true, decide_eq_true_eq] at h
              obtain rfl := h.1.1.1
              exact ⟨sd_cmp G.un h.2 (snd L T k a x G h.1.1.2).v (snd L T k b y G h.1.2).v, st_cmp G.un h.2 (snd L T k a x G h.1.1.2).v (snd L T k b y G h.1.2).v⟩
    | _ => cases h
  | .cmp2 o o' a b c, X, sc, W, cm, ex, G, h => by
    cases ex with
    | Compare x ops ys p =>
      match ops, ys, h with
      | [op, op'], [y, z], h =>
        have h : (decide (op = o.op) && decide (op' = o'.op) && okE T X.N sc cm a x && okE T X.N sc cm b y && okE T X.N sc cm c z && noSet z) = true := h
        simp only [Bool.and_eq_true, decide_eq_true_eq] at h
        obtain rfl := h.1.1.1.1.1
        obtain rfl := h.1.1.1.1.2
        exact ⟨sd_cmp2 G.un h.2 (snd L T k a x G h.1.1.1.2).v (snd L T k b y G h.1.1.2).v (snd L T k c z G h.1.2).v, st_cmp2 G.un h.2 (snd L T k a x G h.1.1.1.2).v (snd L T k b y G h.1.1.2).v (snd L T k c z G h.1.2).v⟩
    | _ => cases h
  | .and_ es, X, sc, W, cm, ex, G, h => by
    cases ex with
    | BoolOp op xs p =>
      cases op with
      | And => exact ⟨(sndAnd L T k es xs p G h).1, ⟨fun pins s σ H Q I q => (sndAnd L T k es xs p G h).2.run _ pins s σ H Q I q⟩⟩
      | _ => cases h
    | _ => cases h
  | .or_ es, X, sc, W, cm, ex, G, h => by
    cases ex with
    | BoolOp op xs p =>
      cases op with
      | Or => exact ⟨(sndOr L T k es xs p G h).1, ⟨fun pins s σ H Q I q => (sndOr L T k es xs p G h).2.run _ pins s σ H Q I q⟩⟩
      | _ => cases h
    | _ => cases h
  | .not_ a, X, sc, W, cm, ex, G, h => by
    cases ex with
    | UnaryOp op x p =>
      cases op with
      | Not => exact ⟨sd_not (snd L T k a x G h).v, st_not (snd L T k a x G h).t⟩
      | _ => cases h
    | _ => cases h
  | .ife c a b, X, sc, W, cm, ex, G, h => by
    cases ex with
    | IfExp x y z p =>
      have h : (okE T X.N sc cm c x && okE T X.N sc cm a y && okE T X.N sc cm b z) = true := h
      simp only [Bool.and_eq_true] at h
      exact ⟨sd_ife (snd L T k c x G h.1.1).t (snd L T k a y G h.1.2).v (snd L T k b z G h.2).v, pt_ife (snd L T k c x G h.1.1).t (snd L T k a y G h.1.2).t (snd L T k b z G h.2).t⟩
    | _ => cases h
  | .ix a i, X, sc, W, cm, ex, G, h => by
    cases ex with
    | Subscript x y p =>
      have h : (okE T X.N sc cm a x && okE T X.N sc cm i y && noSlice y) = true := h
      simp only [Bool.and_eq_true] at h
      exact pb_of (sd_ix G.un h.2 (snd L T k a x G h.1.1).v (snd L T k i y G h.1.2).v) fun _ => rfl
    | _ => cases h
  | .sl m a lo hi, X, sc, W, cm, ex, G, h => by
    cases ex with
    | Subscript x y p =>
      cases y with
      | Slice l u stp p2 =>
        cases stp with
        | some _ => cases h
        | none =>
          have h : (okE T X.N sc cm a x && okEo T X.N sc cm lo l && okEo T X.N sc cm hi u) = true := h
          simp only [Bool.and_eq_true] at h
          exact pb_of (sd_sl (snd L T k a x G h.1.1).v (sndEo L T k lo l G h.1.2) (sndEo L T k hi u G h.2)) fun _ => rfl
      | _ => cases h
    | _ => cases h
  | .rev m a, X, sc, W, cm, ex, G, h => by
    match ex, h with
    | .Subscript x (.Slice none none (some (.UnaryOp .USub (.Constant (.int 1) kk p1) p2)) p3) p, h =>
      exact pb_of (sd_rev (snd L T k a x G h).v) fun _ => rfl
  | .isi a t, X, sc, W, cm, ex, G, h => by
    match ex, h with
    | .Call (.Name f p2) [x, .Name c p3] [] p, h =>
      have h : (decide (f = Str.ofString "isinstance") && glB sc f && decide (c = Str.ofString t.nm) && glB sc c && T.free.contains "isinstance" && T.free.contains t.nm && decide (t ≠ .non) && okE T X.N sc cm a x && noStar x) = true := h
      simp only [Bool.and_eq_true, decide_eq_true_eq] at h
      obtain ⟨⟨⟨⟨⟨⟨⟨⟨h1, h2⟩, h3⟩, h4⟩, h5⟩, h6⟩, h7⟩, h8⟩, h9⟩ := h
      subst h1
      subst h3
      exact pb_of (sd_isi G h7 (gl_of G.so h2) (gl_of G.so h4) h5 h6 h9 (snd L T k a x G h8).v) fun _ => rfl
  | .call f es, X, sc, W, cm, ex, G, h => by
    match ex, h with
    | .Call (.Name x p2) xs [] p, h =>
      have h : (decide (x = Str.ofString f) && glB sc x && okNm x && cm && T.fns.contains f && okEs T X.N sc cm es xs) = true := h
      simp only [Bool.and_eq_true, decide_eq_true_eq] at h
      obtain ⟨⟨⟨⟨⟨h1, h2⟩, h3⟩, h4⟩, h5⟩, h6⟩ := h
      exact pb_of (sd_call G h4 h1 (gl_of G.so h2) (okNm_of h3).1 (by simpa using h5) h6 (sndEs L T k es xs G h6)) fun _ => rfl
  | .new c es, X, sc, W, cm, ex, G, h => by
    match ex, h with
    | .Call (.Name x p2) xs [] p, h =>
      have h : (decide (x = Str.ofString c) && glB sc x && okNm x && cm && T.news.contains c && okEs T X.N sc cm es xs) = true := h
      simp only [Bool.and_eq_true, decide_eq_true_eq] at h
      obtain ⟨⟨⟨⟨⟨h1, h2⟩, h3⟩, h4⟩, h5⟩, h6⟩ := h
      exact pb_of (sd_new G h4 h1 (gl_of G.so h2) (okNm_of h3).1 (by simpa using h5) h6 (sndEs L T k es xs G h6)) fun _ => rfl
  | .fld o f, X, sc, W, cm, ex, G, h => by
    match ex, h with
    | .Attribute x a p, h =>
      have h : (decide (a = Str.ofString f) && okE T X.N sc cm o x && noCall0 x) = true := h
      simp only [Bool.and_eq_true, decide_eq_true_eq] at h
      exact pb_of (sd_fld h.1.1 h.2 (snd L T k o x G h.1.2).v) fun _ => rfl
  | .meth c m o es, X, sc, W, cm, ex, G, h => by
    match ex, h with
    | .Call (.Attribute x a ap) xs [] cp, h =>
      have h : (decide (a = Str.ofString m) && okE T X.N sc cm o x && noCall0 x && okEs T X.N sc cm es xs && (ap.endLine == cp.line) && decide (xs.length < 29) && cm && T.meths.contains (c, m)) = true := h
      simp only [Bool.and_eq_true, decide_eq_true_eq] at h
      obtain ⟨⟨⟨⟨⟨⟨⟨h1, h2⟩, h3⟩, h4⟩, h5⟩, h6⟩, h7⟩, h8⟩ := h
      exact pb_of (sd_meth G h7 h1 (snd L T k o x G h2).v h3 h4 (sndEs L T k es xs G h4) h5 h6 (by simpa using h8)) fun _ => rfl
  | .bm b o es, X, sc, W, cm, ex, G, h => by
    match ex, h with
    | .Call (.Attribute x a ap) xs [] cp, h =>
      have h : (decide (a = Str.ofString b.nm) && okE T X.N sc cm o x && noCall0 x && okEs T X.N sc cm es xs && (ap.endLine == cp.line) && b.ok xs.length) = true := h
      simp only [Bool.and_eq_true, decide_eq_true_eq] at h
      obtain ⟨⟨⟨⟨⟨h1, h2⟩, h3⟩, h4⟩, h5⟩, h6⟩ := h
      refine pb_of (sd_bm G h1 (snd L T k o x G h2).v h3 (sndEs L T k es xs G h4) (okEs_star h4) h5 h6 fun e => ?_) fun _ => rfl
      subst e
      cases es with
      | nil => rfl
      | cons _ _ => cases h4
  | .bi m f es, X, sc, W, cm, ex, G, h => by
    match ex, h with
    | .Call (.Name x p2) xs [] p, h =>
      have h : (decide (x = Str.ofString f.nm) && glB sc x && okNm x && cm && T.free.contains f.nm && !xs.isEmpty && okEs T X.N sc cm es xs) = true := h
      simp only [Bool.and_eq_true, decide_eq_true_eq] at h
      obtain ⟨⟨⟨⟨⟨⟨h1, h2⟩, h3⟩, h4⟩, h5⟩, h6⟩, h7⟩ := h
      cases xs with
      | nil => cases h6
      | cons y ys => exact pb_of (sd_bi G h4 h1 (gl_of G.so h2) h5 (okEs_star h7) (sndEs L T k es _ G h7)) fun _ => rfl
  | .lc m elt t it c, X, sc, W, cm, ex, G, h => by
    match ex, h with
    | .ListComp x [⟨tg, iter, ifs, kk⟩] scope p, h =>
      have h : (cm && decide (kk = 0) && okIt T X.N sc cm it iter && noSet iter && (!itTup it || isTupE tg) && okT X.N scope t tg && blkC X.N sc scope (ownOf X.N t.slots) && decide ((ownOf X.N t.slots).map (·.2) = t.slots) && okE T X.N scope cm elt x && okC T X.N scope cm c ifs) = true := h
      simp only [Bool.and_eq_true, decide_eq_true_eq] at h
      obtain ⟨⟨⟨⟨⟨⟨⟨⟨⟨h1, h2⟩, h3⟩, h4⟩, h5⟩, h6⟩, h7⟩, h8⟩, h9⟩, h10⟩ := h
      subst h2
      refine pb_of (sd_lc G h1 (sndIt L T k it tg iter G h3 (by simpa using h5)) h7 h8 h6 h4 (fun s H C cl fp => (snd L T k elt x (good_blk G) h9).v) fun s H C cl fp => ?_) fun _ => rfl
      cases c with
      | none =>
        cases ifs with
        | nil => exact ⟨fun pins s σ H Q I ⟨r, env, st, Q', R, Re, w, kp⟩ => pts_nil.run pins s σ H Q I (kp r st H true .refl R w)⟩
        | cons _ _ => cases h10
      | some e =>
        match ifs, h10 with
        | [y], h10 => exact ⟨fun pins s σ H Q I ⟨r, env, st, Q', R, Re, w, kp⟩ => (pts_one (snd L T k e y (good_blk G) h10).t).run pins s σ H Q I ⟨r, env, st, Q', _, R, Re, w, kp, xw0⟩⟩
  | .lc2 .., X, sc, W, cm, ex, G, h => by cases h
  | .dc b ke ve t it c, X, sc, W, cm, ex, G, h => by
    match ex, h with
    | .DictComp x y [⟨tg, iter, ifs, kk⟩] scope p, h =>
      have h : (cm && decide (kk = 0) && okIt T X.N sc cm it iter && noSet iter && (!itTup it || isTupE tg) && okT X.N scope t tg && blkC X.N sc scope (ownOf X.N t.slots) && decide ((ownOf X.N t.slots).map (·.2) = t.slots) && okE T X.N scope cm ke x && okE T X.N scope cm ve y && okC T X.N scope cm c ifs) = true := h
      simp only [Bool.and_eq_true, decide_eq_true_eq] at h
      obtain ⟨⟨⟨⟨⟨⟨⟨⟨⟨⟨h1, h2⟩, h3⟩, h4⟩, h5⟩, h6⟩, h7⟩, h8⟩, h9⟩, h10⟩, h11⟩ := h
      subst h2
      refine pb_of (sd_dc G h1 (sndIt L T k it tg iter G h3 (by simpa using h5)) h7 h8 h6 h4 (fun s H C cl fp => (snd L T k ke x (good_blk G) h9).v) (fun s H C cl fp => (snd L T k ve y (good_blk G) h10).v) fun s H C cl fp => ?_) fun _ => rfl
      cases c with
      | none =>
        cases ifs with
        | nil => exact ⟨fun pins s σ H Q I ⟨r, env, st, Q', R, Re, w, kp⟩ => pts_nil.run pins s σ H Q I (kp r st H true .refl R w)⟩
        | cons _ _ => cases h11
      | some e =>
        match ifs, h11 with
        | [z], h11 => exact ⟨fun pins s σ H Q I ⟨r, env, st, Q', R, Re, w, kp⟩ => (pts_one (snd L T k e z (good_blk G) h11).t).run pins s σ H Q I ⟨r, env, st, Q', _, R, Re, w, kp, xw0⟩⟩
theorem sndEs (L : Lib) (T : Tab) (k : Nat) : ∀ (es : Es) {X : Cx} {sc : Scope} {W : WX} {cm : Bool} (xs : List Expr), Good L T k X sc W cm → okEs T X.N sc cm es xs = true → PA X xs (rdEs (ctOf X) L W es)
  | .nil, X, sc, W, cm, xs, G, h => by
    cases xs with
    | nil => exact sa_nil
    | cons _ _ => cases h
  | .cons e es, X, sc, W, cm, xs, G, h => by
    cases xs with
    | nil => cases h
    | cons x xs =>
      have h : (okE T X.N sc cm e x && noStar x && okEs T X.N sc cm es xs) = true := h
      simp only [Bool.and_eq_true] at h
      exact sa_cons h.1.2 (snd L T k e x G h.1.1).v (sndEs L T k es xs G h.2)
theorem sndPps (L : Lib) (T : Tab) (k : Nat) : ∀ (es : Es) (ks : List String) {X : Cx} {sc : Scope} {W : WX} {cm : Bool} (xs : List Expr) (kxs : List (Option Expr)) (p : Pos), Good L T k X sc W cm → okKs ks kxs = true → okEs T X.N sc cm es xs = true → xs.length = ks.length → PPs X p kxs xs (trsOf (ctOf X) L W ks es)
  | .nil, ks, X, sc, W, cm, xs, kxs, p, G, h1, h2, hl => by
    cases xs with
    | cons _ _ => cases h2
    | nil =>
      cases ks with
      | cons _ _ => cases hl
      | nil =>
        cases kxs with
        | nil => exact pps_nil
        | cons _ _ => cases h1
  | .cons e es, ks, X, sc, W, cm, xs, kxs, p, G, h1, h2, hl => by
    cases xs with
    | nil => cases h2
    | cons x xs =>
      cases ks with
      | nil => cases hl
      | cons kk ks =>
        have h2 : (okE T X.N sc cm e x && noStar x && okEs T X.N sc cm es xs) = true := h2
        simp only [Bool.and_eq_true] at h2
        exact pps_step h1 (snd L T k e x G h2.1.1).v fun kxs' h3 => sndPps L T k es ks xs kxs' p G h3 h2.2 (Nat.succ.inj hl)
theorem sndEo (L : Lib) (T : Tab) (k : Nat) : ∀ (e : Eo) {X : Cx} {sc : Scope} {W : WX} {cm : Bool} (x : Option Expr), Good L T k X sc W cm → okEo T X.N sc cm e x = true → PO X x (rdEo (ctOf X) L W e)
  | .none, X, sc, W, cm, x, G, h => by
    cases x with
    | none => exact so_none
    | some _ => cases h
  | .some e, X, sc, W, cm, x, G, h => by
    cases x with
    | none => cases h
    | some x => exact so_some (snd L T k e x G h).v
theorem sndAnd (L : Lib) (T : Tab) (k : Nat) : ∀ (es : Es) {X : Cx} {sc : Scope} {W : WX} {cm : Bool} (xs : List Expr) (p : Pos), Good L T k X sc W cm → okEs T X.N sc cm es xs = true →
    PE X (.BoolOp .And xs p) (rdE (ctOf X) L W (.and_ es)) ∧ PW X (.BoolOp .And xs p) (rdT (ctOf X) L W (.and_ es))
  | .nil, X, sc, W, cm, xs, p, G, h => ⟨⟨fun _ _ _ _ _ _ ⟨_, _, _, _, _, _, _, w, _⟩ => w.elim⟩, ⟨fun _ _ _ _ _ _ _ ⟨_, _, _, _, _, _, _, w, _⟩ => w.elim⟩⟩
  | .cons e es, X, sc, W, cm, xs, p, G, h => by
    cases xs with
    | nil => cases h
    | cons x xs =>
      have h : (okE T X.N sc cm e x && noStar x && okEs T X.N sc cm es xs) = true := h
      simp only [Bool.and_eq_true] at h
      have b := snd L T k e x G h.1.1
      cases es with
      | nil =>
        cases xs with
        | nil => exact ⟨sd_and1 b.v, st_and1 b.t⟩
        | cons _ _ => cases h.2
      | cons e2 es2 =>
        cases xs with
        | nil => cases h.2
        | cons y ys =>
          have r := sndAnd L T k (.cons e2 es2) (y :: ys) p G h.2
          exact ⟨sd_and b.v r.1, st_and b.t r.2⟩
theorem sndOr (L : Lib) (T : Tab) (k : Nat) : ∀ (es : Es) {X : Cx} {sc : Scope} {W : WX} {cm : Bool} (xs : List Expr) (p : Pos), Good L T k X sc W cm → okEs T X.N sc cm es xs = true →
    PE X (.BoolOp .Or xs p) (rdE (ctOf X) L W (.or_ es)) ∧ PW X (.BoolOp .Or xs p) (rdT (ctOf X) L W (.or_ es))
  | .nil, X, sc, W, cm, xs, p, G, h => ⟨⟨fun _ _ _ _ _ _ ⟨_, _, _, _, _, _, _, w, _⟩ => w.elim⟩, ⟨fun _ _ _ _ _ _ _ ⟨_, _, _, _, _, _, _, w, _⟩ => w.elim⟩⟩
  | .cons e es, X, sc, W, cm, xs, p, G, h => by
    cases xs with
    | nil => cases h
    | cons x xs =>
      have h : (okE T X.N sc cm e x && noStar x && okEs T X.N sc cm es xs) = true := h
      simp only [Bool.and_eq_true] at h
      have b := snd L T k e x G h.1.1
      cases es with
      | nil =>
        cases xs with
        | nil => exact ⟨sd_or1 b.v, st_or1 b.t⟩
        | cons _ _ => cases h.2
      | cons e2 es2 =>
        cases xs with
        | nil => cases h.2
        | cons y ys =>
          have r := sndOr L T k (.cons e2 es2) (y :: ys) p G h.2
          exact ⟨sd_or b.v r.1, st_or b.t r.2⟩
theorem sndIt (L : Lib) (T : Tab) (k : Nat) : ∀ (it : DL.It) {X : Cx} {sc : Scope} {W : WX} {cm : Bool} (tg x : Expr), Good L T k X sc W cm → okIt T X.N sc cm it x = true → (itTup it = false ∨ isTupE tg = true) → PI X tg x (rdIt (ctOf X) L W it)
  | .e a, X, sc, W, cm, tg, x, G, h, ht => si_e (snd L T k a x G h).v
  | .range1 a, X, sc, W, cm, tg, ex, G, h, ht => by
    match ex, h with
    | .Call (.Name f p2) [x] [] p, h =>
      have h : (decide (f = Str.ofString "range") && glB sc f && T.free.contains "range" && okE T X.N sc cm a x && noStar x) = true := h
      simp only [Bool.and_eq_true, decide_eq_true_eq] at h
      obtain ⟨⟨⟨⟨h1, h2⟩, h3⟩, h4⟩, h5⟩ := h
      subst h1
      exact si_range1 (gl_of G.so h2) (G.lib.free "range" (by simpa using h3)) h5 (snd L T k a x G h4).v
  | .range2 a b, X, sc, W, cm, tg, ex, G, h, ht => by
    match ex, h with
    | .Call (.Name f p2) [x, y] [] p, h =>
      have h : (decide (f = Str.ofString "range") && glB sc f && T.free.contains "range" && okE T X.N sc cm a x && okE T X.N sc cm b y && noStar x && noStar y) = true := h
      simp only [Bool.and_eq_true, decide_eq_true_eq] at h
      obtain ⟨⟨⟨⟨⟨⟨h1, h2⟩, h3⟩, h4⟩, h5⟩, h6⟩, h7⟩ := h
      subst h1
      exact si_range2 (gl_of G.so h2) (G.lib.free "range" (by simpa using h3)) h6 h7 (snd L T k a x G h4).v (snd L T k b y G h5).v
  | .zip a b, X, sc, W, cm, tg, ex, G, h, ht => by
    match ex, h with
    | .Call (.Name f p2) [x, y] [] p, h =>
      have h : (decide (f = Str.ofString "zip") && glB sc f && T.free.contains "zip" && okE T X.N sc cm a x && okE T X.N sc cm b y && noStar x && noStar y) = true := h
      simp only [Bool.and_eq_true, decide_eq_true_eq] at h
      obtain ⟨⟨⟨⟨⟨⟨h1, h2⟩, h3⟩, h4⟩, h5⟩, h6⟩, h7⟩ := h
      subst h1
      have ht : isTupE tg = true := ht.resolve_left (fun z => nomatch z)
      cases tg with
      | Tuple es j tp => exact si_zip (gl_of G.so h2) (G.lib.free "zip" (by simpa using h3)) h6 h7 (snd L T k a x G h4).v (snd L T k b y G h5).v
      | _ => cases ht
  | .enum a, X, sc, W, cm, tg, ex, G, h, ht => by
    match ex, h with
    | .Call (.Name f p2) [x] [] p, h =>
      have h : (decide (f = Str.ofString "enumerate") && glB sc f && T.free.contains "enumerate" && okE T X.N sc cm a x && noStar x) = true := h
      simp only [Bool.and_eq_true, decide_eq_true_eq] at h
      obtain ⟨⟨⟨⟨h1, h2⟩, h3⟩, h4⟩, h5⟩ := h
      subst h1
      have ht : isTupE tg = true := ht.resolve_left (fun z => nomatch z)
      cases tg with
      | Tuple es j tp => exact si_enum (gl_of G.so h2) (G.lib.free "enumerate" (by simpa using h3)) h5 (snd L T k a x G h4).v
      | _ => cases ht
  | .rev a, X, sc, W, cm, tg, ex, G, h, ht => by
    match ex, h with
    | .Call (.Name f p2) [x] [] p, h =>
      have h : (decide (f = Str.ofString "reversed") && glB sc f && T.free.contains "reversed" && okE T X.N sc cm a x && noStar x) = true := h
      simp only [Bool.and_eq_true, decide_eq_true_eq] at h
      obtain ⟨⟨⟨⟨h1, h2⟩, h3⟩, h4⟩, h5⟩ := h
      subst h1
      exact si_rev (gl_of G.so h2) (G.lib.free "reversed" (by simpa using h3)) h5 (snd L T k a x G h4).v
  | .keys a, X, sc, W, cm, tg, ex, G, h, ht => by
    have h : (okE T X.N sc cm a ex && isPeek a) = true := h
    rw [Bool.and_eq_true] at h
    exact si_keys (snd L T k a ex G h.1).v
  | .range3 _ _ _, X, sc, W, cm, tg, ex, G, h, ht => by cases h
  | .items _, X, sc, W, cm, tg, ex, G, h, ht => by cases h
  | .values _, X, sc, W, cm, tg, ex, G, h, ht => by cases h
end
end DL

set_option maxHeartbeats 1000000
/-! DLStm: every statement that okS takes runs as wpS says. -/
namespace DL
open PySem PySem.Spec PyProof.Rows L2

/-- what is wanted behind, as it lies -/
structure KpP (C : Ct) (r : Lay) (H : Hp) (P : Post) (D : Ends) (W : WX) : Prop where
  nx : ∀ (r' : Lay) (st' : Sto) (H' : Hp) (env' : St') (σ' : L2.St), Fut r H r' H' → Rel C r' st' H' → RE C r' H' env' σ' → P.nx env' st' → D.nx σ' H'
  bk : ∀ (r' : Lay) (st' : Sto) (H' : Hp) (env' : St') (σ' : L2.St), Fut r H r' H' → Rel C r' st' H' → RE C r' H' env' σ' → P.bk env' st' → D.bk σ' H'
  ct : ∀ (r' : Lay) (st' : Sto) (H' : Hp) (env' : St') (σ' : L2.St), Fut r H r' H' → Rel C r' st' H' → RE C r' H' env' σ' → P.ct env' st' → D.ct σ' H'
  rt : ∀ (r' : Lay) (st' : Sto) (H' : Hp) (d : DL.D) (v : V), Fut r H r' H' → Rel C r' st' H' → RD C r' H' d v → P.rt d st' → D.rt v H'
  ex : ∀ (r' : Lay) (st' : Sto) (H' : Hp) (env' : St') (σ' : L2.St) (x : Xc) (cls : Value) (dx : Option Addr), Fut r H r' H' → Rel C r' st' H' → RE C r' H' env' σ' → XR C r' H' x cls dx → P.ex x env' st' → W cls dx σ' H'
theorem KpP.mono {C : Ct} {r r' : Lay} {H H' : Hp} {P : Post} {D : Ends} {W : WX} (k : KpP C r H P D W) (f : Fut r H r' H') : KpP C r' H' P D W where
  nx := fun r2 st2 H2 env2 σ2 g => k.nx r2 st2 H2 env2 σ2 (f.trans g)
  bk := fun r2 st2 H2 env2 σ2 g => k.bk r2 st2 H2 env2 σ2 (f.trans g)
  ct := fun r2 st2 H2 env2 σ2 g => k.ct r2 st2 H2 env2 σ2 (f.trans g)
  rt := fun r2 st2 H2 d v g => k.rt r2 st2 H2 d v (f.trans g)
  ex := fun r2 st2 H2 env2 σ2 x c d g => k.ex r2 st2 H2 env2 σ2 x c d (f.trans g)
theorem KpP.xw {C : Ct} {r : Lay} {H : Hp} {P : Post} {D : Ends} {W : WX} {env : St'} {σ : L2.St} (k : KpP C r H P D W) (Re : RE C r H env σ) : XW C r H σ (fun x st => P.ex x env st) W :=
  fun r' st' H' x cls dx f R q h => k.ex r' st' H' env σ x cls dx f R (Re.fut f) q h
def rdS (C : Ct) (L : Lib) (W : WX) (s : S) : TS := fun D σ H => ∃ r env st P, Rel C r st H ∧ RE C r H env σ ∧ wpS L s env st P ∧ KpP C r H P D W
def rdSs (C : Ct) (L : Lib) (W : WX) (s : Ss) : TS := fun D σ H => ∃ r env st P, Rel C r st H ∧ RE C r H env σ ∧ wpSs L s env st P ∧ KpP C r H P D W
theorem psI {X : Cx} {e : Stmt} {t t' : TS} (h : PS X e t) (i : ∀ D σ H, t' D σ H → t D σ H) : PS X e t' := ⟨fun pins s σ H D I q => h.run pins s σ H D I (i D σ H q)⟩
theorem pssI {X : Cx} {e : List Stmt} {t t' : TS} (h : PSs X e t) (i : ∀ D σ H, t' D σ H → t D σ H) : PSs X e t' := ⟨fun pins s σ H D I q => h.run pins s σ H D I (i D σ H q)⟩
structure GoodS (L : Lib) (T : Tab) (k : Nat) (X : Cx) (sc : Scope) (W : WX) (cm : Bool) : Prop extends Good L T k X sc W cm where
  po : cm = true → PassesOwn (model X.prog X.w) X.A X.env X.xe
  stk : X.stack = X.env :: X.outer
  frm : X.env.frame = some X.env.locals

theorem swaps_of {v : Expr} {t : Option Expr} {l : Nat} {env : Env} (h : noComp v = true) : swapsWith v t l env = pure false := by
  cases v <;> first | rfl | cases h
theorem swapsT_of {v t : Expr} {l : Nat} {env : Env} (h : isNm t = false) : swapsWith v (some t) l env = pure false := by
  cases v <;> first | rfl | (cases t <;> first | rfl | cases h)
theorem swaps_cell {v : Expr} {y : Str} {py : Pos} {l : Nat} {env : Env} (h : env.scope.names.lookup y = some .cell) : swapsWith v (some (.Name y py)) l env = pure false := by
  have ky : env.kindOf y = some .cell := h
  unfold swapsWith
  have kz : (some NameKind.cell == some NameKind.local) = false := rfl
  cases v <;> first | rfl | simp only [ky, kz, Bool.and_false, Bool.false_and]
theorem swaps_cellT {v t : Expr} {l : Nat} {env : Env} {sc : Scope} (K : ScOk env.scope sc) (h : isCellT sc t = true) : swapsWith v (some t) l env = pure false := by
  unfold isCellT at h
  split at h
  · split at h <;> rename_i e
    · exact swaps_cell (K.cl _ e)
    · cases h
  · cases h
theorem stores_of {t v : Expr} {env : Env} (h : isTupE t = false ∨ isTupE v = false) (ht : isTupE t = true ∨ isNm t = true ∨ ∃ o i p, t = .Subscript o i p) : swappedStores [t] v env = pure none := by
  cases t <;> first | (cases v <;> first | rfl | (rcases h with h | h <;> (cases h; done))) | (exfalso; rcases ht with ht | ht | ⟨_, _, _, ht⟩ <;> cases ht)
theorem each_one {t : Expr} {env : Env} (ht : isTupE t = true ∨ isNm t = true ∨ ∃ o i p, t = .Subscript o i p) : (assignEach [t] env).map (·.2) = [assign t env] := by
  cases t <;> first | rfl | (exfalso; rcases ht with ht | ht | ⟨_, _, _, ht⟩ <;> cases ht)
theorem assign_sub {o i : Expr} {p : Pos} {env : Env} (h : noSlice i = true) : ∀ v, assign (.Subscript o i p) env v = (do
      let ov ← holding [v] (eval o env)
      let iv ← holding [v, ov] (eval i env)
      standAt p
      holding [v, ov, iv] (setItem ov iv v)
      release [v, ov, iv] []) := fun v => by
  cases i <;> first | rfl | cases h
theorem aug_sub {i : Expr} (h : noSlice i = true) : ∀ ov iv new, augStore i ov iv new = (do holding [new, ov, iv] (setItem ov iv new); release [new, ov, iv] []; pure .next) := fun ov iv new => by
  cases i <;> first | rfl | cases h

section
variable {X : Cx} {L : Lib} {T : Tab} {k : Nat} {sc : Scope} {W : WX} {cm : Bool}
/-! ### o[i] = v -/
def rSet (C : Ct) : TSet := fun o i v H Q => ∃ r st d e z, ∃ Q' : Sto → Prop, Rel C r st H ∧ RD C r H d o ∧ RD C r H e i ∧ RD C r H z v ∧ wpSet d e z st Q' ∧ ∀ r' st' H', Fut r H r' H' → Rel C r' st' H' → Q' st' → Q H'
theorem set_any (hu : X.A.units + 65 < cLine) : PSet X (rSet (ctOf X)) := by
  intro pins s σ H o i v ov iv u Q I ro ri rv ⟨r, st, d, e, z, Q', R, q1, q2, q3, w, kq⟩
  cases q1 with
  | @loc n a hr =>
    obtain ⟨c, ec, w⟩ := onSome_iff (show onSome st[n]? _ from w)
    cases c with
    | lst xs =>
      obtain ⟨j, rfl, w⟩ := onInt_iff (show onInt e _ from w)
      obtain ⟨m, em, w⟩ := onSome_iff w
      cases q2
      obtain ⟨vs, k1, k2⟩ := R.cells n _ a ec hr
      refine set_list pins s σ H _ _ _ ov iv u Q I ro ri rv ⟨a, vs, j, m, rfl, rfl, k1, by rw [← k2.length]; exact em, ?_⟩
      exact kq r _ _ (Fut.set hr (Mut.nf k1 trivial)) (R.set (c := .lst (xs.set m z)) hr (Mut.nf k1 trivial) ⟨_, upd_same, (RDs.set q3 m k2).fut (Fut.set hr (Mut.nf k1 trivial))⟩) w
    | dct t kvs =>
      obtain ⟨hk, hl, w⟩ := (show _ ∧ _ ∧ Q' _ from w)
      obtain ⟨H', p1, p2, p3⟩ := dct_put R ec hr hk hl q2 q3
      exact set_dict (by omega) pins s σ H _ _ _ ov iv u Q I ro ri rv ⟨a, H', rfl, p1, kq r _ H' p2 p3 w⟩
    | dctF _ _ => exact w.elim
    | obj _ _ => exact w.elim
  | _ => exact w.elim
def rGet (C : Ct) : V → V → Hp → VK → Prop := fun o i H Q => ∃ r st n e, ∃ Q' : DL.D → Prop, Rel C r st H ∧ RD C r H (.loc n) o ∧ RD C r H e i ∧ wpIx (.loc n) e st Q' ∧ ∀ z v, RD C r H z v → Q' z → Q v H
theorem get_any (hu : X.A.units + 65 < cLine) : PGet X (rGet (ctOf X)) := by
  intro pins s σ H o i ov iv Q I ro ri ⟨r, st, n, e, Q', R, q1, q2, w, kq⟩
  cases q1 with
  | @loc n a hr =>
    cases ro
    obtain ⟨c, ec, w⟩ := onSome_iff (show onSome st[n]? _ from w)
    cases c with
    | lst xs =>
      obtain ⟨j, rfl, w⟩ := onInt_iff (show onInt e _ from w)
      obtain ⟨d, e1, w⟩ := onSome_iff w
      cases q2
      obtain ⟨t, rfl⟩ := ri
      obtain ⟨vs, k1, k2⟩ := R.cells n _ a ec hr
      obtain ⟨z, e2, q⟩ := atI_rd k2 e1
      have hq : SqL X.K H a vs := SqL.of k1
      obtain ⟨its, rr, pl, hz⟩ := I.list hq
      obtain ⟨m, h1, h2, h3, h4, h5⟩ := atI_get e2
      obtain ⟨w', ew, rw'⟩ := rr.get h2
      have hl := rr.length
      have hn := line63
      have fin : EP X pins σ Q w' s := ⟨z, H, I, rw', kq _ _ q w⟩
      by_cases h0 : 0 ≤ j
      · have hj : j.toNat = m := by
          rw [seqIndex_of h0 h5] at h1
          exact Option.some.inj h1
        exact wpAny_getItem_list pl.isList h0 (by omega) (by rw [hj]; simpa using ew) fin
      · have hj : (j + (its.toArray.size : Int)).toNat = m := by
          rw [seqIndex_neg (by omega) h4] at h1
          rw [List.size_toArray, ← hl]
          exact Option.some.inj h1
        exact wpAny_getItem_list_neg pl.isList (by omega) (by rw [List.size_toArray] <;> omega) (by omega) (by rw [hj]; simpa using ew) fin
    | dct t kvs =>
      obtain ⟨hk, w⟩ := (show D.key t e = true ∧ onSome (dGet kvs e) _ from w)
      obtain ⟨d, e1, w⟩ := onSome_iff w
      obtain ⟨ov, g, rov⟩ := dct_get (R.cells n _ a ec hr) hk q2
      rw [e1] at rov
      cases ov with
      | none => exact rov.elim
      | some z => exact d_getItem (by omega) I g ri fun w' s' I' rw' => ⟨z, H, I', rw', kq _ _ rov w⟩
    | dctF t kvs =>
      obtain ⟨hk, w⟩ := (show D.key t e = true ∧ onSome (dGet kvs e) _ from w)
      obtain ⟨d, e1, w⟩ := onSome_iff w
      obtain ⟨ov, g, rov⟩ := dct_getF (R.cells n _ a ec hr) hk q2
      rw [e1] at rov
      cases ov with
      | none => exact rov.elim
      | some z => exact d_getItem (by omega) I g ri fun w' s' I' rw' => ⟨z, H, I', rw', kq _ _ rov w⟩
    | obj _ _ => exact w.elim
theorem aug_any {o : Bop} (h : okAug o = true) : PIp X o.op (fun x y H Q => ∃ r st d e Q', Rel (ctOf X) r st H ∧ RD (ctOf X) r H d x ∧ RD (ctOf X) r H e y ∧ wpAug o d e st Q' ∧ Kp (ctOf X) r H Q' Q) := by
  intro pins s σ H x y v u Q I rx ry ⟨r, st, d, e, Q', R, q1, q2, w, k⟩
  cases o <;> first | (cases h; done) | skip
  · obtain ⟨i, rfl, w⟩ := onInt_iff (show onInt d _ from w)
    obtain ⟨j, rfl, w⟩ := onInt_iff w
    cases q1; cases q2
    exact ip_add pins s σ H _ _ v u Q I rx ry ⟨i, j, rfl, rfl, k.now R (.int _) w⟩
  · obtain ⟨i, rfl, w⟩ := onInt_iff (show onInt d _ from w)
    obtain ⟨j, rfl, w⟩ := onInt_iff w
    cases q1; cases q2
    exact ip_sub pins s σ H _ _ v u Q I rx ry ⟨i, j, rfl, rfl, k.now R (.int _) w⟩
end
end DL

set_option maxHeartbeats 1000000
/-! DLStm2: loops, raise, try; all statements. -/
namespace DL
open PySem PySem.Spec PyProof.Rows L2

section
variable {X : Cx} {L : Lib} {T : Tab} {k : Nat} {sc : Scope} {W : WX} {cm : Bool}
theorem ss_nil : PSs X [] (rdSs (ctOf X) L W .nil) := pssI pss_nil fun D σ H ⟨r, env, st, P, R, Re, w, kp⟩ => kp.nx r st H env σ .refl R Re w
theorem ss_cons {s : S} {ss : Ss} {x : Stmt} {xs : List Stmt} (h1 : PS X x (rdS (ctOf X) L W s)) (h2 : PSs X xs (rdSs (ctOf X) L W ss)) : PSs X (x :: xs) (rdSs (ctOf X) L W (.cons s ss)) :=
  pssI (pss_cons h1 h2) fun D σ H ⟨r, env, st, P, R, Re, w, kp⟩ => ⟨r, env, st, { P with nx := fun env st => wpSs L ss env st P }, R, Re, w,
    { kp with nx := fun r1 st1 H1 env1 σ1 f1 R1 Re1 w1 => ⟨r1, env1, st1, P, R1, Re1, w1, kp.mono f1⟩ }⟩
theorem s_asgT {t : DL.T} {e : E} {tg ex : Expr} {p : Pos} (he : PE X ex (rdE (ctOf X) L W e)) (hg : PG X tg (rdG (ctOf X) t)) (h1 : isTupE tg = false ∨ isTupE ex = false) (h2 : swapsWith ex (some tg) p.line X.env = pure false) (ht : isTupE tg = true ∨ isNm tg = true ∨ ∃ o i p, tg = .Subscript o i p) :
    PS X (.Assign [tg] ex p) (rdS (ctOf X) L W (.asg (.t t) e)) :=
  psI (ps_asg he hg (show swapsWith ex (some tg) p.line X.env = pure false from h2) (stores_of h1 ht) (each_one ht)) fun D σ H ⟨r, env, st, P, R, Re, w, kp⟩ =>
    ⟨r, env, st, _, _, R, Re, w, fun r1 st1 H1 d v f1 R1 q1 w1 => ⟨r1, st1, fun _ => True, env, d, _, R1, ⟨(Re.fut f1).1, fun i d _ h => (Re.fut f1).2 i d h⟩, q1, w1, fun env' σ' Re' _ _ w2 => kp.nx r1 st1 H1 env' σ' f1 R1 (re_of Re' fun _ => .inl trivial) w2⟩, kp.xw Re⟩
theorem s_asgIx {a i e : E} {x y ex : Expr} {p p2 : Pos} (hu : X.A.units + 65 < cLine) (hs : noSlice y = true) (ha : PE X x (rdE (ctOf X) L W a)) (hi : PE X y (rdE (ctOf X) L W i)) (he : PE X ex (rdE (ctOf X) L W e)) :
    PS X (.Assign [.Subscript x y p2] ex p) (rdS (ctOf X) L W (.asg (.ix a i) e)) :=
  psI (ps_asg he (pg_sub ha hi (set_any hu) (assign_sub hs)) (show swapsWith ex (some (.Subscript x y p2)) p.line X.env = pure false from swapsT_of rfl) (stores_of (.inl rfl) (.inr (.inr ⟨_, _, _, rfl⟩))) (each_one (.inr (.inr ⟨_, _, _, rfl⟩)))) fun D σ H ⟨r, env, st, P, R, Re, w, kp⟩ =>
    ⟨r, env, st, _, _, R, Re, w, fun r1 st1 H1 d v f1 R1 q1 w1 => ⟨r1, env, st1, _, _, R1, Re.fut f1, w1, fun r2 st2 H2 d2 v2 f2 R2 q2 w2 => ⟨r2, env, st2, _, _, R2, Re.fut (f1.trans f2), w2, fun r3 st3 H3 d3 v3 f3 R3 q3 w3 =>
      ⟨r3, st3, d2, d3, d, _, R3, q2.fut f3, q3, q1.fut (f2.trans f3), w3, fun r4 st4 H4 f4 R4 w4 => kp.nx r4 st4 H4 env σ (f1.trans (f2.trans (f3.trans f4))) R4 (Re.fut (f1.trans (f2.trans (f3.trans f4)))) w4⟩,
      (kp.mono (f1.trans f2)).xw (Re.fut (f1.trans f2))⟩, (kp.mono f1).xw (Re.fut f1)⟩, kp.xw Re⟩
theorem s_augN {o : Bop} {i : Nat} {e : E} {x : Str} {ex : Expr} {p p2 : Pos} (G : Good L T k X sc W cm) (ho : okAug o = true) (hN : X.N[i]? = some x) (hl : locB sc x = true) (he : PE X ex (rdE (ctOf X) L W e)) : PS X (.AugAssign (.Name x p2) o.op ex p) (rdS (ctOf X) L W (.aug o (.t (.v i)) e)) :=
  psI (ps_aug G.nd hN (loc_of G.so hl) he (aug_any ho) (fn_of G.so G.fn hl)) fun D σ H ⟨r, env, st, P, R, Re, w, kp⟩ => by
    obtain ⟨d, e1, w⟩ := getS_iff (show getS env i _ from w)
    obtain ⟨v, e2, q⟩ := Re.2 i d e1
    refine ⟨v, e2, r, env, st, _, _, R, Re, w, fun r1 st1 H1 d1 v1 f1 R1 q1 w1 => ⟨r1, st1, d, d1, _, R1, q.fut f1, q1, w1, fun r2 st2 H2 d2 v2 f2 R2 q2 w2 => ?_⟩, kp.xw Re⟩
    refine kp.nx r2 st2 H2 (setS env i d2) _ (f1.trans f2) R2 ?_ w2
    rw [setS_eq]
    exact (Re.fut (f1.trans f2)).set i q2
theorem s_augIx {o : Bop} {a i e : E} {x y ex : Expr} {p p2 : Pos} (hu : X.A.units + 65 < cLine) (ho : okAug o = true) (hs : noSlice y = true) (ha : PE X x (rdE (ctOf X) L W a)) (hi : PE X y (rdE (ctOf X) L W i)) (he : PE X ex (rdE (ctOf X) L W e)) :
    PS X (.AugAssign (.Subscript x y p2) o.op ex p) (rdS (ctOf X) L W (.aug o (.ix a i) e)) :=
  psI (ps_augS ha hi (get_any hu) he (aug_any ho) (set_any hu) (aug_sub hs)) fun D σ H ⟨r, env, st, P, R, Re, w, kp⟩ =>
    ⟨r, env, st, _, _, R, Re, w, fun r1 st1 H1 d1 v1 f1 R1 q1 w1 => ⟨r1, env, st1, _, _, R1, Re.fut f1, w1, fun r2 st2 H2 d2 v2 f2 R2 q2 w2 => by
      have q1' := q1.fut f2
      cases d1 with
      | loc n =>
        refine ⟨r2, st2, n, d2, _, R2, q1', q2, w2, fun z v3 q3 w3 => ⟨r2, env, st2, _, _, R2, Re.fut (f1.trans f2), w3, fun r4 st4 H4 d4 v4 f4 R4 q4 w4 => ⟨r4, st4, z, d4, _, R4, q3.fut f4, q4, w4, fun r5 st5 H5 d5 v5 f5 R5 q5 w5 =>
          ⟨r5, st5, .loc n, d2, d5, _, R5, q1'.fut (f4.trans f5), q2.fut (f4.trans f5), q5, w5, fun r6 st6 H6 f6 R6 w6 => ?_⟩⟩, (kp.mono (f1.trans f2)).xw (Re.fut (f1.trans f2))⟩⟩
        have ff := f1.trans (f2.trans (f4.trans (f5.trans f6)))
        exact kp.nx r6 st6 H6 env σ ff R6 (Re.fut ff) w6
      | _ => exact w2.elim, (kp.mono f1).xw (Re.fut f1)⟩, kp.xw Re⟩
theorem s_asgFld {o e : E} {f : String} {x ex : Expr} {nm : Str} {p p2 : Pos} (G : Good L T k X sc W cm) (en : nm = Str.ofString f) (ho : PE X x (rdE (ctOf X) L W o)) (he : PE X ex (rdE (ctOf X) L W e)) : PS X (.Assign [.Attribute x nm p2] ex p) (rdS (ctOf X) L W (.asg (.fld o f) e)) := by
  subst en
  refine psI (ps_fld ho he (swapsT_of rfl)) fun D σ H ⟨r, env, st, P, R, Re, w, kp⟩ => ⟨r, env, st, _, _, R, Re, w, fun r1 st1 H1 d v f1 R1 q1 w1 => ⟨r1, env, st1, _, _, R1, Re.fut f1, w1, fun r2 st2 H2 d2 v2 f2 R2 q2 w2 => ?_, (kp.mono f1).xw (Re.fut f1)⟩, kp.xw Re⟩
  cases q2 with
  | @loc n a hr =>
    obtain ⟨c, ec, w2⟩ := onSome_iff (show onSome st2[n]? _ from w2)
    cases c with
    | obj c fs =>
      obtain ⟨⟨hl, hat⟩, w2⟩ := w2
      obtain ⟨A, dx, vs, gm, e1, cl, na, q⟩ := R2.cells n _ a ec hr
      have nf := G.lib.attr c f A hat gm
      have f3 : Fut r2 H2 r2 (upd H2 a (.ins A dx (putF (Str.ofString f) v vs))) := Fut.set hr (Mut.nf e1 trivial)
      refine ⟨a, A, dx, vs, rfl, e1, cl, nf, by rw [← q.length]; omega, ?_⟩
      refine kp.nx r2 _ _ env σ (f1.trans (f2.trans f3)) (R2.set (c := .obj c (putF' fs f d)) hr (Mut.nf e1 trivial) ⟨A, dx, _, gm, upd_same, cl, fun p m => ?_, (RFs.put (q1.fut f2) q).fut f3⟩) (Re.fut (f1.trans (f2.trans f3))) w2
      rcases putF_mem m with h | ⟨y, h, e⟩
      · rw [h]; exact nf
      · rw [← e]; exact na y h
    | _ => exact w2.elim
  | _ => exact w2.elim
theorem s_augFld {o : Bop} {a e : E} {f : String} {x ex : Expr} {nm : Str} {p p2 : Pos} (ho : okAug o = true) (en : nm = Str.ofString f) (ha : PE X x (rdE (ctOf X) L W a)) (he : PE X ex (rdE (ctOf X) L W e)) : PS X (.AugAssign (.Attribute x nm p2) o.op ex p) (rdS (ctOf X) L W (.aug o (.fld a f) e)) := by
  subst en
  refine psI (ps_fldaug ha he (fun pins s σ H x y u v Q I rx ry h => aug_any ho pins s σ H x y u v Q I rx ry h)) fun D σ H ⟨r, env, st, P, R, Re, w, kp⟩ => ⟨r, env, st, _, _, R, Re, w, fun r1 st1 H1 d v f1 R1 q1 w1 => ?_, kp.xw Re⟩
  cases q1 with
  | @loc n b hr =>
    obtain ⟨c, ec, w1⟩ := onSome_iff (show onSome st1[n]? _ from w1)
    cases c with
    | obj c fs =>
      obtain ⟨x0, h1, ⟨g, h2, h3⟩, w2⟩ := getF_iff (show getF fs f _ from w1)
      obtain ⟨A, dx, vs, gm, e1, cl, na, q⟩ := R1.cells n _ b ec hr
      obtain ⟨v0, e2, qv⟩ := h1 q
      refine ⟨b, A, dx, vs, v0, rfl, e1, cl, h3 ▸ na g h2, e2, r1, env, st1, _, _, R1, Re.fut f1, w2, fun r2 st2 H2 d2 v2 f2 R2 q2 w2 => ⟨r2, st2, x0, d2, _, R2, qv.fut f2, q2, w2, fun r3 st3 H3 d3 v3 f3 R3 q3 w3 => ?_⟩, (kp.mono f1).xw (Re.fut f1)⟩
      have hr3 : r3.1[n]? = some b := prefix_get (f2.trans f3).ext hr
      obtain ⟨c3, ec3, w3⟩ := onSome_iff (show onSome st3[n]? _ from w3)
      cases c3 with
      | obj c3 fs3 =>
        obtain ⟨⟨ecn, hl⟩, w4⟩ := w3
        subst ecn
        obtain ⟨A3, dx3, vs3, gm3, e3, cl3, na3, qq⟩ := R3.cells n _ b ec3 hr3
        have eA := gm.symm.trans gm3
        cases eA
        have nf : L2.NoAttr (ctOf X).K A (Str.ofString f) := h3 ▸ na g h2
        have f4 : Fut r3 H3 r3 (upd H3 b (.ins A dx3 (putF (Str.ofString f) v3 vs3))) := Fut.set hr3 (Mut.nf e3 trivial)
        refine ⟨dx3, vs3, e3, by rw [← qq.length]; omega, ?_⟩
        have ff := f1.trans (f2.trans (f3.trans f4))
        refine kp.nx r3 _ _ env σ ff (R3.set (c := .obj c3 (putF' fs3 f d3)) hr3 (Mut.nf e3 trivial) ⟨A, dx3, _, gm3, upd_same, cl3, fun p m => ?_, (RFs.put q3 qq).fut f4⟩) (Re.fut ff) w4
        rcases putF_mem m with h | ⟨y, h, e⟩
        · rw [h]; exact nf
        · rw [← e]; exact na3 y h
      | _ => exact w3.elim
    | _ => exact w1.elim
  | _ => exact w1.elim
theorem s_ex {e : E} {ex : Expr} {p : Pos} (hn : noComp ex = true) (he : PE X ex (rdE (ctOf X) L W e)) : PS X (.Expr ex p) (rdS (ctOf X) L W (.ex e)) :=
  psI (ps_expr he (swaps_of hn)) fun D σ H ⟨r, env, st, P, R, Re, w, kp⟩ => ⟨r, env, st, _, _, R, Re, w, fun r1 st1 H1 d v f1 R1 q1 w1 => kp.nx r1 st1 H1 env σ f1 R1 (Re.fut f1) w1, kp.xw Re⟩
theorem s_ret {e : E} {ex : Expr} {p : Pos} (he : PE X ex (rdE (ctOf X) L W e)) : PS X (.Return (some ex) p) (rdS (ctOf X) L W (.ret e)) :=
  psI (ps_ret he) fun D σ H ⟨r, env, st, P, R, Re, w, kp⟩ => ⟨r, env, st, _, _, R, Re, w, fun r1 st1 H1 d v f1 R1 q1 w1 => kp.rt r1 st1 H1 d v f1 R1 q1 w1, kp.xw Re⟩
theorem s_ret0 {p : Pos} : PS X (.Return none p) (rdS (ctOf X) L W .ret0) :=
  psI ps_retN fun D σ H ⟨r, env, st, P, R, Re, w, kp⟩ => kp.rt r st H .non .non .refl R .non w
theorem s_pass {p : Pos} : PS X (.Pass p) (rdS (ctOf X) L W .pass) := psI ps_pass fun D σ H ⟨r, env, st, P, R, Re, w, kp⟩ => kp.nx r st H env σ .refl R Re w
theorem s_brk {p : Pos} : PS X (.Break p) (rdS (ctOf X) L W .brk) := psI ps_break fun D σ H ⟨r, env, st, P, R, Re, w, kp⟩ => kp.bk r st H env σ .refl R Re w
theorem s_cont {p : Pos} : PS X (.Continue p) (rdS (ctOf X) L W .cont) := psI ps_continue fun D σ H ⟨r, env, st, P, R, Re, w, kp⟩ => kp.ct r st H env σ .refl R Re w
theorem s_if {c : E} {a b : Ss} {ex : Expr} {xs ys : List Stmt} {p : Pos} (hc : PT X ex (rdT (ctOf X) L W c)) (ha : PSs X xs (rdSs (ctOf X) L W a)) (hb : PSs X ys (rdSs (ctOf X) L W b)) : PS X (.If ex xs ys p) (rdS (ctOf X) L W (.ite c a b)) :=
  psI (ps_if hc ha hb) fun D σ H ⟨r, env, st, P, R, Re, w, kp⟩ => ⟨r, env, st, fun t st => ifB t (wpSs L a env st P) (wpSs L b env st P), _, R, Re, w, fun r1 st1 H1 t f1 R1 w1 => by
    cases t with
    | true => simp only [if_true]; exact ⟨r1, env, st1, P, R1, Re.fut f1, w1, kp.mono f1⟩
    | false => simp only [Bool.false_eq_true, if_false]; exact ⟨r1, env, st1, P, R1, Re.fut f1, w1, kp.mono f1⟩, kp.xw Re⟩
theorem s_while {c : E} {body : Ss} {ex : Expr} {xs : List Stmt} {p : Pos} (hp : PassesOwn (model X.prog X.w) X.A X.env X.xe) (hc : PT X ex (rdT (ctOf X) L W c)) (hb : PSs X xs (rdSs (ctOf X) L W body)) : PS X (.While ex xs [] p) (rdS (ctOf X) L W (.while_ c body)) :=
  psI (ps_while hp hc hb) fun D σ H ⟨r, env, st, P, R, Re, w, kp⟩ => by
    obtain ⟨n, w⟩ := w
    refine ⟨fun m σ1 H1 => ∃ r1 env1 st1, Fut r H r1 H1 ∧ Rel (ctOf X) r1 st1 H1 ∧ RE (ctOf X) r1 H1 env1 σ1 ∧ whileGo (fun env st k X => wpE L c env st (fun d st => onBl d fun b => k b st) fun x st => X x env st) (fun env st P => wpSs L body env st P) m env1 st1 P,
      ⟨n, r, env, st, .refl, R, Re, w⟩, fun m σ1 H1 ⟨r1, env1, st1, f1, R1, Re1, w1⟩ => ?_⟩
    cases m with
    | zero => exact w1.elim
    | succ m =>
      refine ⟨r1, env1, st1, fun b st => ifB b (wpSs L body env1 st { P with nx := fun env st => whileGo (fun env st k X => wpE L c env st (fun d st => onBl d fun b => k b st) fun x st => X x env st) (fun env st P => wpSs L body env st P) m env st P, ct := fun env st => whileGo (fun env st k X => wpE L c env st (fun d st => onBl d fun b => k b st) fun x st => X x env st) (fun env st P => wpSs L body env st P) m env st P, bk := P.nx }) (P.nx env1 st), _, R1, Re1, w1, fun r2 st2 H2 b f2 R2 w2 => ?_, (kp.mono f1).xw Re1⟩
      have f12 := f1.trans f2
      cases b with
      | false => simp only [Bool.false_eq_true, if_false]; exact kp.nx r2 st2 H2 env1 σ1 f12 R2 (Re1.fut f2) w2
      | true =>
        simp only [if_true]
        refine ⟨fun σ3 H3 => ∃ r1 env1 st1, Fut r H r1 H3 ∧ Rel (ctOf X) r1 st1 H3 ∧ RE (ctOf X) r1 H3 env1 σ3 ∧ whileGo (fun env st k X => wpE L c env st (fun d st => onBl d fun b => k b st) fun x st => X x env st) (fun env st P => wpSs L body env st P) m env1 st1 P,
          fun σ3 H3 z => ⟨m, Nat.lt_succ_self m, z⟩, r2, env1, st2, _, R2, Re1.fut f2, w2, ?_⟩
        exact { kp.mono f12 with
          nx := fun r3 st3 H3 env3 σ3 f3 R3 Re3 w3 => ⟨r3, env3, st3, f12.trans f3, R3, Re3, w3⟩
          ct := fun r3 st3 H3 env3 σ3 f3 R3 Re3 w3 => ⟨r3, env3, st3, f12.trans f3, R3, Re3, w3⟩
          bk := fun r3 st3 H3 env3 σ3 f3 R3 Re3 w3 => kp.nx r3 st3 H3 env3 σ3 (f12.trans f3) R3 Re3 w3 }
theorem s_for {t : DL.T} {it : DL.It} {body : Ss} {tg iter : Expr} {xs : List Stmt} {p : Pos} (hp : PassesOwn (model X.prog X.w) X.A X.env X.xe) (hcm : X.calm = true) (hs : noSet iter = true) (hi : PI X tg iter (rdIt (ctOf X) L W it)) (hg : PG X tg (rdG (ctOf X) t)) (hb : PSs X xs (rdSs (ctOf X) L W body)) :
    PS X (.For tg iter xs [] p) (rdS (ctOf X) L W (.for_ t it body)) :=
  psI (ps_for hp hcm hi hg hb (folded_of hs)) fun D σ H ⟨r, env, st, P, R, Re, w, kp⟩ => by
    refine ⟨r, env, st, _, _, R, Re, w, fun r1 st1 H1 ys stay J f1 R1 itr w1 => ?_, kp.xw Re⟩
    refine ⟨fun i m σ2 H2 => m = ys.length - i ∧ i ≤ ys.length ∧ ∃ r2 env2 st2, Fut r1 H1 r2 H2 ∧ Rel (ctOf X) r2 st2 H2 ∧ RE (ctOf X) r2 H2 env2 σ2 ∧ forGo stay (wpT t) (fun env st P => wpSs L body env st P) (ys.drop i) env2 st2 P,
      ⟨ys.length, by simp, Nat.zero_le _, r1, env, st1, .refl, R1, Re.fut f1, w1⟩, ?_⟩
    rintro i m σ2 H2 ⟨rfl, hi, r2, env2, st2, f2, R2, Re2, w2⟩
    have f12 := f1.trans f2
    by_cases hlt : i < ys.length
    · refine .inr ?_
      rw [List.drop_eq_getElem_cons hlt] at w2
      obtain ⟨hst, w2⟩ := stayOk_iff w2
      obtain ⟨hgo, hy⟩ := (itr i r2 st2 H2 f2.w R2 hst).2 _ (List.getElem?_eq_getElem hlt)
      refine ⟨hgo, fun σ3 H3 => ∃ r2 env2 st2, Fut r1 H1 r2 H3 ∧ Rel (ctOf X) r2 st2 H3 ∧ RE (ctOf X) r2 H3 env2 σ3 ∧ forGo stay (wpT t) (fun env st P => wpSs L body env st P) (ys.drop (i + 1)) env2 st2 P,
        fun σ3 H3 z => ⟨ys.length - (i + 1), by omega, rfl, hlt, z⟩, fun x H3 hyy => ?_⟩
      obtain ⟨f3, R3, q3⟩ := hy x H3 hyy
      refine ⟨r2, st2, fun _ => True, env2, _, _, R3, ⟨(Re2.fut f3).1, fun i d _ h => (Re2.fut f3).2 i d h⟩, q3, w2, fun env' σ' Re' _ _ w3 => ?_⟩
      have f13 := f12.trans f3
      refine ⟨r2, env', st2, _, R3, re_of Re' fun _ => .inl trivial, w3, ?_⟩
      exact { kp.mono f13 with
        nx := fun r4 st4 H4 env4 σ4 f4 R4 Re4 w4 => ⟨r4, env4, st4, (f2.trans f3).trans f4, R4, Re4, w4⟩
        ct := fun r4 st4 H4 env4 σ4 f4 R4 Re4 w4 => ⟨r4, env4, st4, (f2.trans f3).trans f4, R4, Re4, w4⟩
        bk := fun r4 st4 H4 env4 σ4 f4 R4 Re4 w4 => kp.nx r4 st4 H4 env4 σ4 (f13.trans f4) R4 Re4 w4 }
    · have hi' : i = ys.length := by omega
      subst hi'
      rw [List.drop_length] at w2
      obtain ⟨hst, w2⟩ := stayOk_iff w2
      exact .inl ⟨(itr _ r2 st2 H2 f2.w R2 hst).1 (Nat.le_refl _), kp.nx r2 st2 H2 env2 σ2 f12 R2 Re2 w2⟩
/-- name = [..] -/
theorem s_del {a i : E} {x y : Expr} {p p2 : Pos} (ha : PE X x (rdE (ctOf X) L W a)) (hi : PE X y (rdE (ctOf X) L W i)) : PS X (.Delete [.Subscript x y p2] p) (rdS (ctOf X) L W (.del a i)) :=
  psI (ps_ddel ha hi) fun D σ H ⟨r, env, st, P, R, Re, w, kp⟩ => ⟨r, env, st, _, _, R, Re, w, fun r1 st1 H1 d v f1 R1 q1 w1 => ⟨r1, env, st1, _, _, R1, Re.fut f1, w1, fun r2 st2 H2 d2 v2 f2 R2 q2 w2 => by
    have q1' := q1.fut f2
    cases q1' with
    | @loc n a hr =>
      obtain ⟨c, ec, w2⟩ := onSome_iff (show onSome st2[n]? _ from w2)
      cases c with
      | dct t kvs =>
        obtain ⟨rfl, hk, hs, w2⟩ := w2
        obtain ⟨k, vs, h1, rfl, h2, R3, f3⟩ := dct_del R2 ec hr hk q2
        refine ⟨a, vs, k, rfl, h1, rfl, ?_, kp.nx r2 _ _ env σ (f1.trans (f2.trans f3)) R3 (Re.fut (f1.trans (f2.trans f3))) w2⟩
        cases e1 : dGet kvs d2 with
        | none => rw [e1] at hs; cases hs
        | some z =>
          rw [e1] at h2
          cases e2 : valV vs k with
          | none => rw [e2] at h2; exact h2.elim
          | some _ => rfl
      | _ => exact w2.elim
    | _ => exact w2.elim, (kp.mono f1).xw (Re.fut f1)⟩, kp.xw Re⟩
theorem s_lcN {m : Bool} {i : Nat} {elt : E} {tt : DL.T} {it : DL.It} {c : Eo} {y : Str} {x tg iter : Expr} {ifs : List Expr} {scope : Scope} {p py sp : Pos} (G : Good L T k X sc W cm) (hc : cm = true) (hN : X.N[i]? = some y) (hl : isLoc sc y = true) (hln : (py.line == p.line) = true)
    (hno : (scope.names.any fun (n, k) => n == y && (k == .local || k == .cell)) = false) (hk : X.env.scope.kind = .function) (hi : PI X tg iter (rdIt (ctOf X) L W it))
    (hb : blkC X.N sc scope (ownOf X.N tt.slots) = true) (ho : (ownOf X.N tt.slots).map (·.2) = tt.slots) (hT : okT X.N scope tt tg = true) (hs : noSet iter = true) (hnk : notKeys it = true)
    (he : ∀ (s : Shared) (H : Hp) (C : Addr) (cl : List (Str × Addr)) (fp : List Addr), PE (X.blk s H scope (compEnvC scope cl C X.env) fp) x (rdE (ctOf X) L W0 elt))
    (ht : ∀ (s : Shared) (H : Hp) (C : Addr) (cl : List (Str × Addr)) (fp : List Addr), PTs (X.blk s H scope (compEnvC scope cl C X.env) fp) ifs (rdC (ctOf X) L c)) :
    PS X (.Assign [.Name y py] (.ListComp x [⟨tg, iter, ifs, 0⟩] scope p) sp) (rdS (ctOf X) L W (.asg (.t (.v i)) (.lc m elt tt it c))) := by
  have hyl : X.env.scope.names.lookup y = some .local := by
    unfold isLoc at hl
    split at hl <;> rename_i e
    · exact G.so.lc _ e
    · cases hl
  refine psI (ps_setLc (g := rdG (ctOf X) tt) (tt := rdC (ctOf X) L c) (te := rdE (ctOf X) L W0 elt) (G.calm hc).1 G.nd hN hyl (sw_true hk hyl hln hno) hi (blk_of G hb) (fun s H C cl fp => sg_t (X := X.blk s H scope (compEnvC scope cl C X.env) fp) rfl G.nd relS_ok (good_blk G (s := s) (H := H) (scope := scope) (cl := cl) (C := C) (fp := fp)).fn (G.calm hc).1 tt tg hT) ht he (folded_of hs)) fun D σ H ⟨r, env, st, P, R, Re, w, kp⟩ => ?_
  rw [ho]
  have w' : wpE L (.lc m elt tt it c) env st (fun d st => P.nx (setS env i d) st) (fun x st => P.ex x env st) := w
  unfold wpE at w'
  rw [lockIt_no hnk] at w'
  refine lc_imp (m := m) ⟨r, env, st, fun d st => P.nx (setS env i d) st, _, R, Re, w', fun r1 st1 H1 d v f1 R1 q1 w1 => ?_, kp.xw Re⟩
  refine kp.nx r1 st1 H1 (setS env i d) _ f1 R1 ?_ w1
  rw [setS_eq]
  exact (Re.fut f1).set i q1
/-! ### raise, try -/
theorem pmk_own0 {C : Addr} {bmB : List Value} {B newId initId : String} {x : Str} {p pos : Pos} (F : ExcBaseFacts B newId initId bmB) (q : PySem.W.excIn X.K C bmB newId = true) (gC : X.mg x = some (.ref C)) (kC : PySem.W.keepIn X.K (.ref C) = true) (hr : Raises X (.ref C)) (hg : Gl X x) (hd : (x == ("__debug__" : Str)) = false) :
    PMk X (.Call (.Name x p) [] [] pos) (fun _ H Q => Q (.ref C) none H) := by
  intro pins s σ H Q I h
  refine wpAny_Call_Name_kw (ld_glob I hg gC ?_ hd)
  refine PySem.W.callWith_K0 I.kIn kC ?_
  obtain ⟨bm, N, nm, qn, bs, hdct, sn, sub, ab, col, dd, k0, k1, k2, k3, k5, mN, hC, hN, hni, T⟩ := exc_obj I.kIn q
  refine wpAny_call_exc_subT F T hC hN hni (fun h' e hm => ?_) (Nat.zero_le _)
  exact mk_of I hm hr h (I.hok.gone hm.new)
theorem s_raise {c : String} {x : Str} {p p1 p2 : Pos} (G : Good L T k X sc W cm) (hc : cm = true) (ex : x = Str.ofString c) (hg : Gl X x) (hd : (x == ("__debug__" : Str)) = false) (hm : c ∈ T.excs) : PS X (.Raise (some (.Call (.Name x p1) [] [] p2)) none p) (rdS (ctOf X) L W (.raise c .nil)) := by
  subst ex
  obtain ⟨A, m1, m2, m5, m6, ⟨e1, bm, B, n, i, m3, m4⟩ | ⟨f, fI, fd, ps, j, e1, _⟩⟩ := G.lib.exc c hm
  · refine psI (ps_raise (G.calm hc).1 G.tk (pmk_own0 m3 m4 m1 m2 (raises_own m5 m6) hg hd)) fun D σ H ⟨r, env, st, P, R, Re, w, kp⟩ => ?_
    obtain ⟨fs, e2, w⟩ := onSome_iff (show onSome (L.exf c) _ from w)
    rw [e1] at e2
    cases e2
    exact kp.ex r st H env σ ⟨c, []⟩ (.ref A) none .refl R Re ⟨A, rfl, m1, .inl ⟨rfl, rfl⟩⟩ w.2
  · exact ⟨fun pins s σ H D I ⟨r, env, st, P, R, Re, w, kp⟩ => by
      obtain ⟨fs, e2, w⟩ := onSome_iff (show onSome (L.exf c) _ from w)
      rw [e1] at e2
      cases e2
      cases w.1⟩
/-- raise C(e): C's own __init__ keeps it in a field -/
theorem cx_no {X : Cx} : Passes (L2.CX X.prog X.w) X (fun _ _ _ => False) := fun pins σ H s e s' I h => by
  obtain ⟨_, _, _, _, _, _, _, _, _, _, _, _, z⟩ := h
  exact z.elim
theorem upd_made {H : Hp} {a dx A : Addr} {o : HO} {g : List (Str × V)} (ha : H a = none) (ne : dx ≠ a) : upd (L2.del (upd (upd (upd H a (exo a A none)) dx o) a (exo a A (some dx))) a) dx (.xd g) = upd H dx (.xd g) := by
  funext b
  by_cases h1 : b = dx
  · rw [h1, upd_same, upd_same]
  · rw [upd_ne h1, upd_ne h1]
    by_cases h2 : b = a
    · rw [h2, del_same, ha]
    · rw [del_ne h2, upd_ne h2, upd_ne h1, upd_ne h2]
theorem s_raise1 {c : String} {x : Str} {es : Es} {y : Expr} {ys : List Expr} {p p1 p2 : Pos} (G : Good L T k X sc W cm) (hc : cm = true) (ex : x = Str.ofString c) (hg : Gl X x) (hd : (x == ("__debug__" : Str)) = false) (hm : c ∈ T.excs) (hok : okEs T X.N sc cm es (y :: ys) = true)
    (ha : PA X (y :: ys) (rdEs (ctOf X) L W es)) : PS X (.Raise (some (.Call (.Name x p1) (y :: ys) [] p2)) none p) (rdS (ctOf X) L W (.raise c es)) := by
  subst ex
  have hs := okEs_star hok
  obtain ⟨A, m1, m2, m5, m6, ⟨e1, bm, B, n, i, m3, m4⟩ | ⟨f, fI, fd, ps, j, e1, hj, T1, i1, t1, F1, hb, xf, no⟩⟩ := G.lib.exc c hm
  · refine psI (ps_raise (G.calm hc).1 G.tk (pmk_ownA m3 m4 m1 m2 (raises_own m5 m6) hg ha hd (star_cons (hs y (by simp))) (any_star fun z m => hs z (by simp [m])))) fun D σ H ⟨r, env, st, P, R, Re, w, kp⟩ => ?_
    refine ⟨r, env, st, _, _, R, Re, w, fun r1 st1 H1 ds vs f1 R1 q1 w1 => ?_, kp.xw Re⟩
    obtain ⟨fs, e2, hl, w1⟩ := onSome_iff (show onSome (L.exf c) _ from w1)
    rw [e1] at e2
    cases e2
    match ds, q1, hl, w1 with
    | [], q1, hl, w1 =>
      obtain rfl := rds0 q1
      exact ⟨Nat.zero_le _, kp.ex r1 st1 _ env σ ⟨c, []⟩ (.ref A) none f1 R1 (Re.fut f1) ⟨A, rfl, m1, .inl ⟨rfl, rfl⟩⟩ w1⟩
    | _ :: _, _, hl, _ => cases hl
  · have hr := (G.calm hc).2.mono hj
    refine psI (ps_raise (G.calm hc).1 G.tk (pmk_oex (ds := []) (dvs := []) T1 i1 t1 F1 hr hb .nil cx_no hg m1 ha hd (star_cons (hs y (by simp))) (any_star fun z m => hs z (by simp [m])))) fun D σ H ⟨r, env, st, P, R, Re, w, kp⟩ => ?_
    refine ⟨r, env, st, _, _, R, Re, w, fun r1 st1 H1 ds vs f1 R1 q1 w1 => ?_, kp.xw Re⟩
    obtain ⟨fs, e2, hl, w1⟩ := onSome_iff (show onSome (L.exf c) _ from w1)
    rw [e1] at e2
    cases e2
    match ds, q1, hl, w1 with
    | [d], q1, hl, w1 =>
      obtain ⟨v, rfl, qd⟩ := rds1 q1
      refine ⟨by simp, fun a hna => ⟨a, v, rfl, upd_same, fun dx hdx ne => ⟨rfl, dx, [(Str.ofString f, v)], upd_same, by rw [upd_ne ne, upd_same], ?_, ?_⟩⟩⟩
      · rw [upd_ne ne] at hdx; exact hdx
      · rw [upd_ne ne] at hdx
        rw [upd_made hna ne]
        have g := Fut.frz (r := r1) (o := .xd [(Str.ofString f, v)]) hdx
        exact kp.ex r1 st1 _ env σ ⟨c, [(f, d)]⟩ (.ref A) (some dx) (f1.trans g) (R1.frz hdx) ((Re.fut f1).fut g) ⟨A, rfl, m1, .inr ⟨dx, _, rfl, upd_same, .cons (qd.fut g) .nil⟩⟩ w1
    | [], _, hl, _ => cases hl
    | _ :: _ :: _, _, hl, _ => cases hl
theorem good_suite (G : GoodS L T k X sc W cm) {a : Addr} {pn : List (Addr × Obj)} : GoodS L T k (X.suite a pn) sc W0 false where
  nd := G.nd
  so := G.so
  fn := G.fn
  calm := fun z => nomatch z
  un := G.un
  tk := fun _ _ ⟨_, _, _, _, _, _, _, _, _, _, _, _, _, _, _, _, w⟩ => w.elim
  lib := G.lib
  po := fun z => nomatch z
  stk := G.stk
  frm := G.frm
theorem good_tr (G : GoodS L T k X sc W cm) {pn : List (Addr × Obj)} {xe : Value → Shared → Prop} {W' : WX} (tk : Takes (X.tr pn xe) W') (po : PassesOwn (model X.prog X.w) X.A X.env xe) : GoodS L T k (X.tr pn xe) sc W' cm where
  nd := G.nd
  so := G.so
  fn := G.fn
  calm := G.calm
  un := G.un
  tk := tk
  lib := G.lib
  po := fun _ => po
  stk := G.stk
  frm := G.frm
/-- the clauses of a try, as they are read -/
def HsR (X : Cx) (L : Lib) (W : WX) (hs : Hs) (es : List ExceptHandler) : Prop :=
  ∃ l, HdsOk X es l ∧ ∀ (D : Ends) (σ : L2.St) (H : Hp) (r : Lay) (env : St') (st : Sto) (P : Post) (y : Xc) (cls : Value) (dx : Option Addr), Rel (ctOf X) r st H → RE (ctOf X) r H env σ → XR (ctOf X) r H y cls dx → wpHs L hs y env st P → KpP (ctOf X) r H P D W → wMany X.K W D l cls dx σ H
theorem hs_nil : HsR X L W .nil [] := ⟨[], .nil, fun D σ H r env st P y cls dx R Re q w kp => kp.ex r st H env σ y cls dx .refl R Re q w⟩
theorem hs_cons {c : String} {x : Str} {suite : Ss} {hs : Hs} {h : Stmt} {hb : List Stmt} {es : List ExceptHandler} {p1 p2 : Pos} (G : GoodS L T k X sc W cm) (ex : x = Str.ofString c) (hg : Gl X x) (hd : (x == ("__debug__" : Str)) = false) (hm : c ∈ T.excs)
    (hsu : ∀ (a : Addr) (pn : List (Addr × Obj)), PSs (X.suite a pn) (h :: hb) (rdSs (ctOf X) L W0 suite)) (t : HsR X L W hs es) : HsR X L W (.cons c none suite hs) (.ExceptHandler (some (.Name x p1)) none (h :: hb) p2 :: es) := by
  subst ex
  obtain ⟨A, m1, _⟩ := G.lib.exc c hm
  obtain ⟨l, ok, tl⟩ := t
  refine ⟨(.ref A, fun _ _ _ => rdSs (ctOf X) L W0 suite) :: l, .cons ⟨hg, hd, .inl m1⟩ (fun a oe cls d pn _ _ => hsu a _) ok, fun D σ H r env st P y cls dx R Re q w kp => ?_⟩
  obtain ⟨b', eb, w1⟩ := onSome_iff (show onSome (L.sub y.cls c) _ from w)
  obtain ⟨A', rfl, q2, q3⟩ := id q
  refine ⟨b', G.lib.sub _ _ _ _ _ eb q2 m1, fun e a ha => ?_, fun e => ?_⟩
  · subst e
    exact ⟨r, env, st, { P with ex := fun _ _ _ => False }, R, Re, w1, { nx := kp.nx, bk := kp.bk, ct := kp.ct, rt := kp.rt, ex := fun _ _ _ _ _ _ _ _ _ _ _ _ h => h.elim }⟩
  · subst e
    exact tl D σ H r env st P y _ dx R Re q w1 kp
theorem s_try {body : Ss} {hs : Hs} {b : List Stmt} {e : ExceptHandler} {es : List ExceptHandler} {p : Pos} (G : GoodS L T k X sc W cm)
    (hbd : ∀ (W' : WX) (pn : List (Addr × Obj)) (xe : Value → Shared → Prop), GoodS L T k (X.tr pn xe) sc W' cm → PSs (X.tr pn xe) b (rdSs (ctOf X) L W' body))
    (hh : HsR X L W hs (e :: es)) : PS X (.Try b (e :: es) [] [] p) (rdS (ctOf X) L W (.try_ body hs)) := by
  obtain ⟨l, ok, tl⟩ := hh
  refine psI (ps_try_many (tb := fun W' => rdSs (ctOf X) L W' body) G.stk G.frm G.tk (fun W' pn xe tk po => hbd W' pn xe (good_tr G tk po)) ok) fun D σ H ⟨r, env, st, P, R, Re, w, kp⟩ => ?_
  refine ⟨r, env, st, { P with ex := fun x env st => wpHs L hs x env st P }, R, Re, w, { nx := kp.nx, bk := kp.bk, ct := kp.ct, rt := kp.rt, ex := fun r1 st1 H1 env1 σ1 y cls dx f1 R1 Re1 q1 w1 => tl D σ1 H1 r1 env1 st1 P y cls dx R1 Re1 q1 w1 (kp.mono f1) }⟩
theorem RFs.lookup {C : Ct} {r : Lay} {H : Hp} {f : String} {d : DL.D} : ∀ {fs : List (String × DL.D)} {vs : List (Str × V)}, RFs C r H fs vs → fs.lookup f = some d → ∃ v, vs.lookup (Str.ofString f) = some v ∧ RD C r H d v
  | _, _, .nil, h => by cases h
  | _, _, .cons (f := g) (x := x) (v := u) (xs := xs) (vs := vs) q t, h => by
    rw [List.lookup_cons] at h
    by_cases e : f = g
    · subst e
      rw [beq_self_eq_true] at h
      cases h
      exact ⟨u, by rw [List.lookup_cons, beq_self_eq_true], q⟩
    · rw [beq_eq_false_iff_ne.mpr e] at h
      obtain ⟨v, h1, h2⟩ := RFs.lookup t h
      exact ⟨v, by rw [List.lookup_cons, beq_eq_false_iff_ne.mpr fun z => e (ofS_inj z)]; exact h1, h2⟩
/-- try: ..  except C as e: return e.f -/
theorem s_tryf {body : Ss} {c : String} {i : Nat} {f : String} {b : List Stmt} {x n a : Str} {p1 p2 p3 p4 p5 p6 : Pos} (G : GoodS L T k X sc W cm)
    (hbd : ∀ (W' : WX) (pn : List (Addr × Obj)) (xe : Value → Shared → Prop), GoodS L T k (X.tr pn xe) sc W' cm → PSs (X.tr pn xe) b (rdSs (ctOf X) L W' body))
    (ex : x = Str.ofString c) (hg : Gl X x) (hd : (x == ("__debug__" : Str)) = false) (hm : c ∈ T.excs) (hi : X.N[i]? = some n) (hl : sc.names.lookup n = some .local) (hn : okNm n = true) (ef : a = Str.ofString f) :
    PS X (.Try b [.ExceptHandler (some (.Name x p1)) (some n) [.Return (some (.Attribute (.Name n p2) a p3)) p4] p5] [] [] p6) (rdS (ctOf X) L W (.tryf body c i f)) := by
  subst ex ef
  obtain ⟨A, m1, m2, m5, m6, ⟨e1, _⟩ | ⟨f', fI, fd, ps, j, e1, hj, T1, i1, t1, F1, hb, xf, no⟩⟩ := G.lib.exc c hm
  · exact ⟨fun pins s σ H D I ⟨r, env, st, P, R, Re, w, kp⟩ => by
      have w1 : L.exf c = some [f] := w.1
      rw [e1] at w1
      cases w1⟩
  · by_cases hff : f' = f
    · subst hff
      obtain ⟨n1, n2, _⟩ := okNm_of hn
      refine psI (ps_try_as (tb := fun W' => rdSs (ctOf X) L W' body) (c := .ref A) (ts := fun a cls d => tRet (tXf a cls d A (Str.ofString f') (tVar i))) G.stk G.frm G.nd hi (G.so.lc n hl) ⟨hg, hd, .inl m1⟩ G.tk (fun W' pn xe tk po => hbd W' pn xe (good_tr G tk po))
        fun a oe cls d pn hz hf => pss_one (ps_ret (pe_xf xf no hz hf (pe_var hi (.inl (G.so.lc n hl)) n1 n2)))) fun D σ H ⟨r, env, st, P, R, Re, w, kp⟩ => ?_
      refine ⟨r, env, st, { P with ex := fun x env st => onSome (L.sub x.cls c) fun b => ifB b ((x.cls = c ∧ i < env.length) ∧ onSome (x.fs.lookup f') fun d => P.rt d st) (P.ex x env st) }, R, Re, w.2, { nx := kp.nx, bk := kp.bk, ct := kp.ct, rt := kp.rt, ex := fun r1 st1 H1 env1 σ1 y cls dx f1 R1 Re1 q1 w1 => ?_ }⟩
      obtain ⟨b', eb, w1⟩ := onSome_iff (show onSome (L.sub y.cls c) _ from w1)
      obtain ⟨A', rfl, q2, q3⟩ := id q1
      refine ⟨b', G.lib.sub _ _ _ _ _ eb q2 m1, fun e a ha => ?_, fun e => ?_⟩
      · subst e
        obtain ⟨⟨ec, hlen⟩, w1⟩ := (show _ ∧ _ from w1)
        obtain ⟨dv, ed, w1⟩ := onSome_iff w1
        rw [ec, m1] at q2
        cases q2
        rcases q3 with ⟨q3, _⟩ | ⟨dd, vs, rfl, h1, h2⟩
        · rw [q3] at ed; cases ed
        · obtain ⟨v, h3, h4⟩ := h2.lookup ed
          have hs : i < σ1.length := by rw [← Re1.1]; exact hlen
          exact ⟨.ref a, List.getElem?_set_self hs, rfl, rfl, dd, vs, v, rfl, h1, h3, kp.rt r1 st1 H1 dv v f1 R1 h4 w1⟩
      · subst e
        exact kp.ex r1 st1 H1 env1 σ1 y _ dx f1 R1 Re1 q1 w1
    · exact ⟨fun pins s σ H D I ⟨r, env, st, P, R, Re, w, kp⟩ => by
        have w1 : L.exf c = some [f] := w.1
        rw [e1] at w1
        injection w1 with w1
        injection w1 with w1
        exact (hff w1).elim⟩
end
end DL

set_option maxHeartbeats 1000000
/-! DLStm3: all statements. -/
namespace DL
open PySem PySem.Spec PyProof.Rows L2
theorem good_kind {L : Lib} {T : Tab} {k : Nat} {X : Cx} {sc : Scope} {W : WX} {cm : Bool} (G : GoodS L T k X sc W cm) : True := trivial
theorem ok_lc {T : Tab} {N : List Str} {sc : Scope} {cm m : Bool} {elt : E} {t : DL.T} {it : DL.It} {c : Eo} {ex : Expr} (h : okE T N sc cm (.lc m elt t it c) ex = true) :
    ∃ x tg iter ifs scope p, ex = .ListComp x [⟨tg, iter, ifs, 0⟩] scope p ∧ cm = true ∧ okIt T N sc cm it iter = true ∧ noSet iter = true ∧ (!itTup it || isTupE tg) = true ∧ okT N scope t tg = true ∧ blkC N sc scope (ownOf N t.slots) = true ∧
      (ownOf N t.slots).map (·.2) = t.slots ∧ okE T N scope cm elt x = true ∧ okC T N scope cm c ifs = true := by
  unfold okE at h
  split at h
  · simp only [Bool.and_eq_true, decide_eq_true_eq] at h
    obtain ⟨⟨⟨⟨⟨⟨⟨⟨⟨a1, a2⟩, a3⟩, a4⟩, a5⟩, a6⟩, a7⟩, a8⟩, a9⟩, a10⟩ := h
    subst a2
    exact ⟨_, _, _, _, _, _, rfl, a1, a3, a4, a5, a6, a7, a8, a9, a10⟩
  · cases h
theorem ok_isLc {T : Tab} {N : List Str} {sc : Scope} {cm : Bool} {e : E} {x : Expr} {gs : List Comprehension} {scope : Scope} {p : Pos} (h : okE T N sc cm e (.ListComp x gs scope p) = true) : e = .dead ∨ ∃ m elt t it c, e = .lc m elt t it c := by
  cases e <;> first | exact .inl rfl | exact .inr ⟨_, _, _, _, _, rfl⟩ | (cases h; done) | (exfalso; rename_i ks vs; cases ks <;> cases vs <;> cases h; done)
theorem ok_raise {T : Tab} {N : List Str} {sc : Scope} {cm : Bool} {c : String} {es : Es} {s : Stmt} (h : okS T N sc cm (.raise c es) s = true) :
    ∃ x p1 p2 p xs, s = .Raise (some (.Call (.Name x p1) xs [] p2)) none p ∧ cm = true ∧ x = Str.ofString c ∧ glB sc x = true ∧ okNm x = true ∧ T.excs.contains c = true ∧ ((xs = [] ∧ es = .nil) ∨ ∃ y ys, xs = y :: ys ∧ okEs T N sc cm es (y :: ys) = true) := by
  unfold okS at h
  split at h
  · simp only [Bool.and_eq_true, decide_eq_true_eq] at h
    obtain ⟨⟨⟨⟨⟨h1, h2⟩, h3⟩, h4⟩, h5⟩, h6⟩ := h
    cases es with
    | nil => exact ⟨_, _, _, _, _, rfl, h1, h2, h3, h4, h5, .inl ⟨rfl, rfl⟩⟩
    | cons _ _ => cases h6
  · simp only [Bool.and_eq_true, decide_eq_true_eq] at h
    obtain ⟨⟨⟨⟨⟨h1, h2⟩, h3⟩, h4⟩, h5⟩, h6⟩ := h
    exact ⟨_, _, _, _, _, rfl, h1, h2, h3, h4, h5, .inr ⟨_, _, rfl, h6⟩⟩
  · cases h
theorem ok_tryf {T : Tab} {N : List Str} {sc : Scope} {cm : Bool} {body : Ss} {c : String} {i : Nat} {f : String} {s : Stmt} (h : okS T N sc cm (.tryf body c i f) s = true) :
    ∃ b x p1 n n2 p2 a p3 p4 p5 p6, s = .Try b [.ExceptHandler (some (.Name x p1)) (some n) [.Return (some (.Attribute (.Name n2 p2) a p3)) p4] p5] [] [] p6 ∧ cm = true ∧ okSs T N sc cm body b = true ∧ x = Str.ofString c ∧ glB sc x = true ∧ okNm x = true ∧ T.excs.contains c = true ∧
      N[i]? = some n ∧ sc.names.lookup n = some .local ∧ okNm n = true ∧ n2 = n ∧ a = Str.ofString f := by
  unfold okS at h
  split at h
  · simp only [Bool.and_eq_true, decide_eq_true_eq] at h
    obtain ⟨⟨⟨⟨⟨⟨⟨⟨⟨⟨h1, h2⟩, h3⟩, h4⟩, h5⟩, h6⟩, h7⟩, h8⟩, h9⟩, h10⟩, h11⟩ := h
    exact ⟨_, _, _, _, _, _, _, _, _, _, _, rfl, h1, h2, h3, h4, h5, h6, h7, h8, h9, h10, h11⟩
  · cases h
theorem ok_try {T : Tab} {N : List Str} {sc : Scope} {cm : Bool} {body : Ss} {hs : Hs} {s : Stmt} (h : okS T N sc cm (.try_ body hs) s = true) :
    ∃ b e es p, s = .Try b (e :: es) [] [] p ∧ cm = true ∧ okSs T N sc cm body b = true ∧ okHs T N sc hs (e :: es) = true := by
  unfold okS at h
  split at h
  · simp only [Bool.and_eq_true] at h
    exact ⟨_, _, _, _, rfl, h.1.1, h.1.2, h.2⟩
  · cases h
theorem ok_hs {T : Tab} {N : List Str} {sc : Scope} {c : String} {n : Option Nat} {suite : Ss} {hs : Hs} {es : List ExceptHandler} (h : okHs T N sc (.cons c n suite hs) es = true) :
    ∃ x p1 y ys p2 es', es = .ExceptHandler (some (.Name x p1)) none (y :: ys) p2 :: es' ∧ n = none ∧ x = Str.ofString c ∧ glB sc x = true ∧ okNm x = true ∧ T.excs.contains c = true ∧ okSs T N sc false suite (y :: ys) = true ∧ okHs T N sc hs es' = true := by
  unfold okHs at h
  split at h
  · simp only [Bool.and_eq_true, decide_eq_true_eq] at h
    obtain ⟨⟨⟨⟨⟨⟨h1, h2⟩, h3⟩, h4⟩, h5⟩, h6⟩, h7⟩ := h
    exact ⟨_, _, _, _, _, _, rfl, h1, h2, h3, h4, h5, h6, h7⟩
  · cases h
theorem sg_v {L : Lib} {T0 : Tab} {k : Nat} {X : Cx} {sc : Scope} {W : WX} {cm : Bool} {i : Nat} {tg : Expr} (G : Good L T0 k X sc W cm) (h1 : okT X.N sc (.v i) tg = true) : PG X tg (rdG (ctOf X) (.v i)) := by
  cases tg with
  | Name y py =>
    have h1 : (decide (X.N[i]? = some y) && locB sc y) = true := h1
    simp only [Bool.and_eq_true, decide_eq_true_eq] at h1
    refine pgI (pg_name G.nd h1.1 (loc_of G.so h1.2) (fn_of G.so G.fn h1.2)) fun v σ H Q ⟨r, st, P, env, d, k, R, Re, q, w, K⟩ => ?_
    refine K _ _ ?_ (by simp) (fun j hj => ?_) (show k (setS env i d) from w)
    · rw [setS_eq]
      have := Re.set i q
      refine ⟨this.1, fun j e p => this.2 j e ?_⟩
      rcases p with p | p
      · exact .inl p
      · exact .inr (by simpa [DL.T.slots] using p)
    · have : j ≠ i := by simpa [DL.T.slots] using hj
      exact List.getElem?_set_ne (Ne.symm this)
  | _ => cases h1
theorem s_asgAll {L : Lib} {T : Tab} {k : Nat} {X : Cx} {sc : Scope} {W : WX} {cm : Bool} {tt : DL.T} {e : E} {tg ex : Expr} {p : Pos} (G : GoodS L T k X sc W cm) (hk : X.env.scope.kind = .function) (ho : okT X.N sc tt tg = true) (hform : isTupE tg = true ∨ isNm tg = true ∨ ∃ o i p, tg = .Subscript o i p)
    (hg : PG X tg (rdG (ctOf X) tt)) (h2 : okE T X.N sc cm e ex = true) (h3 : isTupE tg = false ∨ isTupE ex = false) (h4 : ((noComp ex = true ∨ (okLcN sc p.line tg ex = true ∧ noKeysLc e = true)) ∨ isNm tg = false) ∨ isCellT sc tg = true) : PS X (.Assign [tg] ex p) (rdS (ctOf X) L W (.asg (.t tt) e)) := by
  have he := (snd L T k e ex G.toGood h2).v
  rcases h4 with ((h4 | h4) | h4) | h4
  · exact s_asgT he hg h3 (swaps_of h4) hform
  · cases tg with
    | Name y py =>
      cases ex with
      | ListComp x2 gs scope p2 =>
        rcases ok_isLc h2 with rfl | ⟨m, elt, t2, it, c, rfl⟩
        · exact ⟨fun _ _ _ _ _ _ ⟨_, _, _, _, _, _, w, _⟩ => w.elim⟩
        obtain ⟨x2, tg2, iter, ifs, scope, p2, e1, a1, a3, a4, a5, a6, a7, a8, a9, a10⟩ := ok_lc h2
        cases e1
        cases tt with
        | tup _ => cases ho
        | v i =>
          have ho : (decide (X.N[i]? = some y) && locB sc y) = true := ho
          obtain ⟨h4, hnk⟩ := h4
          have h4 : (isLoc sc y && py.line == p2.line && !(scope.names.any fun (n, k) => n == y && (k == .local || k == .cell))) = true := h4
          simp only [Bool.and_eq_true, decide_eq_true_eq, Bool.not_eq_true'] at h4 ho
          refine s_lcN G.toGood a1 ho.1 h4.1.1 h4.1.2 h4.2 hk (sndIt L T k it tg2 iter G.toGood a3 (by simpa using a5)) a7 a8 a6 a4 hnk (fun s H C cl fp => (snd L T k elt x2 (good_blk G.toGood) a9).v) fun s H C cl fp => ?_
          cases c with
          | none =>
            cases ifs with
            | nil => exact ⟨fun pins s σ H Q I ⟨r, env, st, Q', R, Re, w, kp⟩ => pts_nil.run pins s σ H Q I (kp r st H true .refl R w)⟩
            | cons _ _ => cases a10
          | some e2 =>
            cases ifs with
            | nil => cases a10
            | cons y2 ys2 =>
              cases ys2 with
              | cons _ _ => cases a10
              | nil => exact ⟨fun pins s σ H Q I ⟨r, env, st, Q', R, Re, w, kp⟩ => (pts_one (snd L T k e2 y2 (good_blk G.toGood) a10).t).run pins s σ H Q I ⟨r, env, st, Q', _, R, Re, w, kp, xw0⟩⟩
      | _ => cases h4.1
    | _ => cases h4.1
  · exact s_asgT he hg h3 (swapsT_of h4) hform
  · exact s_asgT he hg h3 (swaps_cellT G.so h4) hform
section
variable {T : Tab} {N : List Str} {sc : Scope} {cm : Bool} {s : Stmt}
theorem ok_asg {t : Tg} {e : E} (h : okS T N sc cm (.asg t e) s = true) : ∃ tg ex p, s = .Assign [tg] ex p ∧ okTg T N sc cm t tg = true ∧ okE T N sc cm e ex = true ∧ (isTupE tg = false ∨ isTupE ex = false) ∧ (((noComp ex = true ∨ (okLcN sc p.line tg ex = true ∧ noKeysLc e = true)) ∨ isNm tg = false) ∨ isCellT sc tg = true) := by
  unfold okS at h
  split at h
  · simp only [Bool.and_eq_true, Bool.or_eq_true, Bool.not_eq_true'] at h
    obtain ⟨⟨⟨h1, h2⟩, h3⟩, h4⟩ := h
    exact ⟨_, _, _, rfl, h1, h2, h3, h4⟩
  · cases h
theorem ok_par {i j : Nat} {es : Es} (h : okS T N sc cm (.par i j es) s = true) : False := by
  unfold okS at h
  split at h
  · simp at h
  · cases h
theorem ok_aug {o : Bop} {t : Tg} {e : E} (h : okS T N sc cm (.aug o t e) s = true) : ∃ tg ex p, s = .AugAssign tg o.op ex p ∧ okAug o = true ∧ okE T N sc cm e ex = true ∧ okAugT T N sc cm t tg = true := by
  unfold okS at h
  split at h
  · simp only [Bool.and_eq_true, decide_eq_true_eq] at h
    obtain ⟨⟨⟨h1, h2⟩, h3⟩, h4⟩ := h
    subst h1
    exact ⟨_, _, _, rfl, h2, h3, h4⟩
  · cases h
theorem ok_ex {e : E} (h : okS T N sc cm (.ex e) s = true) : ∃ ex p, s = .Expr ex p ∧ okE T N sc cm e ex = true ∧ noComp ex = true := by
  unfold okS at h
  split at h
  · rw [Bool.and_eq_true] at h
    exact ⟨_, _, rfl, h.1, h.2⟩
  · cases h
theorem ok_ret {e : E} (h : okS T N sc cm (.ret e) s = true) : ∃ ex p, s = .Return (some ex) p ∧ okE T N sc cm e ex = true := by
  unfold okS at h
  split at h
  · exact ⟨_, _, rfl, h⟩
  · cases h
theorem ok_ret0 (h : okS T N sc cm .ret0 s = true) : ∃ p, s = .Return none p := by
  unfold okS at h
  split at h
  · exact ⟨_, rfl⟩
  · cases h
theorem ok_ite {c : E} {a b : Ss} (h : okS T N sc cm (.ite c a b) s = true) : ∃ ex xs ys p, s = .If ex xs ys p ∧ okE T N sc cm c ex = true ∧ okSs T N sc cm a xs = true ∧ okSs T N sc cm b ys = true := by
  unfold okS at h
  split at h
  · simp only [Bool.and_eq_true] at h
    exact ⟨_, _, _, _, rfl, h.1.1, h.1.2, h.2⟩
  · cases h
theorem ok_for {t : DL.T} {it : DL.It} {body : Ss} (h : okS T N sc cm (.for_ t it body) s = true) : ∃ tg iter xs p, s = .For tg iter xs [] p ∧ cm = true ∧ okT N sc t tg = true ∧ okIt T N sc cm it iter = true ∧ noSet iter = true ∧ (itTup it = false ∨ isTupE tg = true) ∧ okSs T N sc cm body xs = true := by
  unfold okS at h
  split at h
  · simp only [Bool.and_eq_true, Bool.or_eq_true, Bool.not_eq_true'] at h
    obtain ⟨⟨⟨⟨⟨⟨_, h1⟩, h2⟩, h3⟩, h4⟩, h5⟩, h6⟩ := h
    exact ⟨_, _, _, _, rfl, h1, h2, h3, h4, h5, h6⟩
  · cases h
theorem ok_while {c : E} {body : Ss} (h : okS T N sc cm (.while_ c body) s = true) : ∃ ex xs p, s = .While ex xs [] p ∧ cm = true ∧ okE T N sc cm c ex = true ∧ okSs T N sc cm body xs = true := by
  unfold okS at h
  split at h
  · simp only [Bool.and_eq_true] at h
    exact ⟨_, _, _, rfl, h.1.1, h.1.2, h.2⟩
  · cases h
theorem ok_brk (h : okS T N sc cm .brk s = true) : ∃ p, s = .Break p := by
  unfold okS at h
  split at h
  · exact ⟨_, rfl⟩
  · cases h
theorem ok_cont (h : okS T N sc cm .cont s = true) : ∃ p, s = .Continue p := by
  unfold okS at h
  split at h
  · exact ⟨_, rfl⟩
  · cases h
theorem ok_pass (h : okS T N sc cm .pass s = true) : ∃ p, s = .Pass p := by
  unfold okS at h
  split at h
  · exact ⟨_, rfl⟩
  · cases h
theorem ok_del {a i : E} (h : okS T N sc cm (.del a i) s = true) : ∃ x y p2 p, s = .Delete [.Subscript x y p2] p ∧ okE T N sc cm a x = true ∧ okE T N sc cm i y = true := by
  unfold okS at h
  split at h
  · rw [Bool.and_eq_true] at h
    exact ⟨_, _, _, _, rfl, h.1, h.2⟩
  · cases h
end
theorem s_aug {L : Lib} {T : Tab} {k : Nat} {X : Cx} {sc : Scope} {W : WX} {cm : Bool} {o : Bop} {t : Tg} {e : E} {tg ex : Expr} {p : Pos} (G : GoodS L T k X sc W cm) (h2 : okAug o = true) (h3 : okE T X.N sc cm e ex = true) (h4 : okAugT T X.N sc cm t tg = true) :
    PS X (.AugAssign tg o.op ex p) (rdS (ctOf X) L W (.aug o t e)) := by
  unfold okAugT at h4
  split at h4
  · split at h4
    · simp only [Bool.and_eq_true, decide_eq_true_eq] at h4
      exact s_augN G.toGood h2 h4.1 h4.2 (snd L T k e ex G.toGood h3).v
    · cases h4
  · split at h4
    · simp only [Bool.and_eq_true, decide_eq_true_eq] at h4
      exact s_augIx G.un h2 h4.2 (snd L T k _ _ G.toGood h4.1.1).v (snd L T k _ _ G.toGood h4.1.2).v (snd L T k e ex G.toGood h3).v
    · cases h4
  · split at h4
    · simp only [Bool.and_eq_true, decide_eq_true_eq] at h4
      exact s_augFld h2 h4.1 (snd L T k _ _ G.toGood h4.2).v (snd L T k e ex G.toGood h3).v
    · cases h4
  · cases h4
theorem s_asg {L : Lib} {T : Tab} {k : Nat} {X : Cx} {sc : Scope} {W : WX} {cm : Bool} {t : Tg} {e : E} {tg ex : Expr} {p : Pos} (G : GoodS L T k X sc W cm) (hk : X.env.scope.kind = .function) (h1 : okTg T X.N sc cm t tg = true) (h2 : okE T X.N sc cm e ex = true)
    (h3 : isTupE tg = false ∨ isTupE ex = false) (h4 : ((noComp ex = true ∨ (okLcN sc p.line tg ex = true ∧ noKeysLc e = true)) ∨ isNm tg = false) ∨ isCellT sc tg = true) : PS X (.Assign [tg] ex p) (rdS (ctOf X) L W (.asg t e)) := by
  cases t with
  | t tt =>
    cases tt with
    | v i =>
      have h1 : okT X.N sc (.v i) tg = true := h1
      have hn : isNm tg = true := by cases tg <;> first | rfl | cases h1
      exact s_asgAll G hk h1 (.inr (.inl hn)) (sg_v G.toGood h1) h2 h3 h4
    | tup ts =>
      have h1 : (cm && okT X.N sc (.tup ts) tg) = true := h1
      simp only [Bool.and_eq_true] at h1
      have hn : isTupE tg = true := by cases tg <;> first | rfl | cases h1.2
      exact s_asgAll G hk h1.2 (.inl hn) (sg_t rfl G.nd G.so G.fn (G.calm h1.1).1 _ tg h1.2) h2 h3 h4
  | ix a i =>
    cases tg with
    | Subscript x y p2 =>
      have h1 : (okE T X.N sc cm a x && okE T X.N sc cm i y && noSlice y) = true := h1
      simp only [Bool.and_eq_true] at h1
      exact s_asgIx G.un h1.2 (snd L T k a x G.toGood h1.1.1).v (snd L T k i y G.toGood h1.1.2).v (snd L T k e ex G.toGood h2).v
    | _ => cases h1
  | fld o f =>
    cases tg with
    | Attribute x a p2 =>
      have h1 : (decide (a = Str.ofString f) && okE T X.N sc cm o x) = true := h1
      simp only [Bool.and_eq_true, decide_eq_true_eq] at h1
      exact s_asgFld G.toGood h1.1 (snd L T k o x G.toGood h1.2).v (snd L T k e ex G.toGood h2).v
    | _ => cases h1
mutual
theorem sndS (L : Lib) (T : Tab) (k : Nat) : ∀ (s : S) {X : Cx} {sc : Scope} {W : WX} {cm : Bool} (x : Stmt), GoodS L T k X sc W cm → X.env.scope.kind = .function → okS T X.N sc cm s x = true → PS X x (rdS (ctOf X) L W s)
  | .asg t e, X, sc, W, cm, x, G, hk, h => by
    obtain ⟨tg, ex, p, rfl, h1, h2, h3, h4⟩ := ok_asg h
    exact s_asg G hk h1 h2 h3 h4
  | .par i j es, X, sc, W, cm, x, G, hk, h => (ok_par h).elim
  | .aug o t e, X, sc, W, cm, x, G, hk, h => by
    obtain ⟨tg, ex, p, rfl, h2, h3, h4⟩ := ok_aug h
    exact s_aug G h2 h3 h4
  | .ex e, X, sc, W, cm, x, G, hk, h => by
    obtain ⟨ex, p, rfl, h1, h2⟩ := ok_ex h
    exact s_ex h2 (snd L T k e ex G.toGood h1).v
  | .ret e, X, sc, W, cm, x, G, hk, h => by
    obtain ⟨ex, p, rfl, h1⟩ := ok_ret h
    exact s_ret (snd L T k e ex G.toGood h1).v
  | .ret0, X, sc, W, cm, x, G, hk, h => by
    obtain ⟨p, rfl⟩ := ok_ret0 h
    exact s_ret0
  | .ite c a b, X, sc, W, cm, x, G, hk, h => by
    obtain ⟨ex, xs, ys, p, rfl, h1, h2, h3⟩ := ok_ite h
    exact s_if (snd L T k c ex G.toGood h1).t (sndSs L T k a xs G hk h2) (sndSs L T k b ys G hk h3)
  | .for_ t it body, X, sc, W, cm, x, G, hk, h => by
    obtain ⟨tg, iter, xs, p, rfl, h1, h2, h3, h4, h5, h6⟩ := ok_for h
    exact s_for (G.po h1) (G.calm h1).1 h4 (sndIt L T k it tg iter G.toGood h3 h5) (sg_t rfl G.nd G.so G.fn (G.calm h1).1 _ tg h2) (sndSs L T k body xs G hk h6)
  | .while_ c body, X, sc, W, cm, x, G, hk, h => by
    obtain ⟨ex, xs, p, rfl, h1, h2, h3⟩ := ok_while h
    exact s_while (G.po h1) (snd L T k c ex G.toGood h2).t (sndSs L T k body xs G hk h3)
  | .brk, X, sc, W, cm, x, G, hk, h => by
    obtain ⟨p, rfl⟩ := ok_brk h
    exact s_brk
  | .cont, X, sc, W, cm, x, G, hk, h => by
    obtain ⟨p, rfl⟩ := ok_cont h
    exact s_cont
  | .pass, X, sc, W, cm, x, G, hk, h => by
    obtain ⟨p, rfl⟩ := ok_pass h
    exact s_pass
  | .raise c es, X, sc, W, cm, x, G, hk, h => by
    obtain ⟨x, p1, p2, p, xs, rfl, h1, h2, h3, h4, h5, ⟨rfl, rfl⟩ | ⟨y, ys, rfl, h6⟩⟩ := ok_raise h
    · exact s_raise G.toGood h1 h2 (gl_of G.so h3) (okNm_of h4).1 (by simpa using h5)
    · exact s_raise1 G.toGood h1 h2 (gl_of G.so h3) (okNm_of h4).1 (by simpa using h5) h6 (sndEs L T k es (y :: ys) G.toGood h6)
  | .try_ body hs, X, sc, W, cm, x, G, hk, h => by
    obtain ⟨b, e, es, p, rfl, h1, h2, h3⟩ := ok_try h
    exact s_try G (fun W' pn xe G' => sndSs L T k body b G' hk h2) (sndHs L T k hs (e :: es) G hk h3)
  | .tryf body c i f, X, sc, W, cm, x, G, hk, h => by
    obtain ⟨b, x, p1, n, n2, p2, a, p3, p4, p5, p6, rfl, h1, h2, h3, h4, h5, h6, h7, h8, h9, rfl, h11⟩ := ok_tryf h
    exact s_tryf G (fun W' pn xe G' => sndSs L T k body b G' hk h2) h3 (gl_of G.so h4) (okNm_of h5).1 (by simpa using h6) h7 h8 h9 h11
  | .dead, X, sc, W, cm, x, G, hk, h => ⟨fun _ _ _ _ _ _ ⟨_, _, _, _, _, _, w, _⟩ => w.elim⟩
  | .del a i, X, sc, W, cm, x, G, hk, h => by
    obtain ⟨x, y, p2, p, rfl, h1, h2⟩ := ok_del h
    exact s_del (snd L T k a x G.toGood h1).v (snd L T k i y G.toGood h2).v
theorem sndHs (L : Lib) (T : Tab) (k : Nat) : ∀ (hs : Hs) {X : Cx} {sc : Scope} {W : WX} {cm : Bool} (es : List ExceptHandler), GoodS L T k X sc W cm → X.env.scope.kind = .function → okHs T X.N sc hs es = true → HsR X L W hs es
  | .nil, X, sc, W, cm, es, G, hk, h => by
    cases es with
    | nil => exact hs_nil
    | cons _ _ => cases h
  | .cons c n suite hs, X, sc, W, cm, es, G, hk, h => by
    obtain ⟨x, p1, y, ys, p2, es', rfl, rfl, h2, h3, h4, h5, h6, h7⟩ := ok_hs h
    exact hs_cons G h2 (gl_of G.so h3) (okNm_of h4).1 (by simpa using h5) (fun a pn => sndSs L T k suite (y :: ys) (good_suite G) hk h6) (sndHs L T k hs es' G hk h7)
theorem sndSs (L : Lib) (T : Tab) (k : Nat) : ∀ (s : Ss) {X : Cx} {sc : Scope} {W : WX} {cm : Bool} (x : List Stmt), GoodS L T k X sc W cm → X.env.scope.kind = .function → okSs T X.N sc cm s x = true → PSs X x (rdSs (ctOf X) L W s)
  | .nil, X, sc, W, cm, x, G, hk, h => by
    cases x with
    | nil => exact ss_nil
    | cons _ _ => cases h
  | .stop ss, X, sc, W, cm, x, G, hk, h => pssI (sndSs L T k ss x G hk h) fun D σ H ⟨r, env, st, P, R, Re, w, kp⟩ => ⟨r, env, st, P, R, Re, w.go, kp⟩
  | .cons s ss, X, sc, W, cm, x, G, hk, h => by
    cases x with
    | nil => cases h
    | cons x xs =>
      have h : (okS T X.N sc cm s x && okSs T X.N sc cm ss xs) = true := h
      simp only [Bool.and_eq_true] at h
      exact ss_cons (sndS L T k s x G hk h.1) (sndSs L T k ss xs G hk h.2)
end
end DL

set_option maxHeartbeats 1000000
/-! DLGc: what a call leaves behind in the store is forgotten; lists that it hands out are data from then on. -/
namespace DL
open PySem PySem.Spec PyProof.Rows L2
mutual
/-- it names no place behind the first n -/
def Clo (n : Nat) : D → Prop
  | .loc m => m < n
  | .tup xs => Clos n xs
  | .lst xs => Clos n xs
  | _ => True
def Clos (n : Nat) : List D → Prop
  | [] => True
  | x :: xs => Clo n x ∧ Clos n xs
end
def CloC (n : Nat) : Cell → Prop
  | .lst xs => Clos n xs
  | .dct _ kvs => ∀ p ∈ kvs, Clo n p.2
  | .obj _ fs => ∀ p ∈ fs, Clo n p.2
  | .dctF _ kvs => ∀ p ∈ kvs, Clo n p.2
def CloS (n : Nat) (st : Sto) : Prop := ∀ c ∈ st, CloC n c
mutual
/-- places behind the first n that hold lists: as data -/
inductive Frz (n : Nat) (st : Sto) : D → D → Prop
  | same (d : D) : Frz n st d d
  | loc {m : Nat} {xs ys : List D} : n ≤ m → st[m]? = some (.lst xs) → Frzs n st xs ys → Frz n st (.loc m) (.lst ys)
  | tup {xs ys : List D} : Frzs n st xs ys → Frz n st (.tup xs) (.tup ys)
  | lst {xs ys : List D} : Frzs n st xs ys → Frz n st (.lst xs) (.lst ys)
inductive Frzs (n : Nat) (st : Sto) : List D → List D → Prop
  | same (d : List D) : Frzs n st d d
  | cons {x y : D} {xs ys : List D} : Frz n st x y → Frzs n st xs ys → Frzs n st (x :: xs) (y :: ys)
end
inductive Gc (n : Nat) (Q : D → Sto → Prop) (d : D) (st : Sto) : Prop
  | now (h : Q d st)
  | drop (d' : D) (n' : Nat) (hn : n ≤ n') (hf : Frz n' st d d') (hc : Clo n' d') (hs : CloS n' (st.take n')) (h : Q d' (st.take n'))
inductive GcX (n : Nat) (X : EX) (x : Xc) (st : Sto) : Prop
  | now (h : X x st)
  | drop (n' : Nat) (hn : n ≤ n') (hf : ∀ p ∈ x.fs, Clo n' p.2) (hs : CloS n' (st.take n')) (h : X x (st.take n'))

mutual
theorem Clo.of_pure (n : Nat) : ∀ {d : D}, D.pure d = true → Clo n d
  | .non, _ | .bl _, _ | .int _, _ | .str _, _ => trivial
  | .tup xs, h => Clos.of_pure n (show D.pures xs = true from by simpa [D.pure] using h)
  | .lst xs, h => Clos.of_pure n (show D.pures xs = true from by simpa [D.pure] using h)
  | .loc _, h | .gl _, h | .ty _, h | .scr _, h | .kt _, h => by simp [D.pure] at h
theorem Clos.of_pure (n : Nat) : ∀ {d : List D}, D.pures d = true → Clos n d
  | [], _ => trivial
  | x :: xs, h => by
    rw [D.pures, Bool.and_eq_true] at h
    exact ⟨Clo.of_pure n h.1, Clos.of_pure n h.2⟩
end
mutual
theorem Clo.mono {n m : Nat} (h : n ≤ m) : ∀ {d : D}, Clo n d → Clo m d
  | .loc _, q => Nat.lt_of_lt_of_le q h
  | .tup xs, q => Clos.mono h (d := xs) q
  | .lst xs, q => Clos.mono h (d := xs) q
  | .non, _ | .bl _, _ | .int _, _ | .str _, _ | .gl _, _ | .ty _, _ | .scr _, _ | .kt _, _ => trivial
theorem Clos.mono {n m : Nat} (h : n ≤ m) : ∀ {d : List D}, Clos n d → Clos m d
  | [], _ => trivial
  | x :: xs, q => ⟨Clo.mono h q.1, Clos.mono h q.2⟩
end
theorem CloS.mono {n m : Nat} (h : n ≤ m) {st : Sto} (q : CloS n st) : CloS m st := fun c hc => by
  have := q c hc
  cases c with
  | lst xs => exact Clos.mono h this
  | dct t kvs => exact fun p hp => Clo.mono h (this p hp)
  | dctF t kvs => exact fun p hp => Clo.mono h (this p hp)
  | obj c fs => exact fun p hp => Clo.mono h (this p hp)
section
variable {C : Ct} {r r' : Lay} {H H' : Hp} {n : Nat}
mutual
theorem RD.clo : ∀ {d : D} {v : V}, RD C r H d v → Clo r.1.length d
  | _, _, .non => trivial
  | _, _, .bl b => trivial
  | _, _, .int i => trivial
  | _, _, .str s => trivial
  | _, _, .tup h t => RDs.clo t
  | _, _, .lst h t => RDs.clo t
  | _, _, .loc h => (List.getElem?_eq_some_iff.mp h).1
  | _, _, .gl h => trivial
  | _, _, .ty x => trivial
  | _, _, .scr xs h => trivial
  | _, _, .kt xs h => trivial
theorem RDs.clo : ∀ {d : List D} {v : List V}, RDs C r H d v → Clos r.1.length d
  | _, _, .nil => trivial
  | _, _, .cons h t => ⟨RD.clo h, RDs.clo t⟩
end
theorem RFs.clo : ∀ {d : List (String × D)} {v : List (Str × V)}, RFs C r H d v → ∀ p ∈ d, Clo r.1.length p.2
  | _, _, .nil => fun _ m => nomatch m
  | _, _, .cons h t => fun p m => by
    rcases List.mem_cons.mp m with e | m
    · subst e; exact h.clo
    · exact RFs.clo t p m
theorem RKs.clo {κ : Type} {p : κ → D → Prop} : ∀ {d : List (D × D)} {v : List (κ × V)}, RKs p C r H d v → ∀ q ∈ d, Clo r.1.length q.2
  | _, _, .nil => fun _ m => nomatch m
  | _, _, .cons _ h t => fun p m => by
    rcases List.mem_cons.mp m with e | m
    · subst e; exact h.clo
    · exact RKs.clo t p m
theorem CellR.clo {a : Addr} {c : Cell} (h : CellR C r H a c) : CloC r.1.length c := by
  cases c with
  | lst xs => obtain ⟨vs, _, q⟩ := h; exact q.clo
  | dct t kvs => cases t <;> (obtain ⟨vs, _, q⟩ := h; exact q.clo)
  | dctF t kvs => cases t <;> (obtain ⟨_, vs, _, q⟩ := h; exact q.clo)
  | obj c fs => obtain ⟨_, _, vs, _, _, _, _, q⟩ := h; exact q.clo
theorem Rel.clo {st : Sto} (R : Rel C r st H) : CloS st.length st := fun c hc => by
  obtain ⟨i, hi, e⟩ := List.mem_iff_getElem.mp hc
  obtain ⟨a, h1, h2⟩ := R.at_ (List.getElem?_eq_getElem hi)
  rw [← R.len, ← e]
  exact h2.clo
theorem crop_off {a : Addr} (h : r.off a) : Lay.off (r.1.take n, r.2) a := ⟨fun m => h.1 (List.mem_of_mem_take m), h.2⟩
mutual
theorem RD.crop : ∀ {d : D} {v : V}, Clo n d → RD C r H d v → RD C (r.1.take n, r.2) H d v
  | _, _, _, .non => .non
  | _, _, _, .bl b => .bl b
  | _, _, _, .int i => .int i
  | _, _, _, .str s => .str s
  | _, _, q, .tup h t => .tup ⟨h.1, crop_off h.2⟩ (RDs.crop (show Clos n _ from q) t)
  | _, _, q, .lst h t => .lst ⟨h.1, crop_off h.2⟩ (RDs.crop (show Clos n _ from q) t)
  | _, _, q, .loc h => .loc (by
    show (r.1.take n)[_]? = _
    rw [List.getElem?_take_of_lt (show _ < n from q)]
    exact h)
  | _, _, _, .gl h => .gl h
  | _, _, _, .ty x => .ty x
  | _, _, _, .scr xs h => .scr xs (h.elim (fun h => .inl ⟨h.1, crop_off h.2⟩) .inr)
  | _, _, _, .kt xs h => .kt xs h
theorem RDs.crop : ∀ {d : List D} {v : List V}, Clos n d → RDs C r H d v → RDs C (r.1.take n, r.2) H d v
  | _, _, _, .nil => .nil
  | _, _, q, .cons h t => .cons (RD.crop q.1 h) (RDs.crop q.2 t)
end
theorem RFs.crop : ∀ {d : List (String × D)} {v : List (Str × V)}, (∀ p ∈ d, Clo n p.2) → RFs C r H d v → RFs C (r.1.take n, r.2) H d v
  | _, _, _, .nil => .nil
  | _, _, q, .cons h t => .cons (h.crop (q _ List.mem_cons_self)) (RFs.crop (fun p m => q p (List.mem_cons_of_mem _ m)) t)
theorem RKs.crop {κ : Type} {p : κ → D → Prop} : ∀ {d : List (D × D)} {v : List (κ × V)}, (∀ q ∈ d, Clo n q.2) → RKs p C r H d v → RKs p C (r.1.take n, r.2) H d v
  | _, _, _, .nil => .nil
  | _, _, q, .cons k h t => .cons k (h.crop (q _ List.mem_cons_self)) (RKs.crop (fun p m => q p (List.mem_cons_of_mem _ m)) t)
theorem CellR.crop {a : Addr} {c : Cell} (q : CloC n c) (h : CellR C r H a c) : CellR C (r.1.take n, r.2) H a c := by
  cases c with
  | lst xs => obtain ⟨vs, h, t⟩ := h; exact ⟨vs, h, t.crop q⟩
  | dct t kvs => cases t <;> (obtain ⟨vs, h, t⟩ := h; exact ⟨vs, h, t.crop q⟩)
  | dctF t kvs => cases t <;> (obtain ⟨o, vs, h, t⟩ := h; exact ⟨o, vs, h, t.crop q⟩)
  | obj c fs => obtain ⟨A, dx, vs, g, h, cl, na, t⟩ := h; exact ⟨A, dx, vs, g, h, cl, na, t.crop q⟩
theorem Rel.crop {st : Sto} (R : Rel C r st H) (q : CloS n (st.take n)) : Rel C (r.1.take n, r.2) (st.take n) H where
  len := by show (r.1.take n).length = _; rw [List.length_take, List.length_take, R.len]
  nd := R.nd.sublist (List.take_sublist _ _)
  hid := fun a m => ⟨fun z => (R.hid a m).1 (List.mem_of_mem_take z), (R.hid a m).2⟩
  cells := fun i c a h1 h2 => by
    have hi : i < n := by
      have := (List.getElem?_eq_some_iff.mp h1).1
      rw [List.length_take] at this
      omega
    have h2 : (r.1.take n)[i]? = some a := h2
    have hc : CloC n c := q c (List.mem_of_getElem? h1)
    rw [List.getElem?_take_of_lt hi] at h1 h2
    exact (R.cells i c a h1 h2).crop hc
theorem Fut.crop (f : Fut r H r' H') (h : r.1.length ≤ n) : Fut r H (r'.1.take n, r'.2) H' where
  lk := f.lk
  keep := f.keep
  ext := by
    obtain ⟨t, e⟩ := f.ext
    show r.1 <+: r'.1.take n
    rw [← e, List.take_append]
    rw [List.take_of_length_le h]
    exact ⟨_, rfl⟩
  hid := f.hid
  new := fun a m => f.new a (List.mem_of_mem_take m)
mutual
theorem RD.frz {st : Sto} (R : Rel C r st H) : ∀ {d d' : D} {v : V}, Frz n st d d' → Clo n d' → RD C r H d v → RD C (r.1.take n, r.2) H d' v
  | _, _, _, .same d, q, h => h.crop q
  | _, _, _, .loc hm e t, q, h => by
    cases h with
    | @loc m a hr =>
      obtain ⟨vs, k1, k2⟩ := R.cells _ _ a e hr
      refine .lst ⟨k1, fun z => ?_, fun z => (R.hid a z).1 (List.mem_of_getElem? hr)⟩ (RDs.frz R t (show Clos n _ from q) k2)
      obtain ⟨i, hi, e2⟩ := List.mem_iff_getElem.mp (show a ∈ r.1.take n from z)
      rw [List.length_take] at hi
      have e3 : r.1[i]? = some a := by
        rw [List.getElem_take] at e2
        rw [List.getElem?_eq_getElem (by omega), e2]
      have := R.get_inj e3 hr
      omega
  | _, _, _, .tup t, q, h => by
    cases h with
    | tup h0 h1 => exact .tup ⟨h0.1, crop_off h0.2⟩ (RDs.frz R t (show Clos n _ from q) h1)
  | _, _, _, .lst t, q, h => by
    cases h with
    | lst h0 h1 => exact .lst ⟨h0.1, crop_off h0.2⟩ (RDs.frz R t (show Clos n _ from q) h1)
theorem RDs.frz {st : Sto} (R : Rel C r st H) : ∀ {d d' : List D} {v : List V}, Frzs n st d d' → Clos n d' → RDs C r H d v → RDs C (r.1.take n, r.2) H d' v
  | _, _, _, .same d, q, h => h.crop q
  | _, _, _, .cons a t, q, h => by
    cases h with
    | cons h0 h1 => exact .cons (RD.frz R a q.1 h0) (RDs.frz R t q.2 h1)
end
end
end DL

set_option maxHeartbeats 1000000
/-! DLFn: a def keeps its promise. -/
namespace DL
open PySem PySem.Spec PyProof.Rows L2
theorem re_start {C : Ct} {r : Lay} {H : Hp} {N : List Str} {d : Fd} {ds : List D} {vs : List V} (hn : d.ns.length = N.length) (q : RDs C r H ds vs) : RE C r H (d.env ds) (L2.start N vs) := by
  have hl := q.length
  refine ⟨?_, fun i x e => ?_⟩
  · unfold Fd.env L2.start
    rw [List.length_append, List.length_append, List.length_map, List.length_map, List.length_replicate, List.length_replicate, hn, hl]
  · unfold Fd.env at e
    unfold L2.start
    by_cases hi : i < ds.length
    · rw [List.getElem?_append_left (by simpa using hi), List.getElem?_map] at e
      cases e2 : ds[i]? with
      | none => rw [e2] at e; cases e
      | some y =>
        rw [e2] at e
        cases e
        obtain ⟨v, h1, h2⟩ := q.get e2
        refine ⟨v, ?_, h2⟩
        rw [List.getElem?_append_left (by simpa [← hl] using hi), List.getElem?_map, h1]
        rfl
    · rw [List.getElem?_append_right (by simpa using hi), List.getElem?_replicate] at e
      split at e <;> cases e
section
variable {P : Program} {w : World} {K : PySem.W.Frag} {mg : Str → Option Value} {base : Heap} {L : Lib} {T : Tab} {k : Nat}
theorem good_fn {N ps : List Str} {qual : Str} {scope : Scope} {f : Addr} {cd : Value} {A : Around} {outer : List Env} {s : Shared} {H : Hp} {E : XK} (SC : FnScope N ps scope) (lib : LibOk ⟨K, mg, P, w⟩ L T k base)
    (hr : Room k (A.deeper (envOfC qual scope s.heap.objs.size f cd))) : GoodS L T k (cxOf (L2.CX P w) P w K mg base N qual scope f cd A outer s H E) scope (fun cls d _ H' => E cls d H') true where
  nd := SC.nd
  so := ScOk.refl
  fn := fun _ _ => rfl
  calm := fun _ => ⟨rfl, hr⟩
  un := by have := hr.un; show (A.deeper (envOfC qual scope s.heap.objs.size f cd)).units + 65 < cLine; omega
  tk := takes_of rfl rfl rfl rfl
  lib := lib
  po := fun _ => passes_of rfl
  stk := rfl
  frm := rfl
theorem gc_rd {C : Ct} {r r' : Lay} {H H' : Hp} {st st' : Sto} {Q' : D → Sto → Prop} {Q : VK} {d : D} {v : V} (k : Kp C r H Q' Q) (f : Fut r H r' H') (R0 : Rel C r st H) (R : Rel C r' st' H') (q : RD C r' H' d v) (h : Gc st.length Q' d st') : Q v H' := by
  rcases h with h | ⟨d', n', hn, hf, hc, hs, h⟩
  · exact k r' st' H' d v f R q h
  · exact k _ _ H' d' v (f.crop (by rw [R0.len]; exact hn)) (R.crop hs) (RD.frz R hf hc q) h
theorem XR.crop {C : Ct} {r : Lay} {H : Hp} {n : Nat} {x : Xc} {cls : Value} {dx : Option Addr} (h : XR C r H x cls dx) (q : ∀ p ∈ x.fs, Clo n p.2) : XR C (r.1.take n, r.2) H x cls dx := by
  obtain ⟨A, h1, h2, h3⟩ := h
  refine ⟨A, h1, h2, ?_⟩
  rcases h3 with h3 | ⟨d, vs, e1, e2, t⟩
  · exact .inl h3
  · exact .inr ⟨d, vs, e1, e2, t.crop q⟩
/-- THE RULE -/
theorem def_ok {x qn : Str} {params : Arguments} {body : List Stmt} {scope : Scope} {f : Addr} {fdat : FuncData} {N ps : List Str} {d : Fd} {S : List D → Sto → (D → Sto → Prop) → EX → Prop} (F : FunD K x qn params body scope [] [] f fdat) (SC : FnScope N ps scope)
    (hn : d.ns.length = N.length) (lib : LibOk ⟨K, mg, P, w⟩ L T k base) (ok : okSs T N scope true d.body body = true)
    (vc : ∀ ds st Q X, CloS st.length st → Clos st.length ds → S ds st Q X → d.run L ds st (Gc st.length Q) (GcX st.length X)) :
    FnOk P w K mg base (L2.CX P w) (k + 1) f fdat ps (spD ⟨K, mg, P, w⟩ S ps.length) := by
  refine F.ok SC (fun vs H Q E h => h.1) fun cdv A outer s H vs Q E hr h => ⟨rdSs ⟨K, mg, P, w⟩ L (fun cls d _ H' => E cls d H') d.body, ?_, ?_⟩
  · exact sndSs L T k d.body body (good_fn SC lib hr) SC.kind ok
  · obtain ⟨hl, r, st, ds, Q', X', R, qd, hS, kQ, kX⟩ := h
    refine ⟨r, d.env ds, st, _, R, re_start hn qd, vc ds st Q' X' R.clo (by rw [← R.len]; exact qd.clo) hS, ?_⟩
    exact {
      nx := fun r' st' H' env' σ' f R' Re' q => gc_rd kQ f R R' .non q
      bk := fun _ _ _ _ _ _ _ _ q => q.elim
      ct := fun _ _ _ _ _ _ _ _ q => q.elim
      rt := fun r' st' H' d v f R' qv q => gc_rd kQ f R R' qv q
      ex := fun r' st' H' env' σ' x cls dx f R' Re' qx q => by
        rcases q with q | ⟨n', h1, h2, h3, q⟩
        · exact kX r' st' H' x cls dx f R' qx q
        · exact kX _ _ H' x cls dx (f.crop (by rw [R.len]; exact h1)) (R'.crop h3) (qx.crop h2) q }
end
end DL

set_option maxHeartbeats 1000000
/-! DLEnd: the table of what is proved; the law's end. -/
namespace DL
open PySem PySem.Spec PyProof.Rows L2
theorem all_nil {α : Type} {p : α → Prop} : ∀ x ∈ ([] : List α), p x := fun _ m => nomatch m
theorem all_cons {α : Type} {p : α → Prop} {a : α} {l : List α} (h : p a) (t : ∀ x ∈ l, p x) : ∀ x ∈ a :: l, p x := fun x m => by
  rcases List.mem_cons.mp m with e | m
  · exact e ▸ h
  · exact t x m
section
variable {P : Program} {w : World} {K : PySem.W.Frag} {mg : Str → Option Value} {base h : Heap} {L : Lib} {T : Tab}
/-- a def that may be called -/
def CallOk (C : Ct) (L : Lib) (base : Heap) (k : Nat) (f : String) : Prop :=
  ∃ a fd ps, C.mg (Str.ofString f) = some (.ref a) ∧ PySem.W.keepIn C.K (.ref a) = true ∧ Binds C.K fd ps [] ∧ FnOk C.P C.w C.K C.mg base (L2.CX C.P C.w) k a fd ps (spD C (L.call f) ps.length) ∧ ∀ ds st Q X, L.call f ds st Q X → ds.length = ps.length
theorem CallOk.mono {C : Ct} {j k : Nat} {f : String} (h : CallOk C L base j f) (hjk : j ≤ k) : CallOk C L base k f :=
  let ⟨a, fd, ps, h1, h2, h3, h4, h5⟩ := h
  ⟨a, fd, ps, h1, h2, h3, h4.mono hjk, h5⟩
def GlobOk (C : Ct) (L : Lib) (x : String) : Prop := ∃ d u v, L.glob x = some d ∧ C.mg (Str.ofString x) = some u ∧ RelV v u ∧ ∀ (r : Lay) (H : Hp), RD C r H d v
def SubOk (C : Ct) (L : Lib) : Prop := ∀ c d b A B, L.sub c d = some b → C.mg (Str.ofString c) = some (.ref A) → C.mg (Str.ofString d) = some (.ref B) → PySem.W.exmOne C.K (.ref A) (.ref B) = some b
def AttrOk (C : Ct) (L : Lib) : Prop := ∀ c f A, L.attr c f = true → C.mg (Str.ofString c) = some (.ref A) → L2.NoAttr C.K A (Str.ofString f)
theorem mkLib {C : Ct} {k : Nat} (h1 : ∀ f ∈ T.fns, CallOk C L base k f) (m1 : ∀ p ∈ T.meths, MethOk C L k base p) (m2 : ∀ c ∈ T.news, NewOk C L k base c) (m3 : AttrOk C L) (h2 : ∀ x ∈ T.free, C.mg (Str.ofString x) = none) (h3 : ∀ c ∈ T.excs, ExcAny C L k base c) (h4 : SubOk C L) (h5 : ∀ x ∈ T.globs, GlobOk C L x) : LibOk C L T k base :=
  ⟨h1, m1, m2, m3, h2, h3, h4, h5⟩
theorem MethOk.mono {C : Ct} {j k : Nat} {p : String × String} (h : MethOk C L j base p) (hjk : j ≤ k) : MethOk C L k base p :=
  let ⟨A, a, fd, ps, h1, h2, h3, h4, h5⟩ := h
  ⟨A, a, fd, ps, h1, h2, h3, h4.mono hjk, h5⟩
theorem NewOk.mono {C : Ct} {j k : Nat} {c : String} (h : NewOk C L j base c) (hjk : j ≤ k) : NewOk C L k base c :=
  let ⟨A, a, fd, ps, i, h0, h⟩ := h
  ⟨A, a, fd, ps, i, Nat.le_trans h0 hjk, h⟩
/-- nothing is promised -/
theorem fn_false {C : Ct} {k : Nat} {a : Addr} {fd : FuncData} {ps : List Str} {n : Nat} : FnOk C.P C.w C.K C.mg base (L2.CX C.P C.w) k a fd ps (spD C (fun _ _ _ _ => False) n) :=
  ⟨fun _ _ _ _ h => let ⟨_, _, _, _, _, _, _, _, z, _⟩ := h; z.elim, fun _ _ _ _ _ _ _ _ _ _ _ _ _ h => let ⟨_, _, _, _, _, _, _, _, z, _⟩ := h; z.elim⟩
theorem glob_int {x : String} {i : Int} {t : Tok} (h1 : L.glob x = some (.int i)) (h2 : mg (Str.ofString x) = some (.int i t)) : GlobOk ⟨K, mg, P, w⟩ L x := ⟨_, _, .int i, h1, h2, ⟨t, rfl⟩, fun _ _ => .int i⟩
theorem glob_str {x z : String} {t : Tok} (h1 : L.glob x = some (.str z)) (h2 : mg (Str.ofString x) = some (.str (Str.ofString z) t)) : GlobOk ⟨K, mg, P, w⟩ L x := ⟨_, _, .str (Str.ofString z), h1, h2, ⟨t, rfl⟩, fun _ _ => .str z⟩
theorem glob_intF {x : String} {i : Int} (X : K.In h) (G : h.Ns mainGlobals mg) (c : (He.Fa.int (Str.ofString x) i).ok K = true) (h1 : L.glob x = some (.int i)) : GlobOk ⟨K, mg, P, w⟩ L x :=
  let ⟨_, e⟩ := He.int_ok X G c
  glob_int h1 e
theorem glob_strF {x z : String} (X : K.In h) (G : h.Ns mainGlobals mg) (c : (He.Fa.str (Str.ofString x) (Str.ofString z)).ok K = true) (h1 : L.glob x = some (.str z)) : GlobOk ⟨K, mg, P, w⟩ L x :=
  let ⟨_, e⟩ := He.str_ok X G c
  glob_str h1 e
theorem exc_F {x : String} (X : K.In h) (G : h.Ns mainGlobals mg) (cg : (He.Fa.glo (Str.ofString x)).ok K = true) (c : (He.Fa.exc (Str.ofString x)).ok K = true) (h1 : L.exf x = some []) {k : Nat} : ExcAny ⟨K, mg, P, w⟩ L k base x := by
  obtain ⟨e1, e2, e3, e4⟩ := He.exc_ok c
  exact ⟨_, He.glo_ok X G cg, e2, e3, e4, .inl ⟨h1, _, _, _, _, PySem.F.excBase_ValueError, e1⟩⟩
/-- an own exception whose __init__ keeps its one argument -/
def oexC (K : PySem.W.Frag) (A : Addr) : Bool := match K.lookup A with
  | some ⟨.type "type", _, .cls cd, sl⟩ => (match cd.mro, sl.toList with
    | .ref C' :: bm, [_, _, _, _, some (.builtin n), _] => C' == A && n == "ValueError.__new__" && !cd.hasDel && cd.hasDict && PySem.HandSPX.refsVE bm
    | _, _ => false)
  | _ => false
theorem oexC_ok {K : PySem.W.Frag} {A : Addr} (q : oexC K A = true) : ∃ nm q N bs bm sn sub ab col dd k0 k1 k2 k3 k5, K.lookup A = some (excClassObj nm q A N bs bm true sn sub ab col dd k0 k1 k2 k3 k5 "ValueError.__new__") ∧ PySem.HandSPX.refsVE bm = true := by
  unfold oexC at q
  split at q
  · rename_i dd cd sl ho
    split at q
    · rename_i C' bm k0 k1 k2 k3 n k5 hm hs
      simp only [Bool.and_eq_true, beq_iff_eq, Bool.not_eq_true'] at q
      obtain ⟨⟨⟨⟨rfl, rfl⟩, hdel⟩, hdc⟩, ht⟩ := q
      obtain ⟨nm, bs, mro, ns, qn, hd, sn, sub, ab, col, del⟩ := cd
      dsimp only at hm hdel hdc
      subst hm hdel hdc
      have hsl : sl = #[k0, k1, k2, k3, some (.builtin "ValueError.__new__"), k5] := by
        obtain ⟨l⟩ := sl
        simp only at hs
        rw [hs]
      subst hsl
      exact ⟨nm, qn, ns, bs, bm, sn, sub, ab, col, dd, k0, k1, k2, k3, k5, ho, ht⟩
    · cases q
  · cases q
def oexB (K : PySem.W.Frag) (x f : String) : Bool :=
  oexC K (He.ga K (Str.ofString x)) && (decide (PySem.W.findIn K (.ref (He.ga K (Str.ofString x))) "__setattr__" = some (some (.builtin "object.__setattr__"))) && (decide (PySem.W.subIn K (.ref (He.ga K (Str.ofString x))) (.type "BaseException") = some true) &&
    (decide (PySem.W.typeIn K (.ref (He.ga K (Str.ofString x))) = some (.type "type")) && (PySem.W.keepIn K (.ref (He.ga K (Str.ofString x))) && (decide (PySem.W.findIn K (.ref (He.ga K (Str.ofString x))) "__init__" = some (some (.ref (He.ma K (He.ga K (Str.ofString x)) "__init__")))) &&
    (decide (PySem.W.typeIn K (.ref (He.ma K (He.ga K (Str.ofString x)) "__init__")) = some (.type "function")) && (L2.xfB K (He.ga K (Str.ofString x)) && decide (PySem.W.findIn K (.ref (He.ga K (Str.ofString x))) (Str.ofString f) = some none))))))))
theorem exc_init {A fI : Addr} {q : Str} {st : Stmt} {fd : FuncData} {self nm f : Str} {p1 p2 p3 p4 : Pos} (T1 : OexC K A) (no : PySem.W.findIn K (.ref A) f = some none) (F : FunD K (Str.ofString "__init__") q (defArgs st) (defBody st) (defScope st) [] [] fI fd) (SC : FnScope [self, nm] [self, nm] (defScope st))
    (hbo : defBody st = [.Assign [.Attribute (.Name self p1) f p2] (.Name nm p3) p4]) (h0 : okNm self = true) (h1 : okNm nm = true) (l0 : (defScope st).names.lookup self = some .local) (l1 : (defScope st).names.lookup nm = some .local) :
    FnOk P w K mg base (L2.CX P w) 1 fI fd [self, nm] (spX A f) := by
  refine F.ok SC (fun vs H Q E h => by obtain ⟨a, y, rfl, _⟩ := h; rfl) fun cdv A' outer s H vs Q E hr h => ⟨tOst K f (tVar 0) (tVar 1), ?_, ?_⟩
  · rw [hbo]
    obtain ⟨a1, a2, _⟩ := okNm_of h0
    obtain ⟨b1, b2, _⟩ := okNm_of h1
    exact pss_one (ps_ost (pe_var (i := 0) rfl (.inl l0) a1 a2) (pe_var (i := 1) rfl (.inl l1) b1 b2))
  · obtain ⟨a, y, rfl, ha, hk⟩ := h
    exact ⟨y, rfl, .ref a, rfl, a, A, rfl, T1, no, .inl ⟨ha, fun dx hd ne => hk dx hd ne⟩⟩
/-- def __init__(self, x): self.f = x -/
def initB (st : Stmt) (self nm f : Str) : Bool := (match defBody st with
  | [.Assign [.Attribute (.Name a _) b _] (.Name c _) _] => decide (a = self) && (decide (b = f) && decide (c = nm))
  | _ => false) && (okNm self && (okNm nm && (decide ((defScope st).names.lookup self = some .local) && decide ((defScope st).names.lookup nm = some .local))))
theorem exc1_F {x f : String} {q : Str} {st : Stmt} {fd : FuncData} {self nm : Str} (X : K.In h) (G : h.Ns mainGlobals mg) (cg : (He.Fa.glo (Str.ofString x)).ok K = true) (c : oexB K x f = true)
    (F : FunD K (Str.ofString "__init__") q (defArgs st) (defBody st) (defScope st) [] [] (He.ma K (He.ga K (Str.ofString x)) "__init__") fd) (SC : FnScope [self, nm] [self, nm] (defScope st))
    (hB : initB st self nm (Str.ofString f) = true)
    (hb : ∀ (kV doc pm : Value) (an : Option Addr) (cdv ct : Value) (us : List Value), us.length = 2 → bindArgs (PySem.W.fnOf (Str.ofString "__init__") q (defArgs st) (defBody st) (defScope st) .none kV doc pm an cdv ct) ⟨us, []⟩ = pure ([self, nm].zip us))
    (he : L.exf x = some [f]) {k : Nat} (hk : 2 ≤ k) : ExcAny ⟨K, mg, P, w⟩ L k base x := by
  unfold oexB at c
  obtain ⟨c0, c⟩ := Bool.and_eq_true_iff.mp c
  obtain ⟨c1, c⟩ := Bool.and_eq_true_iff.mp c
  obtain ⟨c2, c⟩ := Bool.and_eq_true_iff.mp c
  obtain ⟨c3, c⟩ := Bool.and_eq_true_iff.mp c
  obtain ⟨c4, c⟩ := Bool.and_eq_true_iff.mp c
  obtain ⟨c5, c⟩ := Bool.and_eq_true_iff.mp c
  obtain ⟨c6, c⟩ := Bool.and_eq_true_iff.mp c
  obtain ⟨c7, c8⟩ := Bool.and_eq_true_iff.mp c
  have c1 := of_decide_eq_true c1
  have c2 := of_decide_eq_true c2
  have c3 := of_decide_eq_true c3
  have c5 := of_decide_eq_true c5
  have c6 := of_decide_eq_true c6
  have c8 := of_decide_eq_true c8
  have T1 : OexC K (He.ga K (Str.ofString x)) := ⟨oexC_ok c0, c1, c2, c3, c4⟩
  unfold initB at hB
  obtain ⟨b0, hB⟩ := Bool.and_eq_true_iff.mp hB
  obtain ⟨h0, hB⟩ := Bool.and_eq_true_iff.mp hB
  obtain ⟨h1, hB⟩ := Bool.and_eq_true_iff.mp hB
  obtain ⟨l0, l1⟩ := Bool.and_eq_true_iff.mp hB
  have l0 := of_decide_eq_true l0
  have l1 := of_decide_eq_true l1
  have hbo : ∃ p1 p2 p3 p4, defBody st = [.Assign [.Attribute (.Name self p1) (Str.ofString f) p2] (.Name nm p3) p4] := by
    split at b0
    · rename_i a q1 b q2 c' q3 q4 e
      simp only [Bool.and_eq_true, decide_eq_true_eq] at b0
      obtain ⟨e1, e2, e3⟩ := b0
      exact ⟨q1, q2, q3, q4, by rw [e, e1, e2, e3]⟩
    · cases b0
  obtain ⟨p1, p2, p3, p4, hbo⟩ := hbo
  exact ⟨_, He.glo_ok X G cg, c4, c2, c3, .inr ⟨f, _, fd, _, 1, he, hk, T1, c5, c6, exc_init T1 c8 F SC hbo h0 h1 l0 l1, F.bindsN hb, L2.xfB_ok c7, c8⟩⟩
theorem call_ok {f : String} {st : Stmt} {a : Addr} {fd : FuncData} {N ps : List Str} {d : Fd} {k : Nat} (F : FunD K (Str.ofString f) (Str.ofString f) (defArgs st) (defBody st) (defScope st) [] [] a fd) (hm : mg (Str.ofString f) = some (.ref a)) (SC : FnScope N ps (defScope st)) (hn : d.ns.length = N.length)
    (lib : LibOk ⟨K, mg, P, w⟩ L T k base) (ok : okSs T N (defScope st) true d.body (defBody st) = true)
    (vc : ∀ ds st Q X, CloS st.length st → Clos st.length ds → L.call f ds st Q X → d.run L ds st (Gc st.length Q) (GcX st.length X))
    (hl : ∀ ds st Q X, L.call f ds st Q X → ds.length = ps.length)
    (hb : ∀ (kV doc pm : Value) (an : Option Addr) (cdv ct : Value) (us : List Value), us.length = ps.length → bindArgs (PySem.W.fnOf (Str.ofString f) (Str.ofString f) (defArgs st) (defBody st) (defScope st) .none kV doc pm an cdv ct) ⟨us, []⟩ = pure (ps.zip us)) :
    CallOk ⟨K, mg, P, w⟩ L base (k + 1) f :=
  ⟨a, fd, ps, hm, F.kp, F.bindsN hb, def_ok F SC hn lib ok vc, hl⟩
/-- a def that calls itself: its promise by levels -/
theorem rec_ok {f : String} {st : Stmt} {a : Addr} {fd : FuncData} {N ps : List Str} {d : Fd} {k : Nat} {Ls : Nat → Lib} (F : FunD K (Str.ofString f) (Str.ofString f) (defArgs st) (defBody st) (defScope st) [] [] a fd) (hm : mg (Str.ofString f) = some (.ref a)) (SC : FnScope N ps (defScope st)) (hn : d.ns.length = N.length)
    (h0 : (Ls 0).call f = fun _ _ _ _ => False) (lib : ∀ n, CallOk ⟨K, mg, P, w⟩ (Ls n) base (k + n) f → LibOk ⟨K, mg, P, w⟩ (Ls n) T (k + n) base) (ok : okSs T N (defScope st) true d.body (defBody st) = true)
    (vc : ∀ n ds st Q X, CloS st.length st → Clos st.length ds → (Ls (n + 1)).call f ds st Q X → d.run (Ls n) ds st (Gc st.length Q) (GcX st.length X))
    (hl : ∀ n ds st Q X, (Ls n).call f ds st Q X → ds.length = ps.length)
    (hb : ∀ (kV doc pm : Value) (an : Option Addr) (cdv ct : Value) (us : List Value), us.length = ps.length → bindArgs (PySem.W.fnOf (Str.ofString f) (Str.ofString f) (defArgs st) (defBody st) (defScope st) .none kV doc pm an cdv ct) ⟨us, []⟩ = pure (ps.zip us)) :
    ∀ n, CallOk ⟨K, mg, P, w⟩ (Ls n) base (k + n) f
  | 0 => ⟨a, fd, ps, hm, F.kp, F.bindsN hb, by rw [h0]; exact fn_false, hl 0⟩
  | n + 1 => ⟨a, fd, ps, hm, F.kp, F.bindsN hb, def_ok F SC hn (lib n (rec_ok F hm SC hn h0 lib ok vc hl hb n)) ok (vc n), hl (n + 1)⟩
theorem CallOk.to {C : Ct} {L' : Lib} {k : Nat} {f : String} (h : CallOk C L' base k f) (e : L.call f = L'.call f) : CallOk C L base k f := by
  unfold CallOk at h ⊢
  rw [e]
  exact h
/-! ### classes -/
theorem meth_okF {c m q : String} {st : Stmt} {A a : Addr} {fd : FuncData} {N ps : List Str} {d : Fd} {k : Nat} (F : FunD K (Str.ofString m) (Str.ofString q) (defArgs st) (defBody st) (defScope st) [] [] a fd) (hm : mg (Str.ofString c) = some (.ref A)) (M : L2.Meth K A (Str.ofString m) a) (SC : FnScope N ps (defScope st)) (hn : d.ns.length = N.length)
    (lib : LibOk ⟨K, mg, P, w⟩ L T k base) (ok : okSs T N (defScope st) true d.body (defBody st) = true)
    (vc : ∀ ds st Q X, CloS st.length st → Clos st.length ds → L.meth c m ds st Q X → d.run L ds st (Gc st.length Q) (GcX st.length X))
    (hl : ∀ ds st Q X, L.meth c m ds st Q X → ds.length = ps.length)
    (hb : ∀ (kV doc pm : Value) (an : Option Addr) (cdv ct : Value) (us : List Value), us.length = ps.length → bindArgs (PySem.W.fnOf (Str.ofString m) (Str.ofString q) (defArgs st) (defBody st) (defScope st) .none kV doc pm an cdv ct) ⟨us, []⟩ = pure (ps.zip us)) :
    MethOk ⟨K, mg, P, w⟩ L (k + 1) base (c, m) :=
  ⟨A, a, fd, ps, hm, M, F.bindsN hb, def_ok F SC hn lib ok vc, hl⟩
/-- a method that calls itself: its promise by levels -/
theorem rec_meth {c m q : String} {st : Stmt} {A a : Addr} {fd : FuncData} {N ps : List Str} {d : Fd} {k : Nat} {Ls : Nat → Lib} (F : FunD K (Str.ofString m) (Str.ofString q) (defArgs st) (defBody st) (defScope st) [] [] a fd) (hm : mg (Str.ofString c) = some (.ref A)) (M : L2.Meth K A (Str.ofString m) a) (SC : FnScope N ps (defScope st)) (hn : d.ns.length = N.length)
    (h0 : (Ls 0).meth c m = fun _ _ _ _ => False) (lib : ∀ n, MethOk ⟨K, mg, P, w⟩ (Ls n) (k + n) base (c, m) → LibOk ⟨K, mg, P, w⟩ (Ls n) T (k + n) base) (ok : okSs T N (defScope st) true d.body (defBody st) = true)
    (vc : ∀ n ds st Q X, CloS st.length st → Clos st.length ds → (Ls (n + 1)).meth c m ds st Q X → d.run (Ls n) ds st (Gc st.length Q) (GcX st.length X))
    (hl : ∀ n ds st Q X, (Ls n).meth c m ds st Q X → ds.length = ps.length)
    (hb : ∀ (kV doc pm : Value) (an : Option Addr) (cdv ct : Value) (us : List Value), us.length = ps.length → bindArgs (PySem.W.fnOf (Str.ofString m) (Str.ofString q) (defArgs st) (defBody st) (defScope st) .none kV doc pm an cdv ct) ⟨us, []⟩ = pure (ps.zip us)) :
    ∀ n, MethOk ⟨K, mg, P, w⟩ (Ls n) (k + n) base (c, m)
  | 0 => ⟨A, a, fd, ps, hm, M, F.bindsN hb, by rw [show (Ls 0).meth (c, m).1 (c, m).2 = (Ls 0).meth c m from rfl, h0]; exact fn_false, hl 0⟩
  | n + 1 => ⟨A, a, fd, ps, hm, M, F.bindsN hb, def_ok F SC hn (lib n (rec_meth F hm M SC hn h0 lib ok vc hl hb n)) ok (vc n), hl (n + 1)⟩
theorem MethOk.to {C : Ct} {L' : Lib} {k : Nat} {p : String × String} (h : MethOk C L' k base p) (e : L.meth p.1 p.2 = L'.meth p.1 p.2) : MethOk C L k base p := by
  unfold MethOk at h ⊢
  rw [e]
  exact h
theorem new_okF {c q : String} {st : Stmt} {A a : Addr} {fd : FuncData} {N ps : List Str} {d : Fd} {k : Nat} (F : FunD K (Str.ofString "__init__") (Str.ofString q) (defArgs st) (defBody st) (defScope st) [] [] a fd) (hm : mg (Str.ofString c) = some (.ref A)) (cl : L2.Cls K A) (M : L2.Mk K A a) (SC : FnScope N ps (defScope st)) (hn : d.ns.length = N.length)
    (lib : LibOk ⟨K, mg, P, w⟩ L T k base) (ok : okSs T N (defScope st) true d.body (defBody st) = true)
    (vc : ∀ ds st Q X, CloS st.length st → Clos st.length ds → L.meth c "__init__" ds st Q X → d.run L ds st (Gc st.length Q) (GcX st.length X))
    (hl : ∀ ds st Q X, L.meth c "__init__" ds st Q X → ds.length = ps.length)
    (hb : ∀ (kV doc pm : Value) (an : Option Addr) (cdv ct : Value) (us : List Value), us.length = ps.length → bindArgs (PySem.W.fnOf (Str.ofString "__init__") (Str.ofString q) (defArgs st) (defBody st) (defScope st) .none kV doc pm an cdv ct) ⟨us, []⟩ = pure (ps.zip us)) :
    NewOk ⟨K, mg, P, w⟩ L (k + 2) base c :=
  ⟨A, a, fd, ps, k + 1, Nat.le_refl _, hm, cl, M, F.bindsN hb, def_ok F SC hn lib ok vc, hl⟩
/-- a promise for the law's request -/
theorem law_sp {C : Ct} {S : List D → Sto → (D → Sto → Prop) → EX → Prop} {H : Hp} {a : Addr} {ns : List Int} (hO : Only H) (hS : SqL C.K H a (ns.map V.int)) (h : S [.scr ns] [] (fun d _ => d = .bl true) (fun _ _ => False)) :
    spD C S 1 [.ref a] H (fun v _ => v = .bl true) fun _ _ _ => False := by
  refine ⟨rfl, ([], []), [], [.scr ns], _, _, ⟨rfl, List.nodup_nil, (fun _ m => nomatch m), fun n c a h1 h2 => (by cases h1)⟩, .cons (.scr ns ?_) .nil, h, fun r' st' H' d v _ _ q e => ?_, fun _ _ _ _ _ _ _ _ _ z => z⟩
  · rcases hS with hS | hS
    · rcases hO a with e | ⟨o, xs, e⟩
      · rcases hS with hS | ⟨o, hS⟩ <;> (rw [e] at hS; cases hS)
      · rcases hS with hS | ⟨o', hS⟩
        · rw [e] at hS; cases hS
        · exact .inl ⟨⟨o', hS⟩, by simp, by simp⟩
    · exact .inr hS
  · subst e; cases q; rfl
end
end DL
namespace DL
open PySem PySem.Spec PyProof.Rows L2
/-! ### a head's facts, one more Bool -/
def obsEG (n : Nat) (fa : List He.Fa) (fn : List He.DefD) (ex : PySem.W.Frag → Bool) (g : Addr → Option Obj) : He.AlD × Bool := (He.obsD fa fn (He.frG g (He.asD g n)), ex (He.frG g (He.asD g n)))
def SaysE (fa : List He.Fa) (fn : List He.DefD) (ex : PySem.W.Frag → Bool) (K : PySem.W.Frag) : Prop := He.SaysD fa fn K ∧ ex K = true
def hookE (n : Nat) (fa : List He.Fa) (fn : List He.DefD) (ex : PySem.W.Frag → Bool) : PySem.W.Hook where
  α := He.AlD × Bool
  obs := fun s => obsEG n fa fn ex s.heap.get?
  val := fun _ => (He.valD fn, true)
  says := fun _ h => ∃ K : PySem.W.Frag, K.In h ∧ SaysE fa fn ex K
  of := fun _ _ e => ⟨_, He.frG_in, congrArg (fun z : He.AlD × Bool => z.1) e, congrArg (fun z : He.AlD × Bool => z.2) e⟩
  keeps := fun _ _ _ ⟨K, hK, c⟩ k => ⟨K, PySem.W.Frag.In.keeps hK k, c⟩
theorem obsEG_eq {n : Nat} {fa : List He.Fa} {fn : List He.DefD} {ex : PySem.W.Frag → Bool} {g : Addr → Option Obj} {s : Shared} (h : ∀ a, g a = s.heap.get? a) : obsEG n fa fn ex g = (hookE n fa fn ex).obs s := by
  have e : g = s.heap.get? := funext h
  rw [e] <;> rfl
def strsB (K : PySem.W.Frag) (x : String) (xs : List String) : Bool := He.tupB K (Str.ofString x) (xs.map fun z => .str (Str.ofString z))
theorem glob_strsF {P : Program} {w : World} {K : PySem.W.Frag} {mg : Str → Option Value} {h : Heap} {L : Lib} {x : String} {xs : List String} (X : K.In h) (G : h.Ns mainGlobals mg) (c : (He.Fa.glo (Str.ofString x)).ok K = true) (c2 : strsB K x xs = true) (h1 : L.glob x = some (.kt xs)) : GlobOk ⟨K, mg, P, w⟩ L x := by
  refine ⟨_, _, .ref _, h1, He.glo_ok X G c, rfl, fun r H => .kt xs ?_⟩
  have q := He.tupB_ok c2 (fun _ => none)
  rw [List.map_map] at q
  rcases q with q | q
  · rcases q with q | ⟨o, q⟩ <;> cases q
  · exact q
/-- what a def may let out, whatever the world -/
def CX1 : CXT := fun _ _ _ E _ _ => ∃ cls d H', E cls d H'
theorem fn_cx1 {P : Program} {w : World} {K : PySem.W.Frag} {mg : Str → Option Value} {base : Heap} {k : Nat} {f : Addr} {fd : FuncData} {ps : List Str} {sp : Sp} (F : FnOk P w K mg base (L2.CX P w) k f fd ps sp) : FnOk P w K mg base CX1 k f fd ps sp :=
  ⟨F.len, fun A outer s H args us vs Q E hr he hb hv hs => codeAny_mono (F.run A outer s H args us vs Q E hr he hb hv hs) fun r s' h => by
    cases r with
    | ok f => cases f <;> exact h
    | error e =>
      obtain ⟨a, B, H', cls, d, _, _, _, _, _, _, _, hE⟩ := h
      exact ⟨cls, d, H', hE⟩⟩
end DL

set_option maxHeartbeats 1000000
/-! DLInd: what the laws' proofs use. -/
namespace DL
open PySem PySem.Spec PyProof.Rows L2
theorem forGo_ind {α : Type} {f : α → D} {stay : List (Nat × Cell)} {bind : D → St' → (St' → Prop) → Prop} {body : St' → Sto → Post → Prop} {P : Post} (Inv : List α → List α → St' → Sto → Prop) :
    ∀ (xs : List α) {env : St'} {st : Sto} (done : List α), Inv done xs env st →
    (step : ∀ done x todo env st (k : St' → Sto → Prop), Inv done (x :: todo) env st → (∀ env st, Inv (done ++ [x]) todo env st → k env st) → stayOk stay st (bind (f x) env fun env' => body env' st { P with nx := k, ct := k, bk := P.nx })) →
    (fin : ∀ env st, Inv (done ++ xs) [] env st → stayOk stay st (P.nx env st)) → forGo stay bind body (xs.map f) env st P
  | [], env, st, done, h0, step, fin => fin env st (by rw [List.append_nil]; exact h0)
  | x :: xs, env, st, done, h0, step, fin => step done x xs env st _ h0 fun env' st' h => forGo_ind Inv xs (done ++ [x]) h step fun env st h => fin env st (by rw [List.append_assoc] at h; exact h)
theorem lcGo_ind {α : Type} {f : α → D} {stay : List (Nat × Cell)} {bind : D → (St' → Prop) → Prop} {c : St' → Sto → (Bool → Sto → Prop) → Prop} {elt : St' → Sto → (D → Sto → Prop) → Prop} {Q : List D → Sto → Prop} (Inv : List α → List α → List D → Sto → Prop) :
    ∀ (xs : List α) {acc : List D} {st : Sto} (done : List α), Inv done xs acc st →
    (step : ∀ done x todo acc st (k : List D → Sto → Prop), Inv done (x :: todo) acc st → (∀ acc st, Inv (done ++ [x]) todo acc st → k acc st) → stayOk stay st (bind (f x) fun env => c env st fun b st => ifB b (elt env st fun d st => acc.length < sizeLine ∧ k (d :: acc) st) (k acc st))) →
    (fin : ∀ acc st, Inv (done ++ xs) [] acc st → stayOk stay st (Q acc.reverse st)) → lcGo stay bind c elt (xs.map f) acc st Q
  | [], acc, st, done, h0, step, fin => fin acc st (by rw [List.append_nil]; exact h0)
  | x :: xs, acc, st, done, h0, step, fin => by
    have h := step done x xs acc st (fun acc st => lcGo stay bind c elt (xs.map f) acc st Q) h0 fun acc' st' h => lcGo_ind Inv xs (done ++ [x]) h step fun acc st h => fin acc st (by rw [List.append_assoc] at h; exact h)
    exact h
theorem forGo_id {stay : List (Nat × Cell)} {bind : D → St' → (St' → Prop) → Prop} {body : St' → Sto → Post → Prop} {P : Post} (Inv : List D → List D → St' → Sto → Prop) (xs : List D) {env : St'} {st : Sto} (h0 : Inv [] xs env st)
    (step : ∀ done x todo env st (k : St' → Sto → Prop), Inv done (x :: todo) env st → (∀ env st, Inv (done ++ [x]) todo env st → k env st) → stayOk stay st (bind x env fun env' => body env' st { P with nx := k, ct := k, bk := P.nx }))
    (fin : ∀ env st, Inv xs [] env st → stayOk stay st (P.nx env st)) : forGo stay bind body xs env st P := by
  have := forGo_ind (f := fun x : D => x) (stay := stay) (bind := bind) (body := body) (P := P) Inv xs [] h0 step fin
  rwa [List.map_id'] at this
theorem dcGo_ind {α : Type} {f : α → D} {t : Bool} {stay : List (Nat × Cell)} {bind : D → (St' → Prop) → Prop} {c : St' → Sto → (Bool → Sto → Prop) → Prop} {ke ve : St' → Sto → (D → Sto → Prop) → Prop} {Q : List (D × D) → Sto → Prop} (Inv : List α → List α → List (D × D) → Sto → Prop) :
    ∀ (xs : List α) {m : List (D × D)} {st : Sto} (done : List α), Inv done xs m st →
    (step : ∀ done x todo m st (k : List (D × D) → Sto → Prop), Inv done (x :: todo) m st → (∀ m st, Inv (done ++ [x]) todo m st → k m st) → stayOk stay st (bind (f x) fun env => c env st fun b st => ifB b (ke env st fun kd st => ve env st fun vd st => D.key t kd = true ∧ m.length < sizeLine ∧ k (dPut m kd vd) st) (k m st))) →
    (fin : ∀ m st, Inv (done ++ xs) [] m st → stayOk stay st (Q m st)) → dcGo t stay bind c ke ve (xs.map f) m st Q
  | [], m, st, done, h0, step, fin => fin m st (by rw [List.append_nil]; exact h0)
  | x :: xs, m, st, done, h0, step, fin => by
    have h := step done x xs m st (fun m st => dcGo t stay bind c ke ve (xs.map f) m st Q) h0 fun m' st' h => dcGo_ind Inv xs (done ++ [x]) h step fun m st h => fin m st (by rw [List.append_assoc] at h; exact h)
    exact h
theorem lcGo_id {stay : List (Nat × Cell)} {bind : D → (St' → Prop) → Prop} {c : St' → Sto → (Bool → Sto → Prop) → Prop} {elt : St' → Sto → (D → Sto → Prop) → Prop} {Q : List D → Sto → Prop} (Inv : List D → List D → List D → Sto → Prop)
    (xs : List D) {acc : List D} {st : Sto} (h0 : Inv [] xs acc st)
    (step : ∀ done x todo acc st (k : List D → Sto → Prop), Inv done (x :: todo) acc st → (∀ acc st, Inv (done ++ [x]) todo acc st → k acc st) → stayOk stay st (bind x fun env => c env st fun b st => ifB b (elt env st fun d st => acc.length < sizeLine ∧ k (d :: acc) st) (k acc st)))
    (fin : ∀ acc st, Inv xs [] acc st → stayOk stay st (Q acc.reverse st)) : lcGo stay bind c elt xs acc st Q := by
  have := lcGo_ind (f := fun x : D => x) (stay := stay) (bind := bind) (c := c) (elt := elt) (Q := Q) Inv xs [] h0 step fin
  rwa [List.map_id'] at this
theorem whileGo_ind {c : St' → Sto → (Bool → Sto → Prop) → (Xc → St' → Sto → Prop) → Prop} {body : St' → Sto → Post → Prop} {P : Post} (Inv : Nat → St' → Sto → Prop)
    (step : ∀ m env st (k : St' → Sto → Prop), Inv m env st → (∀ m' env st, m' < m → Inv m' env st → k env st) → c env st (fun b st => ifB b (body env st { P with nx := k, ct := k, bk := P.nx }) (P.nx env st)) P.ex) :
    ∀ n m env st, m < n → Inv m env st → whileGo c body n env st P
  | 0, _, _, _, h, _ => absurd h (Nat.not_lt_zero _)
  | n + 1, m, env, st, h, hi => step m env st _ hi fun m' env st hlt hi' => whileGo_ind Inv step n m' env st (by omega) hi'
theorem cons_i {L : Lib} {s : S} {ss : Ss} {env : St'} {st : Sto} {P : Post} (h : wpS L s env st { P with nx := fun env st => wpSs L ss env st P }) : wpSs L (.cons s ss) env st P := h
/-- an if that does not hold -/
theorem ite_no {L : Lib} {c : E} {a : Ss} {env : St'} {st : Sto} {P : Post} (h1 : ∀ K : D → Sto → Prop, K (.bl false) st → wpE L c env st K (fun x st => P.ex x env st)) (h : P.nx env st) : wpS L (.ite c a .nil) env st P := h1 _ h
theorem ite_b {L : Lib} {c : E} {a e : Ss} {env : St'} {st : Sto} {P : Post} (b : Bool) (h1 : ∀ K : D → Sto → Prop, K (.bl b) st → wpE L c env st K (fun x st => P.ex x env st)) (ht : b = true → wpSs L a env st P) (hf : b = false → wpSs L e env st P) : wpS L (.ite c a e) env st P := by
  refine h1 _ ?_
  cases b with
  | true => exact ht rfl
  | false => exact hf rfl
theorem ite_not {L : Lib} {c : E} {a e : Ss} {env : St'} {st : Sto} {P : Post} (h : wpE L c env st (fun x st => onBl x fun t => ifB (!t) (wpSs L a env st P) (wpSs L e env st P)) (fun x st => P.ex x env st)) : wpS L (.ite (.not_ c) a e) env st P := h
theorem asg_i {L : Lib} {t : Tg} {e : E} {ss : Ss} {env : St'} {st : Sto} {P : Post} (h : wpE L e env st (fun d st => wpTg L t d env st (fun env st => wpSs L ss env st P) fun x st => P.ex x env st) fun x st => P.ex x env st) : wpSs L (.cons (.asg t e) ss) env st P := h
theorem lst2_i {L : Lib} {m : Bool} {a b : E} {env : St'} {st : Sto} {Q : D → Sto → Prop} {X : EX} (h : wpE L a env st (fun x st => wpE L b env st (fun y st => [x, y].length ≤ sizeLine ∧ newL m [x, y] st Q) X) X) : wpE L (.lst m (.cons a (.cons b .nil))) env st Q X := h
theorem for_i {L : Lib} {t : T} {n : Int} {body ss : Ss} {env : St'} {st : Sto} {P : Post} (hn : -(2 ^ 62) ≤ n ∧ n < 2 ^ 62) (h : forGo [] (wpT t) (fun env st P => wpSs L body env st P) ((List.range n.toNat).map fun i : Nat => .int (0 + (i : Nat))) env st { P with nx := fun env st => wpSs L ss env st P }) : wpSs L (.cons (.for_ t (.range1 (.int n)) body) ss) env st P := ⟨hn, h⟩
/-- [e for t in range(2)] -/
theorem lc2_i {L : Lib} {m : Bool} {t : Nat} {elt : E} {env : St'} {st : Sto} {Q : D → Sto → Prop} {X : EX} (h : wpE L elt (setS env t (.int 0)) st (fun x st => 0 < sizeLine ∧ wpE L elt (setS env t (.int 1)) st (fun y st => 1 < sizeLine ∧ newL m [x, y] st Q) fun _ _ => False) fun _ _ => False) :
    wpE L (.lc m elt (.v t) (.range1 (.int 2)) .none) env st Q X := ⟨by omega, h⟩
theorem onSome_i {α : Type} {o : Option α} {a : α} {k : α → Prop} (e : o = some a) (h : k a) : onSome o k := by subst e; exact h
theorem ixn {n j : Nat} (h : j < n) : ixN n (j : Int) = some j := by
  unfold ixN
  rw [if_pos (by omega), if_pos (by omega)]
  simp
theorem atI_n {α : Type} {xs : List α} {j : Nat} {x : α} (e : xs[j]? = some x) : atI xs (j : Int) = some x := by
  have h := (List.getElem?_eq_some_iff.mp e).1
  show (ixN xs.length (j : Int)).bind _ = _
  rw [ixn h]
  exact e
theorem set_same {st : Sto} {n : Nat} {c : Cell} (e : st[n]? = some c) : st.set n c = st := by
  obtain ⟨h, e⟩ := List.getElem?_eq_some_iff.mp e
  rw [← e]
  exact List.set_getElem_self h
theorem set_get {st : Sto} {n : Nat} {c : Cell} (h : n < st.length) : (st.set n c)[n]? = some c := List.getElem?_set_self h
theorem gc_drop {Q : D → Sto → Prop} {st g : Sto} {d : D} (hs : CloS st.length st) (hd : D.pure d = true) (h : Q d st) : Gc st.length Q d (st ++ g) :=
  .drop d st.length (Nat.le_refl _) (.same d) (Clo.of_pure _ hd) (by rw [List.take_left' rfl]; exact hs) (by rw [List.take_left' rfl]; exact h)
theorem itemsOf_dct {st : Sto} {n : Nat} {t : Bool} {kvs : List (D × D)} (e : st[n]? = some (.dct t kvs)) : itemsOf st (.loc n) = some (kvs.map (·.1)) := by
  unfold itemsOf
  simp only [e]
theorem set_app {st g : Sto} {n : Nat} {c : Cell} (h : n < st.length) : (st ++ g).set n c = st.set n c ++ g := by rw [List.set_append_left _ _ h]
theorem get_app {st g : Sto} {n : Nat} {c : Cell} (h : st[n]? = some c) : (st ++ g)[n]? = some c := by
  rw [List.getElem?_append_left (List.getElem?_eq_some_iff.mp h).1]
  exact h
def dropS : Nat → Ss → Ss
  | n, .stop ss => dropS n ss
  | 0, .cons s ss => .cons s ss
  | n + 1, .cons _ ss => dropS n ss
  | _, .nil => .nil
def headS : Ss → S
  | .cons s _ => s
  | _ => .pass
def bodyS : S → Ss
  | .for_ _ _ b => b
  | _ => .nil
def thenS : S → Ss
  | .ite _ a _ => a
  | _ => .nil
def elseS : S → Ss
  | .ite _ _ b => b
  | _ => .nil
abbrev Spc := List D → Sto → (D → Sto → Prop) → EX → Prop
end DL

set_option maxHeartbeats 1000000
/-! DLMut: defs that call one another: the promise of one of them by levels, s levels of calls a turn. -/
namespace DL
open PySem PySem.Spec PyProof.Rows L2
section
variable {K : PySem.W.Frag} {mg : Str → Option Value} {P : Program} {w : World} {base : Heap} {T : Tab}
theorem rec_okS {f : String} {st : Stmt} {a : Addr} {fd : FuncData} {N ps : List Str} {d : Fd} {k s : Nat} {Ls : Nat → Lib} (F : FunD K (Str.ofString f) (Str.ofString f) (defArgs st) (defBody st) (defScope st) [] [] a fd) (hm : mg (Str.ofString f) = some (.ref a)) (SC : FnScope N ps (defScope st)) (hn : d.ns.length = N.length)
    (h0 : (Ls 0).call f = fun _ _ _ _ => False) (lib : ∀ n, CallOk ⟨K, mg, P, w⟩ (Ls n) base (k + n * (s + 1)) f → LibOk ⟨K, mg, P, w⟩ (Ls n) T (k + n * (s + 1) + s) base) (ok : okSs T N (defScope st) true d.body (defBody st) = true)
    (vc : ∀ n ds st Q X, CloS st.length st → Clos st.length ds → (Ls (n + 1)).call f ds st Q X → d.run (Ls n) ds st (Gc st.length Q) (GcX st.length X))
    (hl : ∀ n ds st Q X, (Ls n).call f ds st Q X → ds.length = ps.length)
    (hb : ∀ (kV doc pm : Value) (an : Option Addr) (cdv ct : Value) (us : List Value), us.length = ps.length → bindArgs (PySem.W.fnOf (Str.ofString f) (Str.ofString f) (defArgs st) (defBody st) (defScope st) .none kV doc pm an cdv ct) ⟨us, []⟩ = pure (ps.zip us)) :
    ∀ n, CallOk ⟨K, mg, P, w⟩ (Ls n) base (k + n * (s + 1)) f
  | 0 => ⟨a, fd, ps, hm, F.kp, F.bindsN hb, by rw [h0]; exact fn_false, hl 0⟩
  | n + 1 => by
    have e : k + (n + 1) * (s + 1) = k + n * (s + 1) + s + 1 := by rw [Nat.succ_mul]; omega
    rw [e]
    exact ⟨a, fd, ps, hm, F.kp, F.bindsN hb, def_ok F SC hn (lib n (rec_okS F hm SC hn h0 lib ok vc hl hb n)) ok (vc n), hl (n + 1)⟩
theorem rec_methS {c m q : String} {st : Stmt} {A a : Addr} {fd : FuncData} {N ps : List Str} {d : Fd} {k s : Nat} {Ls : Nat → Lib} (F : FunD K (Str.ofString m) (Str.ofString q) (defArgs st) (defBody st) (defScope st) [] [] a fd) (hm : mg (Str.ofString c) = some (.ref A)) (M : L2.Meth K A (Str.ofString m) a) (SC : FnScope N ps (defScope st)) (hn : d.ns.length = N.length)
    (h0 : (Ls 0).meth c m = fun _ _ _ _ => False) (lib : ∀ n, MethOk ⟨K, mg, P, w⟩ (Ls n) (k + n * (s + 1)) base (c, m) → LibOk ⟨K, mg, P, w⟩ (Ls n) T (k + n * (s + 1) + s) base) (ok : okSs T N (defScope st) true d.body (defBody st) = true)
    (vc : ∀ n ds st Q X, CloS st.length st → Clos st.length ds → (Ls (n + 1)).meth c m ds st Q X → d.run (Ls n) ds st (Gc st.length Q) (GcX st.length X))
    (hl : ∀ n ds st Q X, (Ls n).meth c m ds st Q X → ds.length = ps.length)
    (hb : ∀ (kV doc pm : Value) (an : Option Addr) (cdv ct : Value) (us : List Value), us.length = ps.length → bindArgs (PySem.W.fnOf (Str.ofString m) (Str.ofString q) (defArgs st) (defBody st) (defScope st) .none kV doc pm an cdv ct) ⟨us, []⟩ = pure (ps.zip us)) :
    ∀ n, MethOk ⟨K, mg, P, w⟩ (Ls n) (k + n * (s + 1)) base (c, m)
  | 0 => ⟨A, a, fd, ps, hm, M, F.bindsN hb, by rw [show (Ls 0).meth (c, m).1 (c, m).2 = (Ls 0).meth c m from rfl, h0]; exact fn_false, hl 0⟩
  | n + 1 => by
    have e : k + (n + 1) * (s + 1) = k + n * (s + 1) + s + 1 := by rw [Nat.succ_mul]; omega
    rw [e]
    exact ⟨A, a, fd, ps, hm, M, F.bindsN hb, def_ok F SC hn (lib n (rec_methS F hm M SC hn h0 lib ok vc hl hb n)) ok (vc n), hl (n + 1)⟩
end
end DL

set_option maxHeartbeats 1000000
namespace DL
def b_is_integer : Fd := ⟨["value", "low", "high"], ["value", "low", "high"], (.cons (.ret (.and_ (.cons (.isi (.v 0) .int) (.cons (.not_ (.isi (.v 0) .bool)) (.cons (.cmp2 .le .le (.v 1) (.v 0) (.v 2)) .nil))))) .nil)⟩
def b_is_number : Fd := ⟨["value"], ["value"], (.cons (.ret (.call "is_integer" (.cons (.v 0) (.cons (.g "LEAST_NUMBER") (.cons (.g "MOST_NUMBER") .nil))))) .nil)⟩
def b_is_text : Fd := ⟨["value"], ["value", "sign"], (.cons (.ite (.or_ (.cons (.not_ (.isi (.v 0) .str)) (.cons (.cmp .gt (.bi false .len (.cons (.v 0) .nil)) (.g "MOST_SIGNS")) .nil))) (.cons (.ret (.bl false)) .nil) .nil) (.cons (.ret (.bi false .all_ (.cons (.lc false (.or_ (.cons (.cmp .in_ (.v 1) (.g "LETTERS")) (.cons (.cmp .in_ (.v 1) (.g "DIGITS")) .nil))) (.v 1) (.e (.v 0)) .none) .nil))) .nil))⟩
def b_kind_within : Fd := ⟨["kinds", "e", "left"], ["kinds", "e", "left"], (.stop (.cons (.ite (.or_ (.cons (.cmp .eq (.v 2) (.int 0)) (.cons (.not_ (.isi (.v 1) .tuple)) (.cons (.nilq false (.v 1)) (.cons (.not_ (.isi (.ix (.v 1) (.int 0)) .str)) .nil))))) (.stop (.cons (.ret .non) .nil)) .nil) (.stop (.cons (.ite (.and_ (.cons (.cmp .eq (.ix (.v 1) (.int 0)) (.str "column")) (.cons (.cmp .eq (.bi false .len (.cons (.v 1) .nil)) (.int 2)) (.cons (.isi (.ix (.v 1) (.int 1)) .int) (.cons (.not_ (.isi (.ix (.v 1) (.int 1)) .bool)) .nil))))) (.stop (.cons (.ite (.cmp2 .le .lt (.int 0) (.ix (.v 1) (.int 1)) (.bi false .len (.cons (.v 0) .nil))) (.stop (.cons (.ret (.ix (.v 0) (.ix (.v 1) (.int 1)))) .nil)) .nil) (.stop (.cons (.ret .non) .nil)))) .nil) (.stop (.cons (.ite (.and_ (.cons (.cmp .eq (.ix (.v 1) (.int 0)) (.str "number")) (.cons (.cmp .eq (.bi false .len (.cons (.v 1) .nil)) (.int 2)) (.cons (.call "is_number" (.cons (.ix (.v 1) (.int 1)) .nil)) .nil)))) (.stop (.cons (.ret (.str "number")) .nil)) .nil) (.stop (.cons (.ite (.and_ (.cons (.cmp .eq (.ix (.v 1) (.int 0)) (.str "text")) (.cons (.cmp .eq (.bi false .len (.cons (.v 1) .nil)) (.int 2)) (.cons (.call "is_text" (.cons (.ix (.v 1) (.int 1)) .nil)) .nil)))) (.stop (.cons (.ret (.str "text")) .nil)) .nil) (.stop (.cons (.ite (.or_ (.cons (.cmp .ne (.ix (.v 1) (.int 0)) (.str "op")) (.cons (.cmp .ne (.bi false .len (.cons (.v 1) .nil)) (.int 4)) (.cons (.not_ (.isi (.ix (.v 1) (.int 1)) .str)) (.cons (.cmp .notin (.ix (.v 1) (.int 1)) (.g "RECKONING")) .nil))))) (.stop (.cons (.ret .non) .nil)) .nil) (.stop (.cons (.ite (.and_ (.cons (.cmp .eq (.call "kind_within" (.cons (.v 0) (.cons (.ix (.v 1) (.int 2)) (.cons (.bin .sub (.v 2) (.int 1)) .nil)))) (.str "number")) (.cons (.cmp .eq (.call "kind_within" (.cons (.v 0) (.cons (.ix (.v 1) (.int 3)) (.cons (.bin .sub (.v 2) (.int 1)) .nil)))) (.str "number")) .nil))) (.stop (.cons (.ret (.str "number")) .nil)) .nil) (.stop (.cons (.ret .non) .nil))))))))))))))⟩
def b_kind_of : Fd := ⟨["kinds", "e"], ["kinds", "e"], (.cons (.ret (.call "kind_within" (.cons (.v 0) (.cons (.v 1) (.cons (.g "MOST_DEEP") .nil))))) .nil)⟩
def b_is_within : Fd := ⟨["kinds", "c", "left"], ["kinds", "c", "left", "kind"], (.stop (.cons (.ite (.or_ (.cons (.cmp .eq (.v 2) (.int 0)) (.cons (.not_ (.isi (.v 1) .tuple)) (.cons (.nilq false (.v 1)) (.cons (.not_ (.isi (.ix (.v 1) (.int 0)) .str)) .nil))))) (.stop (.cons (.ret (.bl false)) .nil)) .nil) (.stop (.cons (.ite (.cmp .eq (.ix (.v 1) (.int 0)) (.str "true")) (.stop (.cons (.ret (.cmp .eq (.bi false .len (.cons (.v 1) .nil)) (.int 1))) .nil)) .nil) (.stop (.cons (.ite (.cmp .eq (.ix (.v 1) (.int 0)) (.str "not")) (.stop (.cons (.ret (.and_ (.cons (.cmp .eq (.bi false .len (.cons (.v 1) .nil)) (.int 2)) (.cons (.call "is_within" (.cons (.v 0) (.cons (.ix (.v 1) (.int 1)) (.cons (.bin .sub (.v 2) (.int 1)) .nil)))) .nil)))) .nil)) .nil) (.stop (.cons (.ite (.cmp .in_ (.ix (.v 1) (.int 0)) (.tup (.cons (.str "and") (.cons (.str "or") .nil)))) (.stop (.cons (.ret (.and_ (.cons (.cmp .eq (.bi false .len (.cons (.v 1) .nil)) (.int 3)) (.cons (.call "is_within" (.cons (.v 0) (.cons (.ix (.v 1) (.int 1)) (.cons (.bin .sub (.v 2) (.int 1)) .nil)))) (.cons (.call "is_within" (.cons (.v 0) (.cons (.ix (.v 1) (.int 2)) (.cons (.bin .sub (.v 2) (.int 1)) .nil)))) .nil))))) .nil)) .nil) (.stop (.cons (.ite (.or_ (.cons (.cmp .ne (.ix (.v 1) (.int 0)) (.str "compare")) (.cons (.cmp .ne (.bi false .len (.cons (.v 1) .nil)) (.int 4)) (.cons (.not_ (.isi (.ix (.v 1) (.int 1)) .str)) (.cons (.cmp .notin (.ix (.v 1) (.int 1)) (.g "COMPARING")) .nil))))) (.stop (.cons (.ret (.bl false)) .nil)) .nil) (.stop (.cons (.asg (.t (.v 3)) (.call "kind_within" (.cons (.v 0) (.cons (.ix (.v 1) (.int 2)) (.cons (.bin .sub (.v 2) (.int 1)) .nil))))) (.stop (.cons (.ret (.and_ (.cons (.cmp .isnot (.v 3) .non) (.cons (.cmp .eq (.call "kind_within" (.cons (.v 0) (.cons (.ix (.v 1) (.int 3)) (.cons (.bin .sub (.v 2) (.int 1)) .nil)))) (.v 3)) .nil)))) .nil))))))))))))))⟩
def b_is_condition : Fd := ⟨["kinds", "c"], ["kinds", "c"], (.cons (.ret (.call "is_within" (.cons (.v 0) (.cons (.v 1) (.cons (.g "MOST_DEEP") .nil))))) .nil)⟩
def b_inner : Fd := ⟨["node"], ["node"], (.cons (.ite (.cmp .in_ (.ix (.v 0) (.int 0)) (.tup (.cons (.str "compare") (.cons (.str "op") .nil)))) (.cons (.ret (.sl false (.v 0) (.some (.int 2)) .none)) .nil) .nil) (.cons (.ite (.cmp .in_ (.ix (.v 0) (.int 0)) (.tup (.cons (.str "and") (.cons (.str "or") (.cons (.str "not") .nil))))) (.cons (.ret (.sl false (.v 0) (.some (.int 1)) .none)) .nil) .nil) (.cons (.ret (.tup .nil)) .nil)))⟩
def b_depth_of : Fd := ⟨["node"], ["node", "one"], (.cons (.ret (.bin .add (.int 1) (.bi false .max1 (.cons (.bin .add (.lst false (.cons (.int 0) .nil)) (.lc false (.call "depth_of" (.cons (.v 1) .nil)) (.v 1) (.e (.call "inner" (.cons (.v 0) .nil))) .none)) .nil)))) .nil)⟩
def b_queries_in : Fd := ⟨["q"], ["q"], (.cons (.ite (.cmp .in_ (.ix (.v 0) (.int 0)) (.tup (.cons (.str "source") (.cons (.str "table") (.cons (.str "view") .nil))))) (.cons (.ret (.tup .nil)) .nil) .nil) (.cons (.ite (.cmp .in_ (.ix (.v 0) (.int 0)) (.g "JOINING")) (.cons (.ret (.tup (.cons (.ix (.v 0) (.int 1)) (.cons (.ix (.v 0) (.int 2)) .nil)))) .nil) .nil) (.cons (.ret (.tup (.cons (.ix (.v 0) (.int 1)) .nil))) .nil)))⟩
def b_kinds_of_table : Fd := ⟨["house", "t"], ["house", "t", "_", "kind"], (.cons (.ret (.bi false .tuple_ (.cons (.lc false (.v 3) (.tup (.cons (.v 2) (.cons (.v 3) .nil))) (.e (.ix (.ix (.ix (.v 0) (.int 2)) (.v 1)) (.int 1))) .none) .nil))) .nil)⟩
def b_kinds_of : Fd := ⟨["house", "q"], ["house", "q", "kinds", "e", "column", "agg"], (.stop (.cons (.ite (.cmp .eq (.ix (.v 1) (.int 0)) (.str "table")) (.stop (.cons (.ret (.call "kinds_of_table" (.cons (.v 0) (.cons (.ix (.v 1) (.int 1)) .nil)))) .nil)) .nil) (.stop (.cons (.ite (.cmp .eq (.ix (.v 1) (.int 0)) (.str "view")) (.stop (.cons (.ret (.call "kinds_of" (.cons (.v 0) (.cons (.ix (.ix (.ix (.v 0) (.int 4)) (.ix (.v 1) (.int 1))) (.int 1)) .nil)))) .nil)) .nil) (.stop (.cons (.asg (.t (.v 2)) (.call "kinds_of" (.cons (.v 0) (.cons (.ix (.v 1) (.int 1)) .nil)))) (.stop (.cons (.ite (.cmp .eq (.ix (.v 1) (.int 0)) (.str "cross")) (.stop (.cons (.ret (.bin .add (.v 2) (.call "kinds_of" (.cons (.v 0) (.cons (.ix (.v 1) (.int 2)) .nil))))) .nil)) .nil) (.stop (.cons (.ite (.cmp .eq (.ix (.v 1) (.int 0)) (.str "show")) (.stop (.cons (.ret (.bi false .tuple_ (.cons (.lc false (.call "kind_of" (.cons (.v 2) (.cons (.v 3) .nil))) (.v 3) (.e (.ix (.v 1) (.int 2))) .none) .nil))) .nil)) .nil) (.stop (.cons (.ite (.cmp .eq (.ix (.v 1) (.int 0)) (.str "group")) (.stop (.cons (.ret (.bin .add (.bi false .tuple_ (.cons (.lc false (.ix (.v 2) (.v 4)) (.v 4) (.e (.ix (.v 1) (.int 2))) .none) .nil)) (.bi false .tuple_ (.cons (.lc false (.call "agg_kind" (.cons (.v 2) (.cons (.v 5) .nil))) (.v 5) (.e (.ix (.v 1) (.int 3))) .none) .nil)))) .nil)) .nil) (.stop (.cons (.ret (.v 2)) .nil))))))))))))))⟩
def b_agg_kind : Fd := ⟨["kinds", "agg"], ["kinds", "agg"], (.cons (.ite (.cmp .in_ (.ix (.v 1) (.int 0)) (.tup (.cons (.str "count") (.cons (.str "sum") .nil)))) (.cons (.ret (.str "number")) .nil) .nil) (.cons (.ret (.call "kind_of" (.cons (.v 0) (.cons (.ix (.v 1) (.int 1)) .nil)))) .nil))⟩
def b_rebuilt : Fd := ⟨["q", "parts"], ["q", "parts"], (.cons (.ret (.bin .add (.bin .add (.sl false (.v 0) .none (.some (.int 1))) (.v 1)) (.sl false (.v 0) (.some (.bin .add (.int 1) (.bi false .len (.cons (.v 1) .nil)))) .none))) .nil)⟩
def b_unfold : Fd := ⟨["house", "q"], ["house", "q", "one"], (.cons (.ite (.cmp .eq (.ix (.v 1) (.int 0)) (.str "table")) (.cons (.ret (.v 1)) .nil) .nil) (.cons (.ite (.cmp .eq (.ix (.v 1) (.int 0)) (.str "view")) (.cons (.ret (.call "unfold" (.cons (.v 0) (.cons (.ix (.ix (.ix (.v 0) (.int 4)) (.ix (.v 1) (.int 1))) (.int 1)) .nil)))) .nil) .nil) (.cons (.ret (.call "rebuilt" (.cons (.v 1) (.cons (.bi false .tuple_ (.cons (.lc false (.call "unfold" (.cons (.v 0) (.cons (.v 2) .nil))) (.v 2) (.e (.call "queries_in" (.cons (.v 1) .nil))) .none) .nil)) .nil)))) .nil)))⟩
def b_leaves_of : Fd := ⟨["q"], ["q", "one"], (.cons (.ite (.cmp .eq (.ix (.v 0) (.int 0)) (.str "table")) (.cons (.ret (.int 1)) .nil) .nil) (.cons (.ret (.bi false .sum_ (.cons (.lc false (.call "leaves_of" (.cons (.v 1) .nil)) (.v 1) (.e (.call "queries_in" (.cons (.v 0) .nil))) .none) .nil))) .nil))⟩
def b_depth_of_query : Fd := ⟨["q"], ["q", "one"], (.cons (.ret (.bin .add (.int 1) (.bi false .max1 (.cons (.bin .add (.lst false (.cons (.int 0) .nil)) (.lc false (.call "depth_of_query" (.cons (.v 1) .nil)) (.v 1) (.e (.call "queries_in" (.cons (.v 0) .nil))) .none)) .nil)))) .nil)⟩
def b_is_agg : Fd := ⟨["kinds", "value", "most"], ["kinds", "value", "most", "kind"], (.stop (.cons (.ite (.or_ (.cons (.not_ (.isi (.v 1) .tuple)) (.cons (.nilq false (.v 1)) (.cons (.not_ (.isi (.ix (.v 1) (.int 0)) .str)) .nil)))) (.stop (.cons (.ret (.bl false)) .nil)) .nil) (.stop (.cons (.ite (.cmp .eq (.ix (.v 1) (.int 0)) (.str "count")) (.stop (.cons (.ret (.cmp .eq (.bi false .len (.cons (.v 1) .nil)) (.int 1))) .nil)) .nil) (.stop (.cons (.ite (.or_ (.cons (.cmp .notin (.ix (.v 1) (.int 0)) (.tup (.cons (.str "sum") (.cons (.str "least") (.cons (.str "greatest") .nil))))) (.cons (.cmp .ne (.bi false .len (.cons (.v 1) .nil)) (.int 2)) .nil))) (.stop (.cons (.ret (.bl false)) .nil)) .nil) (.stop (.cons (.asg (.t (.v 3)) (.call "kind_of" (.cons (.v 0) (.cons (.ix (.v 1) (.int 1)) .nil)))) (.stop (.cons (.ret (.and_ (.cons (.cmp .isnot (.v 3) .non) (.cons (.cmp .le (.call "depth_of" (.cons (.ix (.v 1) (.int 1)) .nil)) (.v 2)) (.cons (.or_ (.cons (.cmp .eq (.v 3) (.str "number")) (.cons (.cmp .ne (.ix (.v 1) (.int 0)) (.str "sum")) .nil))) .nil))))) .nil))))))))))⟩
def b_is_shown : Fd := ⟨["kinds", "value", "most"], ["kinds", "value", "most"], (.cons (.ret (.and_ (.cons (.cmp .isnot (.call "kind_of" (.cons (.v 0) (.cons (.v 1) .nil))) .non) (.cons (.cmp .le (.call "depth_of" (.cons (.v 1) .nil)) (.v 2)) .nil)))) .nil)⟩
def b_is_asked : Fd := ⟨["kinds", "value", "most"], ["kinds", "value", "most"], (.cons (.ret (.and_ (.cons (.call "is_condition" (.cons (.v 0) (.cons (.v 1) .nil))) (.cons (.cmp .le (.call "depth_of" (.cons (.v 1) .nil)) (.v 2)) .nil)))) .nil)⟩
def b_is_order : Fd := ⟨["kinds", "value"], ["kinds", "value", "one"], (.cons (.ite (.or_ (.cons (.not_ (.isi (.v 1) .tuple)) (.cons (.nilq false (.v 1)) .nil))) (.cons (.ret (.bl false)) .nil) .nil) (.cons (.ret (.bi false .all_ (.cons (.lc false (.call "is_way" (.cons (.v 0) (.cons (.v 2) .nil))) (.v 2) (.e (.v 1)) .none) .nil))) .nil))⟩
def b_is_way : Fd := ⟨["kinds", "value"], ["kinds", "value"], (.cons (.ite (.or_ (.cons (.not_ (.isi (.v 1) .tuple)) (.cons (.cmp .ne (.bi false .len (.cons (.v 1) .nil)) (.int 2)) .nil))) (.cons (.ret (.bl false)) .nil) .nil) (.cons (.ret (.and_ (.cons (.call "is_integer" (.cons (.ix (.v 1) (.int 0)) (.cons (.int 0) (.cons (.bin .sub (.bi false .len (.cons (.v 0) .nil)) (.int 1)) .nil)))) (.cons (.isi (.ix (.v 1) (.int 1)) .bool) .nil)))) .nil))⟩
def b_Forms_init : Fd := ⟨["self", "house", "views", "most"], ["self", "house", "views", "most"], (.cons (.asg (.fld (.v 0) "_house") (.v 1)) (.cons (.asg (.fld (.v 0) "_views") (.v 2)) (.cons (.asg (.fld (.v 0) "_most") (.v 3)) .nil)))⟩
def b_Forms_kinds : Fd := ⟨["self", "value", "left"], ["self", "value", "left", "found"], (.stop (.cons (.ite (.or_ (.cons (.cmp .eq (.v 2) (.int 0)) (.cons (.not_ (.isi (.v 1) .tuple)) (.cons (.cmp .lt (.bi false .len (.cons (.v 1) .nil)) (.int 2)) (.cons (.not_ (.isi (.ix (.v 1) (.int 0)) .str)) .nil))))) (.stop (.cons (.ret .non) .nil)) .nil) (.stop (.cons (.ite (.cmp .eq (.ix (.v 1) (.int 0)) (.str "table")) (.stop (.cons (.ite (.and_ (.cons (.cmp .eq (.bi false .len (.cons (.v 1) .nil)) (.int 2)) (.cons (.call "is_integer" (.cons (.ix (.v 1) (.int 1)) (.cons (.int 0) (.cons (.bin .sub (.bi false .len (.cons (.ix (.fld (.v 0) "_house") (.int 2)) .nil)) (.int 1)) .nil)))) .nil))) (.stop (.cons (.ret (.call "kinds_of_table" (.cons (.fld (.v 0) "_house") (.cons (.ix (.v 1) (.int 1)) .nil)))) .nil)) .nil) (.stop (.cons (.ret .non) .nil)))) .nil) (.stop (.cons (.ite (.cmp .eq (.ix (.v 1) (.int 0)) (.str "view")) (.stop (.cons (.ite (.and_ (.cons (.cmp .eq (.bi false .len (.cons (.v 1) .nil)) (.int 2)) (.cons (.call "is_integer" (.cons (.ix (.v 1) (.int 1)) (.cons (.int 0) (.cons (.bin .sub (.fld (.v 0) "_views") (.int 1)) .nil)))) .nil))) (.stop (.cons (.ret (.call "kinds_of" (.cons (.fld (.v 0) "_house") (.cons (.v 1) .nil)))) .nil)) .nil) (.stop (.cons (.ret .non) .nil)))) .nil) (.stop (.cons (.asg (.t (.v 3)) (.meth "Forms" "_step_kinds" (.v 0) (.cons (.v 1) (.cons (.v 2) .nil)))) (.stop (.cons (.ite (.or_ (.cons (.cmp .is_ (.v 3) .non) (.cons (.cmp .gt (.bi false .len (.cons (.v 3) .nil)) (.g "MOST_WIDTH")) .nil))) (.stop (.cons (.ret .non) .nil)) .nil) (.stop (.cons (.ret (.v 3)) .nil))))))))))))⟩
def b_Forms_step_kinds : Fd := ⟨["self", "value", "left"], ["self", "value", "left", "kinds", "e", "column", "agg"], (.stop (.cons (.asg (.t (.v 3)) (.meth "Forms" "kinds" (.v 0) (.cons (.ix (.v 1) (.int 1)) (.cons (.bin .sub (.v 2) (.int 1)) .nil)))) (.stop (.cons (.ite (.cmp .is_ (.v 3) .non) (.stop (.cons (.ret .non) .nil)) .nil) (.stop (.cons (.ite (.cmp .in_ (.ix (.v 1) (.int 0)) (.tup (.cons (.str "cross") (.cons (.str "union") (.cons (.str "minus") (.cons (.str "both") (.cons (.str "some") (.cons (.str "none") .nil)))))))) (.stop (.cons (.ret (.meth "Forms" "_both_kinds" (.v 0) (.cons (.v 1) (.cons (.v 3) (.cons (.v 2) .nil))))) .nil)) .nil) (.stop (.cons (.ite (.and_ (.cons (.cmp .eq (.ix (.v 1) (.int 0)) (.str "once")) (.cons (.cmp .eq (.bi false .len (.cons (.v 1) .nil)) (.int 2)) .nil))) (.stop (.cons (.ret (.v 3)) .nil)) .nil) (.stop (.cons (.ite (.and_ (.cons (.cmp .eq (.ix (.v 1) (.int 0)) (.str "keep")) (.cons (.cmp .eq (.bi false .len (.cons (.v 1) .nil)) (.int 3)) (.cons (.call "is_asked" (.cons (.v 3) (.cons (.ix (.v 1) (.int 2)) (.cons (.fld (.v 0) "_most") .nil)))) .nil)))) (.stop (.cons (.ret (.v 3)) .nil)) .nil) (.stop (.cons (.ite (.and_ (.cons (.cmp .eq (.ix (.v 1) (.int 0)) (.str "first")) (.cons (.cmp .eq (.bi false .len (.cons (.v 1) .nil)) (.int 4)) (.cons (.call "is_order" (.cons (.v 3) (.cons (.ix (.v 1) (.int 2)) .nil))) .nil)))) (.stop (.cons (.ite (.call "is_integer" (.cons (.ix (.v 1) (.int 3)) (.cons (.int 0) (.cons (.g "MOST_NUMBER") .nil)))) (.stop (.cons (.ret (.v 3)) .nil)) .nil) (.stop (.cons (.ret .non) .nil)))) .nil) (.stop (.cons (.ite (.and_ (.cons (.cmp .eq (.ix (.v 1) (.int 0)) (.str "show")) (.cons (.cmp .eq (.bi false .len (.cons (.v 1) .nil)) (.int 3)) (.cons (.meth "Forms" "_are_shown" (.v 0) (.cons (.v 3) (.cons (.ix (.v 1) (.int 2)) .nil))) .nil)))) (.stop (.cons (.ret (.bi false .tuple_ (.cons (.lc false (.call "kind_of" (.cons (.v 3) (.cons (.v 4) .nil))) (.v 4) (.e (.ix (.v 1) (.int 2))) .none) .nil))) .nil)) .nil) (.stop (.cons (.ite (.and_ (.cons (.cmp .eq (.ix (.v 1) (.int 0)) (.str "group")) (.cons (.cmp .eq (.bi false .len (.cons (.v 1) .nil)) (.int 4)) (.cons (.meth "Forms" "_are_grouped" (.v 0) (.cons (.v 3) (.cons (.ix (.v 1) (.int 2)) (.cons (.ix (.v 1) (.int 3)) .nil)))) .nil)))) (.stop (.cons (.ret (.bin .add (.bi false .tuple_ (.cons (.lc false (.ix (.v 3) (.v 5)) (.v 5) (.e (.ix (.v 1) (.int 2))) .none) .nil)) (.bi false .tuple_ (.cons (.lc false (.call "agg_kind" (.cons (.v 3) (.cons (.v 6) .nil))) (.v 6) (.e (.ix (.v 1) (.int 3))) .none) .nil)))) .nil)) .nil) (.stop (.cons (.ret .non) .nil))))))))))))))))))⟩
def b_Forms_both_kinds : Fd := ⟨["self", "value", "kinds", "left"], ["self", "value", "kinds", "left", "others"], (.stop (.cons (.ite (.cmp .lt (.bi false .len (.cons (.v 1) .nil)) (.int 3)) (.stop (.cons (.ret .non) .nil)) .nil) (.stop (.cons (.asg (.t (.v 4)) (.meth "Forms" "kinds" (.v 0) (.cons (.ix (.v 1) (.int 2)) (.cons (.bin .sub (.v 3) (.int 1)) .nil)))) (.stop (.cons (.ite (.cmp .is_ (.v 4) .non) (.stop (.cons (.ret .non) .nil)) .nil) (.stop (.cons (.ite (.and_ (.cons (.cmp .eq (.ix (.v 1) (.int 0)) (.str "cross")) (.cons (.cmp .eq (.bi false .len (.cons (.v 1) .nil)) (.int 3)) .nil))) (.stop (.cons (.ret (.bin .add (.v 2) (.v 4))) .nil)) .nil) (.stop (.cons (.ite (.and_ (.cons (.cmp .in_ (.ix (.v 1) (.int 0)) (.tup (.cons (.str "union") (.cons (.str "minus") (.cons (.str "both") .nil))))) (.cons (.cmp .eq (.bi false .len (.cons (.v 1) .nil)) (.int 3)) (.cons (.cmp .eq (.v 2) (.v 4)) .nil)))) (.stop (.cons (.ret (.v 2)) .nil)) .nil) (.stop (.cons (.ite (.and_ (.cons (.cmp .in_ (.ix (.v 1) (.int 0)) (.tup (.cons (.str "some") (.cons (.str "none") .nil)))) (.cons (.cmp .eq (.bi false .len (.cons (.v 1) .nil)) (.int 4)) (.cons (.call "is_asked" (.cons (.bin .add (.v 2) (.v 4)) (.cons (.ix (.v 1) (.int 3)) (.cons (.fld (.v 0) "_most") .nil)))) .nil)))) (.stop (.cons (.ret (.v 2)) .nil)) .nil) (.stop (.cons (.ret .non) .nil))))))))))))))⟩
def b_Forms_are_shown : Fd := ⟨["self", "kinds", "value"], ["self", "kinds", "value", "e"], (.cons (.ret (.and_ (.cons (.isi (.v 2) .tuple) (.cons (.nilq true (.v 2)) (.cons (.bi false .all_ (.cons (.lc false (.call "is_shown" (.cons (.v 1) (.cons (.v 3) (.cons (.fld (.v 0) "_most") .nil)))) (.v 3) (.e (.v 2)) .none) .nil)) .nil))))) .nil)⟩
def b_Forms_are_grouped : Fd := ⟨["self", "kinds", "columns", "aggs"], ["self", "kinds", "columns", "aggs", "agg", "column"], (.stop (.cons (.ite (.or_ (.cons (.not_ (.isi (.v 2) .tuple)) (.cons (.not_ (.isi (.v 3) .tuple)) (.cons (.nilq false (.v 3)) .nil)))) (.stop (.cons (.ret (.bl false)) .nil)) .nil) (.stop (.cons (.ite (.not_ (.bi false .all_ (.cons (.lc false (.call "is_integer" (.cons (.v 5) (.cons (.int 0) (.cons (.bin .sub (.bi false .len (.cons (.v 1) .nil)) (.int 1)) .nil)))) (.v 5) (.e (.v 2)) .none) .nil))) (.stop (.cons (.ret (.bl false)) .nil)) .nil) (.stop (.cons (.ret (.bi false .all_ (.cons (.lc false (.call "is_agg" (.cons (.v 1) (.cons (.v 4) (.cons (.fld (.v 0) "_most") .nil)))) (.v 4) (.e (.v 3)) .none) .nil))) .nil))))))⟩
def b_Forms_is_query : Fd := ⟨["self", "value", "deep"], ["self", "value", "deep", "whole"], (.stop (.cons (.ite (.cmp .is_ (.meth "Forms" "kinds" (.v 0) (.cons (.v 1) (.cons (.v 2) .nil))) .non) (.stop (.cons (.ret (.bl false)) .nil)) .nil) (.stop (.cons (.asg (.t (.v 3)) (.call "unfold" (.cons (.fld (.v 0) "_house") (.cons (.v 1) .nil)))) (.stop (.cons (.ret (.and_ (.cons (.cmp .le (.call "leaves_of" (.cons (.v 3) .nil)) (.g "MOST_LEAVES")) (.cons (.cmp .le (.call "depth_of_query" (.cons (.v 3) .nil)) (.v 2)) .nil)))) .nil))))))⟩
def b_is_query : Fd := ⟨["house", "value"], ["house", "value"], (.stop (.cons (.ret (.meth "Forms" "is_query" (.new "Forms" (.cons (.v 0) (.cons (.bi false .len (.cons (.ix (.v 0) (.int 4)) .nil)) (.cons (.g "MOST_DEPTH") .nil)))) (.cons (.v 1) (.cons (.g "MOST_DEPTH") .nil)))) .nil))⟩
def b_is_step : Fd := ⟨["house", "step", "within"], ["house", "step", "within", "word"], (.stop (.cons (.ite (.or_ (.cons (.not_ (.isi (.v 1) .tuple)) (.cons (.cmp .eq (.bi false .len (.cons (.v 1) .nil)) (.int 0)) (.cons (.not_ (.isi (.ix (.v 1) (.int 0)) .str)) .nil)))) (.stop (.cons (.ret (.bl false)) .nil)) .nil) (.stop (.cons (.asg (.t (.v 3)) (.ix (.v 1) (.int 0))) (.stop (.cons (.ite (.cmp .eq (.v 3) (.str "quit")) (.stop (.cons (.ret (.cmp .eq (.bi false .len (.cons (.v 1) .nil)) (.int 1))) .nil)) .nil) (.stop (.cons (.ite (.or_ (.cons (.cmp .eq (.v 3) (.str "put")) (.cons (.cmp .eq (.v 3) (.str "take")) .nil))) (.stop (.cons (.ret (.and_ (.cons (.cmp .eq (.bi false .len (.cons (.v 1) .nil)) (.int 3)) (.cons (.call "is_integer" (.cons (.ix (.v 1) (.int 1)) (.cons (.int 0) (.cons (.bin .sub (.bi false .len (.cons (.ix (.v 0) (.int 2)) .nil)) (.int 1)) .nil)))) (.cons (.isi (.ix (.v 1) (.int 2)) .tuple) .nil))))) .nil)) .nil) (.stop (.cons (.ite (.cmp .eq (.v 3) (.str "ask")) (.stop (.cons (.ret (.and_ (.cons (.cmp .eq (.bi false .len (.cons (.v 1) .nil)) (.int 3)) (.cons (.cmp .ge (.v 2) (.int 0)) (.cons (.call "is_integer" (.cons (.ix (.v 1) (.int 1)) (.cons (.int 0) (.cons (.bin .sub (.g "MOST_ANSWERS") (.int 1)) .nil)))) (.cons (.call "is_query" (.cons (.v 0) (.cons (.ix (.v 1) (.int 2)) .nil))) .nil)))))) .nil)) .nil) (.stop (.cons (.ite (.cmp .eq (.v 3) (.str "try")) (.stop (.cons (.ret (.and_ (.cons (.cmp .eq (.bi false .len (.cons (.v 1) .nil)) (.int 2)) (.cons (.call "are_steps" (.cons (.v 0) (.cons (.ix (.v 1) (.int 1)) (.cons (.call "around" (.cons (.v 2) (.cons (.bl false) .nil))) .nil)))) .nil)))) .nil)) .nil) (.stop (.cons (.ite (.cmp .eq (.v 3) (.str "each")) (.stop (.cons (.ite (.or_ (.cons (.cmp .ne (.bi false .len (.cons (.v 1) .nil)) (.int 3)) (.cons (.not_ (.call "is_integer" (.cons (.ix (.v 1) (.int 1)) (.cons (.int 0) (.cons (.bin .sub (.g "MOST_ANSWERS") (.int 1)) .nil))))) .nil))) (.stop (.cons (.ret (.bl false)) .nil)) .nil) (.stop (.cons (.ret (.call "are_steps" (.cons (.v 0) (.cons (.ix (.v 1) (.int 2)) (.cons (.call "around" (.cons (.v 2) (.cons (.bl true) .nil))) .nil))))) .nil)))) .nil) (.stop (.cons (.ite (.or_ (.cons (.cmp .ne (.v 3) (.str "when")) (.cons (.cmp .ne (.bi false .len (.cons (.v 1) .nil)) (.int 5)) (.cons (.not_ (.call "is_integer" (.cons (.ix (.v 1) (.int 1)) (.cons (.int 0) (.cons (.bin .sub (.g "MOST_ANSWERS") (.int 1)) .nil))))) .nil)))) (.stop (.cons (.ret (.bl false)) .nil)) .nil) (.stop (.cons (.ite (.or_ (.cons (.not_ (.call "is_integer" (.cons (.ix (.v 1) (.int 2)) (.cons (.int 0) (.cons (.g "MOST_ANSWER_ROWS") .nil))))) (.cons (.not_ (.call "is_integer" (.cons (.ix (.v 1) (.int 3)) (.cons (.int 0) (.cons (.g "MOST_ANSWER_ROWS") .nil))))) .nil))) (.stop (.cons (.ret (.bl false)) .nil)) .nil) (.stop (.cons (.ret (.call "are_steps" (.cons (.v 0) (.cons (.ix (.v 1) (.int 4)) (.cons (.call "around" (.cons (.v 2) (.cons (.bl false) .nil))) .nil))))) .nil))))))))))))))))))))⟩
def b_around : Fd := ⟨["within", "is_each"], ["within", "is_each", "many"], (.cons (.asg (.t (.v 2)) (.bin .add (.bi false .abs_ (.cons (.v 0) .nil)) (.int 1))) (.cons (.ite (.or_ (.cons (.v 1) (.cons (.cmp .lt (.v 0) (.int 0)) .nil))) (.cons (.ret (.un .neg (.v 2))) .nil) .nil) (.cons (.ret (.v 2)) .nil)))⟩
def b_are_steps : Fd := ⟨["house", "steps", "within"], ["house", "steps", "within", "step"], (.cons (.ite (.or_ (.cons (.not_ (.isi (.v 1) .tuple)) (.cons (.cmp .gt (.bi false .abs_ (.cons (.v 2) .nil)) (.g "MOST_WITHIN")) .nil))) (.cons (.ret (.bl false)) .nil) .nil) (.cons (.ret (.bi false .all_ (.cons (.lc false (.call "is_step" (.cons (.v 0) (.cons (.v 3) (.cons (.v 2) .nil)))) (.v 3) (.e (.v 1)) .none) .nil))) .nil))⟩
def b_count_steps : Fd := ⟨["steps"], ["steps", "many", "step"], (.stop (.cons (.asg (.t (.v 1)) (.int 0)) (.stop (.cons (.for_ (.v 2) (.e (.v 0)) (.stop (.cons (.asg (.t (.v 1)) (.bin .add (.v 1) (.int 1))) (.stop (.cons (.ite (.cmp .in_ (.ix (.v 2) (.int 0)) (.tup (.cons (.str "each") (.cons (.str "when") (.cons (.str "try") .nil))))) (.stop (.cons (.asg (.t (.v 1)) (.bin .add (.v 1) (.call "count_steps" (.cons (.ix (.v 2) (.un .neg (.int 1))) .nil)))) .nil)) .nil) .nil))))) (.stop (.cons (.ret (.v 1)) .nil))))))⟩
def b_is_program : Fd := ⟨["house", "program"], ["house", "program"], (.stop (.cons (.ite (.or_ (.cons (.not_ (.isi (.v 1) .tuple)) (.cons (.cmp .ne (.bi false .len (.cons (.v 1) .nil)) (.int 2)) (.cons (.not_ (.isi (.ix (.v 1) (.int 0)) .str)) .nil)))) (.stop (.cons (.ret (.bl false)) .nil)) .nil) (.stop (.cons (.ite (.or_ (.cons (.cmp .ne (.ix (.v 1) (.int 0)) (.str "program")) (.cons (.not_ (.call "are_steps" (.cons (.v 0) (.cons (.ix (.v 1) (.int 1)) (.cons (.int 0) .nil))))) .nil))) (.stop (.cons (.ret (.bl false)) .nil)) .nil) (.stop (.cons (.ret (.cmp .le (.call "count_steps" (.cons (.ix (.v 1) (.int 1)) .nil)) (.g "MOST_STEPS"))) .nil))))))⟩
def b_law_tape : Fd := ⟨["script"], ["script", "seed", "cell"], (.stop (.cons (.asg (.t (.v 1)) (.int 7)) (.stop (.cons (.for_ (.v 2) (.e (.v 0)) (.stop (.cons (.asg (.t (.v 1)) (.bin .mod (.bi false .int_ (.cons (.bin .add (.bin .mul (.v 1) (.int 31)) (.v 2)) .nil)) (.int 1000003))) .nil))) (.stop (.cons (.ret (.lst true (.cons (.lc true (.bi false .abs_ (.cons (.bi false .int_ (.cons (.v 2) .nil)) .nil)) (.v 2) (.e (.v 0)) .none) (.cons (.bin .add (.v 1) (.int 1)) .nil)))) .nil))))))⟩
def b_law_draw : Fd := ⟨["tape", "many"], ["tape", "many", "cells", "number"], (.stop (.cons (.asg (.t (.v 2)) (.ix (.v 0) (.int 0))) (.stop (.cons (.while_ (.and_ (.cons (.cmp .gt (.bi false .len (.cons (.v 2) .nil)) (.int 0)) (.cons (.cmp .eq (.ix (.v 2) (.int 0)) (.int 0)) .nil))) (.stop (.cons (.ex (.bm .pop1 (.v 2) (.cons (.int 0) .nil))) .nil))) (.stop (.cons (.ite (.cmp .gt (.bi false .len (.cons (.v 2) .nil)) (.int 0)) (.stop (.cons (.asg (.t (.v 3)) (.ix (.v 2) (.int 0))) (.stop (.cons (.asg (.ix (.v 2) (.int 0)) (.bin .fdiv (.v 3) (.v 1))) (.stop (.cons (.ret (.bin .mod (.bi false .int_ (.cons (.v 3) .nil)) (.v 1))) .nil)))))) .nil) (.stop (.cons (.asg (.ix (.v 0) (.int 1)) (.bin .mod (.bi false .int_ (.cons (.bin .add (.bin .mul (.ix (.v 0) (.int 1)) (.int 48271)) (.int 12345)) .nil)) (.int 2147483647))) (.stop (.cons (.ret (.bin .mod (.bi false .int_ (.cons (.bin .fdiv (.ix (.v 0) (.int 1)) (.int 64)) .nil)) (.v 1))) .nil))))))))))⟩
def b_law_pick : Fd := ⟨["tape", "row"], ["tape", "row"], (.cons (.ret (.ix (.v 1) (.call "_law_draw" (.cons (.v 0) (.cons (.bi false .len (.cons (.v 1) .nil)) .nil))))) .nil)⟩
def b_law_same : Fd := ⟨["told", "due"], ["told", "due", "k"], (.stop (.cons (.ite (.cmp .is_ (.v 1) .non) (.stop (.cons (.ret (.cmp .is_ (.v 0) .non)) .nil)) .nil) (.stop (.cons (.ite (.isi (.v 1) .bool) (.stop (.cons (.ret (.and_ (.cons (.isi (.v 0) .bool) (.cons (.cmp .eq (.v 0) (.v 1)) .nil)))) .nil)) .nil) (.stop (.cons (.ite (.isi (.v 1) .int) (.stop (.cons (.ret (.and_ (.cons (.isi (.v 0) .int) (.cons (.not_ (.isi (.v 0) .bool)) (.cons (.cmp .eq (.v 0) (.v 1)) .nil))))) .nil)) .nil) (.stop (.cons (.ite (.isi (.v 1) .str) (.stop (.cons (.ret (.and_ (.cons (.isi (.v 0) .str) (.cons (.cmp .eq (.v 0) (.v 1)) .nil)))) .nil)) .nil) (.stop (.cons (.ite (.or_ (.cons (.cmp .ne (.isi (.v 1) .tuple) (.isi (.v 0) .tuple)) (.cons (.cmp .ne (.isi (.v 1) .list) (.isi (.v 0) .list)) .nil))) (.stop (.cons (.ret (.bl false)) .nil)) .nil) (.stop (.cons (.ite (.or_ (.cons (.not_ (.isi2 (.v 0) .tuple .list)) (.cons (.cmp .ne (.bi false .len (.cons (.v 0) .nil)) (.bi false .len (.cons (.v 1) .nil))) .nil))) (.stop (.cons (.ret (.bl false)) .nil)) .nil) (.stop (.cons (.ret (.cmp .notin (.bl false) (.lc false (.call "_law_same" (.cons (.ix (.v 0) (.v 2)) (.cons (.ix (.v 1) (.v 2)) .nil))) (.v 2) (.range1 (.bi false .len (.cons (.v 1) .nil))) .none))) .nil))))))))))))))⟩
def b_law_item : Fd := ⟨["tape", "kind"], ["tape", "kind"], (.stop (.cons (.ite (.cmp .eq (.v 1) (.str "text")) (.stop (.cons (.ret (.call "_law_pick" (.cons (.v 0) (.cons (.lst false (.cons (.str "") (.cons (.str "a") (.cons (.str "b") (.cons (.str "ab") (.cons (.str "zz9") (.cons (.str "a0") .nil))))))) .nil)))) .nil)) .nil) (.stop (.cons (.ite (.cmp .eq (.call "_law_draw" (.cons (.v 0) (.cons (.int 12) .nil))) (.int 0)) (.stop (.cons (.ret (.call "_law_pick" (.cons (.v 0) (.cons (.lst false (.cons (.un .neg (.int 2147483648)) (.cons (.int 2147483647) (.cons (.un .neg (.int 1)) .nil)))) .nil)))) .nil)) .nil) (.stop (.cons (.ret (.call "_law_draw" (.cons (.v 0) (.cons (.int 5) .nil)))) .nil))))))⟩
def b_law_house : Fd := ⟨["tape", "great"], ["tape", "great", "wide", "tables", "t", "many", "columns", "key", "k"], (.stop (.cons (.asg (.t (.v 2)) (.and_ (.cons (.v 1) (.cons (.cmp .eq (.call "_law_draw" (.cons (.v 0) (.cons (.int 6) .nil))) (.int 0)) .nil)))) (.stop (.cons (.asg (.t (.v 3)) (.lst true .nil)) (.stop (.cons (.for_ (.v 4) (.range1 (.ife (.v 2) (.int 8) (.bin .add (.int 1) (.call "_law_draw" (.cons (.v 0) (.cons (.int 3) .nil)))))) (.stop (.cons (.asg (.t (.v 5)) (.ife (.v 2) (.int 8) (.bin .add (.int 1) (.call "_law_draw" (.cons (.v 0) (.cons (.int 3) .nil)))))) (.stop (.cons (.asg (.t (.v 6)) (.bi false .tuple_ (.cons (.lc false (.tup (.cons (.bin .add (.str "c") (.bi false .str_ (.cons (.v 8) .nil))) (.cons (.call "_law_pick" (.cons (.v 0) (.cons (.lst false (.cons (.str "number") (.cons (.str "number") (.cons (.str "text") .nil)))) .nil))) .nil))) (.v 8) (.range1 (.v 5)) .none) .nil))) (.stop (.cons (.asg (.t (.v 7)) (.lc false (.v 8) (.v 8) (.range1 (.v 5)) (.some (.cmp .eq (.call "_law_draw" (.cons (.v 0) (.cons (.int 3) .nil))) (.int 0))))) (.stop (.cons (.ite (.cmp .eq (.bi false .len (.cons (.v 7) .nil)) (.int 0)) (.stop (.cons (.asg (.t (.v 7)) (.lst false (.cons (.call "_law_draw" (.cons (.v 0) (.cons (.v 5) .nil))) .nil))) .nil)) .nil) (.stop (.cons (.ex (.bm .append (.v 3) (.cons (.tup (.cons (.bin .add (.str "t") (.bi false .str_ (.cons (.v 4) .nil))) (.cons (.v 6) (.cons (.bi false .tuple_ (.cons (.v 7) .nil)) .nil)))) .nil))) .nil))))))))))) (.stop (.cons (.ret (.tup (.cons (.str "house") (.cons (.str "h") (.cons (.bi false .tuple_ (.cons (.v 3) .nil)) (.cons (.tup .nil) (.cons (.tup .nil) .nil))))))) .nil))))))))⟩
def b_law_kinds : Fd := ⟨["house", "t"], ["house", "t", "column"], (.cons (.ret (.bi false .tuple_ (.cons (.lc false (.ix (.v 2) (.int 1)) (.v 2) (.e (.ix (.ix (.ix (.v 0) (.int 2)) (.v 1)) (.int 1))) .none) .nil))) .nil)⟩
def b_law_side : Fd := ⟨["tape", "kinds", "kind"], ["tape", "kinds", "kind", "places", "one", "k"], (.stop (.cons (.asg (.t (.v 3)) (.lc false (.v 5) (.v 5) (.range1 (.bi false .len (.cons (.v 1) .nil))) (.some (.cmp .eq (.ix (.v 1) (.v 5)) (.v 2))))) (.stop (.cons (.ite (.and_ (.cons (.cmp .gt (.bi false .len (.cons (.v 3) .nil)) (.int 0)) (.cons (.cmp .gt (.call "_law_draw" (.cons (.v 0) (.cons (.int 3) .nil))) (.int 0)) .nil))) (.stop (.cons (.asg (.t (.v 4)) (.tup (.cons (.str "column") (.cons (.call "_law_pick" (.cons (.v 0) (.cons (.v 3) .nil))) .nil)))) (.stop (.cons (.ite (.and_ (.cons (.cmp .eq (.v 2) (.str "number")) (.cons (.cmp .eq (.call "_law_draw" (.cons (.v 0) (.cons (.int 4) .nil))) (.int 0)) .nil))) (.stop (.cons (.ret (.tup (.cons (.str "op") (.cons (.call "_law_pick" (.cons (.v 0) (.cons (.lst false (.cons (.str "+") (.cons (.str "-") (.cons (.str "*") (.cons (.str "/") (.cons (.str "mod") .nil)))))) .nil))) (.cons (.v 4) (.cons (.tup (.cons (.str "number") (.cons (.call "_law_draw" (.cons (.v 0) (.cons (.int 4) .nil))) .nil))) .nil)))))) .nil)) .nil) (.stop (.cons (.ret (.v 4)) .nil)))))) .nil) (.stop (.cons (.ret (.ife (.cmp .eq (.v 2) (.str "text")) (.tup (.cons (.v 2) (.cons (.call "_law_item" (.cons (.v 0) (.cons (.v 2) .nil))) .nil))) (.tup (.cons (.str "number") (.cons (.call "_law_draw" (.cons (.v 0) (.cons (.int 5) .nil))) .nil))))) .nil))))))⟩
def b_law_condition : Fd := ⟨["tape", "kinds", "deep"], ["tape", "kinds", "deep", "kind", "which", "sign"], (.stop (.cons (.asg (.t (.v 3)) (.call "_law_draw" (.cons (.v 0) (.cons (.int 8) .nil)))) (.stop (.cons (.ite (.and_ (.cons (.cmp .gt (.v 2) (.int 0)) (.cons (.cmp .lt (.v 3) (.int 2)) .nil))) (.stop (.cons (.ret (.tup (.cons (.call "_law_pick" (.cons (.v 0) (.cons (.lst false (.cons (.str "and") (.cons (.str "or") .nil))) .nil))) (.cons (.call "_law_condition" (.cons (.v 0) (.cons (.v 1) (.cons (.bin .sub (.v 2) (.int 1)) .nil)))) (.cons (.call "_law_condition" (.cons (.v 0) (.cons (.v 1) (.cons (.bin .sub (.v 2) (.int 1)) .nil)))) .nil))))) .nil)) .nil) (.stop (.cons (.ite (.and_ (.cons (.cmp .gt (.v 2) (.int 0)) (.cons (.cmp .eq (.v 3) (.int 2)) .nil))) (.stop (.cons (.ret (.tup (.cons (.str "not") (.cons (.call "_law_condition" (.cons (.v 0) (.cons (.v 1) (.cons (.bin .sub (.v 2) (.int 1)) .nil)))) .nil)))) .nil)) .nil) (.stop (.cons (.ite (.and_ (.cons (.cmp .eq (.v 3) (.int 3)) (.cons (.cmp .eq (.call "_law_draw" (.cons (.v 0) (.cons (.int 3) .nil))) (.int 0)) .nil))) (.stop (.cons (.ret (.tup (.cons (.str "true") .nil))) .nil)) .nil) (.stop (.cons (.asg (.t (.v 4)) (.call "_law_pick" (.cons (.v 0) (.cons (.v 1) .nil)))) (.stop (.cons (.asg (.t (.v 5)) (.call "_law_pick" (.cons (.v 0) (.cons (.lst false (.cons (.str "=") (.cons (.str "!=") (.cons (.str "<") (.cons (.str "<=") (.cons (.str ">") (.cons (.str ">=") (.cons (.str "=") (.cons (.str "=") .nil))))))))) .nil)))) (.stop (.cons (.ret (.tup (.cons (.str "compare") (.cons (.v 5) (.cons (.call "_law_side" (.cons (.v 0) (.cons (.v 1) (.cons (.v 4) .nil)))) (.cons (.call "_law_side" (.cons (.v 0) (.cons (.v 1) (.cons (.v 4) .nil)))) .nil)))))) .nil))))))))))))))⟩
def b_law_asked : Fd := ⟨["tape", "house", "kinds"], ["tape", "house", "kinds", "t", "form"], (.stop (.cons (.asg (.t (.v 3)) (.call "_law_draw" (.cons (.v 0) (.cons (.bi false .len (.cons (.ix (.v 1) (.int 2)) .nil)) .nil)))) (.stop (.cons (.asg (.t (.v 4)) (.call "_law_draw" (.cons (.v 0) (.cons (.int 4) .nil)))) (.stop (.cons (.ite (.cmp .eq (.v 4) (.int 0)) (.stop (.cons (.ret (.tup (.cons (.str "table") (.cons (.v 3) .nil)))) .nil)) .nil) (.stop (.cons (.ite (.or_ (.cons (.cmp .lt (.v 4) (.int 3)) (.cons (.cmp .gt (.bi false .len (.cons (.ix (.ix (.ix (.v 1) (.int 2)) (.v 3)) (.int 1)) .nil)) (.int 6)) .nil))) (.stop (.cons (.ret (.tup (.cons (.str "keep") (.cons (.tup (.cons (.str "table") (.cons (.v 3) .nil))) (.cons (.call "_law_condition" (.cons (.v 0) (.cons (.call "_law_kinds" (.cons (.v 1) (.cons (.v 3) .nil))) (.cons (.int 1) .nil)))) .nil))))) .nil)) .nil) (.stop (.cons (.ret (.tup (.cons (.str "group") (.cons (.tup (.cons (.str "table") (.cons (.v 3) .nil))) (.cons (.tup (.cons (.call "_law_draw" (.cons (.v 0) (.cons (.bi false .len (.cons (.ix (.ix (.ix (.v 1) (.int 2)) (.v 3)) (.int 1)) .nil)) .nil))) .nil)) (.cons (.tup (.cons (.tup (.cons (.str "count") .nil)) .nil)) .nil)))))) .nil))))))))))⟩
def b_law_answer_kinds : Fd := ⟨["house", "q"], ["house", "q"], (.cons (.ite (.cmp .eq (.ix (.v 1) (.int 0)) (.str "group")) (.cons (.ret (.tup (.cons (.ix (.call "_law_kinds" (.cons (.v 0) (.cons (.ix (.ix (.v 1) (.int 1)) (.int 1)) .nil))) (.ix (.ix (.v 1) (.int 2)) (.int 0))) (.cons (.str "number") .nil)))) .nil) .nil) (.cons (.ret (.call "_law_kinds" (.cons (.v 0) (.cons (.ife (.cmp .eq (.ix (.v 1) (.int 0)) (.str "table")) (.ix (.v 1) (.int 1)) (.ix (.ix (.v 1) (.int 1)) (.int 1))) .nil)))) .nil))⟩
def b_law_es : Fd := ⟨["tape", "kinds", "due"], ["tape", "kinds", "due", "found", "kind"], (.stop (.cons (.asg (.t (.v 3)) (.lst true .nil)) (.stop (.cons (.for_ (.v 4) (.e (.v 2)) (.stop (.cons (.ite (.cmp .eq (.call "_law_draw" (.cons (.v 0) (.cons (.int 40) .nil))) (.int 0)) (.stop (.cons (.asg (.t (.v 4)) (.ife (.cmp .eq (.v 4) (.str "number")) (.str "text") (.str "number"))) .nil)) .nil) (.stop (.cons (.ex (.bm .append (.v 3) (.cons (.call "_law_side" (.cons (.v 0) (.cons (.v 1) (.cons (.v 4) .nil)))) .nil))) .nil))))) (.stop (.cons (.ret (.bi false .tuple_ (.cons (.v 3) .nil))) .nil))))))⟩
def b_law_program_steps : Fd := ⟨["tape", "house", "answers", "kinds", "within"], ["tape", "house", "answers", "kinds", "within", "found", "k", "kind", "q", "n", "low", "steps", "t", "all_kinds", "row", "one"], (.stop (.cons (.asg (.t (.v 5)) (.lst true .nil)) (.stop (.cons (.for_ (.v 6) (.range1 (.bin .add (.int 1) (.call "_law_draw" (.cons (.v 0) (.cons (.int 3) .nil))))) (.stop (.cons (.asg (.t (.v 7)) (.call "_law_draw" (.cons (.v 0) (.cons (.int 10) .nil)))) (.stop (.cons (.ite (.and_ (.cons (.cmp .lt (.v 7) (.int 3)) (.cons (.cmp .is_ (.v 3) .non) .nil))) (.stop (.cons (.asg (.t (.v 8)) (.call "_law_asked" (.cons (.v 0) (.cons (.v 1) (.cons (.tup .nil) .nil))))) (.stop (.cons (.asg (.t (.v 9)) (.call "_law_draw" (.cons (.v 0) (.cons (.int 3) .nil)))) (.stop (.cons (.asg (.ix (.v 2) (.v 9)) (.call "_law_answer_kinds" (.cons (.v 1) (.cons (.v 8) .nil)))) (.stop (.cons (.ex (.bm .append (.v 5) (.cons (.tup (.cons (.str "ask") (.cons (.v 9) (.cons (.v 8) .nil)))) .nil))) .nil)))))))) (.stop (.cons (.ite (.and_ (.cons (.cmp .lt (.v 7) (.int 5)) (.cons (.cmp .lt (.v 4) (.int 3)) .nil))) (.stop (.cons (.asg (.t (.v 10)) (.call "_law_draw" (.cons (.v 0) (.cons (.int 3) .nil)))) (.stop (.cons (.asg (.t (.v 11)) (.call "_law_program_steps" (.cons (.v 0) (.cons (.v 1) (.cons (.v 2) (.cons (.v 3) (.cons (.bin .add (.v 4) (.int 1)) .nil))))))) (.stop (.cons (.ex (.bm .append (.v 5) (.cons (.tup (.cons (.str "when") (.cons (.call "_law_draw" (.cons (.v 0) (.cons (.int 3) .nil))) (.cons (.v 10) (.cons (.bin .add (.v 10) (.call "_law_draw" (.cons (.v 0) (.cons (.int 6) .nil)))) (.cons (.v 11) .nil)))))) .nil))) .nil)))))) (.stop (.cons (.ite (.and_ (.cons (.cmp .eq (.v 7) (.int 5)) (.cons (.cmp .lt (.v 4) (.int 3)) (.cons (.cmp .gt (.bi false .len (.cons (.v 2) .nil)) (.int 0)) .nil)))) (.stop (.cons (.asg (.t (.v 9)) (.call "_law_pick" (.cons (.v 0) (.cons (.bi false .sorted_ (.cons (.lc false (.v 15) (.v 15) (.keys (.v 2)) .none) .nil)) .nil)))) (.stop (.cons (.ex (.bm .append (.v 5) (.cons (.tup (.cons (.str "each") (.cons (.v 9) (.cons (.call "_law_program_steps" (.cons (.v 0) (.cons (.v 1) (.cons (.bi false .dict1 (.cons (.v 2) .nil)) (.cons (.ix (.v 2) (.v 9)) (.cons (.bin .add (.v 4) (.int 1)) .nil)))))) .nil)))) .nil))) .nil)))) (.stop (.cons (.ite (.and_ (.cons (.cmp .eq (.v 7) (.int 6)) (.cons (.cmp .eq (.call "_law_draw" (.cons (.v 0) (.cons (.int 6) .nil))) (.int 0)) .nil))) (.stop (.cons (.ex (.bm .append (.v 5) (.cons (.tup (.cons (.str "quit") .nil)) .nil))) .nil)) (.stop (.cons (.ite (.and_ (.cons (.cmp .eq (.v 7) (.int 9)) (.cons (.cmp .lt (.v 4) (.int 3)) (.cons (.cmp .eq (.call "_law_draw" (.cons (.v 0) (.cons (.int 2) .nil))) (.int 0)) .nil)))) (.stop (.cons (.asg (.t (.v 11)) (.call "_law_program_steps" (.cons (.v 0) (.cons (.v 1) (.cons (.v 2) (.cons (.v 3) (.cons (.bin .add (.v 4) (.int 1)) .nil))))))) (.stop (.cons (.ex (.bm .append (.v 5) (.cons (.tup (.cons (.str "try") (.cons (.bin .add (.v 11) (.bin .mul (.tup (.cons (.tup (.cons (.str "quit") .nil)) .nil)) (.cmp .eq (.call "_law_draw" (.cons (.v 0) (.cons (.int 3) .nil))) (.int 0)))) .nil))) .nil))) .nil)))) (.stop (.cons (.asg (.t (.v 12)) (.call "_law_draw" (.cons (.v 0) (.cons (.bi false .len (.cons (.ix (.v 1) (.int 2)) .nil)) .nil)))) (.stop (.cons (.asg (.t (.v 13)) (.call "_law_kinds" (.cons (.v 1) (.cons (.v 12) .nil)))) (.stop (.cons (.asg (.t (.v 14)) (.ife (.cmp .is_ (.v 3) .non) (.tup .nil) (.v 3))) (.stop (.cons (.ite (.cmp .eq (.v 7) (.int 7)) (.stop (.cons (.ex (.bm .append (.v 5) (.cons (.tup (.cons (.str "take") (.cons (.v 12) (.cons (.call "_law_es" (.cons (.v 0) (.cons (.v 14) (.cons (.bi false .tuple_ (.cons (.lc false (.ix (.v 13) (.v 6)) (.v 6) (.e (.ix (.ix (.ix (.v 1) (.int 2)) (.v 12)) (.int 2))) .none) .nil)) .nil)))) .nil)))) .nil))) .nil)) (.stop (.cons (.ex (.bm .append (.v 5) (.cons (.tup (.cons (.str "put") (.cons (.v 12) (.cons (.call "_law_es" (.cons (.v 0) (.cons (.v 14) (.cons (.v 13) .nil)))) .nil)))) .nil))) .nil))) .nil))))))))) .nil))) .nil))) .nil))) .nil))) .nil))))) (.stop (.cons (.ret (.bi false .tuple_ (.cons (.v 5) .nil))) .nil))))))⟩
def b_law_program : Fd := ⟨["tape", "house"], ["tape", "house", "answers", "q", "steps"], (.stop (.cons (.asg (.t (.v 2)) (.dct false)) (.stop (.cons (.asg (.t (.v 3)) (.call "_law_asked" (.cons (.v 0) (.cons (.v 1) (.cons (.tup .nil) .nil))))) (.stop (.cons (.asg (.ix (.v 2) (.int 0)) (.call "_law_answer_kinds" (.cons (.v 1) (.cons (.v 3) .nil)))) (.stop (.cons (.asg (.t (.v 4)) (.call "_law_program_steps" (.cons (.v 0) (.cons (.v 1) (.cons (.v 2) (.cons .non (.cons (.int 0) .nil))))))) (.stop (.cons (.ite (.cmp .gt (.call "_law_draw" (.cons (.v 0) (.cons (.int 4) .nil))) (.int 0)) (.stop (.cons (.asg (.t (.v 4)) (.bin .add (.tup (.cons (.tup (.cons (.str "ask") (.cons (.int 0) (.cons (.v 3) .nil)))) .nil)) (.v 4))) .nil)) .nil) (.stop (.cons (.ret (.tup (.cons (.str "program") (.cons (.v 4) .nil)))) .nil))))))))))))⟩
def b_law_count : Fd := ⟨["steps"], ["steps", "many", "step"], (.stop (.cons (.asg (.t (.v 1)) (.bi false .len (.cons (.v 0) .nil))) (.stop (.cons (.for_ (.v 2) (.e (.v 0)) (.stop (.cons (.ite (.cmp .in_ (.ix (.v 2) (.int 0)) (.tup (.cons (.str "when") (.cons (.str "each") (.cons (.str "try") .nil))))) (.stop (.cons (.asg (.t (.v 1)) (.bin .add (.v 1) (.call "_law_count" (.cons (.ix (.v 2) (.bin .sub (.bi false .len (.cons (.v 2) .nil)) (.int 1))) .nil)))) .nil)) .nil) .nil))) (.stop (.cons (.ret (.v 1)) .nil))))))⟩
def b_law_deep : Fd := ⟨["tape", "many", "word"], ["tape", "many", "word", "step", "k"], (.stop (.cons (.asg (.t (.v 3)) (.tup (.cons (.str "quit") .nil))) (.stop (.cons (.for_ (.v 4) (.range1 (.v 1)) (.stop (.cons (.ite (.cmp .eq (.v 2) (.str "try")) (.stop (.cons (.asg (.t (.v 3)) (.tup (.cons (.str "try") (.cons (.tup (.cons (.v 3) .nil)) .nil)))) .nil)) (.stop (.cons (.asg (.t (.v 3)) (.ife (.cmp .eq (.v 2) (.str "each")) (.tup (.cons (.str "each") (.cons (.int 0) (.cons (.tup (.cons (.v 3) .nil)) .nil)))) (.tup (.cons (.str "when") (.cons (.call "_law_draw" (.cons (.v 0) (.cons (.int 8) .nil))) (.cons (.int 0) (.cons (.int 400) (.cons (.tup (.cons (.v 3) .nil)) .nil)))))))) .nil))) .nil))) (.stop (.cons (.ret (.v 3)) .nil))))))⟩
def b_law_bad : Fd := ⟨["tape", "house"], ["tape", "house", "t", "wrong"], (.stop (.cons (.asg (.t (.v 2)) (.call "_law_draw" (.cons (.v 0) (.cons (.bi false .len (.cons (.ix (.v 1) (.int 2)) .nil)) .nil)))) (.stop (.cons (.asg (.t (.v 3)) (.lst false (.cons (.tup (.cons (.str "quit") (.cons (.int 0) .nil))) (.cons (.tup (.cons (.str "quits") .nil)) (.cons (.tup .nil) (.cons .non (.cons (.lst false (.cons (.str "quit") .nil)) (.cons (.tup (.cons (.str "ask") (.cons (.int 8) (.cons (.tup (.cons (.str "table") (.cons (.v 2) .nil))) .nil)))) (.cons (.tup (.cons (.str "ask") (.cons (.un .neg (.int 1)) (.cons (.tup (.cons (.str "table") (.cons (.v 2) .nil))) .nil)))) (.cons (.tup (.cons (.str "ask") (.cons (.bl true) (.cons (.tup (.cons (.str "table") (.cons (.v 2) .nil))) .nil)))) .nil)))))))))) (.stop (.cons (.asg (.t (.v 3)) (.bin .add (.v 3) (.lst false (.cons (.tup (.cons (.str "ask") (.cons (.int 0) (.cons (.tup (.cons (.str "table") (.cons (.bi false .len (.cons (.ix (.v 1) (.int 2)) .nil)) .nil))) .nil)))) (.cons (.tup (.cons (.str "ask") (.cons (.int 0) (.cons (.tup (.cons (.str "view") (.cons (.int 0) .nil))) .nil)))) (.cons (.tup (.cons (.str "ask") (.cons (.int 0) .nil))) (.cons (.tup (.cons (.str "each") (.cons (.int 8) (.cons (.tup .nil) .nil)))) (.cons (.tup (.cons (.str "each") (.cons (.int 0) (.cons (.lst false .nil) .nil)))) .nil)))))))) (.stop (.cons (.asg (.t (.v 3)) (.bin .add (.v 3) (.lst false (.cons (.tup (.cons (.str "each") (.cons (.int 0) (.cons (.tup (.cons (.tup (.cons (.str "ask") (.cons (.int 0) (.cons (.tup (.cons (.str "table") (.cons (.v 2) .nil))) .nil)))) .nil)) .nil)))) (.cons (.tup (.cons (.str "each") (.cons (.int 0) (.cons (.tup (.cons (.tup (.cons (.str "when") (.cons (.int 0) (.cons (.int 0) (.cons (.int 9) (.cons (.tup (.cons (.tup (.cons (.str "ask") (.cons (.int 0) (.cons (.tup (.cons (.str "table") (.cons (.v 2) .nil))) .nil)))) .nil)) .nil)))))) .nil)) .nil)))) .nil))))) (.stop (.cons (.asg (.t (.v 3)) (.bin .add (.v 3) (.lst false (.cons (.tup (.cons (.str "try") .nil)) (.cons (.tup (.cons (.str "try") (.cons (.lst false (.cons .non .nil)) .nil))) (.cons (.tup (.cons (.str "try") (.cons (.tup .nil) (.cons (.int 0) .nil)))) (.cons (.tup (.cons (.str "each") (.cons (.int 0) (.cons (.tup (.cons (.tup (.cons (.str "try") (.cons (.tup (.cons (.tup (.cons (.str "ask") (.cons (.int 0) (.cons (.tup (.cons (.str "table") (.cons (.v 2) .nil))) .nil)))) .nil)) .nil))) .nil)) .nil)))) .nil))))))) (.stop (.cons (.asg (.t (.v 3)) (.bin .add (.v 3) (.lst false (.cons (.tup (.cons (.str "when") (.cons (.int 0) (.cons (.un .neg (.int 1)) (.cons (.int 3) (.cons (.tup .nil) .nil)))))) (.cons (.tup (.cons (.str "when") (.cons (.int 0) (.cons (.int 0) (.cons (.int 401) (.cons (.tup .nil) .nil)))))) (.cons (.tup (.cons (.str "when") (.cons (.int 0) (.cons (.int 0) (.cons (.int 3) (.cons (.tup (.cons .non .nil)) .nil)))))) (.cons (.tup (.cons (.str "when") (.cons (.int 0) (.cons (.int 0) (.cons (.tup .nil) .nil))))) (.cons (.tup (.cons (.str "when") (.cons (.int 9) (.cons (.int 0) (.cons (.int 3) (.cons (.tup .nil) .nil)))))) .nil)))))))) (.stop (.cons (.asg (.t (.v 3)) (.bin .add (.v 3) (.lst false (.cons (.tup (.cons (.str "put") (.cons (.bi false .len (.cons (.ix (.v 1) (.int 2)) .nil)) (.cons (.tup .nil) .nil)))) (.cons (.tup (.cons (.str "put") (.cons (.un .neg (.int 1)) (.cons (.tup .nil) .nil)))) (.cons (.tup (.cons (.str "put") (.cons (.v 2) (.cons (.lst false (.cons (.tup (.cons (.str "number") (.cons (.int 1) .nil))) .nil)) .nil)))) (.cons (.tup (.cons (.str "take") (.cons (.v 2) .nil))) (.cons (.tup (.cons (.str "take") (.cons .non (.cons (.tup .nil) .nil)))) (.cons (.int 7) .nil))))))))) (.stop (.cons (.ret (.call "_law_pick" (.cons (.v 0) (.cons (.bin .add (.v 3) (.lst false (.cons (.tup (.cons (.str "when") (.cons (.int 0) (.cons (.bl false) (.cons (.int 3) (.cons (.tup .nil) .nil)))))) (.cons (.tup (.cons (.str "put") (.cons (.bl false) (.cons (.tup .nil) .nil)))) (.cons (.tup (.cons (.lst false (.cons (.str "quit") .nil)) .nil)) (.cons (.tup (.cons (.str "look") (.cons (.v 2) (.cons .non .nil)))) .nil)))))) .nil)))) .nil))))))))))))))))⟩
def b_law_into : Fd := ⟨["tape", "steps", "bad"], ["tape", "steps", "bad", "k", "one"], (.stop (.cons (.asg (.t (.v 3)) (.call "_law_draw" (.cons (.v 0) (.cons (.bin .add (.bi false .len (.cons (.v 1) .nil)) (.int 1)) .nil)))) (.stop (.cons (.ite (.and_ (.cons (.cmp .lt (.v 3) (.bi false .len (.cons (.v 1) .nil))) (.cons (.cmp .in_ (.ix (.ix (.v 1) (.v 3)) (.int 0)) (.tup (.cons (.str "when") (.cons (.str "each") (.cons (.str "try") .nil))))) (.cons (.cmp .eq (.call "_law_draw" (.cons (.v 0) (.cons (.int 2) .nil))) (.int 0)) .nil)))) (.stop (.cons (.asg (.t (.v 4)) (.ix (.v 1) (.v 3))) (.stop (.cons (.ret (.bin .add (.bin .add (.sl false (.v 1) .none (.some (.v 3))) (.tup (.cons (.bin .add (.sl false (.v 4) .none (.some (.bin .sub (.bi false .len (.cons (.v 4) .nil)) (.int 1)))) (.tup (.cons (.call "_law_into" (.cons (.v 0) (.cons (.ix (.v 4) (.bin .sub (.bi false .len (.cons (.v 4) .nil)) (.int 1))) (.cons (.v 2) .nil)))) .nil))) .nil))) (.sl false (.v 1) (.some (.bin .add (.v 3) (.int 1))) .none))) .nil)))) .nil) (.stop (.cons (.ret (.bin .add (.bin .add (.sl false (.v 1) .none (.some (.v 3))) (.tup (.cons (.v 2) .nil))) (.sl false (.v 1) (.some (.v 3)) .none))) .nil))))))⟩
def b_law : Fd := ⟨["script"], ["script", "tape", "turn", "house", "program", "many", "word", "deep", "odd", "full", "wrong"], (.stop (.cons (.asg (.t (.v 1)) (.call "_law_tape" (.cons (.v 0) .nil))) (.stop (.cons (.ite (.not_ (.call "_law_same" (.cons (.tup (.cons (.g "MOST_ANSWERS") (.cons (.g "MOST_ANSWER_ROWS") (.cons (.g "MOST_STEPS") (.cons (.g "MOST_WITHIN") .nil))))) (.cons (.tup (.cons (.int 8) (.cons (.int 400) (.cons (.int 40) (.cons (.int 4) .nil))))) .nil)))) (.stop (.cons (.ret (.bl false)) .nil)) .nil) (.stop (.cons (.for_ (.v 2) (.range1 (.int 4)) (.stop (.cons (.asg (.t (.v 3)) (.call "_law_house" (.cons (.v 1) (.cons (.bl true) .nil)))) (.stop (.cons (.asg (.t (.v 4)) (.call "_law_program" (.cons (.v 1) (.cons (.v 3) .nil)))) (.stop (.cons (.ite (.not_ (.call "_law_same" (.cons (.call "is_program" (.cons (.v 3) (.cons (.v 4) .nil))) (.cons (.cmp .le (.call "_law_count" (.cons (.ix (.v 4) (.int 1)) .nil)) (.int 40)) .nil)))) (.stop (.cons (.ret (.bl false)) .nil)) .nil) (.stop (.cons (.asg (.t (.v 5)) (.call "_law_count" (.cons (.ix (.v 4) (.int 1)) .nil))) (.stop (.cons (.ite (.cmp .le (.v 5) (.int 40)) (.stop (.cons (.asg (.t (.v 9)) (.tup (.cons (.str "program") (.cons (.bin .add (.ix (.v 4) (.int 1)) (.bin .mul (.tup (.cons (.tup (.cons (.str "quit") .nil)) .nil)) (.bin .sub (.int 40) (.v 5)))) .nil)))) (.stop (.cons (.ite (.not_ (.call "_law_same" (.cons (.call "is_program" (.cons (.v 3) (.cons (.v 9) .nil))) (.cons (.bl true) .nil)))) (.stop (.cons (.ret (.bl false)) .nil)) .nil) (.stop (.cons (.ite (.not_ (.call "_law_same" (.cons (.call "is_program" (.cons (.v 3) (.cons (.tup (.cons (.str "program") (.cons (.bin .add (.ix (.v 9) (.int 1)) (.tup (.cons (.tup (.cons (.str "quit") .nil)) .nil))) .nil))) .nil))) (.cons (.bl false) .nil)))) (.stop (.cons (.ret (.bl false)) .nil)) .nil) (.stop (.cons (.ite (.cmp .lt (.v 5) (.int 40)) (.stop (.cons (.asg (.t (.v 10)) (.tup (.cons (.str "program") (.cons (.call "_law_into" (.cons (.v 1) (.cons (.ix (.v 4) (.int 1)) (.cons (.call "_law_bad" (.cons (.v 1) (.cons (.v 3) .nil))) .nil)))) .nil)))) (.stop (.cons (.ite (.not_ (.call "_law_same" (.cons (.call "is_program" (.cons (.v 3) (.cons (.v 10) .nil))) (.cons (.bl false) .nil)))) (.stop (.cons (.ret (.bl false)) .nil)) .nil) .nil)))) .nil) .nil)))))))) .nil) (.stop (.cons (.asg (.t (.v 6)) (.call "_law_pick" (.cons (.v 1) (.cons (.lst false (.cons (.str "each") (.cons (.str "when") (.cons (.str "try") .nil)))) .nil)))) (.stop (.cons (.for_ (.v 7) (.e (.tup (.cons (.int 3) (.cons (.int 4) (.cons (.int 5) .nil))))) (.stop (.cons (.ite (.not_ (.call "_law_same" (.cons (.call "is_program" (.cons (.v 3) (.cons (.tup (.cons (.str "program") (.cons (.tup (.cons (.call "_law_deep" (.cons (.v 1) (.cons (.v 7) (.cons (.v 6) .nil)))) .nil)) .nil))) .nil))) (.cons (.cmp .le (.v 7) (.int 4)) .nil)))) (.stop (.cons (.ret (.bl false)) .nil)) .nil) .nil))) (.stop (.cons (.asg (.t (.v 8)) (.call "_law_pick" (.cons (.v 1) (.cons (.lst false (.cons (.tup (.cons (.str "programs") (.cons (.tup .nil) .nil))) (.cons (.tup (.cons (.str "program") .nil)) (.cons (.lst false (.cons (.str "program") (.cons (.tup .nil) .nil))) (.cons (.tup (.cons (.str "program") (.cons (.lst false .nil) .nil))) (.cons .non (.cons (.tup (.cons (.str "program") (.cons (.tup .nil) (.cons (.int 0) .nil)))) (.cons (.int 3) .nil)))))))) .nil)))) (.stop (.cons (.ite (.or_ (.cons (.not_ (.call "_law_same" (.cons (.call "is_program" (.cons (.v 3) (.cons (.v 8) .nil))) (.cons (.bl false) .nil)))) (.cons (.not_ (.call "_law_same" (.cons (.call "is_program" (.cons (.v 3) (.cons (.tup (.cons (.str "program") (.cons (.tup .nil) .nil))) .nil))) (.cons (.bl true) .nil)))) .nil))) (.stop (.cons (.ret (.bl false)) .nil)) .nil) .nil))))))))))))))))))) (.stop (.cons (.ret (.bl true)) .nil))))))))⟩
open PySem PySem.Spec PyProof.Rows L2
/-! ### places that are known -/
def Has (st : Sto) (l : List (Nat × Cell)) : Prop := (∀ x ∈ l, st[x.1]? = some x.2) ∧ (l.map (·.1)).Nodup
theorem Has.get {st : Sto} {l : List (Nat × Cell)} {n : Nat} {c : Cell} (h : Has st l) (m : (n, c) ∈ l) : st[n]? = some c := h.1 _ m
theorem Has.lt {st : Sto} {l : List (Nat × Cell)} {x : Nat × Cell} (h : Has st l) (m : x ∈ l) : x.1 < st.length := (List.getElem?_eq_some_iff.mp (h.1 _ m)).1
theorem Has.set {st : Sto} {l1 l2 : List (Nat × Cell)} {n : Nat} {c c' : Cell} (h : Has st (l1 ++ (n, c) :: l2)) : Has (st.set n c') (l1 ++ (n, c') :: l2) := by
  have hn : n < st.length := h.lt (x := (n, c)) (by simp)
  refine ⟨fun x m => ?_, by have := h.2; simpa using this⟩
  have nd := h.2
  rw [List.map_append, List.map_cons, List.nodup_append] at nd
  obtain ⟨_, n2, n3⟩ := nd
  rw [List.nodup_cons] at n2
  rcases List.mem_append.mp m with m | m
  · have ne : n ≠ x.1 := fun e => n3 x.1 (List.mem_map.mpr ⟨x, m, rfl⟩) n List.mem_cons_self e.symm
    rw [List.getElem?_set_ne ne]
    exact h.1 x (by simp [m])
  · rcases List.mem_cons.mp m with rfl | m
    · exact set_get hn
    · have ne : n ≠ x.1 := fun e => n2.1 (by rw [e]; exact List.mem_map.mpr ⟨x, m, rfl⟩)
      rw [List.getElem?_set_ne ne]
      exact h.1 x (by simp [m])
theorem Has.push {st g : Sto} {l : List (Nat × Cell)} (h : Has st l) : Has (st ++ g) l := ⟨fun x m => get_app (h.1 x m), h.2⟩
theorem Has.perm {st : Sto} {l l' : List (Nat × Cell)} (h : Has st l) (p : l'.Perm l) : Has st l' := ⟨fun x m => h.1 x (p.mem_iff.mp m), (p.map (·.1)).nodup_iff.mpr h.2⟩
theorem Has.add {st : Sto} {l : List (Nat × Cell)} {c : Cell} (h : Has st l) : Has (st ++ [c]) ((st.length, c) :: l) := by
  refine ⟨fun x m => ?_, ?_⟩
  · rcases List.mem_cons.mp m with rfl | m
    · exact List.getElem?_concat_length
    · exact get_app (h.1 x m)
  · rw [List.map_cons, List.nodup_cons]
    refine ⟨fun m => ?_, h.2⟩
    obtain ⟨x, m, e⟩ := List.mem_map.mp m
    have := h.lt m
    omega
/-- another place, new, for one -/
theorem Has.move {st : Sto} {l1 l2 : List (Nat × Cell)} {b x : Nat} {c c' : Cell} {g : Sto} (h : Has st (l1 ++ (b, c) :: l2)) (hx : st.length ≤ x) (e : (st ++ g)[x]? = some c') : Has (st ++ g) (l1 ++ (x, c') :: l2) := by
  refine ⟨fun y m => ?_, ?_⟩
  · rcases List.mem_append.mp m with m | m
    · exact get_app (h.1 y (by simp [m]))
    · rcases List.mem_cons.mp m with rfl | m
      · exact e
      · exact get_app (h.1 y (by simp [m]))
  · have nd := h.2
    rw [List.map_append, List.map_cons, List.nodup_append, List.nodup_cons] at nd ⊢
    obtain ⟨n1, ⟨n2, n3⟩, n4⟩ := nd
    refine ⟨n1, ⟨fun m => ?_, n3⟩, fun a ma b mb => ?_⟩
    · obtain ⟨y, m, e⟩ := List.mem_map.mp m
      have := h.lt (x := y) (by simp [m])
      omega
    · rcases List.mem_cons.mp mb with rfl | mb
      · obtain ⟨y, m, e⟩ := List.mem_map.mp ma
        have := h.lt (x := y) (by simp [m])
        omega
      · exact n4 a ma b (List.mem_cons_of_mem _ mb)
theorem Has.ne {st : Sto} {l1 l2 : List (Nat × Cell)} {a b : Nat} {c d : Cell} (h : Has st (l1 ++ (a, c) :: l2)) (m : (b, d) ∈ l2) : a ≠ b := fun e => by
  have nd := h.2
  rw [List.map_append, List.map_cons, List.nodup_append, List.nodup_cons] at nd
  exact nd.2.1.1 (by rw [e]; exact List.mem_map.mpr ⟨(b, d), m, rfl⟩)
theorem has_sub {st : Sto} {l l' : List (Nat × Cell)} (h : Has st l) (s : l'.Sublist l) : Has st l' := ⟨fun x m => h.1 x (s.mem m), h.2.sublist (s.map _)⟩
theorem has_tl {st : Sto} {p : Nat × Cell} {R : List (Nat × Cell)} (h : Has st (p :: R)) : Has st R := has_sub h (List.sublist_cons_self ..)
end DL
namespace K
open PySem PySem.Spec PyProof.Rows L2 DL
abbrev Pl := List (Nat × Cell)
def LET : String := "abcdefghijklmnopqrstuvwxyz"
def DIG : String := "0123456789"
def RECK : List String := ["+", "-", "*", "/", "mod"]
def COMP : List String := ["=", "!=", "<", "<=", ">", ">="]
inductive Ex where
  | col (j : Nat) | num (i : Int) | txt (s : String) | op (z : String) (a b : Ex)
def Ex.d : Ex → D
  | .col j => .tup [.str "column", .int j]
  | .num i => .tup [.str "number", .int i]
  | .txt s => .tup [.str "text", .str s]
  | .op z a b => .tup [.str "op", .str z, a.d, b.d]
def Ex.dep : Ex → Nat
  | .op _ a b => max a.dep b.dep + 1
  | _ => 1
inductive Cn where
  | cmp (z : String) (a b : Ex) | con (k : Bool) (a b : Cn) | neg (a : Cn) | tru
def conN (k : Bool) : String := match k with
  | true => "and"
  | false => "or"
def Cn.d : Cn → D
  | .cmp z a b => .tup [.str "compare", .str z, a.d, b.d]
  | .con k a b => .tup [.str (conN k), a.d, b.d]
  | .neg a => .tup [.str "not", a.d]
  | .tru => .tup [.str "true"]
def Cn.dep : Cn → Nat
  | .cmp _ a b => max a.dep b.dep + 1
  | .con _ a b => max a.dep b.dep + 1
  | .neg a => a.dep + 1
  | .tru => 1
def okText (s : String) : Bool := decide (s.length ≤ 12) && s.toList.all fun c => decide (c ∈ LET.toList) || decide (c ∈ DIG.toList)
/-- the kind of an expression -/
def wt (ks : List String) : Ex → String → Prop
  | .col j, k => ks[j]? = some k
  | .num i, k => k = "number" ∧ 0 ≤ i ∧ i ≤ 2147483647
  | .txt s, k => k = "text" ∧ okText s = true
  | .op z a b, k => k = "number" ∧ z ∈ RECK ∧ wt ks a "number" ∧ wt ks b "number"
def wtC (ks : List String) : Cn → Prop
  | .cmp z a b => z ∈ COMP ∧ ∃ k, wt ks a k ∧ wt ks b k
  | .con _ a b => wtC ks a ∧ wtC ks b
  | .neg a => wtC ks a
  | .tru => True
def ksOk (ks : List String) : Prop := ks.length ≤ 100 ∧ ∀ k ∈ ks, k = "number" ∨ k = "text"
/-! ### what is one, of any value -/
def isInt (lo hi : Int) : D → Bool
  | .int i => decide (lo ≤ i) && decide (i ≤ hi)
  | _ => false
def isTxt : D → Bool
  | .str s => okText s
  | _ => false
def kindF (ks : List String) : Nat → D → Option String
  | 0, _ => none
  | n + 1, .tup [.str h, x] =>
    if h = "column" then (match x with
      | .int i => if 0 ≤ i ∧ i < ks.length then ks[i.toNat]? else none
      | _ => none)
    else if h = "number" then (if isInt (-2147483648) 2147483647 x = true then some "number" else none)
    else if h = "text" then (if isTxt x = true then some "text" else none) else none
  | n + 1, .tup [.str h, .str z, a, b] => if h = "op" ∧ z ∈ RECK ∧ kindF ks n a = some "number" ∧ kindF ks n b = some "number" then some "number" else none
  | _ + 1, _ => none
def kD : Option String → D
  | some k => .str k
  | none => .non
def condF (ks : List String) : Nat → D → Bool
  | 0, _ => false
  | _ + 1, .tup [.str h] => decide (h = "true")
  | n + 1, .tup [.str h, a] => decide (h = "not") && condF ks n a
  | n + 1, .tup [.str h, a, b] => (decide (h = "and") || decide (h = "or")) && (condF ks n a && condF ks n b)
  | n + 1, .tup [.str h, .str z, a, b] => decide (h = "compare") && (decide (z ∈ COMP) && (match kindF ks n a with
    | some k => decide (kindF ks n b = some k)
    | none => false))
  | _ + 1, _ => false
/-! ### small data -/
mutual
def smB (n : Nat) : D → Bool
  | .non | .bl _ | .int _ => true
  | .str s => decide (s.length ≤ 100)
  | .tup xs => decide (xs.length ≤ n) && smBs n xs
  | .lst xs => decide (xs.length ≤ n) && smBs n xs
  | _ => false
def smBs (n : Nat) : List D → Bool
  | [] => true
  | x :: xs => smB n x && smBs n xs
end

def itOk (k : String) (d : D) : Prop := (k = "number" ∧ ∃ i : Int, d = .int i ∧ -2147483648 ≤ i ∧ i ≤ 2147483647) ∨ (k = "text" ∧ ∃ s : String, d = .str s ∧ okText s = true)
inductive Nd where
  | e (x : Ex) | c (x : Cn)
def Nd.d : Nd → D
  | .e x => x.d
  | .c x => x.d
def Nd.dep : Nd → Nat
  | .e x => x.dep
  | .c x => x.dep
def Nd.subs : Nd → List Nd
  | .e (.op _ a b) => [.e a, .e b]
  | .e _ => []
  | .c (.cmp _ a b) => [.e a, .e b]
  | .c (.con _ a b) => [.c a, .c b]
  | .c (.neg a) => [.c a]
  | .c .tru => []
def ksD (ks : List String) : D := .tup (ks.map D.str)
/-! ### the house -/
structure Tb where
  name : String
  cols : List (String × String)
  key : List Nat
def Tb.ks (t : Tb) : List String := t.cols.map (·.2)
def Tb.d (t : Tb) : D := .tup [.str t.name, .tup (t.cols.map fun c => .tup [.str c.1, .str c.2]), .tup (t.key.map fun j : Nat => D.int j)]
structure Tb.ok (t : Tb) : Prop where
  len : 1 ≤ t.cols.length ∧ t.cols.length ≤ 8
  kinds : ∀ k ∈ t.ks, k = "number" ∨ k = "text"
  key : ∀ j ∈ t.key, j < t.cols.length
  keyl : t.key.length ≤ 8
abbrev Hs := List Tb
def hD (h : Hs) : D := .tup [.str "house", .str "h", .tup (h.map Tb.d), .tup [], .tup []]
structure hOk (h : Hs) : Prop where
  len : 1 ≤ h.length ∧ h.length ≤ 8
  tbs : ∀ t ∈ h, t.ok
def ksOf (h : Hs) (t : Nat) : List String := match h[t]? with
  | some b => b.ks
  | none => []
/-! ### queries -/
inductive Qr where
  | tab (t : Int) | view0 | keep (t : Nat) (c : Cn) | grp (t : Nat) (j : Nat)
def Qr.d : Qr → D
  | .tab t => .tup [.str "table", .int t]
  | .view0 => .tup [.str "view", .int 0]
  | .keep t c => .tup [.str "keep", .tup [.str "table", .int t], c.d]
  | .grp t j => .tup [.str "group", .tup [.str "table", .int t], .tup [.int j], .tup [.tup [.str "count"]]]
/-- one that may be asked about -/
def Qr.ok (h : Hs) : Qr → Prop
  | .tab _ => True
  | .view0 => True
  | .keep t c => t < h.length ∧ wtC (ksOf h t) c ∧ c.dep ≤ 8
  | .grp t j => t < h.length ∧ j < (ksOf h t).length
/-- one that is a query -/
def Qr.good (h : Hs) : Qr → Prop
  | .tab t => 0 ≤ t ∧ t < h.length
  | .view0 => False
  | .keep t c => t < h.length ∧ wtC (ksOf h t) c ∧ c.dep ≤ 8
  | .grp t j => t < h.length ∧ j < (ksOf h t).length
def Qr.kinds (h : Hs) : Qr → Option (List String)
  | .tab t => if 0 ≤ t ∧ t < h.length then some (ksOf h t.toNat) else none
  | .view0 => none
  | .keep t _ => some (ksOf h t)
  | .grp t j => some [(ksOf h t).getD j "", "number"]
def kk : Option (List String) → D
  | some ks => ksD ks
  | none => .non
def Qr.subs : Qr → List Qr
  | .keep t _ => [.tab t]
  | .grp t _ => [.tab t]
  | _ => []
def Qr.dep : Qr → Nat
  | .keep _ _ => 2
  | .grp _ _ => 2
  | _ => 1
/-! ### steps -/
inductive St where
  | ask (n : Int) (q : Qr) | whn (n lo hi : Int) (ss : List St) | each (n : Int) (ss : List St) | try_ (ss : List St) | quit
  | put (t : Int) (row : List D) | take (t : Int) (row : List D) | odd (d : D)
mutual
def St.d : St → D
  | .ask n q => .tup [.str "ask", .int n, q.d]
  | .whn n lo hi ss => .tup [.str "when", .int n, .int lo, .int hi, .tup (stsD ss)]
  | .each n ss => .tup [.str "each", .int n, .tup (stsD ss)]
  | .try_ ss => .tup [.str "try", .tup (stsD ss)]
  | .quit => .tup [.str "quit"]
  | .put t row => .tup [.str "put", .int t, .tup row]
  | .take t row => .tup [.str "take", .int t, .tup row]
  | .odd d => d
def stsD : List St → List D
  | [] => []
  | s :: ss => s.d :: stsD ss
end
def inR (lo hi i : Int) : Bool := decide (lo ≤ i) && decide (i ≤ hi)
def aroundI (w : Int) (each : Bool) : Int := bif each || decide (w < 0) then -(w.natAbs + 1 : Int) else w.natAbs + 1
mutual
def stB (h : Hs) (w : Int) : St → Bool
  | .ask n q => decide (0 ≤ w) && (inR 0 7 n && (q.kinds h).isSome)
  | .whn n lo hi ss => inR 0 7 n && (inR 0 400 lo && (inR 0 400 hi && (decide ((aroundI w false).natAbs ≤ 4) && stsB h (aroundI w false) ss)))
  | .each n ss => inR 0 7 n && (decide ((aroundI w true).natAbs ≤ 4) && stsB h (aroundI w true) ss)
  | .try_ ss => decide ((aroundI w false).natAbs ≤ 4) && stsB h (aroundI w false) ss
  | .quit => true
  | .put t _ => inR 0 (h.length - 1) t
  | .take t _ => inR 0 (h.length - 1) t
  | .odd _ => false
def stsB (h : Hs) (w : Int) : List St → Bool
  | [] => true
  | s :: ss => stB h w s && stsB h w ss
end
mutual
def stH : St → Nat
  | .whn _ _ _ ss => stsH ss + 1
  | .each _ ss => stsH ss + 1
  | .try_ ss => stsH ss + 1
  | .odd _ => 1
  | _ => 0
def stsH : List St → Nat
  | [] => 0
  | s :: ss => max (stH s) (stsH ss)
end
mutual
def stC : St → Nat
  | .whn _ _ _ ss => stsC ss + 1
  | .each _ ss => stsC ss + 1
  | .try_ ss => stsC ss + 1
  | _ => 1
def stsC : List St → Nat
  | [] => 0
  | s :: ss => stC s + stsC ss
end
/-- values that are no step, wherever they stand -/
def oddL : List D := [.tup [.str "quit", .int 0], .tup [.str "quits"], .tup [], .non, .lst [.str "quit"], .tup [.str "ask", .int 0], .tup [.str "each", .int 0, .lst []], .tup [.str "try"], .tup [.str "try", .lst [.non]], .tup [.str "try", .tup [], .int 0],
  .tup [.str "when", .int 0, .int 0, .tup []], .tup [.str "take", .non, .tup []], .int 7, .tup [.str "when", .int 0, .bl false, .int 3, .tup []], .tup [.str "put", .bl false, .tup []], .tup [.lst [.str "quit"]]]
/-- the same with a table's number in them -/
def Odd (d : D) : Prop := d ∈ oddL ∨ ∃ t : Nat, d = .tup [.str "ask", .bl true, .tup [.str "table", .int t]] ∨ d = .tup [.str "put", .int t, .lst [.tup [.str "number", .int 1]]] ∨ d = .tup [.str "take", .int t] ∨ d = .tup [.str "look", .int t, .non]
mutual
/-- what is_step may be asked about -/
def stOk (h : Hs) : St → Prop
  | .ask _ q => q.ok h
  | .whn _ _ _ ss => ss.length ≤ 1000 ∧ stsOk h ss
  | .each _ ss => ss.length ≤ 1000 ∧ stsOk h ss
  | .try_ ss => ss.length ≤ 1000 ∧ stsOk h ss
  | .odd d => Odd d
  | _ => True
def stsOk (h : Hs) : List St → Prop
  | [] => True
  | s :: ss => stOk h s ∧ stsOk h ss
end
def prog (ss : List St) : D := .tup [.str "program", .tup (stsD ss)]
def oddP : List D := [.tup [.str "programs", .tup []], .tup [.str "program"], .lst [.str "program", .tup []], .tup [.str "program", .lst []], .non, .tup [.str "program", .tup [], .int 0], .int 3]
/-! ### promises -/
def Tp (t c : Nat) (R : Pl) (st : Sto) : Prop := ∃ (sd : Int) (ns : List Int), (0 ≤ sd ∧ sd ≤ 2147483648) ∧ (∀ n ∈ ns, 0 ≤ n) ∧ Has st ((t, .lst [.loc c, .int sd]) :: (c, .lst (ns.map D.int)) :: R)
def sTape : Spc := fun ds st Q _ => ∃ (ns : List Int) (R : Pl), ds = [.scr ns] ∧ ns.length ≤ 63 ∧ Has st R ∧ ∀ t c st', Tp t c R st' → Q (.loc t) st'
def sDraw : Spc := fun ds st Q _ => ∃ (t c : Nat) (m : Int) (R : Pl), ds = [.loc t, .int m] ∧ (0 < m ∧ m < 1073741824) ∧ Tp t c R st ∧ ∀ v st', 0 ≤ v → v < m → Tp t c R st' → Q (.int v) st'
def isSeq (d : D) (xs : List D) : Prop := d = .lst xs ∨ d = .tup xs
def sPick : Spc := fun ds st Q _ => ∃ (t c : Nat) (u : D) (xs : List D) (R : Pl), ds = [.loc t, u] ∧ isSeq u xs ∧ (0 < xs.length ∧ xs.length < 1000) ∧ Tp t c R st ∧ ∀ x st', x ∈ xs → Tp t c R st' → Q x st'
def sSame (n : Nat) : Spc := fun ds st Q _ => ∃ (a b : D), ds = [a, b] ∧ ((∃ x y : Bool, a = .bl x ∧ b = .bl y ∧ Q (.bl (x == y)) st) ∨ (∃ x y : Int, a = .int x ∧ b = .int y ∧ Q (.bl (decide (x = y))) st) ∨ (1 ≤ n ∧ ∃ xs : List Int, xs.length ≤ 10 ∧ a = .tup (xs.map D.int) ∧ b = .tup (xs.map D.int) ∧ Q (.bl true) st))
def sItem : Spc := fun ds st Q _ => ∃ (t c : Nat) (k : String) (R : Pl), ds = [.loc t, .str k] ∧ (k = "number" ∨ k = "text") ∧ Tp t c R st ∧ ∀ x st', itOk k x → Tp t c R st' → Q x st'
def sHouse : Spc := fun ds st Q _ => ∃ (t c : Nat) (b : Bool) (R : Pl), ds = [.loc t, .bl b] ∧ Tp t c R st ∧ ∀ h st', hOk h → Tp t c R st' → Q (hD h) st'
def sLawKinds : Spc := fun ds st Q _ => ∃ (h : Hs) (t : Nat), ds = [hD h, .int t] ∧ (hOk h ∧ t < h.length) ∧ Q (ksD (ksOf h t)) st
def ksGood (ks : List String) : Prop := (1 ≤ ks.length ∧ ks.length ≤ 8) ∧ ∀ k ∈ ks, k = "number" ∨ k = "text"
def sSide : Spc := fun ds st Q _ => ∃ (t c : Nat) (ks : List String) (k : String) (R : Pl), ds = [.loc t, ksD ks, .str k] ∧ (ks.length ≤ 8 ∧ (k = "number" ∨ k = "text")) ∧ Tp t c R st ∧ ∀ (e : Ex) st', wt ks e k → e.dep ≤ 2 → Tp t c R st' → Q e.d st'
def sLawCond (n : Nat) : Spc := fun ds st Q _ => ∃ (t c : Nat) (ks : List String) (deep : Nat) (R : Pl), ds = [.loc t, ksD ks, .int deep] ∧ (ksGood ks ∧ deep ≤ n) ∧ Tp t c R st ∧ ∀ (x : Cn) st', wtC ks x → x.dep ≤ deep + 3 → Tp t c R st' → Q x.d st'
def sAsked : Spc := fun ds st Q _ => ∃ (t c : Nat) (h : Hs) (R : Pl), ds = [.loc t, hD h, .tup []] ∧ hOk h ∧ Tp t c R st ∧ ∀ (q : Qr) st', q.good h → Tp t c R st' → Q q.d st'
def sAnsKinds : Spc := fun ds st Q _ => ∃ (h : Hs) (q : Qr), ds = [hD h, q.d] ∧ (hOk h ∧ q.good h) ∧ Q (kk (q.kinds h)) st
def sEs : Spc := fun ds st Q _ => ∃ (t c : Nat) (ks ls : List String) (R : Pl), ds = [.loc t, ksD ks, ksD ls] ∧ (ks.length ≤ 8 ∧ ls.length ≤ 8 ∧ ∀ k ∈ ls, k = "number" ∨ k = "text") ∧ Tp t c R st ∧ ∀ row st', Tp t c R st' → Q (.tup row) st'
def AnsOk (m : List (D × D)) : Prop := (m.map (·.1)).Nodup ∧ ∀ p ∈ m, ∃ (i : Nat) (ks : List String), p = (.int i, ksD ks) ∧ i ≤ 2 ∧ ksGood ks
def kN (b : Bool) (ks : List String) : D := bif b then ksD ks else .non
/-- the most steps that are drawn at a depth -/
def cB : Nat → Nat
  | 0 => 159
  | 1 => 51
  | 2 => 15
  | _ => 3
def sPSteps (n : Nat) : Spc := fun ds st Q _ => ∃ (t c a : Nat) (h : Hs) (b : Bool) (ks : List String) (w : Nat) (m : List (D × D)) (R : Pl), ds = [.loc t, hD h, .loc a, kN b ks, .int w] ∧ (hOk h ∧ ksGood ks ∧ w ≤ 3 ∧ 3 ≤ w + n ∧ (b = true → 1 ≤ w)) ∧ AnsOk m ∧ Tp t c ((a, .dct false m) :: R) st ∧
  ∀ (ss : List St) m' st', stsB h (bif b then -(w : Int) else w) ss = true → stsOk h ss → stsH ss ≤ 3 - w → stsC ss ≤ cB w → AnsOk m' → Tp t c ((a, .dct false m') :: R) st' → Q (.tup (stsD ss)) st'
def sProgram : Spc := fun ds st Q _ => ∃ (t c : Nat) (h : Hs) (R : Pl), ds = [.loc t, hD h] ∧ hOk h ∧ Tp t c R st ∧ ∀ (ss : List St) st', stsB h 0 ss = true → stsOk h ss → stsH ss ≤ 3 → stsC ss ≤ 300 → Tp t c R st' → Q (prog ss) st'
def sCount (n : Nat) : Spc := fun ds st Q _ => ∃ (ss : List St) (h : Hs) (w : Int), ds = [.tup (stsD ss)] ∧ (stsH ss ≤ n ∧ stsB h w ss = true) ∧ Q (.int (stsC ss)) st
def deepS (many : Nat) (st : St) : Prop := (∀ (h : Hs) (w : Int), w.natAbs ≤ 4 → stB h w st = decide (w.natAbs + many ≤ 4)) ∧ (∀ h, stOk h st) ∧ stH st = many ∧ stC st = many + 1
def sDeep : Spc := fun ds st Q _ => ∃ (t c : Nat) (many : Nat) (w : String) (R : Pl), ds = [.loc t, .int many, .str w] ∧ (many ≤ 5 ∧ (w = "each" ∨ w = "when" ∨ w = "try")) ∧ Tp t c R st ∧ ∀ (s : St) st', deepS many s → Tp t c R st' → Q s.d st'
def sBad : Spc := fun ds st Q _ => ∃ (t c : Nat) (h : Hs) (R : Pl), ds = [.loc t, hD h] ∧ hOk h ∧ Tp t c R st ∧ ∀ (s : St) st', (∀ w, stB h w s = false) → stOk h s → stH s ≤ 2 → Tp t c R st' → Q s.d st'
def sInto (n : Nat) : Spc := fun ds st Q _ => ∃ (t c : Nat) (h : Hs) (ss : List St) (s : St) (w0 : Int) (R : Pl), ds = [.loc t, .tup (stsD ss), s.d] ∧ (stsH ss ≤ n ∧ stsC ss ≤ 900 ∧ stsB h w0 ss = true ∧ stsOk h ss) ∧ (∀ w, stB h w s = false) ∧ stOk h s ∧ Tp t c R st ∧
  ∀ (ss' : List St) st', (∀ w, stsB h w ss' = false) → stsOk h ss' → stsH ss' ≤ stsH ss + stH s → ss'.length ≤ ss.length + 1 → Tp t c R st' → Q (.tup (stsD ss')) st'
def sInteger : Spc := fun ds st Q _ => ∃ (d : D) (lo hi : Int), ds = [d, .int lo, .int hi] ∧ (∃ n, smB n d = true) ∧ Q (.bl (isInt lo hi d)) st
def sNumber : Spc := fun ds st Q _ => ∃ d : D, ds = [d] ∧ (∃ n, smB n d = true) ∧ Q (.bl (isInt (-2147483648) 2147483647 d)) st
def sText : Spc := fun ds st Q _ => ∃ d : D, ds = [d] ∧ (∃ n, smB n d = true) ∧ Q (.bl (isTxt d)) st
def sKindW (n : Nat) : Spc := fun ds st Q _ => ∃ (ks : List String) (d : D) (left : Nat), ds = [ksD ks, d, .int left] ∧ (left ≤ n ∧ ksOk ks ∧ ∃ m, m ≤ 1000 ∧ smB m d = true) ∧ Q (kD (kindF ks left d)) st
def sWithin (n : Nat) : Spc := fun ds st Q _ => ∃ (ks : List String) (d : D) (left : Nat), ds = [ksD ks, d, .int left] ∧ (left ≤ n ∧ left ≤ 100 ∧ ksOk ks ∧ ∃ m, m ≤ 1000 ∧ smB m d = true) ∧ Q (.bl (condF ks left d)) st
def sKindOf : Spc := fun ds st Q _ => ∃ (ks : List String) (d : D), ds = [ksD ks, d] ∧ (ksOk ks ∧ ∃ m, m ≤ 1000 ∧ smB m d = true) ∧ Q (kD (kindF ks 100 d)) st
def sIsCond : Spc := fun ds st Q _ => ∃ (ks : List String) (d : D), ds = [ksD ks, d] ∧ (ksOk ks ∧ ∃ m, m ≤ 1000 ∧ smB m d = true) ∧ Q (.bl (condF ks 100 d)) st
def sInner : Spc := fun ds st Q _ => ∃ x : Nd, ds = [x.d] ∧ Q (.tup (x.subs.map Nd.d)) st
def sDepth (n : Nat) : Spc := fun ds st Q _ => ∃ x : Nd, ds = [x.d] ∧ x.dep ≤ n + 1 ∧ Q (.int x.dep) st
def sIsAsked : Spc := fun ds st Q _ => ∃ (ks : List String) (c : Cn), ds = [ksD ks, c.d, .int 8] ∧ (ksGood ks ∧ wtC ks c ∧ c.dep ≤ 8) ∧ Q (.bl true) st
def sIsAgg : Spc := fun ds st Q _ => ∃ (ks : List String), ds = [ksD ks, .tup [.str "count"], .int 8] ∧ ksGood ks ∧ Q (.bl true) st
def sAggKind : Spc := fun ds st Q _ => ∃ (ks : List String), ds = [ksD ks, .tup [.str "count"]] ∧ ksGood ks ∧ Q (.str "number") st
def sNever : Spc := fun _ _ _ _ => False
def sTabKinds : Spc := fun ds st Q _ => ∃ (h : Hs) (t : Nat), ds = [hD h, .int t] ∧ (hOk h ∧ t < h.length) ∧ Q (ksD (ksOf h t)) st
def sQIn : Spc := fun ds st Q _ => ∃ q : Qr, ds = [q.d] ∧ Q (.tup (q.subs.map Qr.d)) st
def sRebuilt : Spc := fun ds st Q _ => ∃ q : Qr, ds = [q.d, .tup (q.subs.map Qr.d)] ∧ (1 < q.dep) ∧ Q q.d st
def sUnfold (n : Nat) : Spc := fun ds st Q _ => ∃ (h : Hs) (q : Qr), ds = [hD h, q.d] ∧ (q.good h ∧ q.dep ≤ n + 1) ∧ Q q.d st
def sLeaves (n : Nat) : Spc := fun ds st Q _ => ∃ (h : Hs) (q : Qr), ds = [q.d] ∧ (q.good h ∧ q.dep ≤ n + 1) ∧ Q (.int 1) st
def sDepQ (n : Nat) : Spc := fun ds st Q _ => ∃ (h : Hs) (q : Qr), ds = [q.d] ∧ (q.good h ∧ q.dep ≤ n + 1) ∧ Q (.int q.dep) st
def fC (h : Hs) : Cell := .obj "Forms" [("_house", hD h), ("_views", .int 0), ("_most", .int 8)]
def sFInit : Spc := fun ds st Q _ => ∃ (o : Nat) (h : Hs) (R : Pl), ds = [.loc o, hD h, .int 0, .int 8] ∧ Has st ((o, .obj "Forms" []) :: R) ∧ ∀ st', Has st' ((o, fC h) :: R) → Q .non st'
def sFKinds (n : Nat) : Spc := fun ds st Q _ => ∃ (o : Nat) (h : Hs) (q : Qr) (left : Nat) (R : Pl), ds = [.loc o, q.d, .int left] ∧ (hOk h ∧ q.ok h ∧ q.dep ≤ n + 1 ∧ q.dep < left ∧ left ≤ 8) ∧ Has st ((o, fC h) :: R) ∧ Q (kk (q.kinds h)) st
def sFStep (n : Nat) : Spc := fun ds st Q _ => ∃ (o : Nat) (h : Hs) (q : Qr) (left : Nat) (R : Pl), ds = [.loc o, q.d, .int left] ∧ (hOk h ∧ q.good h ∧ q.dep = 2 ∧ q.dep ≤ n + 1 ∧ q.dep < left ∧ left ≤ 8) ∧ Has st ((o, fC h) :: R) ∧ Q (kk (q.kinds h)) st
def sFGrp : Spc := fun ds st Q _ => ∃ (o : Nat) (h : Hs) (ks : List String) (j : Nat) (R : Pl), ds = [.loc o, ksD ks, .tup [.int j], .tup [.tup [.str "count"]]] ∧ (ksGood ks ∧ j < ks.length) ∧ Has st ((o, fC h) :: R) ∧ Q (.bl true) st
def sFQuery : Spc := fun ds st Q _ => ∃ (o : Nat) (h : Hs) (q : Qr) (R : Pl), ds = [.loc o, q.d, .int 8] ∧ (hOk h ∧ q.ok h) ∧ Has st ((o, fC h) :: R) ∧ Q (.bl (q.kinds h).isSome) st
def sQuery : Spc := fun ds st Q _ => ∃ (h : Hs) (q : Qr) (R : Pl), ds = [hD h, q.d] ∧ (hOk h ∧ q.ok h) ∧ Has st R ∧ ∀ st', Has st' R → Q (.bl (q.kinds h).isSome) st'
def sAround : Spc := fun ds st Q _ => ∃ (w : Int) (b : Bool), ds = [.int w, .bl b] ∧ Q (.int (aroundI w b)) st
def sStep (n : Nat) : Spc := fun ds st Q _ => ∃ (h : Hs) (s : St) (w : Int) (R : Pl), ds = [hD h, s.d, .int w] ∧ (hOk h ∧ stOk h s ∧ stH s ≤ n ∧ w.natAbs ≤ 4) ∧ Has st R ∧ ∀ st', Has st' R → Q (.bl (stB h w s)) st'
def sSteps (n : Nat) : Spc := fun ds st Q _ => ∃ (h : Hs) (d : D) (w : Int) (R : Pl), ds = [hD h, d, .int w] ∧ hOk h ∧ Has st R ∧ ((∃ xs, d = .lst xs ∧ ∀ st', Has st' R → Q (.bl false) st') ∨ ∃ ss : List St, d = .tup (stsD ss) ∧ (stsOk h ss ∧ stsH ss ≤ n ∧ ss.length ≤ 1000) ∧ ∀ st', Has st' R → Q (.bl (decide (w.natAbs ≤ 4) && stsB h w ss)) st')
def sIsProgram : Spc := fun ds st Q _ => ∃ (h : Hs) (d : D) (R : Pl), ds = [hD h, d] ∧ hOk h ∧ Has st R ∧ ((d ∈ oddP ∧ ∀ st', Has st' R → Q (.bl false) st') ∨ ∃ ss : List St, d = prog ss ∧ stsOk h ss ∧ stsH ss ≤ 5 ∧ ss.length ≤ 1000 ∧ ∀ st', Has st' R → Q (.bl (stsB h 0 ss && decide (stsC ss ≤ 40))) st')
def sLaw : Spc := fun ds st Q _ => ∃ ns, ds = [.scr ns] ∧ ns.length ≤ 63 ∧ ∀ st', Q (.bl true) st'
def lev (S : Nat → Spc) : Nat → Spc
  | 0 => fun _ _ _ _ => False
  | n + 1 => S n
def attrs : List (String × String) := [("Forms", "_house"), ("Forms", "_most"), ("Forms", "_views")]
def globS : String → Option D := fun x => match x with
    | "MOST_SIGNS" => some (.int 12)
    | "MOST_DEPTH" => some (.int 8)
    | "MOST_LEAVES" => some (.int 6)
    | "MOST_WIDTH" => some (.int 48)
    | "LEAST_NUMBER" => some (.int (-2147483648))
    | "MOST_NUMBER" => some (.int 2147483647)
    | "LETTERS" => some (.str LET)
    | "DIGITS" => some (.str DIG)
    | "COMPARING" => some (.kt COMP)
    | "RECKONING" => some (.kt RECK)
    | "MOST_DEEP" => some (.int 100)
    | "JOINING" => some (.kt ["cross", "union", "minus", "both", "some", "none"])
    | "MOST_ANSWERS" => some (.int 8)
    | "MOST_ANSWER_ROWS" => some (.int 400)
    | "MOST_STEPS" => some (.int 40)
    | "MOST_WITHIN" => some (.int 4)
    | _ => none
def L : Lib where
  call := fun f => match f with
    | "is_integer" => sInteger
    | "is_number" => sNumber
    | "is_text" => sText
    | "kind_within" => lev sKindW 101
    | "kind_of" => sKindOf
    | "is_within" => lev sWithin 101
    | "is_condition" => sIsCond
    | "inner" => sInner
    | "depth_of" => lev sDepth 8
    | "queries_in" => sQIn
    | "kinds_of_table" => sTabKinds
    | "kinds_of" => sNever
    | "agg_kind" => sAggKind
    | "rebuilt" => sRebuilt
    | "unfold" => lev sUnfold 2
    | "leaves_of" => lev sLeaves 2
    | "depth_of_query" => lev sDepQ 2
    | "is_agg" => sIsAgg
    | "is_shown" => sNever
    | "is_asked" => sIsAsked
    | "is_order" => sNever
    | "is_way" => sNever
    | "is_query" => sQuery
    | "is_step" => sNever
    | "around" => sAround
    | "are_steps" => lev sSteps 6
    | "count_steps" => lev sCount 12
    | "is_program" => sIsProgram
    | "_law_tape" => sTape
    | "_law_draw" => sDraw
    | "_law_pick" => sPick
    | "_law_same" => lev sSame 2
    | "_law_item" => sItem
    | "_law_house" => sHouse
    | "_law_kinds" => sLawKinds
    | "_law_side" => sSide
    | "_law_condition" => lev sLawCond 2
    | "_law_asked" => sAsked
    | "_law_answer_kinds" => sAnsKinds
    | "_law_es" => sEs
    | "_law_program_steps" => lev sPSteps 4
    | "_law_program" => sProgram
    | "_law_count" => lev sCount 12
    | "_law_deep" => sDeep
    | "_law_bad" => sBad
    | "_law_into" => lev sInto 6
    | "law" => sLaw
    | _ => fun _ _ _ _ => False
  attr := fun c f => attrs.contains (c, f)
  meth := fun c m => match c, m with
    | "Forms", "__init__" => sFInit
    | "Forms", "kinds" => lev sFKinds 2
    | "Forms", "_step_kinds" => sNever
    | "Forms", "_both_kinds" => sNever
    | "Forms", "_are_shown" => sNever
    | "Forms", "_are_grouped" => sFGrp
    | "Forms", "is_query" => sFQuery
    | _, _ => fun _ _ _ _ => False
  glob := globS
  exf := fun _ => none
  sub := fun _ _ => none
def Lr_kind_within (n : Nat) : Lib where
  call := fun f => match f with
    | "kind_within" => lev sKindW n
    | "is_number" => sNumber
    | "is_text" => sText
    | _ => fun _ _ _ _ => False
  attr := L.attr
  meth := fun c m => match c, m with
    | _, _ => fun _ _ _ _ => False
  glob := L.glob
  exf := L.exf
  sub := L.sub
def Lr_is_within (n : Nat) : Lib where
  call := fun f => match f with
    | "is_within" => lev sWithin n
    | "kind_within" => lev sKindW 101
    | _ => fun _ _ _ _ => False
  attr := L.attr
  meth := fun c m => match c, m with
    | _, _ => fun _ _ _ _ => False
  glob := L.glob
  exf := L.exf
  sub := L.sub
def Lr_depth_of (n : Nat) : Lib where
  call := fun f => match f with
    | "depth_of" => lev sDepth n
    | "inner" => sInner
    | _ => fun _ _ _ _ => False
  attr := L.attr
  meth := fun c m => match c, m with
    | _, _ => fun _ _ _ _ => False
  glob := L.glob
  exf := L.exf
  sub := L.sub
def Lr_kinds_of (n : Nat) : Lib where
  call := fun f => match f with
    | "kinds_of" => sNever
    | "agg_kind" => sAggKind
    | "kind_of" => sKindOf
    | "kinds_of_table" => sTabKinds
    | _ => fun _ _ _ _ => False
  attr := L.attr
  meth := fun c m => match c, m with
    | _, _ => fun _ _ _ _ => False
  glob := L.glob
  exf := L.exf
  sub := L.sub
def Lr_unfold (n : Nat) : Lib where
  call := fun f => match f with
    | "unfold" => lev sUnfold n
    | "queries_in" => sQIn
    | "rebuilt" => sRebuilt
    | _ => fun _ _ _ _ => False
  attr := L.attr
  meth := fun c m => match c, m with
    | _, _ => fun _ _ _ _ => False
  glob := L.glob
  exf := L.exf
  sub := L.sub
def Lr_leaves_of (n : Nat) : Lib where
  call := fun f => match f with
    | "leaves_of" => lev sLeaves n
    | "queries_in" => sQIn
    | _ => fun _ _ _ _ => False
  attr := L.attr
  meth := fun c m => match c, m with
    | _, _ => fun _ _ _ _ => False
  glob := L.glob
  exf := L.exf
  sub := L.sub
def Lr_depth_of_query (n : Nat) : Lib where
  call := fun f => match f with
    | "depth_of_query" => lev sDepQ n
    | "queries_in" => sQIn
    | _ => fun _ _ _ _ => False
  attr := L.attr
  meth := fun c m => match c, m with
    | _, _ => fun _ _ _ _ => False
  glob := L.glob
  exf := L.exf
  sub := L.sub
def Lr_Forms_kinds (n : Nat) : Lib where
  call := fun f => match f with
    | "is_integer" => sInteger
    | "kinds_of" => sNever
    | "kinds_of_table" => sTabKinds
    | "is_asked" => sIsAsked
    | "agg_kind" => sAggKind
    | "is_order" => sNever
    | "kind_of" => sKindOf
    | _ => fun _ _ _ _ => False
  attr := L.attr
  meth := fun c m => match c, m with
    | "Forms", "kinds" => lev sFKinds n
    | "Forms", "_step_kinds" => sFStep n
    | "Forms", "_are_grouped" => sFGrp
    | "Forms", "_are_shown" => sNever
    | "Forms", "_both_kinds" => sNever
    | _, _ => fun _ _ _ _ => False
  glob := L.glob
  exf := L.exf
  sub := L.sub
def Lr_are_steps (n : Nat) : Lib where
  call := fun f => match f with
    | "are_steps" => lev sSteps n
    | "is_step" => sStep n
    | "around" => sAround
    | "is_integer" => sInteger
    | "is_query" => sQuery
    | _ => fun _ _ _ _ => False
  attr := L.attr
  meth := fun c m => match c, m with
    | _, _ => fun _ _ _ _ => False
  glob := L.glob
  exf := L.exf
  sub := L.sub
def Lr_count_steps (n : Nat) : Lib where
  call := fun f => match f with
    | "count_steps" => lev sCount n
    | _ => fun _ _ _ _ => False
  attr := L.attr
  meth := fun c m => match c, m with
    | _, _ => fun _ _ _ _ => False
  glob := L.glob
  exf := L.exf
  sub := L.sub
def Lr_law_same (n : Nat) : Lib where
  call := fun f => match f with
    | "_law_same" => lev sSame n
    | _ => fun _ _ _ _ => False
  attr := L.attr
  meth := fun c m => match c, m with
    | _, _ => fun _ _ _ _ => False
  glob := L.glob
  exf := L.exf
  sub := L.sub
def Lr_law_condition (n : Nat) : Lib where
  call := fun f => match f with
    | "_law_condition" => lev sLawCond n
    | "_law_draw" => sDraw
    | "_law_pick" => sPick
    | "_law_side" => sSide
    | _ => fun _ _ _ _ => False
  attr := L.attr
  meth := fun c m => match c, m with
    | _, _ => fun _ _ _ _ => False
  glob := L.glob
  exf := L.exf
  sub := L.sub
def Lr_law_program_steps (n : Nat) : Lib where
  call := fun f => match f with
    | "_law_program_steps" => lev sPSteps n
    | "_law_answer_kinds" => sAnsKinds
    | "_law_asked" => sAsked
    | "_law_draw" => sDraw
    | "_law_es" => sEs
    | "_law_kinds" => sLawKinds
    | "_law_pick" => sPick
    | _ => fun _ _ _ _ => False
  attr := L.attr
  meth := fun c m => match c, m with
    | _, _ => fun _ _ _ _ => False
  glob := L.glob
  exf := L.exf
  sub := L.sub
def Lr_law_count (n : Nat) : Lib where
  call := fun f => match f with
    | "_law_count" => lev sCount n
    | _ => fun _ _ _ _ => False
  attr := L.attr
  meth := fun c m => match c, m with
    | _, _ => fun _ _ _ _ => False
  glob := L.glob
  exf := L.exf
  sub := L.sub
def Lr_law_into (n : Nat) : Lib where
  call := fun f => match f with
    | "_law_into" => lev sInto n
    | "_law_draw" => sDraw
    | _ => fun _ _ _ _ => False
  attr := L.attr
  meth := fun c m => match c, m with
    | _, _ => fun _ _ _ _ => False
  glob := L.glob
  exf := L.exf
  sub := L.sub
theorem attr_in (c f : String) (h : L.attr c f = true) : (c, f) ∈ attrs := by simpa using (show attrs.contains (c, f) = true from h)
theorem law_in (ns : List Int) (hl : ns.length ≤ 63) : L.call "law" [.scr ns] [] (fun d _ => d = .bl true) fun _ _ => False := ⟨ns, rfl, hl, fun _ => rfl⟩
theorem len_is_integer (ds : List D) (st : Sto) (Q : D → Sto → Prop) (X : EX) (h : L.call "is_integer" ds st Q X) : ds.length = 3 := by obtain ⟨_, _, _, rfl, _⟩ := (show sInteger ds st Q X from h); rfl
theorem len_is_number (ds : List D) (st : Sto) (Q : D → Sto → Prop) (X : EX) (h : L.call "is_number" ds st Q X) : ds.length = 1 := by obtain ⟨_, rfl, _⟩ := (show sNumber ds st Q X from h); rfl
theorem len_is_text (ds : List D) (st : Sto) (Q : D → Sto → Prop) (X : EX) (h : L.call "is_text" ds st Q X) : ds.length = 1 := by obtain ⟨_, rfl, _⟩ := (show sText ds st Q X from h); rfl
theorem len_kind_within (n : Nat) (ds : List D) (st : Sto) (Q : D → Sto → Prop) (X : EX) (h : (Lr_kind_within n).call "kind_within" ds st Q X) : ds.length = 3 := by
  cases n with
  | zero => exact h.elim
  | succ n => obtain ⟨_, _, _, rfl, _⟩ := (show sKindW n ds st Q X from h); rfl
theorem len_kind_of (ds : List D) (st : Sto) (Q : D → Sto → Prop) (X : EX) (h : L.call "kind_of" ds st Q X) : ds.length = 2 := by obtain ⟨_, _, rfl, _⟩ := (show sKindOf ds st Q X from h); rfl
theorem len_is_within (n : Nat) (ds : List D) (st : Sto) (Q : D → Sto → Prop) (X : EX) (h : (Lr_is_within n).call "is_within" ds st Q X) : ds.length = 3 := by
  cases n with
  | zero => exact h.elim
  | succ n => obtain ⟨_, _, _, rfl, _⟩ := (show sWithin n ds st Q X from h); rfl
theorem len_is_condition (ds : List D) (st : Sto) (Q : D → Sto → Prop) (X : EX) (h : L.call "is_condition" ds st Q X) : ds.length = 2 := by obtain ⟨_, _, rfl, _⟩ := (show sIsCond ds st Q X from h); rfl
theorem len_inner (ds : List D) (st : Sto) (Q : D → Sto → Prop) (X : EX) (h : L.call "inner" ds st Q X) : ds.length = 1 := by obtain ⟨_, rfl, _⟩ := (show sInner ds st Q X from h); rfl
theorem len_depth_of (n : Nat) (ds : List D) (st : Sto) (Q : D → Sto → Prop) (X : EX) (h : (Lr_depth_of n).call "depth_of" ds st Q X) : ds.length = 1 := by
  cases n with
  | zero => exact h.elim
  | succ n => obtain ⟨_, rfl, _⟩ := (show sDepth n ds st Q X from h); rfl
theorem len_queries_in (ds : List D) (st : Sto) (Q : D → Sto → Prop) (X : EX) (h : L.call "queries_in" ds st Q X) : ds.length = 1 := by obtain ⟨_, rfl, _⟩ := (show sQIn ds st Q X from h); rfl
theorem len_kinds_of_table (ds : List D) (st : Sto) (Q : D → Sto → Prop) (X : EX) (h : L.call "kinds_of_table" ds st Q X) : ds.length = 2 := by obtain ⟨_, _, rfl, _⟩ := (show sTabKinds ds st Q X from h); rfl
theorem len_kinds_of (n : Nat) (ds : List D) (st : Sto) (Q : D → Sto → Prop) (X : EX) (h : (Lr_kinds_of n).call "kinds_of" ds st Q X) : ds.length = 2 := by
  exact (show False from h).elim
theorem len_agg_kind (ds : List D) (st : Sto) (Q : D → Sto → Prop) (X : EX) (h : L.call "agg_kind" ds st Q X) : ds.length = 2 := by obtain ⟨_, rfl, _⟩ := (show sAggKind ds st Q X from h); rfl
theorem len_rebuilt (ds : List D) (st : Sto) (Q : D → Sto → Prop) (X : EX) (h : L.call "rebuilt" ds st Q X) : ds.length = 2 := by obtain ⟨_, rfl, _⟩ := (show sRebuilt ds st Q X from h); rfl
theorem len_unfold (n : Nat) (ds : List D) (st : Sto) (Q : D → Sto → Prop) (X : EX) (h : (Lr_unfold n).call "unfold" ds st Q X) : ds.length = 2 := by
  cases n with
  | zero => exact h.elim
  | succ n => obtain ⟨_, _, rfl, _⟩ := (show sUnfold n ds st Q X from h); rfl
theorem len_leaves_of (n : Nat) (ds : List D) (st : Sto) (Q : D → Sto → Prop) (X : EX) (h : (Lr_leaves_of n).call "leaves_of" ds st Q X) : ds.length = 1 := by
  cases n with
  | zero => exact h.elim
  | succ n => obtain ⟨_, _, rfl, _⟩ := (show sLeaves n ds st Q X from h); rfl
theorem len_depth_of_query (n : Nat) (ds : List D) (st : Sto) (Q : D → Sto → Prop) (X : EX) (h : (Lr_depth_of_query n).call "depth_of_query" ds st Q X) : ds.length = 1 := by
  cases n with
  | zero => exact h.elim
  | succ n => obtain ⟨_, _, rfl, _⟩ := (show sDepQ n ds st Q X from h); rfl
theorem len_is_agg (ds : List D) (st : Sto) (Q : D → Sto → Prop) (X : EX) (h : L.call "is_agg" ds st Q X) : ds.length = 3 := by obtain ⟨_, rfl, _⟩ := (show sIsAgg ds st Q X from h); rfl
theorem len_is_shown (ds : List D) (st : Sto) (Q : D → Sto → Prop) (X : EX) (h : L.call "is_shown" ds st Q X) : ds.length = 3 := by exact (show False from h).elim
theorem len_is_asked (ds : List D) (st : Sto) (Q : D → Sto → Prop) (X : EX) (h : L.call "is_asked" ds st Q X) : ds.length = 3 := by obtain ⟨_, _, rfl, _⟩ := (show sIsAsked ds st Q X from h); rfl
theorem len_is_order (ds : List D) (st : Sto) (Q : D → Sto → Prop) (X : EX) (h : L.call "is_order" ds st Q X) : ds.length = 2 := by exact (show False from h).elim
theorem len_is_way (ds : List D) (st : Sto) (Q : D → Sto → Prop) (X : EX) (h : L.call "is_way" ds st Q X) : ds.length = 2 := by exact (show False from h).elim
theorem len_Forms_init (ds : List D) (st : Sto) (Q : D → Sto → Prop) (X : EX) (h : L.meth "Forms" "__init__" ds st Q X) : ds.length = 4 := by obtain ⟨_, _, _, rfl, _⟩ := (show sFInit ds st Q X from h); rfl
theorem len_Forms_kinds (n : Nat) (ds : List D) (st : Sto) (Q : D → Sto → Prop) (X : EX) (h : (Lr_Forms_kinds n).meth "Forms" "kinds" ds st Q X) : ds.length = 3 := by
  cases n with
  | zero => exact h.elim
  | succ n => obtain ⟨_, _, _, _, _, rfl, _⟩ := (show sFKinds n ds st Q X from h); rfl
theorem len_Forms_step_kinds (n : Nat) (ds : List D) (st : Sto) (Q : D → Sto → Prop) (X : EX) (h : (Lr_Forms_kinds n).meth "Forms" "_step_kinds" ds st Q X) : ds.length = 3 := by
  obtain ⟨_, _, _, _, _, rfl, _⟩ := (show sFStep n ds st Q X from h); rfl
theorem len_Forms_both_kinds (n : Nat) (ds : List D) (st : Sto) (Q : D → Sto → Prop) (X : EX) (h : (Lr_Forms_kinds n).meth "Forms" "_both_kinds" ds st Q X) : ds.length = 4 := by
  exact (show False from h).elim
theorem len_Forms_are_shown (ds : List D) (st : Sto) (Q : D → Sto → Prop) (X : EX) (h : L.meth "Forms" "_are_shown" ds st Q X) : ds.length = 3 := by exact (show False from h).elim
theorem len_Forms_are_grouped (ds : List D) (st : Sto) (Q : D → Sto → Prop) (X : EX) (h : L.meth "Forms" "_are_grouped" ds st Q X) : ds.length = 4 := by obtain ⟨_, _, _, _, _, rfl, _⟩ := (show sFGrp ds st Q X from h); rfl
theorem len_Forms_is_query (ds : List D) (st : Sto) (Q : D → Sto → Prop) (X : EX) (h : L.meth "Forms" "is_query" ds st Q X) : ds.length = 3 := by obtain ⟨_, _, _, _, rfl, _⟩ := (show sFQuery ds st Q X from h); rfl
theorem len_is_query (ds : List D) (st : Sto) (Q : D → Sto → Prop) (X : EX) (h : L.call "is_query" ds st Q X) : ds.length = 2 := by obtain ⟨_, _, _, rfl, _⟩ := (show sQuery ds st Q X from h); rfl
theorem len_is_step (n : Nat) (ds : List D) (st : Sto) (Q : D → Sto → Prop) (X : EX) (h : (Lr_are_steps n).call "is_step" ds st Q X) : ds.length = 3 := by
  obtain ⟨_, _, _, _, rfl, _⟩ := (show sStep n ds st Q X from h); rfl
theorem len_around (ds : List D) (st : Sto) (Q : D → Sto → Prop) (X : EX) (h : L.call "around" ds st Q X) : ds.length = 2 := by obtain ⟨_, _, rfl, _⟩ := (show sAround ds st Q X from h); rfl
theorem len_are_steps (n : Nat) (ds : List D) (st : Sto) (Q : D → Sto → Prop) (X : EX) (h : (Lr_are_steps n).call "are_steps" ds st Q X) : ds.length = 3 := by
  cases n with
  | zero => exact h.elim
  | succ n => obtain ⟨_, _, _, _, rfl, _⟩ := (show sSteps n ds st Q X from h); rfl
theorem len_count_steps (n : Nat) (ds : List D) (st : Sto) (Q : D → Sto → Prop) (X : EX) (h : (Lr_count_steps n).call "count_steps" ds st Q X) : ds.length = 1 := by
  cases n with
  | zero => exact h.elim
  | succ n => obtain ⟨_, _, _, rfl, _⟩ := (show sCount n ds st Q X from h); rfl
theorem len_is_program (ds : List D) (st : Sto) (Q : D → Sto → Prop) (X : EX) (h : L.call "is_program" ds st Q X) : ds.length = 2 := by obtain ⟨_, _, _, rfl, _⟩ := (show sIsProgram ds st Q X from h); rfl
theorem len_law_tape (ds : List D) (st : Sto) (Q : D → Sto → Prop) (X : EX) (h : L.call "_law_tape" ds st Q X) : ds.length = 1 := by obtain ⟨_, _, rfl, _⟩ := (show sTape ds st Q X from h); rfl
theorem len_law_draw (ds : List D) (st : Sto) (Q : D → Sto → Prop) (X : EX) (h : L.call "_law_draw" ds st Q X) : ds.length = 2 := by obtain ⟨_, _, _, _, rfl, _⟩ := (show sDraw ds st Q X from h); rfl
theorem len_law_pick (ds : List D) (st : Sto) (Q : D → Sto → Prop) (X : EX) (h : L.call "_law_pick" ds st Q X) : ds.length = 2 := by obtain ⟨_, _, _, _, _, rfl, _⟩ := (show sPick ds st Q X from h); rfl
theorem len_law_same (n : Nat) (ds : List D) (st : Sto) (Q : D → Sto → Prop) (X : EX) (h : (Lr_law_same n).call "_law_same" ds st Q X) : ds.length = 2 := by
  cases n with
  | zero => exact h.elim
  | succ n => obtain ⟨_, _, rfl, _⟩ := (show sSame n ds st Q X from h); rfl
theorem len_law_item (ds : List D) (st : Sto) (Q : D → Sto → Prop) (X : EX) (h : L.call "_law_item" ds st Q X) : ds.length = 2 := by obtain ⟨_, _, _, _, rfl, _⟩ := (show sItem ds st Q X from h); rfl
theorem len_law_house (ds : List D) (st : Sto) (Q : D → Sto → Prop) (X : EX) (h : L.call "_law_house" ds st Q X) : ds.length = 2 := by obtain ⟨_, _, _, _, rfl, _⟩ := (show sHouse ds st Q X from h); rfl
theorem len_law_kinds (ds : List D) (st : Sto) (Q : D → Sto → Prop) (X : EX) (h : L.call "_law_kinds" ds st Q X) : ds.length = 2 := by obtain ⟨_, _, rfl, _⟩ := (show sLawKinds ds st Q X from h); rfl
theorem len_law_side (ds : List D) (st : Sto) (Q : D → Sto → Prop) (X : EX) (h : L.call "_law_side" ds st Q X) : ds.length = 3 := by obtain ⟨_, _, _, _, _, rfl, _⟩ := (show sSide ds st Q X from h); rfl
theorem len_law_condition (n : Nat) (ds : List D) (st : Sto) (Q : D → Sto → Prop) (X : EX) (h : (Lr_law_condition n).call "_law_condition" ds st Q X) : ds.length = 3 := by
  cases n with
  | zero => exact h.elim
  | succ n => obtain ⟨_, _, _, _, _, rfl, _⟩ := (show sLawCond n ds st Q X from h); rfl
theorem len_law_asked (ds : List D) (st : Sto) (Q : D → Sto → Prop) (X : EX) (h : L.call "_law_asked" ds st Q X) : ds.length = 3 := by obtain ⟨_, _, _, _, rfl, _⟩ := (show sAsked ds st Q X from h); rfl
theorem len_law_answer_kinds (ds : List D) (st : Sto) (Q : D → Sto → Prop) (X : EX) (h : L.call "_law_answer_kinds" ds st Q X) : ds.length = 2 := by obtain ⟨_, _, rfl, _⟩ := (show sAnsKinds ds st Q X from h); rfl
theorem len_law_es (ds : List D) (st : Sto) (Q : D → Sto → Prop) (X : EX) (h : L.call "_law_es" ds st Q X) : ds.length = 3 := by obtain ⟨_, _, _, _, _, rfl, _⟩ := (show sEs ds st Q X from h); rfl
theorem len_law_program_steps (n : Nat) (ds : List D) (st : Sto) (Q : D → Sto → Prop) (X : EX) (h : (Lr_law_program_steps n).call "_law_program_steps" ds st Q X) : ds.length = 5 := by
  cases n with
  | zero => exact h.elim
  | succ n => obtain ⟨_, _, _, _, _, _, _, _, _, rfl, _⟩ := (show sPSteps n ds st Q X from h); rfl
theorem len_law_program (ds : List D) (st : Sto) (Q : D → Sto → Prop) (X : EX) (h : L.call "_law_program" ds st Q X) : ds.length = 2 := by obtain ⟨_, _, _, _, rfl, _⟩ := (show sProgram ds st Q X from h); rfl
theorem len_law_count (n : Nat) (ds : List D) (st : Sto) (Q : D → Sto → Prop) (X : EX) (h : (Lr_law_count n).call "_law_count" ds st Q X) : ds.length = 1 := by
  cases n with
  | zero => exact h.elim
  | succ n => obtain ⟨_, _, _, rfl, _⟩ := (show sCount n ds st Q X from h); rfl
theorem len_law_deep (ds : List D) (st : Sto) (Q : D → Sto → Prop) (X : EX) (h : L.call "_law_deep" ds st Q X) : ds.length = 3 := by obtain ⟨_, _, _, _, _, rfl, _⟩ := (show sDeep ds st Q X from h); rfl
theorem len_law_bad (ds : List D) (st : Sto) (Q : D → Sto → Prop) (X : EX) (h : L.call "_law_bad" ds st Q X) : ds.length = 2 := by obtain ⟨_, _, _, _, rfl, _⟩ := (show sBad ds st Q X from h); rfl
theorem len_law_into (n : Nat) (ds : List D) (st : Sto) (Q : D → Sto → Prop) (X : EX) (h : (Lr_law_into n).call "_law_into" ds st Q X) : ds.length = 3 := by
  cases n with
  | zero => exact h.elim
  | succ n => obtain ⟨_, _, _, _, _, _, _, rfl, _⟩ := (show sInto n ds st Q X from h); rfl
theorem len_law (ds : List D) (st : Sto) (Q : D → Sto → Prop) (X : EX) (h : L.call "law" ds st Q X) : ds.length = 1 := by obtain ⟨_, rfl, _⟩ := (show sLaw ds st Q X from h); rfl
end K

set_option maxHeartbeats 1000000
namespace K
open PySem PySem.Spec PyProof.Rows L2 DL
theorem line_gt : 1000000 < sizeLine := by rw [sizeLine_eq]; omega
theorem has_1 {st : Sto} {p : Nat} {c : Cell} {R : Pl} (h : Has st ((p, c) :: R)) : st[p]? = some c := h.get (by simp)
theorem has_2 {st : Sto} {p : Nat} {c : Cell} {y : Nat × Cell} {R : Pl} (h : Has st (y :: (p, c) :: R)) : st[p]? = some c := h.get (by simp)
theorem has_set1 {st : Sto} {p : Nat} {c c' : Cell} {R : Pl} (h : Has st ((p, c) :: R)) : Has (st.set p c') ((p, c') :: R) := Has.set (l1 := []) h
theorem toL (c : Char) : (String.ofList [c]).toList = [c] := String.toList_ofList
theorem one_eq {c d : Char} {z : String} (hz : z.toList = [d]) (h : String.ofList [c] = z) : c = d := by
  have := congrArg String.toList h
  rw [toL, hz] at this
  injection this
/-- data of the six kinds -/
theorem sm_or {n : Nat} {d : D} (h : smB n d = true) : d = .non ∨ (∃ b, d = .bl b) ∨ (∃ i, d = .int i) ∨ (∃ s : String, s.length ≤ 100 ∧ d = .str s) ∨ (∃ xs : List D, xs.length ≤ n ∧ smBs n xs = true ∧ d = .tup xs) ∨ ∃ xs : List D, xs.length ≤ n ∧ smBs n xs = true ∧ d = .lst xs := by
  cases d with
  | non => exact .inl rfl
  | bl b => exact .inr (.inl ⟨b, rfl⟩)
  | int i => exact .inr (.inr (.inl ⟨i, rfl⟩))
  | str s => exact .inr (.inr (.inr (.inl ⟨s, of_decide_eq_true h, rfl⟩)))
  | tup xs =>
    have h := Bool.and_eq_true_iff.mp (show (decide (xs.length ≤ n) && smBs n xs) = true from h)
    exact .inr (.inr (.inr (.inr (.inl ⟨xs, of_decide_eq_true h.1, h.2, rfl⟩))))
  | lst xs =>
    have h := Bool.and_eq_true_iff.mp (show (decide (xs.length ≤ n) && smBs n xs) = true from h)
    exact .inr (.inr (.inr (.inr (.inr ⟨xs, of_decide_eq_true h.1, h.2, rfl⟩))))
  | _ => cases h
theorem v_is_integer (ds : List D) (st : Sto) (Q : D → Sto → Prop) (X : EX) (hs : CloS st.length st) (hd : Clos st.length ds) (h0 : L.call "is_integer" ds st Q X) : b_is_integer.run L ds st (Gc st.length Q) (GcX st.length X) := by
  obtain ⟨d, lo, hi, rfl, ⟨m, hm⟩, h⟩ := (show sInteger ds st Q X from h0)
  clear h0 hd
  rcases sm_or hm with rfl | ⟨b, rfl⟩ | ⟨i, rfl⟩ | ⟨s, hl, rfl⟩ | ⟨xs, h1, h2, rfl⟩ | ⟨xs, h1, h2, rfl⟩
  · conv => whnf
    exact .now h
  · conv => whnf
    exact .now h
  · conv => whnf
    refine ifB_intro (fun c => ?_) (fun c => ?_)
    · have c : lo ≤ i := of_decide_eq_true c
      conv => whnf
      have e : isInt lo hi (.int i) = decide (i ≤ hi) := by simp [isInt, c]
      rw [e] at h
      exact .now h
    · have c : ¬lo ≤ i := of_decide_eq_false c
      conv => whnf
      have e : isInt lo hi (.int i) = false := by simp [isInt, c]
      rw [e] at h
      exact .now h
  · conv => whnf
    exact .now h
  · conv => whnf
    exact .now h
  · conv => whnf
    exact .now h
theorem v_is_number (ds : List D) (st : Sto) (Q : D → Sto → Prop) (X : EX) (hs : CloS st.length st) (hd : Clos st.length ds) (h0 : L.call "is_number" ds st Q X) : b_is_number.run L ds st (Gc st.length Q) (GcX st.length X) := by
  obtain ⟨d, rfl, hm, h⟩ := (show sNumber ds st Q X from h0)
  clear h0
  conv => whnf
  exact ⟨d, _, _, rfl, hm, .now h⟩
theorem bls_all {α : Type} (p : α → Bool) : ∀ l : List α, ((l.map fun c => D.bl (p c)).all isBlD) = true
  | [] => rfl
  | _ :: l => bls_all p l
theorem bls_val {α : Type} (p : α → Bool) : ∀ l : List α, ((l.map fun c => D.bl (p c)).all blD) = l.all p
  | [] => rfl
  | c :: l => by
    show (p c && (l.map fun c => D.bl (p c)).all blD) = (p c && l.all p)
    rw [bls_val p l]
def sgn (c : Char) : Bool := decide (c ∈ LET.toList) || decide (c ∈ DIG.toList)
theorem okText_eq (s : String) : okText s = (decide (s.length ≤ 12) && s.toList.all sgn) := rfl
theorem v_is_text (ds : List D) (st : Sto) (Q : D → Sto → Prop) (X : EX) (hs : CloS st.length st) (hd : Clos st.length ds) (h0 : L.call "is_text" ds st Q X) : b_is_text.run L ds st (Gc st.length Q) (GcX st.length X) := by
  obtain ⟨d, rfl, ⟨m, hm⟩, h⟩ := (show sText ds st Q X from h0)
  clear h0 hd
  have hz := line_gt
  rcases sm_or hm with rfl | ⟨b, rfl⟩ | ⟨i, rfl⟩ | ⟨s, hl, rfl⟩ | ⟨xs, h1, h2, rfl⟩ | ⟨xs, h1, h2, rfl⟩
  · conv => whnf
    exact .now h
  · conv => whnf
    exact .now h
  · conv => whnf
    exact .now h
  · have h : Q (.bl (okText s)) st := h
    rw [okText_eq] at h
    conv => whnf
    refine ⟨by omega, ?_⟩
    conv => whnf
    refine ifB_intro (fun c => ?_) (fun c => ?_)
    · have c : (12 : Int) < s.length := of_decide_eq_true c
      rw [decide_eq_false (by omega), Bool.false_and] at h
      conv => whnf
      exact .now h
    · have c : ¬ (12 : Int) < s.length := of_decide_eq_false c
      rw [decide_eq_true (by omega), Bool.true_and] at h
      conv => whnf
      refine ⟨by omega, ?_⟩
      have hsz : s.toList.length ≤ 12 := by rw [String.length_toList]; omega
      refine lcGo_ind (f := fun c => D.str (String.ofList [c])) (fun done todo acc st1 => done.length + todo.length ≤ 12 ∧ st1 = st ∧ acc = (done.map fun c => D.bl (sgn c)).reverse) s.toList [] ⟨by simpa using hsz, rfl, rfl⟩ ?_ ?_
      · rintro done x todo acc st1 kk ⟨hk, rfl, rfl⟩ hn
        have next : ∀ b, b = sgn x → ((done.map fun c => D.bl (sgn c)).reverse).length < sizeLine ∧ kk (D.bl b :: (done.map fun c => D.bl (sgn c)).reverse) st1 := fun b e => by
          simp at hk
          refine ⟨by rw [List.length_reverse, List.length_map]; omega, hn _ _ ⟨by simp; omega, rfl, ?_⟩⟩
          rw [List.map_append, List.reverse_append, e]
          rfl
        conv => whnf
        rw [toL]
        conv => whnf
        refine ifB_intro (fun k5 => ?_) (fun k5 => ?_)
        · have k5 : decide (x ∈ LET.toList) = true := by simpa using k5
          conv => whnf
          exact next true (by unfold sgn; rw [k5]; rfl)
        · have k5 : decide (x ∈ LET.toList) = false := by simpa using k5
          conv => whnf
          rw [toL]
          conv => whnf
          exact next _ (by unfold sgn; rw [k5]; simp)
      · rintro acc st1 ⟨_, rfl, rfl⟩
        rw [List.nil_append, List.reverse_reverse]
        conv => whnf
        refine ⟨bls_all _ _, ?_⟩
        rw [bls_val]
        exact .now h
  · conv => whnf
    exact .now h
  · conv => whnf
    exact .now h
theorem at0 {x : D} {xs : List D} : atI (x :: xs) 0 = some x := atI_n (j := 0) rfl
theorem pick_d {xs : List D} {v : Int} {K1 : D → Prop} (h0 : 0 ≤ v) (h1 : v < xs.length) (h : ∀ z ∈ xs, K1 z) : onSome (atI xs v) K1 := by
  obtain ⟨j, rfl⟩ : ∃ j : Nat, v = (j : Int) := ⟨v.toNat, by omega⟩
  have hj : j < xs.length := by omega
  exact onSome_i (a := xs[j]) (atI_n (List.getElem?_eq_getElem hj)) (h _ (List.getElem_mem hj))
theorem dep_pos (e : Ex) : 1 ≤ e.dep := by cases e <;> simp [Ex.dep]
theorem depC_pos (e : Cn) : 1 ≤ e.dep := by cases e <;> simp [Cn.dep]
theorem ltd {P Q : Prop} [Decidable P] [Decidable Q] (h : P ↔ Q) : decide P = decide Q := decide_eq_decide.mpr h
mutual
theorem sm_pure {n : Nat} : ∀ d : D, smB n d = true → D.pure d = true
  | .non, _ => rfl
  | .bl _, _ => rfl
  | .int _, _ => rfl
  | .str _, _ => rfl
  | .tup xs, h => sms_pure xs (Bool.and_eq_true_iff.mp (show (decide (xs.length ≤ n) && smBs n xs) = true from h)).2
  | .lst xs, h => sms_pure xs (Bool.and_eq_true_iff.mp (show (decide (xs.length ≤ n) && smBs n xs) = true from h)).2
  | .loc _, h => nomatch h
  | .gl _, h => nomatch h
  | .ty _, h => nomatch h
  | .scr _, h => nomatch h
  | .kt _, h => nomatch h
theorem sms_pure {n : Nat} : ∀ l : List D, smBs n l = true → D.pures l = true
  | [], _ => rfl
  | x :: xs, h => by
    have h := Bool.and_eq_true_iff.mp (show (smB n x && smBs n xs) = true from h)
    show (D.pure x && D.pures xs) = true
    rw [sm_pure x h.1, sms_pure xs h.2]
    rfl
end
theorem sms_cons {n : Nat} {x : D} {xs : List D} (h : smBs n (x :: xs) = true) : smB n x = true ∧ smBs n xs = true := Bool.and_eq_true_iff.mp (show (smB n x && smBs n xs) = true from h)
theorem kt_any (z : String) : ∀ ys : List String, (ys.any fun w => D.eqv (.str w) (.str z)) = decide (z ∈ ys)
  | [] => rfl
  | y :: ys => by
    show ((y == z) || (ys.any fun w => D.eqv (.str w) (.str z))) = decide (z ∈ y :: ys)
    rw [kt_any z ys]
    by_cases e : y = z
    · subst e; simp
    · have : ¬ z = y := fun x => e x.symm
      simp [e, this]
theorem kind_0 (ks : List String) (d : D) : kindF ks 0 d = none := by cases d <;> rfl
theorem cond_0 (ks : List String) (d : D) : condF ks 0 d = false := by cases d <;> rfl
theorem kind_1 (ks : List String) (l : Nat) (h : String) (x : D) : kindF ks (l + 1) (.tup [.str h, x]) = (if h = "column" then (match x with
      | .int i => if 0 ≤ i ∧ i < ks.length then ks[i.toNat]? else none
      | _ => none)
    else if h = "number" then (if isInt (-2147483648) 2147483647 x = true then some "number" else none)
    else if h = "text" then (if isTxt x = true then some "text" else none) else none) := rfl
theorem kind_3 (ks : List String) (l : Nat) (h z : String) (a b : D) : kindF ks (l + 1) (.tup [.str h, .str z, a, b]) = (if h = "op" ∧ z ∈ RECK ∧ kindF ks l a = some "number" ∧ kindF ks l b = some "number" then some "number" else none) := rfl
/-- what an expression may look like -/
inductive Shp : D → Prop where
  | non : Shp .non
  | bl b : Shp (.bl b)
  | int i : Shp (.int i)
  | str s : Shp (.str s)
  | lst xs : Shp (.lst xs)
  | nil : Shp (.tup [])
  | ot x xs : (∀ s, x ≠ .str s) → x = .non ∨ (∃ b, x = .bl b) ∨ (∃ i, x = .int i) ∨ (∃ ys, x = .tup ys) ∨ (∃ ys, x = .lst ys) → Shp (.tup (x :: xs))
  | h0 h : Shp (.tup [.str h])
  | h1 h x : Shp (.tup [.str h, x])
  | h2 h x y : Shp (.tup [.str h, x, y])
  | h3 h x y z : Shp (.tup [.str h, x, y, z])
  | h4 h x y z w r : Shp (.tup (.str h :: x :: y :: z :: w :: r))
theorem shp {n : Nat} {d : D} (hm : smB n d = true) : Shp d := by
  rcases sm_or hm with rfl | ⟨b, rfl⟩ | ⟨i, rfl⟩ | ⟨s, hl, rfl⟩ | ⟨xs, k1, k2, rfl⟩ | ⟨xs, k1, k2, rfl⟩
  · exact .non
  · exact .bl _
  · exact .int _
  · exact .str _
  · match xs, k2 with
    | [], _ => exact .nil
    | x :: xs, k2 =>
      rcases sm_or (sms_cons k2).1 with rfl | ⟨b, rfl⟩ | ⟨i, rfl⟩ | ⟨s, hl, rfl⟩ | ⟨ys, q1, q2, rfl⟩ | ⟨ys, q1, q2, rfl⟩
      · exact .ot _ _ (fun _ e => nomatch e) (.inl rfl)
      · exact .ot _ _ (fun _ e => nomatch e) (.inr (.inl ⟨_, rfl⟩))
      · exact .ot _ _ (fun _ e => nomatch e) (.inr (.inr (.inl ⟨_, rfl⟩)))
      · match xs with
        | [] => exact .h0 _
        | [_] => exact .h1 _ _
        | [_, _] => exact .h2 _ _ _
        | [_, _, _] => exact .h3 _ _ _ _
        | _ :: _ :: _ :: _ :: _ => exact .h4 _ _ _ _ _ _
      · exact .ot _ _ (fun _ e => nomatch e) (.inr (.inr (.inr (.inl ⟨_, rfl⟩))))
      · exact .ot _ _ (fun _ e => nomatch e) (.inr (.inr (.inr (.inr ⟨_, rfl⟩))))
  · exact .lst _
/-- none of the words -/
theorem kw_no {n l : Nat} {ks : List String} {h : String} {xs : List D} {st : Sto} {P : Post} (c1 : h ≠ "column") (c2 : h ≠ "number") (c3 : h ≠ "text") (c4 : h ≠ "op") (hq : P.rt .non st) :
    wpSs (Lr_kind_within n) (dropS 1 b_kind_within.body) [some (ksD ks), some (.tup (.str h :: xs)), some (.int ((l + 1 : Nat) : Int))] st P := by
  conv => whnf
  refine onSome_i at0 ?_
  conv => whnf
  refine ifB_f (decide_eq_false c1) ?_
  conv => whnf
  refine ⟨?_⟩
  conv => whnf
  refine onSome_i at0 ?_
  conv => whnf
  refine ifB_f (decide_eq_false c2) ?_
  conv => whnf
  refine ⟨?_⟩
  conv => whnf
  refine onSome_i at0 ?_
  conv => whnf
  refine ifB_f (decide_eq_false c3) ?_
  conv => whnf
  refine ⟨?_⟩
  conv => whnf
  refine onSome_i at0 ?_
  conv => whnf
  refine ifB_t (by rw [decide_eq_false c4]; rfl) ?_
  conv => whnf
  refine ⟨?_⟩
  conv => whnf
  exact hq
theorem ix_col {ks : List String} {i : Int} {K1 : D → Prop} (h0 : 0 ≤ i) (h1 : i < ks.length) (h : K1 (kD ks[i.toNat]?)) : onSome (atI (ks.map D.str) i) K1 := by
  obtain ⟨j, rfl⟩ : ∃ j : Nat, i = (j : Int) := ⟨i.toNat, by omega⟩
  have hj : j < ks.length := by omega
  rw [Int.toNat_natCast, List.getElem?_eq_getElem hj] at h
  exact onSome_i (a := .str ks[j]) (atI_n (by rw [List.getElem?_map, List.getElem?_eq_getElem hj]; rfl)) h
theorem v_kind_within (n : Nat) (ds : List D) (st : Sto) (Q : D → Sto → Prop) (X : EX) (hs : CloS st.length st) (hd : Clos st.length ds) (h0 : (Lr_kind_within (n + 1)).call "kind_within" ds st Q X) : b_kind_within.run (Lr_kind_within n) ds st (Gc st.length Q) (GcX st.length X) := by
  obtain ⟨ks, d, left, rfl, ⟨hl, hk, m, hm1, hm⟩, h⟩ := (show sKindW n ds st Q X from h0)
  clear h0 hd
  conv => whnf
  refine ⟨?_⟩
  cases left with
  | zero =>
    rw [kind_0] at h
    conv => whnf
    refine ⟨?_⟩
    conv => whnf
    exact .now h
  | succ l =>
    have hp := sm_pure d hm
    cases shp hm with
    | non =>
      conv => whnf
      refine ⟨?_⟩
      conv => whnf
      exact .now h
    | bl b =>
      conv => whnf
      refine ⟨?_⟩
      conv => whnf
      exact .now h
    | int i =>
      conv => whnf
      refine ⟨?_⟩
      conv => whnf
      exact .now h
    | str s =>
      conv => whnf
      refine ⟨?_⟩
      conv => whnf
      exact .now h
    | lst xs =>
      conv => whnf
      refine ⟨?_⟩
      conv => whnf
      exact .now h
    | nil =>
      conv => whnf
      refine ⟨rfl, ?_⟩
      conv => whnf
      refine ⟨?_⟩
      conv => whnf
      exact .now h
    | ot x xs hx hy =>
      have e : kindF ks (l + 1) (.tup (x :: xs)) = none := by
        rcases hy with rfl | ⟨b, rfl⟩ | ⟨i, rfl⟩ | ⟨ys, rfl⟩ | ⟨ys, rfl⟩ <;> rfl
      rw [e] at h
      conv => whnf
      refine ⟨hp, ?_⟩
      conv => whnf
      refine onSome_i at0 ?_
      rcases hy with rfl | ⟨b, rfl⟩ | ⟨i, rfl⟩ | ⟨ys, rfl⟩ | ⟨ys, rfl⟩
      all_goals
        conv => whnf
        refine ⟨?_⟩
        conv => whnf
        exact .now h
    | h0 w =>
      have e : kindF ks (l + 1) (.tup [.str w]) = none := rfl
      rw [e] at h
      conv => whnf
      refine ⟨hp, ?_⟩
      conv => whnf
      refine ⟨?_⟩
      by_cases c1 : w = "column"
      · subst c1
        conv => whnf
        repeat (refine Stop.mk ?_; conv => whnf)
        exact .now h
      by_cases c2 : w = "number"
      · subst c2
        conv => whnf
        repeat (refine Stop.mk ?_; conv => whnf)
        exact .now h
      by_cases c3 : w = "text"
      · subst c3
        conv => whnf
        repeat (refine Stop.mk ?_; conv => whnf)
        exact .now h
      by_cases c4 : w = "op"
      · subst c4
        conv => whnf
        repeat (refine Stop.mk ?_; conv => whnf)
        exact .now h
      exact kw_no c1 c2 c3 c4 (.now h)
    | h1 w x =>
      rw [kind_1] at h
      have hx := (sms_cons (sms_cons (Bool.and_eq_true_iff.mp (show (decide (2 ≤ m) && smBs m [.str w, x]) = true from hm)).2).2).1
      conv => whnf
      refine ⟨hp, ?_⟩
      conv => whnf
      refine ⟨?_⟩
      by_cases c1 : w = "column"
      · subst c1
        rw [if_pos rfl] at h
        rcases sm_or hx with rfl | ⟨b, rfl⟩ | ⟨i, rfl⟩ | ⟨s, hl, rfl⟩ | ⟨xs, k1, k2, rfl⟩ | ⟨xs, k1, k2, rfl⟩
        · conv => whnf
          repeat (refine Stop.mk ?_; conv => whnf)
          exact .now h
        · conv => whnf
          repeat (refine Stop.mk ?_; conv => whnf)
          exact .now h
        · conv => whnf
          repeat (refine Stop.mk ?_; conv => whnf)
          have e2 : ((ks.map D.str).length : Int) = ks.length := by rw [List.length_map]
          refine ifB_intro (fun c => ?_) (fun c => ?_)
          · have c : (0 : Int) ≤ i := of_decide_eq_true c
            conv => whnf
            refine ifB_intro (fun c2 => ?_) (fun c2 => ?_)
            · have c2 : i < ((ks.map D.str).length : Int) := of_decide_eq_true c2
              rw [e2] at c2
              have h : Q (kD (if 0 ≤ i ∧ i < ks.length then ks[i.toNat]? else none)) st := h
              rw [if_pos ⟨c, c2⟩] at h
              conv => whnf
              repeat (refine Stop.mk ?_; conv => whnf)
              refine ix_col c c2 ?_
              exact .now h
            · have c2 : ¬ i < ((ks.map D.str).length : Int) := of_decide_eq_false c2
              rw [e2] at c2
              have h : Q (kD (if 0 ≤ i ∧ i < ks.length then ks[i.toNat]? else none)) st := h
              rw [if_neg (fun z => c2 z.2)] at h
              conv => whnf
              repeat (refine Stop.mk ?_; conv => whnf)
              exact .now h
          · have c : ¬ (0 : Int) ≤ i := of_decide_eq_false c
            have h : Q (kD (if 0 ≤ i ∧ i < ks.length then ks[i.toNat]? else none)) st := h
            rw [if_neg (fun z => c z.1)] at h
            conv => whnf
            repeat (refine Stop.mk ?_; conv => whnf)
            exact .now h
        · conv => whnf
          repeat (refine Stop.mk ?_; conv => whnf)
          exact .now h
        · conv => whnf
          repeat (refine Stop.mk ?_; conv => whnf)
          exact .now h
        · conv => whnf
          repeat (refine Stop.mk ?_; conv => whnf)
          exact .now h
      rw [if_neg c1] at h
      by_cases c2 : w = "number"
      · subst c2
        rw [if_pos rfl] at h
        conv => whnf
        repeat (refine Stop.mk ?_; conv => whnf)
        refine ⟨x, rfl, ⟨m, hx⟩, ?_⟩
        cases e : isInt (-2147483648) 2147483647 x with
        | true =>
          rw [if_pos e] at h
          conv => whnf
          repeat (refine Stop.mk ?_; conv => whnf)
          exact .now h
        | false =>
          rw [if_neg (by rw [e]; decide)] at h
          conv => whnf
          repeat (refine Stop.mk ?_; conv => whnf)
          exact .now h
      rw [if_neg c2] at h
      by_cases c3 : w = "text"
      · subst c3
        rw [if_pos rfl] at h
        conv => whnf
        repeat (refine Stop.mk ?_; conv => whnf)
        refine ⟨x, rfl, ⟨m, hx⟩, ?_⟩
        cases e : isTxt x with
        | true =>
          rw [if_pos e] at h
          conv => whnf
          repeat (refine Stop.mk ?_; conv => whnf)
          exact .now h
        | false =>
          rw [if_neg (by rw [e]; decide)] at h
          conv => whnf
          repeat (refine Stop.mk ?_; conv => whnf)
          exact .now h
      rw [if_neg c3] at h
      by_cases c4 : w = "op"
      · subst c4
        conv => whnf
        repeat (refine Stop.mk ?_; conv => whnf)
        exact .now h
      exact kw_no c1 c2 c3 c4 (.now h)
    | h2 w x y =>
      have e : kindF ks (l + 1) (.tup [.str w, x, y]) = none := rfl
      rw [e] at h
      conv => whnf
      refine ⟨hp, ?_⟩
      conv => whnf
      refine ⟨?_⟩
      by_cases c1 : w = "column"
      · subst c1
        conv => whnf
        repeat (refine Stop.mk ?_; conv => whnf)
        exact .now h
      by_cases c2 : w = "number"
      · subst c2
        conv => whnf
        repeat (refine Stop.mk ?_; conv => whnf)
        exact .now h
      by_cases c3 : w = "text"
      · subst c3
        conv => whnf
        repeat (refine Stop.mk ?_; conv => whnf)
        exact .now h
      by_cases c4 : w = "op"
      · subst c4
        conv => whnf
        repeat (refine Stop.mk ?_; conv => whnf)
        exact .now h
      exact kw_no c1 c2 c3 c4 (.now h)
    | h3 w x a b =>
      have hx := sms_cons (sms_cons (Bool.and_eq_true_iff.mp (show (decide (4 ≤ m) && smBs m [.str w, x, a, b]) = true from hm)).2).2
      have ha := (sms_cons hx.2).1
      have hb := (sms_cons (sms_cons hx.2).2).1
      have hx := hx.1
      conv => whnf
      refine ⟨hp, ?_⟩
      conv => whnf
      refine ⟨?_⟩
      by_cases c4 : w = "op"
      · subst c4
        rcases sm_or hx with rfl | ⟨b, rfl⟩ | ⟨i, rfl⟩ | ⟨z, hl, rfl⟩ | ⟨xs, k1, k2, rfl⟩ | ⟨xs, k1, k2, rfl⟩
        · conv => whnf
          repeat (refine Stop.mk ?_; conv => whnf)
          exact .now h
        · conv => whnf
          repeat (refine Stop.mk ?_; conv => whnf)
          exact .now h
        · conv => whnf
          repeat (refine Stop.mk ?_; conv => whnf)
          exact .now h
        · rw [kind_3] at h
          conv => whnf
          repeat (refine Stop.mk ?_; conv => whnf)
          refine ⟨rfl, ?_⟩
          refine ifB_intro (fun c => ?_) (fun c => ?_)
          · have c : (true != RECK.any fun w => D.eqv (.str w) (.str z)) = true := c
            rw [kt_any] at c
            rw [if_neg (fun y => by rw [decide_eq_true y.2.1] at c; cases c)] at h
            conv => whnf
            repeat (refine Stop.mk ?_; conv => whnf)
            exact .now h
          · have c : (true != RECK.any fun w => D.eqv (.str w) (.str z)) = false := c
            rw [kt_any] at c
            have hz : z ∈ RECK := by
              by_cases q : z ∈ RECK
              · exact q
              · rw [decide_eq_false q] at c; cases c
            obtain ⟨n, rfl⟩ : ∃ k, n = k + 1 := ⟨n - 1, by omega⟩
            conv => whnf
            repeat (refine Stop.mk ?_; conv => whnf)
            refine ⟨ks, a, l, congrArg (fun z => [ksD ks, a, D.int z]) (show ((l + 1 : Nat) : Int) - 1 = l by omega), ⟨by omega, hk, m, hm1, ha⟩, ?_⟩
            cases ea : kindF ks l a with
            | none =>
              rw [if_neg (fun y => by rw [ea] at y; exact absurd y.2.2.1 (by decide))] at h
              conv => whnf
              refine ⟨⟨rfl, rfl⟩, ?_⟩
              conv => whnf
              repeat (refine Stop.mk ?_; conv => whnf)
              exact .now h
            | some k =>
              conv => whnf
              refine ifB_intro (fun c => ?_) (fun c => ?_)
              · have c : k = "number" := of_decide_eq_true c
                subst c
                conv => whnf
                refine ⟨ks, b, l, congrArg (fun z => [ksD ks, b, D.int z]) (show ((l + 1 : Nat) : Int) - 1 = l by omega), ⟨by omega, hk, m, hm1, hb⟩, ?_⟩
                cases eb : kindF ks l b with
                | none =>
                  rw [if_neg (fun y => by rw [eb] at y; exact absurd y.2.2.2 (by decide))] at h
                  conv => whnf
                  refine ⟨⟨rfl, rfl⟩, ?_⟩
                  conv => whnf
                  repeat (refine Stop.mk ?_; conv => whnf)
                  exact .now h
                | some k =>
                  conv => whnf
                  refine ifB_intro (fun c => ?_) (fun c => ?_)
                  · have c : k = "number" := of_decide_eq_true c
                    subst c
                    rw [if_pos ⟨rfl, hz, ea, eb⟩] at h
                    conv => whnf
                    repeat (refine Stop.mk ?_; conv => whnf)
                    exact .now h
                  · have c : k ≠ "number" := of_decide_eq_false c
                    rw [if_neg (fun y => by rw [eb] at y; exact c (Option.some.inj y.2.2.2))] at h
                    conv => whnf
                    repeat (refine Stop.mk ?_; conv => whnf)
                    exact .now h
              · have c : k ≠ "number" := of_decide_eq_false c
                rw [if_neg (fun y => by rw [ea] at y; exact c (Option.some.inj y.2.2.1))] at h
                conv => whnf
                repeat (refine Stop.mk ?_; conv => whnf)
                exact .now h
        · conv => whnf
          repeat (refine Stop.mk ?_; conv => whnf)
          exact .now h
        · conv => whnf
          repeat (refine Stop.mk ?_; conv => whnf)
          exact .now h
      have e : kindF ks (l + 1) (.tup [.str w, x, a, b]) = none := by
        rcases sm_or hx with rfl | ⟨b, rfl⟩ | ⟨i, rfl⟩ | ⟨z, hl, rfl⟩ | ⟨xs, k1, k2, rfl⟩ | ⟨xs, k1, k2, rfl⟩
        · rfl
        · rfl
        · rfl
        · rw [kind_3, if_neg (fun y => c4 y.1)]
        · rfl
        · rfl
      rw [e] at h
      by_cases c1 : w = "column"
      · subst c1
        conv => whnf
        repeat (refine Stop.mk ?_; conv => whnf)
        exact .now h
      by_cases c2 : w = "number"
      · subst c2
        conv => whnf
        repeat (refine Stop.mk ?_; conv => whnf)
        exact .now h
      by_cases c3 : w = "text"
      · subst c3
        conv => whnf
        repeat (refine Stop.mk ?_; conv => whnf)
        exact .now h
      exact kw_no c1 c2 c3 c4 (.now h)
    | h4 w x y z v r =>
      have e : kindF ks (l + 1) (.tup (.str w :: x :: y :: z :: v :: r)) = none := by
        cases x <;> rfl
      rw [e] at h
      conv => whnf
      refine ⟨hp, ?_⟩
      conv => whnf
      refine onSome_i at0 ?_
      conv => whnf
      refine ⟨?_⟩
      by_cases c1 : w = "column"
      · subst c1
        conv => whnf
        repeat first | (refine onSome_i at0 ?_; conv => whnf) | (refine Stop.mk ?_; conv => whnf)
        exact .now h
      by_cases c2 : w = "number"
      · subst c2
        conv => whnf
        repeat first | (refine onSome_i at0 ?_; conv => whnf) | (refine Stop.mk ?_; conv => whnf)
        exact .now h
      by_cases c3 : w = "text"
      · subst c3
        conv => whnf
        repeat first | (refine onSome_i at0 ?_; conv => whnf) | (refine Stop.mk ?_; conv => whnf)
        exact .now h
      by_cases c4 : w = "op"
      · subst c4
        conv => whnf
        repeat first | (refine onSome_i at0 ?_; conv => whnf) | (refine Stop.mk ?_; conv => whnf)
        exact .now h
      exact kw_no c1 c2 c3 c4 (.now h)
theorem v_kind_of (ds : List D) (st : Sto) (Q : D → Sto → Prop) (X : EX) (hs : CloS st.length st) (hd : Clos st.length ds) (h0 : L.call "kind_of" ds st Q X) : b_kind_of.run L ds st (Gc st.length Q) (GcX st.length X) := by
  obtain ⟨ks, d, rfl, ⟨hk, hm⟩, h⟩ := (show sKindOf ds st Q X from h0)
  clear h0 hd
  conv => whnf
  exact ⟨ks, d, 100, rfl, ⟨by decide, hk, hm⟩, .now h⟩
theorem cond_1 (ks : List String) (l : Nat) (h : String) (a : D) : condF ks (l + 1) (.tup [.str h, a]) = (decide (h = "not") && condF ks l a) := rfl
theorem cond_2 (ks : List String) (l : Nat) (h : String) (a b : D) : condF ks (l + 1) (.tup [.str h, a, b]) = ((decide (h = "and") || decide (h = "or")) && (condF ks l a && condF ks l b)) := rfl
theorem cond_3 (ks : List String) (l : Nat) (h z : String) (a b : D) : condF ks (l + 1) (.tup [.str h, .str z, a, b]) = (decide (h = "compare") && (decide (z ∈ COMP) && (match kindF ks l a with
    | some k => decide (kindF ks l b = some k)
    | none => false))) := rfl
theorem wn_no {n l : Nat} {ks : List String} {h : String} {xs : List D} {st : Sto} {P : Post} {e3 : Option D} (c1 : h ≠ "true") (c2 : h ≠ "not") (c3 : h ≠ "and") (c4 : h ≠ "or") (c5 : h ≠ "compare") (hq : P.rt (.bl false) st) :
    wpSs (Lr_is_within n) (dropS 1 b_is_within.body) [some (ksD ks), some (.tup (.str h :: xs)), some (.int ((l + 1 : Nat) : Int)), e3] st P := by
  have hz := line_gt
  conv => whnf
  refine onSome_i at0 ?_
  conv => whnf
  refine ifB_f (decide_eq_false c1) ?_
  conv => whnf
  refine ⟨?_⟩
  conv => whnf
  refine onSome_i at0 ?_
  conv => whnf
  refine ifB_f (decide_eq_false c2) ?_
  conv => whnf
  refine ⟨?_⟩
  conv => whnf
  refine onSome_i at0 ?_
  conv => whnf
  refine ⟨(show 2 ≤ sizeLine by omega), ?_⟩
  conv => whnf
  refine ⟨⟨rfl, rfl⟩, ?_⟩
  have e : (false != [D.str "and", D.str "or"].any fun z => D.eqv z (.str h)) = false := by
    have : ("and" == h) = false := beq_eq_false_iff_ne.mpr fun e => c3 e.symm
    have t : ("or" == h) = false := beq_eq_false_iff_ne.mpr fun e => c4 e.symm
    show (false != (("and" == h) || (("or" == h) || false))) = false
    rw [this, t]
    rfl
  refine ifB_f e ?_
  conv => whnf
  refine ⟨?_⟩
  conv => whnf
  refine onSome_i at0 ?_
  conv => whnf
  refine ifB_t (by rw [decide_eq_false c5]; rfl) ?_
  conv => whnf
  refine ⟨?_⟩
  conv => whnf
  exact hq
theorem v_is_within (n : Nat) (ds : List D) (st : Sto) (Q : D → Sto → Prop) (X : EX) (hs : CloS st.length st) (hd : Clos st.length ds) (h0 : (Lr_is_within (n + 1)).call "is_within" ds st Q X) : b_is_within.run (Lr_is_within n) ds st (Gc st.length Q) (GcX st.length X) := by
  obtain ⟨ks, d, left, rfl, ⟨hl, hl2, hk, m, hm1, hm⟩, h⟩ := (show sWithin n ds st Q X from h0)
  clear h0 hd
  have hz := line_gt
  have h2 : 2 ≤ sizeLine := by omega
  conv => whnf
  refine ⟨?_⟩
  cases left with
  | zero =>
    rw [cond_0] at h
    conv => whnf
    refine ⟨?_⟩
    conv => whnf
    exact .now h
  | succ l =>
    have hp := sm_pure d hm
    have lm : ∀ x : D, [ksD ks, x, D.int (((l + 1 : Nat) : Int) - 1)] = [ksD ks, x, D.int (l : Int)] := fun x => congrArg (fun z => [ksD ks, x, D.int z]) (show ((l + 1 : Nat) : Int) - 1 = l by omega)
    cases shp hm with
    | non =>
      conv => whnf
      refine ⟨?_⟩
      conv => whnf
      exact .now h
    | bl b =>
      conv => whnf
      refine ⟨?_⟩
      conv => whnf
      exact .now h
    | int i =>
      conv => whnf
      refine ⟨?_⟩
      conv => whnf
      exact .now h
    | str s =>
      conv => whnf
      refine ⟨?_⟩
      conv => whnf
      exact .now h
    | lst xs =>
      conv => whnf
      refine ⟨?_⟩
      conv => whnf
      exact .now h
    | nil =>
      conv => whnf
      refine ⟨rfl, ?_⟩
      conv => whnf
      refine ⟨?_⟩
      conv => whnf
      exact .now h
    | ot x xs hx hy =>
      have e : condF ks (l + 1) (.tup (x :: xs)) = false := by
        rcases hy with rfl | ⟨b, rfl⟩ | ⟨i, rfl⟩ | ⟨ys, rfl⟩ | ⟨ys, rfl⟩ <;> rfl
      rw [e] at h
      conv => whnf
      refine ⟨hp, ?_⟩
      conv => whnf
      refine onSome_i at0 ?_
      rcases hy with rfl | ⟨b, rfl⟩ | ⟨i, rfl⟩ | ⟨ys, rfl⟩ | ⟨ys, rfl⟩
      all_goals
        conv => whnf
        refine ⟨?_⟩
        conv => whnf
        exact .now h
    | h0 w =>
      have h : Q (.bl (decide (w = "true"))) st := h
      conv => whnf
      refine ⟨hp, ?_⟩
      conv => whnf
      refine ⟨?_⟩
      by_cases c1 : w = "true"
      · subst c1
        conv => whnf
        repeat (refine Stop.mk ?_; conv => whnf)
        exact .now h
      rw [decide_eq_false c1] at h
      by_cases c2 : w = "not"
      · subst c2
        conv => whnf
        repeat (refine Stop.mk ?_; conv => whnf)
        exact .now h
      by_cases c3 : w = "and"
      · subst c3
        conv => whnf
        repeat first | (refine Stop.mk ?_; conv => whnf) | (refine ⟨h2, ?_⟩; conv => whnf) | (refine ⟨⟨rfl, rfl⟩, ?_⟩; conv => whnf)
        exact .now h
      by_cases c4 : w = "or"
      · subst c4
        conv => whnf
        repeat first | (refine Stop.mk ?_; conv => whnf) | (refine ⟨h2, ?_⟩; conv => whnf) | (refine ⟨⟨rfl, rfl⟩, ?_⟩; conv => whnf)
        exact .now h
      by_cases c5 : w = "compare"
      · subst c5
        conv => whnf
        repeat first | (refine Stop.mk ?_; conv => whnf) | (refine ⟨h2, ?_⟩; conv => whnf) | (refine ⟨⟨rfl, rfl⟩, ?_⟩; conv => whnf)
        exact .now h
      exact wn_no c1 c2 c3 c4 c5 (.now h)
    | h1 w x =>
      rw [cond_1] at h
      have hx := (sms_cons (sms_cons (Bool.and_eq_true_iff.mp (show (decide (2 ≤ m) && smBs m [.str w, x]) = true from hm)).2).2).1
      conv => whnf
      refine ⟨hp, ?_⟩
      conv => whnf
      refine ⟨?_⟩
      by_cases c2 : w = "not"
      · subst c2
        rw [decide_eq_true rfl, Bool.true_and] at h
        obtain ⟨n, rfl⟩ : ∃ k, n = k + 1 := ⟨n - 1, by omega⟩
        conv => whnf
        repeat (refine Stop.mk ?_; conv => whnf)
        exact ⟨ks, x, l, lm x, ⟨by omega, by omega, hk, m, hm1, hx⟩, .now h⟩
      rw [decide_eq_false c2, Bool.false_and] at h
      by_cases c1 : w = "true"
      · subst c1
        conv => whnf
        repeat (refine Stop.mk ?_; conv => whnf)
        exact .now h
      by_cases c3 : w = "and"
      · subst c3
        conv => whnf
        repeat first | (refine Stop.mk ?_; conv => whnf) | (refine ⟨h2, ?_⟩; conv => whnf) | (refine ⟨⟨rfl, rfl⟩, ?_⟩; conv => whnf)
        exact .now h
      by_cases c4 : w = "or"
      · subst c4
        conv => whnf
        repeat first | (refine Stop.mk ?_; conv => whnf) | (refine ⟨h2, ?_⟩; conv => whnf) | (refine ⟨⟨rfl, rfl⟩, ?_⟩; conv => whnf)
        exact .now h
      by_cases c5 : w = "compare"
      · subst c5
        conv => whnf
        repeat first | (refine Stop.mk ?_; conv => whnf) | (refine ⟨h2, ?_⟩; conv => whnf) | (refine ⟨⟨rfl, rfl⟩, ?_⟩; conv => whnf)
        exact .now h
      exact wn_no c1 c2 c3 c4 c5 (.now h)
    | h2 w x y =>
      rw [cond_2] at h
      have hx := sms_cons (sms_cons (Bool.and_eq_true_iff.mp (show (decide (3 ≤ m) && smBs m [.str w, x, y]) = true from hm)).2).2
      have hy := (sms_cons hx.2).1
      have hx := hx.1
      conv => whnf
      refine ⟨hp, ?_⟩
      conv => whnf
      refine ⟨?_⟩
      by_cases c3 : w = "and"
      · subst c3
        have h : Q (.bl (condF ks l x && condF ks l y)) st := by simpa using h
        obtain ⟨n, rfl⟩ : ∃ k, n = k + 1 := ⟨n - 1, by omega⟩
        conv => whnf
        repeat first | (refine Stop.mk ?_; conv => whnf) | (refine ⟨h2, ?_⟩; conv => whnf) | (refine ⟨⟨rfl, rfl⟩, ?_⟩; conv => whnf)
        refine ⟨ks, x, l, lm x, ⟨by omega, by omega, hk, m, hm1, hx⟩, ?_⟩
        cases ea : condF ks l x with
        | true =>
          rw [ea, Bool.true_and] at h
          conv => whnf
          exact ⟨ks, y, l, lm y, ⟨by omega, by omega, hk, m, hm1, hy⟩, .now h⟩
        | false =>
          rw [ea, Bool.false_and] at h
          conv => whnf
          exact .now h
      by_cases c4 : w = "or"
      · subst c4
        have h : Q (.bl (condF ks l x && condF ks l y)) st := by simpa using h
        obtain ⟨n, rfl⟩ : ∃ k, n = k + 1 := ⟨n - 1, by omega⟩
        conv => whnf
        repeat first | (refine Stop.mk ?_; conv => whnf) | (refine ⟨h2, ?_⟩; conv => whnf) | (refine ⟨⟨rfl, rfl⟩, ?_⟩; conv => whnf)
        refine ⟨ks, x, l, lm x, ⟨by omega, by omega, hk, m, hm1, hx⟩, ?_⟩
        cases ea : condF ks l x with
        | true =>
          rw [ea, Bool.true_and] at h
          conv => whnf
          exact ⟨ks, y, l, lm y, ⟨by omega, by omega, hk, m, hm1, hy⟩, .now h⟩
        | false =>
          rw [ea, Bool.false_and] at h
          conv => whnf
          exact .now h
      rw [decide_eq_false c3, decide_eq_false c4, Bool.or_false, Bool.false_and] at h
      by_cases c1 : w = "true"
      · subst c1
        conv => whnf
        repeat (refine Stop.mk ?_; conv => whnf)
        exact .now h
      by_cases c2 : w = "not"
      · subst c2
        conv => whnf
        repeat (refine Stop.mk ?_; conv => whnf)
        exact .now h
      by_cases c5 : w = "compare"
      · subst c5
        conv => whnf
        repeat first | (refine Stop.mk ?_; conv => whnf) | (refine ⟨h2, ?_⟩; conv => whnf) | (refine ⟨⟨rfl, rfl⟩, ?_⟩; conv => whnf)
        exact .now h
      exact wn_no c1 c2 c3 c4 c5 (.now h)
    | h3 w x a b =>
      have hx := sms_cons (sms_cons (Bool.and_eq_true_iff.mp (show (decide (4 ≤ m) && smBs m [.str w, x, a, b]) = true from hm)).2).2
      have ha := (sms_cons hx.2).1
      have hb := (sms_cons (sms_cons hx.2).2).1
      have hx := hx.1
      conv => whnf
      refine ⟨hp, ?_⟩
      conv => whnf
      refine ⟨?_⟩
      by_cases c5 : w = "compare"
      · subst c5
        conv => whnf
        repeat first | (refine Stop.mk ?_; conv => whnf) | (refine ⟨h2, ?_⟩; conv => whnf) | (refine ⟨⟨rfl, rfl⟩, ?_⟩; conv => whnf)
        rcases sm_or hx with rfl | ⟨b, rfl⟩ | ⟨i, rfl⟩ | ⟨z, hl, rfl⟩ | ⟨xs, k1, k2, rfl⟩ | ⟨xs, k1, k2, rfl⟩
        · conv => whnf
          repeat (refine Stop.mk ?_; conv => whnf)
          exact .now h
        · conv => whnf
          repeat (refine Stop.mk ?_; conv => whnf)
          exact .now h
        · conv => whnf
          repeat (refine Stop.mk ?_; conv => whnf)
          exact .now h
        · rw [cond_3, decide_eq_true rfl, Bool.true_and] at h
          conv => whnf
          repeat (refine Stop.mk ?_; conv => whnf)
          refine ⟨rfl, ?_⟩
          refine ifB_intro (fun c => ?_) (fun c => ?_)
          · have c : (true != COMP.any fun w => D.eqv (.str w) (.str z)) = true := c
            rw [kt_any] at c
            have hz : decide (z ∈ COMP) = false := by
              cases q : decide (z ∈ COMP) with
              | true => rw [q] at c; cases c
              | false => rfl
            rw [hz, Bool.false_and] at h
            conv => whnf
            repeat (refine Stop.mk ?_; conv => whnf)
            exact .now h
          · have c : (true != COMP.any fun w => D.eqv (.str w) (.str z)) = false := c
            rw [kt_any] at c
            have hz : decide (z ∈ COMP) = true := by
              cases q : decide (z ∈ COMP) with
              | false => rw [q] at c; cases c
              | true => rfl
            rw [hz, Bool.true_and] at h
            conv => whnf
            repeat (refine Stop.mk ?_; conv => whnf)
            refine ⟨ks, a, l, lm a, ⟨(show l ≤ 100 by omega), hk, m, hm1, ha⟩, ?_⟩
            cases ea : kindF ks l a with
            | none =>
              rw [ea] at h
              conv => whnf
              repeat (refine Stop.mk ?_; conv => whnf)
              exact .now h
            | some k =>
              rw [ea] at h
              have h : Q (.bl (decide (kindF ks l b = some k))) st := h
              conv => whnf
              repeat (refine Stop.mk ?_; conv => whnf)
              refine ⟨ks, b, l, lm b, ⟨(show l ≤ 100 by omega), hk, m, hm1, hb⟩, ?_⟩
              cases eb : kindF ks l b with
              | none =>
                rw [eb, decide_eq_false (by simp)] at h
                conv => whnf
                refine ⟨⟨rfl, rfl⟩, ?_⟩
                exact .now h
              | some k2 =>
                rw [eb] at h
                conv => whnf
                have e : decide (some k2 = some k) = decide (k2 = k) := ltd ⟨fun z => Option.some.inj z, fun z => by rw [z]⟩
                rw [e] at h
                exact .now h
        · conv => whnf
          repeat (refine Stop.mk ?_; conv => whnf)
          exact .now h
        · conv => whnf
          repeat (refine Stop.mk ?_; conv => whnf)
          exact .now h
      have e : condF ks (l + 1) (.tup [.str w, x, a, b]) = false := by
        rcases sm_or hx with rfl | ⟨b, rfl⟩ | ⟨i, rfl⟩ | ⟨z, hl, rfl⟩ | ⟨xs, k1, k2, rfl⟩ | ⟨xs, k1, k2, rfl⟩
        · rfl
        · rfl
        · rfl
        · rw [cond_3, decide_eq_false c5, Bool.false_and]
        · rfl
        · rfl
      rw [e] at h
      by_cases c1 : w = "true"
      · subst c1
        conv => whnf
        repeat (refine Stop.mk ?_; conv => whnf)
        exact .now h
      by_cases c2 : w = "not"
      · subst c2
        conv => whnf
        repeat (refine Stop.mk ?_; conv => whnf)
        exact .now h
      by_cases c3 : w = "and"
      · subst c3
        conv => whnf
        repeat first | (refine Stop.mk ?_; conv => whnf) | (refine ⟨h2, ?_⟩; conv => whnf) | (refine ⟨⟨rfl, rfl⟩, ?_⟩; conv => whnf)
        exact .now h
      by_cases c4 : w = "or"
      · subst c4
        conv => whnf
        repeat first | (refine Stop.mk ?_; conv => whnf) | (refine ⟨h2, ?_⟩; conv => whnf) | (refine ⟨⟨rfl, rfl⟩, ?_⟩; conv => whnf)
        exact .now h
      exact wn_no c1 c2 c3 c4 c5 (.now h)
    | h4 w x y z v r =>
      have e : condF ks (l + 1) (.tup (.str w :: x :: y :: z :: v :: r)) = false := by
        cases x <;> rfl
      rw [e] at h
      conv => whnf
      refine ⟨hp, ?_⟩
      conv => whnf
      refine onSome_i at0 ?_
      conv => whnf
      refine ⟨?_⟩
      by_cases c1 : w = "true"
      · subst c1
        conv => whnf
        repeat first | (refine onSome_i at0 ?_; conv => whnf) | (refine Stop.mk ?_; conv => whnf)
        exact .now h
      by_cases c2 : w = "not"
      · subst c2
        conv => whnf
        repeat first | (refine onSome_i at0 ?_; conv => whnf) | (refine Stop.mk ?_; conv => whnf)
        exact .now h
      by_cases c3 : w = "and"
      · subst c3
        conv => whnf
        repeat first | (refine onSome_i at0 ?_; conv => whnf) | (refine Stop.mk ?_; conv => whnf) | (refine ⟨h2, ?_⟩; conv => whnf) | (refine ⟨⟨rfl, rfl⟩, ?_⟩; conv => whnf)
        exact .now h
      by_cases c4 : w = "or"
      · subst c4
        conv => whnf
        repeat first | (refine onSome_i at0 ?_; conv => whnf) | (refine Stop.mk ?_; conv => whnf) | (refine ⟨h2, ?_⟩; conv => whnf) | (refine ⟨⟨rfl, rfl⟩, ?_⟩; conv => whnf)
        exact .now h
      by_cases c5 : w = "compare"
      · subst c5
        conv => whnf
        repeat first | (refine onSome_i at0 ?_; conv => whnf) | (refine Stop.mk ?_; conv => whnf) | (refine ⟨h2, ?_⟩; conv => whnf) | (refine ⟨⟨rfl, rfl⟩, ?_⟩; conv => whnf)
        exact .now h
      exact wn_no c1 c2 c3 c4 c5 (.now h)
theorem v_is_condition (ds : List D) (st : Sto) (Q : D → Sto → Prop) (X : EX) (hs : CloS st.length st) (hd : Clos st.length ds) (h0 : L.call "is_condition" ds st Q X) : b_is_condition.run L ds st (Gc st.length Q) (GcX st.length X) := by
  obtain ⟨ks, d, rfl, ⟨hk, hm⟩, h⟩ := (show sIsCond ds st Q X from h0)
  clear h0 hd
  conv => whnf
  exact ⟨ks, d, 100, rfl, ⟨by decide, by decide, hk, hm⟩, .now h⟩
theorem v_inner (ds : List D) (st : Sto) (Q : D → Sto → Prop) (X : EX) (hs : CloS st.length st) (hd : Clos st.length ds) (h0 : L.call "inner" ds st Q X) : b_inner.run L ds st (Gc st.length Q) (GcX st.length X) := by
  obtain ⟨x, rfl, h⟩ := (show sInner ds st Q X from h0)
  clear h0 hd
  have hz := line_gt
  have h2 : 2 ≤ sizeLine := by omega
  have h3 : 3 ≤ sizeLine := by omega
  have h0 : 0 ≤ sizeLine := by omega
  rcases x with (j | i | s | ⟨z, a, b⟩) | (⟨z, a, b⟩ | ⟨k, a, b⟩ | a | _)
  case c.con =>
    cases k
    all_goals
      conv => whnf
      repeat first | (refine ⟨h2, ?_⟩; conv => whnf) | (refine ⟨h3, ?_⟩; conv => whnf) | (refine ⟨⟨rfl, rfl⟩, ?_⟩; conv => whnf)
      exact .now h
  all_goals
    conv => whnf
    repeat first | (refine ⟨h2, ?_⟩; conv => whnf) | (refine ⟨h3, ?_⟩; conv => whnf) | (refine ⟨⟨rfl, rfl⟩, ?_⟩; conv => whnf)
    first | exact .now h | exact ⟨h0, .now h⟩
theorem pures_of {l : List D} (h : ∀ d ∈ l, D.pure d = true) : D.pures l = true := by
  induction l with
  | nil => rfl
  | cons x l ih =>
    show (D.pure x && D.pures l) = true
    rw [h x (by simp), ih fun d m => h d (by simp [m])]
    rfl
theorem depths_of {l : List D} {n : Nat} (h : ∀ d ∈ l, D.depth d ≤ n) : D.depths l ≤ n := by
  induction l with
  | nil => exact Nat.zero_le _
  | cons x l ih =>
    show max (D.depth x) (D.depths l) ≤ n
    have := h x (by simp)
    have := ih fun d m => h d (by simp [m])
    omega
theorem lst_cmp {l : List D} {n : Nat} (hn : n ≤ 50) (h1 : ∀ d ∈ l, D.pure d = true) (h2 : ∀ d ∈ l, D.depth d ≤ n) : cmpD (.lst l) = true := by
  unfold cmpD
  rw [show D.pure (.lst l) = D.pures l from rfl, pures_of h1, Bool.true_and]
  refine decide_eq_true ?_
  show D.depths l + 1 ≤ 60
  have := depths_of h2
  omega
theorem sms_iff {n : Nat} : ∀ {l : List D}, smBs n l = true ↔ ∀ d ∈ l, smB n d = true
  | [] => ⟨fun _ _ m => absurd m (by simp), fun _ => rfl⟩
  | x :: l => by
    show (smB n x && smBs n l) = true ↔ _
    rw [Bool.and_eq_true, sms_iff (l := l)]
    simp
mutual
theorem sm_mono {n m : Nat} (h : n ≤ m) : ∀ d : D, smB n d = true → smB m d = true
  | .non, _ => rfl
  | .bl _, _ => rfl
  | .int _, _ => rfl
  | .str _, q => q
  | .tup xs, q => by
    have q := Bool.and_eq_true_iff.mp (show (decide (xs.length ≤ n) && smBs n xs) = true from q)
    have := of_decide_eq_true q.1
    show (decide (xs.length ≤ m) && smBs m xs) = true
    rw [decide_eq_true (by omega), sms_mono h xs q.2]
    rfl
  | .lst xs, q => by
    have q := Bool.and_eq_true_iff.mp (show (decide (xs.length ≤ n) && smBs n xs) = true from q)
    have := of_decide_eq_true q.1
    show (decide (xs.length ≤ m) && smBs m xs) = true
    rw [decide_eq_true (by omega), sms_mono h xs q.2]
    rfl
  | .loc _, q => nomatch q
  | .gl _, q => nomatch q
  | .ty _, q => nomatch q
  | .scr _, q => nomatch q
  | .kt _, q => nomatch q
theorem sms_mono {n m : Nat} (h : n ≤ m) : ∀ l : List D, smBs n l = true → smBs m l = true
  | [], _ => rfl
  | x :: l, q => by
    have q := sms_cons q
    show (smB m x && smBs m l) = true
    rw [sm_mono h x q.1, sms_mono h l q.2]
    rfl
end
theorem cut_len {α : Type} (xs : List α) (lo hi : Option Int) : (DL.cutD xs lo hi).length ≤ xs.length := by
  unfold DL.cutD
  rw [List.length_take, List.length_drop]
  omega
theorem cut_mem {α : Type} {xs : List α} {lo hi : Option Int} {x : α} (h : x ∈ DL.cutD xs lo hi) : x ∈ xs := List.drop_subset _ _ (List.take_subset _ _ h)
theorem tup_sm {n : Nat} {l : List D} (h1 : l.length ≤ n) (h2 : ∀ d ∈ l, smB n d = true) : smB n (.tup l) = true := by
  show (decide (l.length ≤ n) && smBs n l) = true
  rw [decide_eq_true h1, sms_iff.mpr h2]
  rfl
theorem lst_sm {n : Nat} {l : List D} (h1 : l.length ≤ n) (h2 : ∀ d ∈ l, smB n d = true) : smB n (.lst l) = true := by
  show (decide (l.length ≤ n) && smBs n l) = true
  rw [decide_eq_true h1, sms_iff.mpr h2]
  rfl
theorem kind_ok {ks : List String} : ∀ (e : Ex) (k : String) (n : Nat), wt ks e k → e.dep ≤ n → kindF ks n e.d = some k
  | .col j, k, n, h, hn => by
    obtain ⟨m, rfl⟩ : ∃ m, n = m + 1 := ⟨n - 1, by simp only [Ex.dep] at hn; omega⟩
    have h : ks[j]? = some k := h
    have hj : j < ks.length := (List.getElem?_eq_some_iff.mp h).1
    show kindF ks (m + 1) (.tup [.str "column", .int j]) = _
    rw [kind_1, if_pos rfl]
    show (if 0 ≤ (j : Int) ∧ (j : Int) < ks.length then ks[(j : Int).toNat]? else none) = _
    rw [if_pos ⟨by omega, by omega⟩, Int.toNat_natCast, h]
  | .num i, k, n, ⟨e, h1, h2⟩, hn => by
    obtain ⟨m, rfl⟩ : ∃ m, n = m + 1 := ⟨n - 1, by simp only [Ex.dep] at hn; omega⟩
    show kindF ks (m + 1) (.tup [.str "number", .int i]) = _
    rw [kind_1, if_neg (by decide), if_pos rfl, if_pos (show isInt (-2147483648) 2147483647 (.int i) = true from (show (decide (-2147483648 ≤ i) && decide (i ≤ 2147483647)) = true by rw [decide_eq_true h2, decide_eq_true (by omega)]; rfl)), e]
  | .txt s, k, n, ⟨e, h1⟩, hn => by
    obtain ⟨m, rfl⟩ : ∃ m, n = m + 1 := ⟨n - 1, by simp only [Ex.dep] at hn; omega⟩
    show kindF ks (m + 1) (.tup [.str "text", .str s]) = _
    rw [kind_1, if_neg (by decide), if_neg (by decide), if_pos rfl, if_pos (show isTxt (.str s) = true from h1), e]
  | .op z a b, k, n, ⟨e, hz, ha, hb⟩, hn => by
    have hn : max a.dep b.dep + 1 ≤ n := hn
    obtain ⟨m, rfl⟩ : ∃ m, n = m + 1 := ⟨n - 1, by omega⟩
    show kindF ks (m + 1) (.tup [.str "op", .str z, a.d, b.d]) = _
    rw [kind_3, if_pos ⟨rfl, hz, kind_ok a _ m ha (by omega), kind_ok b _ m hb (by omega)⟩, e]
theorem cond_ok {ks : List String} : ∀ (c : Cn) (n : Nat), wtC ks c → c.dep ≤ n → condF ks n c.d = true
  | .cmp z a b, n, ⟨hz, k, ha, hb⟩, hn => by
    have hn : max a.dep b.dep + 1 ≤ n := hn
    obtain ⟨m, rfl⟩ : ∃ m, n = m + 1 := ⟨n - 1, by omega⟩
    show condF ks (m + 1) (.tup [.str "compare", .str z, a.d, b.d]) = true
    rw [cond_3, kind_ok a k m ha (by omega), kind_ok b k m hb (by omega), decide_eq_true rfl, decide_eq_true hz]
    show (true && (true && decide (some k = some k))) = true
    rw [decide_eq_true rfl]
    rfl
  | .con k a b, n, ⟨ha, hb⟩, hn => by
    have hn : max a.dep b.dep + 1 ≤ n := hn
    obtain ⟨m, rfl⟩ : ∃ m, n = m + 1 := ⟨n - 1, by omega⟩
    show condF ks (m + 1) (.tup [.str (conN k), a.d, b.d]) = true
    rw [cond_2, cond_ok a m ha (by omega), cond_ok b m hb (by omega)]
    cases k <;> rfl
  | .neg a, n, ha, hn => by
    have hn : a.dep + 1 ≤ n := hn
    obtain ⟨m, rfl⟩ : ∃ m, n = m + 1 := ⟨n - 1, by omega⟩
    show condF ks (m + 1) (.tup [.str "not", a.d]) = true
    rw [cond_1, cond_ok a m ha (by omega)]
    rfl
  | .tru, n, _, hn => by
    have hn : 1 ≤ n := hn
    obtain ⟨m, rfl⟩ : ∃ m, n = m + 1 := ⟨n - 1, by omega⟩
    rfl
theorem reck_short : ∀ z ∈ RECK, z.length ≤ 100 := by decide
theorem comp_short : ∀ z ∈ COMP, z.length ≤ 100 := by decide
theorem str_sm {s : String} (h : s.length ≤ 100) : smB 10 (.str s) = true := decide_eq_true h
theorem smE {ks : List String} : ∀ (e : Ex) (k : String), wt ks e k → smB 10 e.d = true
  | .col j, k, _ => rfl
  | .num i, k, _ => rfl
  | .txt s, k, ⟨_, h⟩ => tup_sm (l := [.str "text", .str s]) (by decide : 2 ≤ 10) (by
      have := of_decide_eq_true (Bool.and_eq_true_iff.mp h).1
      intro d m
      simp only [List.mem_cons, List.not_mem_nil, or_false] at m
      rcases m with rfl | rfl
      · rfl
      · exact str_sm (by omega))
  | .op z a b, k, ⟨_, hz, ha, hb⟩ => tup_sm (l := [.str "op", .str z, a.d, b.d]) (by decide : 4 ≤ 10) (by
      intro d m
      simp only [List.mem_cons, List.not_mem_nil, or_false] at m
      rcases m with rfl | rfl | rfl | rfl
      · rfl
      · exact str_sm (reck_short z hz)
      · exact smE a _ ha
      · exact smE b _ hb)
theorem smC {ks : List String} : ∀ (c : Cn), wtC ks c → smB 10 c.d = true
  | .cmp z a b, ⟨hz, k, ha, hb⟩ => tup_sm (l := [.str "compare", .str z, a.d, b.d]) (by decide : 4 ≤ 10) (by
      intro d m
      simp only [List.mem_cons, List.not_mem_nil, or_false] at m
      rcases m with rfl | rfl | rfl | rfl
      · rfl
      · exact str_sm (comp_short z hz)
      · exact smE a _ ha
      · exact smE b _ hb)
  | .con k a b, ⟨ha, hb⟩ => tup_sm (l := [.str (conN k), a.d, b.d]) (by decide : 3 ≤ 10) (by
      intro d m
      simp only [List.mem_cons, List.not_mem_nil, or_false] at m
      rcases m with rfl | rfl | rfl
      · cases k <;> rfl
      · exact smC a ha
      · exact smC b hb)
  | .neg a, ha => tup_sm (l := [.str "not", a.d]) (by decide : 2 ≤ 10) (by
      intro d m
      simp only [List.mem_cons, List.not_mem_nil, or_false] at m
      rcases m with rfl | rfl
      · rfl
      · exact smC a ha)
  | .tru, _ => rfl
mutual
theorem eqv_refl : ∀ d : D, D.pure d = true → D.eqv d d = true
  | .non, _ => rfl
  | .bl b, _ => by cases b <;> rfl
  | .int i, _ => by show (i == i) = true; exact beq_self_eq_true i
  | .str s, _ => by show (s == s) = true; exact beq_self_eq_true s
  | .tup xs, h => eqvs_refl xs h
  | .lst xs, h => eqvs_refl xs h
  | .loc _, h => nomatch h
  | .gl _, h => nomatch h
  | .ty _, h => nomatch h
  | .scr _, h => nomatch h
  | .kt _, h => nomatch h
theorem eqvs_refl : ∀ l : List D, D.pures l = true → D.eqvs l l = true
  | [], _ => rfl
  | x :: l, h => by
    have h := Bool.and_eq_true_iff.mp (show (D.pure x && D.pures l) = true from h)
    show (D.eqv x x && D.eqvs l l) = true
    rw [eqv_refl x h.1, eqvs_refl l h.2]
    rfl
end
theorem lst_any (z : String) : ∀ ys : List String, ((ys.map D.str).any fun w => D.eqv w (.str z)) = decide (z ∈ ys) := fun ys => by
  rw [List.any_map]
  exact kt_any z ys
end K

set_option maxHeartbeats 1000000
namespace K
open PySem PySem.Spec PyProof.Rows L2 DL
theorem v_is_shown (ds : List D) (st : Sto) (Q : D → Sto → Prop) (X : EX) (hs : CloS st.length st) (hd : Clos st.length ds) (h0 : L.call "is_shown" ds st Q X) : b_is_shown.run L ds st (Gc st.length Q) (GcX st.length X) := (show False from h0).elim
theorem v_is_order (ds : List D) (st : Sto) (Q : D → Sto → Prop) (X : EX) (hs : CloS st.length st) (hd : Clos st.length ds) (h0 : L.call "is_order" ds st Q X) : b_is_order.run L ds st (Gc st.length Q) (GcX st.length X) := (show False from h0).elim
theorem v_is_way (ds : List D) (st : Sto) (Q : D → Sto → Prop) (X : EX) (hs : CloS st.length st) (hd : Clos st.length ds) (h0 : L.call "is_way" ds st Q X) : b_is_way.run L ds st (Gc st.length Q) (GcX st.length X) := (show False from h0).elim
theorem v_Forms_are_shown (ds : List D) (st : Sto) (Q : D → Sto → Prop) (X : EX) (hs : CloS st.length st) (hd : Clos st.length ds) (h0 : L.meth "Forms" "_are_shown" ds st Q X) : b_Forms_are_shown.run L ds st (Gc st.length Q) (GcX st.length X) := (show False from h0).elim
theorem v_kinds_of (n : Nat) (ds : List D) (st : Sto) (Q : D → Sto → Prop) (X : EX) (hs : CloS st.length st) (hd : Clos st.length ds) (h0 : (Lr_kinds_of (n + 1)).call "kinds_of" ds st Q X) : b_kinds_of.run (Lr_kinds_of n) ds st (Gc st.length Q) (GcX st.length X) := (show False from h0).elim
theorem v_Forms_both_kinds (n : Nat) (ds : List D) (st : Sto) (Q : D → Sto → Prop) (X : EX) (hs : CloS st.length st) (hd : Clos st.length ds) (h0 : (Lr_Forms_kinds n).meth "Forms" "_both_kinds" ds st Q X) : b_Forms_both_kinds.run (Lr_Forms_kinds n) ds st (Gc st.length Q) (GcX st.length X) := (show False from h0).elim
theorem v_around (ds : List D) (st : Sto) (Q : D → Sto → Prop) (X : EX) (hs : CloS st.length st) (hd : Clos st.length ds) (h0 : L.call "around" ds st Q X) : b_around.run L ds st (Gc st.length Q) (GcX st.length X) := by
  obtain ⟨w, b, rfl, h⟩ := (show sAround ds st Q X from h0)
  clear h0 hd
  have e : ∀ v : Int, v = w.natAbs → (if w < 0 then -w else w) = v := fun v hv => by subst hv; split <;> omega
  unfold aroundI at h
  cases b with
  | true =>
    rw [Bool.true_or] at h
    conv => whnf
    rw [e _ rfl]
    exact .now h
  | false =>
    rw [Bool.false_or] at h
    conv => whnf
    refine ifB_intro (fun c => ?_) (fun c => ?_)
    · have c : w < 0 := of_decide_eq_true c
      rw [decide_eq_true c] at h
      conv => whnf
      rw [e _ rfl]
      exact .now h
    · have c : ¬ w < 0 := of_decide_eq_false c
      rw [decide_eq_false c] at h
      conv => whnf
      rw [e _ rfl]
      exact .now h
theorem v_agg_kind (ds : List D) (st : Sto) (Q : D → Sto → Prop) (X : EX) (hs : CloS st.length st) (hd : Clos st.length ds) (h0 : L.call "agg_kind" ds st Q X) : b_agg_kind.run L ds st (Gc st.length Q) (GcX st.length X) := by
  obtain ⟨ks, rfl, hk, h⟩ := (show sAggKind ds st Q X from h0)
  clear h0 hd
  have hz := line_gt
  conv => whnf
  refine ⟨(show 2 ≤ sizeLine by omega), ?_⟩
  conv => whnf
  refine ⟨⟨rfl, rfl⟩, ?_⟩
  conv => whnf
  exact .now h
theorem v_is_agg (ds : List D) (st : Sto) (Q : D → Sto → Prop) (X : EX) (hs : CloS st.length st) (hd : Clos st.length ds) (h0 : L.call "is_agg" ds st Q X) : b_is_agg.run L ds st (Gc st.length Q) (GcX st.length X) := by
  obtain ⟨ks, rfl, hk, h⟩ := (show sIsAgg ds st Q X from h0)
  clear h0 hd
  conv => whnf
  refine ⟨?_⟩
  conv => whnf
  refine ⟨rfl, ?_⟩
  conv => whnf
  refine ⟨?_⟩
  conv => whnf
  refine ⟨?_⟩
  conv => whnf
  exact .now h
theorem ks_ok {ks : List String} (h : ksGood ks) : ksOk ks := ⟨by have := h.1.2; omega, h.2⟩
theorem v_is_asked (ds : List D) (st : Sto) (Q : D → Sto → Prop) (X : EX) (hs : CloS st.length st) (hd : Clos st.length ds) (h0 : L.call "is_asked" ds st Q X) : b_is_asked.run L ds st (Gc st.length Q) (GcX st.length X) := by
  obtain ⟨ks, c, rfl, ⟨hk, hw, hc⟩, h⟩ := (show sIsAsked ds st Q X from h0)
  clear h0 hd
  conv => whnf
  refine ⟨ks, c.d, rfl, ⟨ks_ok hk, 10, by decide, smC c hw⟩, ?_⟩
  rw [cond_ok c 100 hw (by omega)]
  conv => whnf
  refine ⟨.c c, rfl, (show c.dep ≤ 8 from hc), ?_⟩
  conv => whnf
  have e : decide ((((Nd.c c).dep : Nat) : Int) ≤ 8) = true := decide_eq_true (by show ((c.dep : Nat) : Int) ≤ 8; omega)
  have h : Q (.bl (decide ((((Nd.c c).dep : Nat) : Int) ≤ 8))) st := by rw [e]; exact h
  exact .now h
theorem subs_lt {x : Nd} : ∀ y ∈ x.subs, y.dep + 1 ≤ x.dep := by
  rcases x with (j | i | s | ⟨z, a, b⟩) | (⟨z, a, b⟩ | ⟨k, a, b⟩ | a | _) <;> intro y hy <;> simp only [Nd.subs, List.mem_cons, List.not_mem_nil, or_false] at hy
  · rcases hy with rfl | rfl <;> simp only [Nd.dep, Ex.dep] <;> omega
  · rcases hy with rfl | rfl <;> simp only [Nd.dep, Cn.dep] <;> omega
  · rcases hy with rfl | rfl <;> simp only [Nd.dep, Cn.dep] <;> omega
  · subst hy; simp only [Nd.dep, Cn.dep]; omega
theorem subs_top (x : Nd) : x.dep = 1 ∨ ∃ y ∈ x.subs, x.dep = y.dep + 1 := by
  rcases x with (j | i | s | ⟨z, a, b⟩) | (⟨z, a, b⟩ | ⟨k, a, b⟩ | a | _)
  · exact .inl rfl
  · exact .inl rfl
  · exact .inl rfl
  · right
    by_cases c : a.dep ≤ b.dep
    · exact ⟨.e b, by simp [Nd.subs], by simp only [Nd.dep, Ex.dep]; omega⟩
    · exact ⟨.e a, by simp [Nd.subs], by simp only [Nd.dep, Ex.dep]; omega⟩
  · right
    by_cases c : a.dep ≤ b.dep
    · exact ⟨.e b, by simp [Nd.subs], by simp only [Nd.dep, Cn.dep]; omega⟩
    · exact ⟨.e a, by simp [Nd.subs], by simp only [Nd.dep, Cn.dep]; omega⟩
  · right
    by_cases c : a.dep ≤ b.dep
    · exact ⟨.c b, by simp [Nd.subs], by simp only [Nd.dep, Cn.dep]; omega⟩
    · exact ⟨.c a, by simp [Nd.subs], by simp only [Nd.dep, Cn.dep]; omega⟩
  · exact .inr ⟨.c a, by simp [Nd.subs], rfl⟩
  · exact .inl rfl
theorem nd_pos (x : Nd) : 1 ≤ x.dep := by
  cases x with
  | e x => exact dep_pos x
  | c x => exact depC_pos x
theorem subs_two (x : Nd) : x.subs.length ≤ 2 := by
  rcases x with (j | i | s | ⟨z, a, b⟩) | (⟨z, a, b⟩ | ⟨k, a, b⟩ | a | _)
  all_goals first | exact Nat.le_refl _ | exact Nat.zero_le _ | exact Nat.le_succ _
theorem v_depth_of (n : Nat) (ds : List D) (st : Sto) (Q : D → Sto → Prop) (X : EX) (hs : CloS st.length st) (hd : Clos st.length ds) (h0 : (Lr_depth_of (n + 1)).call "depth_of" ds st Q X) : b_depth_of.run (Lr_depth_of n) ds st (Gc st.length Q) (GcX st.length X) := by
  obtain ⟨x, rfl, hx, h⟩ := (show sDepth n ds st Q X from h0)
  clear h0 hd
  have hz := line_gt
  conv => whnf
  refine ⟨(show 1 ≤ sizeLine by omega), ?_⟩
  conv => whnf
  refine ⟨x, rfl, ?_⟩
  have s2 := subs_two x
  refine lcGo_ind (f := Nd.d) (fun done todo acc st1 => done ++ todo = x.subs ∧ st1 = st ∧ acc = (done.map fun y : Nd => D.int y.dep).reverse) x.subs [] ⟨rfl, rfl, rfl⟩ ?_ ?_
  · rintro done y todo acc st1 kk ⟨e, rfl, rfl⟩ hn
    have hy := subs_lt y (x := x) (by rw [← e]; simp)
    have yp := nd_pos y
    have l := congrArg List.length e
    rw [List.length_append, List.length_cons] at l
    obtain ⟨m, rfl⟩ : ∃ m, n = m + 1 := ⟨n - 1, by omega⟩
    conv => whnf
    refine ⟨y, rfl, by omega, ?_⟩
    conv => whnf
    refine ⟨by rw [List.length_reverse, List.length_map]; omega, hn _ _ ⟨by rw [List.append_assoc]; exact e, rfl, ?_⟩⟩
    rw [List.map_append, List.reverse_append]
    rfl
  · rintro acc st1 ⟨_, rfl, rfl⟩
    rw [List.nil_append, List.reverse_reverse]
    conv => whnf
    refine ⟨by show 1 + (List.map _ _).length ≤ _; rw [List.length_map]; omega, ?_⟩
    conv => whnf
    refine ⟨0 :: x.subs.map fun y : Nd => (y.dep : Int), by rw [List.map_cons, List.map_map]; rfl, by simp, fun m hm hmx => ?_⟩
    conv => whnf
    have em : x.dep = 1 + m := by
      have l0 := hmx 0 (by simp)
      rcases List.mem_cons.mp hm with rfl | hm
      · rcases subs_top x with t | ⟨y, hy, t⟩
        · omega
        · have := hmx (y.dep : Int) (by simp only [List.mem_cons, List.mem_map]; exact .inr ⟨y, hy, rfl⟩)
          have := nd_pos y
          omega
      · obtain ⟨y, hy, rfl⟩ := List.mem_map.mp hm
        have a1 := subs_lt y hy
        rcases subs_top x with t | ⟨z, hz2, t⟩
        · have := nd_pos y; omega
        · have := hmx (z.dep : Int) (by simp only [List.mem_cons, List.mem_map]; exact .inr ⟨z, hz2, rfl⟩)
          omega
    rw [em] at h
    exact .now h
theorem v_queries_in (ds : List D) (st : Sto) (Q : D → Sto → Prop) (X : EX) (hs : CloS st.length st) (hd : Clos st.length ds) (h0 : L.call "queries_in" ds st Q X) : b_queries_in.run L ds st (Gc st.length Q) (GcX st.length X) := by
  obtain ⟨q, rfl, h⟩ := (show sQIn ds st Q X from h0)
  clear h0 hd
  have hz := line_gt
  have h3 : 3 ≤ sizeLine := by omega
  have h1 : 1 ≤ sizeLine := by omega
  cases q <;>
  · conv => whnf
    refine ⟨h3, ?_⟩
    conv => whnf
    refine ⟨⟨rfl, rfl⟩, ?_⟩
    conv => whnf
    first
      | exact ⟨Nat.zero_le _, .now h⟩
      | exact ⟨h1, .now h⟩
      | (refine ⟨rfl, ?_⟩
         conv => whnf
         exact ⟨h1, .now h⟩)
theorem v_rebuilt (ds : List D) (st : Sto) (Q : D → Sto → Prop) (X : EX) (hs : CloS st.length st) (hd : Clos st.length ds) (h0 : L.call "rebuilt" ds st Q X) : b_rebuilt.run L ds st (Gc st.length Q) (GcX st.length X) := by
  obtain ⟨q, rfl, hq, h⟩ := (show sRebuilt ds st Q X from h0)
  clear h0 hd
  have hz := line_gt
  have h2 : 2 ≤ sizeLine := by omega
  have h3 : 3 ≤ sizeLine := by omega
  have h4 : 4 ≤ sizeLine := by omega
  cases q with
  | tab t => exact absurd (show 1 < 1 from hq) (by decide)
  | view0 => exact absurd (show 1 < 1 from hq) (by decide)
  | keep t c =>
    conv => whnf
    refine ⟨h2, ?_⟩
    conv => whnf
    exact ⟨h3, .now h⟩
  | grp t j =>
    conv => whnf
    refine ⟨h2, ?_⟩
    conv => whnf
    exact ⟨h4, .now h⟩
theorem v_unfold (n : Nat) (ds : List D) (st : Sto) (Q : D → Sto → Prop) (X : EX) (hs : CloS st.length st) (hd : Clos st.length ds) (h0 : (Lr_unfold (n + 1)).call "unfold" ds st Q X) : b_unfold.run (Lr_unfold n) ds st (Gc st.length Q) (GcX st.length X) := by
  obtain ⟨hh, q, rfl, ⟨hq, hn⟩, h⟩ := (show sUnfold n ds st Q X from h0)
  clear h0 hd
  have hz := line_gt
  cases q with
  | tab t =>
    conv => whnf
    exact .now h
  | view0 => exact hq.elim
  | keep t c =>
    obtain ⟨m, rfl⟩ : ∃ m, n = m + 1 := ⟨n - 1, by simp only [Qr.dep] at hn; omega⟩
    conv => whnf
    refine ⟨.keep t c, rfl, ?_⟩
    conv => whnf
    refine ⟨hh, .tab t, rfl, ⟨⟨Int.natCast_nonneg t, Int.ofNat_lt.mpr hq.1⟩, by simp only [Qr.dep]; omega⟩, ?_⟩
    conv => whnf
    refine ⟨(show 0 < sizeLine by omega), ?_⟩
    conv => whnf
    exact ⟨.keep t c, rfl, (show 1 < 2 by decide), .now h⟩
  | grp t j =>
    obtain ⟨m, rfl⟩ : ∃ m, n = m + 1 := ⟨n - 1, by simp only [Qr.dep] at hn; omega⟩
    conv => whnf
    refine ⟨.grp t j, rfl, ?_⟩
    conv => whnf
    refine ⟨hh, .tab t, rfl, ⟨⟨Int.natCast_nonneg t, Int.ofNat_lt.mpr hq.1⟩, by simp only [Qr.dep]; omega⟩, ?_⟩
    conv => whnf
    refine ⟨(show 0 < sizeLine by omega), ?_⟩
    conv => whnf
    exact ⟨.grp t j, rfl, (show 1 < 2 by decide), .now h⟩
theorem v_leaves_of (n : Nat) (ds : List D) (st : Sto) (Q : D → Sto → Prop) (X : EX) (hs : CloS st.length st) (hd : Clos st.length ds) (h0 : (Lr_leaves_of (n + 1)).call "leaves_of" ds st Q X) : b_leaves_of.run (Lr_leaves_of n) ds st (Gc st.length Q) (GcX st.length X) := by
  obtain ⟨hh, q, rfl, ⟨hq, hn⟩, h⟩ := (show sLeaves n ds st Q X from h0)
  clear h0 hd
  have hz := line_gt
  cases q with
  | tab t =>
    conv => whnf
    exact .now h
  | view0 => exact hq.elim
  | keep t c =>
    obtain ⟨m, rfl⟩ : ∃ m, n = m + 1 := ⟨n - 1, by simp only [Qr.dep] at hn; omega⟩
    conv => whnf
    refine ⟨.keep t c, rfl, ?_⟩
    conv => whnf
    refine ⟨hh, .tab t, rfl, ⟨⟨Int.natCast_nonneg t, Int.ofNat_lt.mpr hq.1⟩, by simp only [Qr.dep]; omega⟩, ?_⟩
    conv => whnf
    refine ⟨(show 0 < sizeLine by omega), ?_⟩
    conv => whnf
    exact ⟨[1], rfl, .now h⟩
  | grp t j =>
    obtain ⟨m, rfl⟩ : ∃ m, n = m + 1 := ⟨n - 1, by simp only [Qr.dep] at hn; omega⟩
    conv => whnf
    refine ⟨.grp t j, rfl, ?_⟩
    conv => whnf
    refine ⟨hh, .tab t, rfl, ⟨⟨Int.natCast_nonneg t, Int.ofNat_lt.mpr hq.1⟩, by simp only [Qr.dep]; omega⟩, ?_⟩
    conv => whnf
    refine ⟨(show 0 < sizeLine by omega), ?_⟩
    conv => whnf
    exact ⟨[1], rfl, .now h⟩
theorem v_depth_of_query (n : Nat) (ds : List D) (st : Sto) (Q : D → Sto → Prop) (X : EX) (hs : CloS st.length st) (hd : Clos st.length ds) (h0 : (Lr_depth_of_query (n + 1)).call "depth_of_query" ds st Q X) : b_depth_of_query.run (Lr_depth_of_query n) ds st (Gc st.length Q) (GcX st.length X) := by
  obtain ⟨hh, q, rfl, ⟨hq, hn⟩, h⟩ := (show sDepQ n ds st Q X from h0)
  clear h0 hd
  have hz := line_gt
  have h1 : 1 ≤ sizeLine := by omega
  have h2 : 2 ≤ sizeLine := by omega
  cases q with
  | tab t =>
    conv => whnf
    refine ⟨h1, ?_⟩
    conv => whnf
    refine ⟨.tab t, rfl, ?_⟩
    conv => whnf
    refine ⟨h1, ?_⟩
    conv => whnf
    refine ⟨[0], rfl, by decide, fun m hm _ => ?_⟩
    rw [List.mem_singleton.mp hm]
    exact .now h
  | view0 => exact hq.elim
  | keep t c =>
    obtain ⟨m, rfl⟩ : ∃ m, n = m + 1 := ⟨n - 1, by simp only [Qr.dep] at hn; omega⟩
    conv => whnf
    refine ⟨h1, ?_⟩
    conv => whnf
    refine ⟨.keep t c, rfl, ?_⟩
    conv => whnf
    refine ⟨hh, .tab t, rfl, ⟨⟨Int.natCast_nonneg t, Int.ofNat_lt.mpr hq.1⟩, by simp only [Qr.dep]; omega⟩, ?_⟩
    conv => whnf
    refine ⟨(show 0 < sizeLine by omega), ?_⟩
    conv => whnf
    refine ⟨h2, ?_⟩
    conv => whnf
    refine ⟨[0, 1], rfl, by decide, fun m hm hx => ?_⟩
    have e : m = 1 := by
      have := hx 1 (by simp)
      simp only [List.mem_cons, List.not_mem_nil, or_false] at hm
      omega
    subst e
    exact .now h
  | grp t j =>
    obtain ⟨m, rfl⟩ : ∃ m, n = m + 1 := ⟨n - 1, by simp only [Qr.dep] at hn; omega⟩
    conv => whnf
    refine ⟨h1, ?_⟩
    conv => whnf
    refine ⟨.grp t j, rfl, ?_⟩
    conv => whnf
    refine ⟨hh, .tab t, rfl, ⟨⟨Int.natCast_nonneg t, Int.ofNat_lt.mpr hq.1⟩, by simp only [Qr.dep]; omega⟩, ?_⟩
    conv => whnf
    refine ⟨(show 0 < sizeLine by omega), ?_⟩
    conv => whnf
    refine ⟨h2, ?_⟩
    conv => whnf
    refine ⟨[0, 1], rfl, by decide, fun m hm hx => ?_⟩
    have e : m = 1 := by
      have := hx 1 (by simp)
      simp only [List.mem_cons, List.not_mem_nil, or_false] at hm
      omega
    subst e
    exact .now h
theorem ks_seq {b : Tb} : ∀ {h : Hs} {t : Nat}, h[t]? = some b → ksOf h t = b.ks := fun {h t} e => by
  unfold ksOf
  rw [e]
theorem v_kinds_of_table (ds : List D) (st : Sto) (Q : D → Sto → Prop) (X : EX) (hs : CloS st.length st) (hd : Clos st.length ds) (h0 : L.call "kinds_of_table" ds st Q X) : b_kinds_of_table.run L ds st (Gc st.length Q) (GcX st.length X) := by
  obtain ⟨hh, t, rfl, ⟨hk, ht⟩, h⟩ := (show sTabKinds ds st Q X from h0)
  clear h0 hd
  have hz := line_gt
  have bo := hk.tbs hh[t] (List.getElem_mem ht)
  rw [ks_seq (List.getElem?_eq_getElem ht)] at h
  conv => whnf
  refine onSome_i (a := (hh[t]).d) (atI_n (by rw [List.getElem?_map, List.getElem?_eq_getElem ht]; rfl)) ?_
  conv => whnf
  refine lcGo_ind (f := fun c : String × String => D.tup [.str c.1, .str c.2]) (fun done todo acc st1 => done ++ todo = hh[t].cols ∧ st1 = st ∧ acc = (done.map fun c : String × String => D.str c.2).reverse) hh[t].cols [] ⟨rfl, rfl, rfl⟩ ?_ ?_
  · rintro done y todo acc st1 kk ⟨e, rfl, rfl⟩ hn
    have l := congrArg List.length e
    rw [List.length_append, List.length_cons] at l
    have := bo.len.2
    conv => whnf
    refine ⟨by rw [List.length_reverse, List.length_map]; omega, hn _ _ ⟨by rw [List.append_assoc]; exact e, rfl, ?_⟩⟩
    rw [List.map_append, List.reverse_append]
    rfl
  · rintro acc st1 ⟨_, rfl, rfl⟩
    rw [List.nil_append, List.reverse_reverse]
    conv => whnf
    have e : (hh[t].cols.map fun c : String × String => D.str c.2) = hh[t].ks.map D.str := by unfold Tb.ks; rw [List.map_map]; rfl
    rw [e]
    exact .now h
theorem v_law_kinds (ds : List D) (st : Sto) (Q : D → Sto → Prop) (X : EX) (hs : CloS st.length st) (hd : Clos st.length ds) (h0 : L.call "_law_kinds" ds st Q X) : b_law_kinds.run L ds st (Gc st.length Q) (GcX st.length X) := by
  obtain ⟨hh, t, rfl, ⟨hk, ht⟩, h⟩ := (show sLawKinds ds st Q X from h0)
  clear h0 hd
  have hz := line_gt
  have bo := hk.tbs hh[t] (List.getElem_mem ht)
  rw [ks_seq (List.getElem?_eq_getElem ht)] at h
  conv => whnf
  refine onSome_i (a := (hh[t]).d) (atI_n (by rw [List.getElem?_map, List.getElem?_eq_getElem ht]; rfl)) ?_
  conv => whnf
  refine lcGo_ind (f := fun c : String × String => D.tup [.str c.1, .str c.2]) (fun done todo acc st1 => done ++ todo = hh[t].cols ∧ st1 = st ∧ acc = (done.map fun c : String × String => D.str c.2).reverse) hh[t].cols [] ⟨rfl, rfl, rfl⟩ ?_ ?_
  · rintro done y todo acc st1 kk ⟨e, rfl, rfl⟩ hn
    have l := congrArg List.length e
    rw [List.length_append, List.length_cons] at l
    have := bo.len.2
    conv => whnf
    refine ⟨by rw [List.length_reverse, List.length_map]; omega, hn _ _ ⟨by rw [List.append_assoc]; exact e, rfl, ?_⟩⟩
    rw [List.map_append, List.reverse_append]
    rfl
  · rintro acc st1 ⟨_, rfl, rfl⟩
    rw [List.nil_append, List.reverse_reverse]
    conv => whnf
    have e : (hh[t].cols.map fun c : String × String => D.str c.2) = hh[t].ks.map D.str := by unfold Tb.ks; rw [List.map_map]; rfl
    rw [e]
    exact .now h
end K

set_option maxHeartbeats 1000000
namespace K
open PySem PySem.Spec PyProof.Rows L2 DL
theorem v_Forms_init (ds : List D) (st : Sto) (Q : D → Sto → Prop) (X : EX) (hs : CloS st.length st) (hd : Clos st.length ds) (h0 : L.meth "Forms" "__init__" ds st Q X) : b_Forms_init.run L ds st (Gc st.length Q) (GcX st.length X) := by
  obtain ⟨o, hh, R, rfl, g, h⟩ := (show sFInit ds st Q X from h0)
  clear h0 hd
  have g1 := has_set1 (c' := .obj "Forms" [("_house", hD hh)]) g
  have g2 := has_set1 (c' := .obj "Forms" [("_house", hD hh), ("_views", .int 0)]) g1
  have g3 := has_set1 (c' := fC hh) g2
  conv => whnf
  refine onSome_i (has_1 g) ?_
  conv => whnf
  refine ⟨⟨by decide, by decide⟩, ?_⟩
  conv => whnf
  refine onSome_i (has_1 g1) ?_
  conv => whnf
  refine ⟨⟨(show 1 < 900 by decide), by decide⟩, ?_⟩
  conv => whnf
  refine onSome_i (has_1 g2) ?_
  conv => whnf
  refine ⟨⟨(show 2 < 900 by decide), by decide⟩, ?_⟩
  exact .now (h _ g3)
theorem ks_get {h : Hs} {t : Nat} (ho : hOk h) (ht : t < h.length) : ksGood (ksOf h t) := by
  have b := ho.tbs h[t] (List.getElem_mem ht)
  rw [ks_seq (List.getElem?_eq_getElem ht)]
  refine ⟨⟨?_, ?_⟩, b.kinds⟩
  · unfold Tb.ks; rw [List.length_map]; exact b.len.1
  · unfold Tb.ks; rw [List.length_map]; exact b.len.2
theorem hlen (h : Hs) : (((h.map Tb.d).length : Nat) : Int) = h.length := by rw [List.length_map]
theorem v_Forms_kinds (n : Nat) (ds : List D) (st : Sto) (Q : D → Sto → Prop) (X : EX) (hs : CloS st.length st) (hd : Clos st.length ds) (h0 : (Lr_Forms_kinds (n + 1)).meth "Forms" "kinds" ds st Q X) : b_Forms_kinds.run (Lr_Forms_kinds n) ds st (Gc st.length Q) (GcX st.length X) := by
  obtain ⟨o, hh, q, left, R, rfl, ⟨ho, hq, h1, h2, h3⟩, g, h⟩ := (show sFKinds n ds st Q X from h0)
  clear h0 hd
  have qp : 1 ≤ q.dep := by cases q <;> simp [Qr.dep]
  obtain ⟨lf, rfl⟩ : ∃ m, left = m + 1 := ⟨left - 1, by omega⟩
  conv => whnf
  refine ⟨?_⟩
  cases q with
  | tab t =>
    conv => whnf
    refine ⟨?_⟩
    conv => whnf
    refine ⟨?_⟩
    conv => whnf
    refine onSome_i (has_1 g) ?_
    conv => whnf
    refine ⟨.int t, 0, (((hh.map Tb.d).length : Nat) : Int) - 1, rfl, ⟨0, rfl⟩, ?_⟩
    rw [hlen]
    by_cases c : 0 ≤ t ∧ t < hh.length
    · have e : isInt 0 ((hh.length : Int) - 1) (.int t) = true := by
        show (decide (0 ≤ t) && decide (t ≤ (hh.length : Int) - 1)) = true
        rw [decide_eq_true c.1, decide_eq_true (by omega)]
        rfl
      rw [e]
      have h : Q (kk (if 0 ≤ t ∧ t < hh.length then some (ksOf hh t.toNat) else none)) st := h
      rw [if_pos c] at h
      obtain ⟨j, rfl⟩ : ∃ j : Nat, t = j := ⟨t.toNat, by omega⟩
      rw [Int.toNat_natCast] at h
      conv => whnf
      refine ⟨?_⟩
      conv => whnf
      refine onSome_i (has_1 g) ?_
      conv => whnf
      exact ⟨hh, j, rfl, ⟨ho, by omega⟩, .now h⟩
    · have e : isInt 0 ((hh.length : Int) - 1) (.int t) = false := by
        show (decide (0 ≤ t) && decide (t ≤ (hh.length : Int) - 1)) = false
        by_cases p : 0 ≤ t
        · rw [decide_eq_true p, decide_eq_false (by omega)]
          rfl
        · rw [decide_eq_false p]
          rfl
      rw [e]
      have h : Q (kk (if 0 ≤ t ∧ t < hh.length then some (ksOf hh t.toNat) else none)) st := h
      rw [if_neg c] at h
      conv => whnf
      refine ⟨?_⟩
      conv => whnf
      exact .now h
  | view0 =>
    conv => whnf
    refine ⟨?_⟩
    conv => whnf
    refine ⟨?_⟩
    conv => whnf
    refine ⟨?_⟩
    conv => whnf
    refine onSome_i (has_1 g) ?_
    conv => whnf
    refine ⟨.int 0, 0, 0 - 1, rfl, ⟨0, rfl⟩, ?_⟩
    conv => whnf
    refine ⟨?_⟩
    conv => whnf
    exact .now h
  | keep t c =>
    have kg := ks_get ho hq.1
    have kl := kg.1.2
    conv => whnf
    refine ⟨?_⟩
    conv => whnf
    refine ⟨?_⟩
    conv => whnf
    refine ⟨?_⟩
    conv => whnf
    refine onSome_i (has_1 g) ?_
    conv => whnf
    refine ⟨rfl, ?_⟩
    conv => whnf
    refine ⟨o, hh, .keep t c, lf + 1, R, rfl, ⟨ho, hq, rfl, h1, h2, h3⟩, g, ?_⟩
    conv => whnf
    refine ⟨?_⟩
    conv => whnf
    refine ifB_f (decide_eq_false (by show ¬ (48 : Int) < (((ksOf hh t).map D.str).length : Nat); rw [List.length_map]; omega)) ?_
    conv => whnf
    refine ⟨?_⟩
    conv => whnf
    exact .now h
  | grp t j =>
    conv => whnf
    refine ⟨?_⟩
    conv => whnf
    refine ⟨?_⟩
    conv => whnf
    refine ⟨?_⟩
    conv => whnf
    refine onSome_i (has_1 g) ?_
    conv => whnf
    refine ⟨rfl, ?_⟩
    conv => whnf
    refine ⟨o, hh, .grp t j, lf + 1, R, rfl, ⟨ho, hq, rfl, h1, h2, h3⟩, g, ?_⟩
    conv => whnf
    refine ⟨?_⟩
    conv => whnf
    refine ⟨?_⟩
    conv => whnf
    exact .now h
theorem v_Forms_step_kinds (n : Nat) (ds : List D) (st : Sto) (Q : D → Sto → Prop) (X : EX) (hs : CloS st.length st) (hd : Clos st.length ds) (h0 : (Lr_Forms_kinds n).meth "Forms" "_step_kinds" ds st Q X) : b_Forms_step_kinds.run (Lr_Forms_kinds n) ds st (Gc st.length Q) (GcX st.length X) := by
  obtain ⟨o, hh, q, left, R, rfl, ⟨ho, hq, hq2, h1, h2, h3⟩, g, h⟩ := (show sFStep n ds st Q X from h0)
  clear h0 hd
  have hz := line_gt
  have h6 : 6 ≤ sizeLine := by omega
  obtain ⟨lf, rfl⟩ : ∃ m, left = m + 1 := ⟨left - 1, by omega⟩
  have lm : (((lf + 1 : Nat) : Int) - 1) = (lf : Int) := by omega
  obtain ⟨m, rfl⟩ : ∃ m, n = m + 1 := ⟨n - 1, by omega⟩
  have tabk : ∀ t : Nat, t < hh.length → kk ((Qr.tab t).kinds hh) = ksD (ksOf hh t) := fun t ht => by
    show kk (if 0 ≤ (t : Int) ∧ (t : Int) < hh.length then some (ksOf hh (t : Int).toNat) else none) = _
    rw [if_pos ⟨by omega, by omega⟩, Int.toNat_natCast]
    rfl
  cases q with
  | tab t => exact absurd (show 1 = 2 from hq2) (by decide)
  | view0 => exact absurd (show 1 = 2 from hq2) (by decide)
  | keep t c =>
    have kg := ks_get ho hq.1
    have h2 : 2 < lf + 1 := h2
    conv => whnf
    refine ⟨?_⟩
    conv => whnf
    refine onSome_i (has_1 g) ?_
    conv => whnf
    refine ⟨rfl, ?_⟩
    conv => whnf
    refine ⟨o, hh, .tab t, lf, R, congrArg (fun z => [D.loc o, (Qr.tab t).d, D.int z]) lm, ⟨ho, trivial, by show 1 ≤ m + 1; omega, by show 1 < lf; omega, by omega⟩, g, ?_⟩
    rw [tabk t hq.1]
    conv => whnf
    refine ⟨?_⟩
    conv => whnf
    refine ⟨?_⟩
    conv => whnf
    refine ⟨h6, ?_⟩
    conv => whnf
    refine ⟨⟨rfl, rfl⟩, ?_⟩
    conv => whnf
    refine ⟨?_⟩
    conv => whnf
    refine ⟨?_⟩
    conv => whnf
    refine onSome_i (has_1 g) ?_
    conv => whnf
    refine ⟨ksOf hh t, c, rfl, ⟨kg, hq.2.1, hq.2.2⟩, ?_⟩
    conv => whnf
    refine ⟨?_⟩
    conv => whnf
    exact .now h
  | grp t j =>
    have kg := ks_get ho hq.1
    have h2 : 2 < lf + 1 := h2
    have hj := hq.2
    conv => whnf
    refine ⟨?_⟩
    conv => whnf
    refine onSome_i (has_1 g) ?_
    conv => whnf
    refine ⟨rfl, ?_⟩
    conv => whnf
    refine ⟨o, hh, .tab t, lf, R, congrArg (fun z => [D.loc o, (Qr.tab t).d, D.int z]) lm, ⟨ho, trivial, by show 1 ≤ m + 1; omega, by show 1 < lf; omega, by omega⟩, g, ?_⟩
    rw [tabk t hq.1]
    conv => whnf
    refine ⟨?_⟩
    conv => whnf
    refine ⟨?_⟩
    conv => whnf
    refine ⟨h6, ?_⟩
    conv => whnf
    refine ⟨⟨rfl, rfl⟩, ?_⟩
    conv => whnf
    refine ⟨?_⟩
    conv => whnf
    refine ⟨?_⟩
    conv => whnf
    refine ⟨?_⟩
    conv => whnf
    refine ⟨?_⟩
    conv => whnf
    refine ⟨?_⟩
    conv => whnf
    refine onSome_i (has_1 g) ?_
    conv => whnf
    refine ⟨rfl, ?_⟩
    conv => whnf
    refine ⟨o, hh, ksOf hh t, j, R, rfl, ⟨kg, hj⟩, g, ?_⟩
    conv => whnf
    refine ⟨?_⟩
    conv => whnf
    refine onSome_i (a := .str (ksOf hh t)[j]) (atI_n (by rw [List.getElem?_map, List.getElem?_eq_getElem hj]; rfl)) ?_
    conv => whnf
    refine ⟨(show 0 < sizeLine by omega), ?_⟩
    conv => whnf
    refine ⟨ksOf hh t, rfl, kg, ?_⟩
    conv => whnf
    refine ⟨(show 0 < sizeLine by omega), ?_⟩
    conv => whnf
    refine ⟨(show 2 ≤ sizeLine by omega), ?_⟩
    have e : kk ((Qr.grp t j).kinds hh) = .tup [.str (ksOf hh t)[j], .str "number"] := by
      show ksD [(ksOf hh t).getD j "", "number"] = _
      rw [List.getD_eq_getElem?_getD, List.getElem?_eq_getElem hj]
      rfl
    rw [e] at h
    exact .now h
theorem v_Forms_are_grouped (ds : List D) (st : Sto) (Q : D → Sto → Prop) (X : EX) (hs : CloS st.length st) (hd : Clos st.length ds) (h0 : L.meth "Forms" "_are_grouped" ds st Q X) : b_Forms_are_grouped.run L ds st (Gc st.length Q) (GcX st.length X) := by
  obtain ⟨o, hh, ks, j, R, rfl, ⟨kg, hj⟩, g, h⟩ := (show sFGrp ds st Q X from h0)
  clear h0 hd
  have hz := line_gt
  conv => whnf
  refine ⟨?_⟩
  conv => whnf
  refine ⟨rfl, ?_⟩
  conv => whnf
  refine ⟨?_⟩
  conv => whnf
  refine ⟨.int j, 0, ((ks.map D.str).length : Int) - 1, rfl, ⟨0, rfl⟩, ?_⟩
  have e : isInt 0 (((ks.map D.str).length : Int) - 1) (.int j) = true := by
    show (decide (0 ≤ (j : Int)) && decide ((j : Int) ≤ ((ks.map D.str).length : Int) - 1)) = true
    rw [List.length_map, decide_eq_true (by omega), decide_eq_true (by omega)]
    rfl
  rw [e]
  conv => whnf
  refine ⟨(show 0 < sizeLine by omega), ?_⟩
  conv => whnf
  refine ⟨rfl, ?_⟩
  conv => whnf
  refine ⟨?_⟩
  conv => whnf
  refine onSome_i (has_1 g) ?_
  conv => whnf
  refine ⟨ks, rfl, kg, ?_⟩
  conv => whnf
  refine ⟨(show 0 < sizeLine by omega), ?_⟩
  conv => whnf
  exact ⟨rfl, .now h⟩
theorem v_Forms_is_query (ds : List D) (st : Sto) (Q : D → Sto → Prop) (X : EX) (hs : CloS st.length st) (hd : Clos st.length ds) (h0 : L.meth "Forms" "is_query" ds st Q X) : b_Forms_is_query.run L ds st (Gc st.length Q) (GcX st.length X) := by
  obtain ⟨o, hh, q, R, rfl, ⟨ho, hq⟩, g, h⟩ := (show sFQuery ds st Q X from h0)
  clear h0 hd
  have qd : q.dep ≤ 2 := by cases q <;> simp [Qr.dep]
  conv => whnf
  refine ⟨?_⟩
  conv => whnf
  refine onSome_i (has_1 g) ?_
  conv => whnf
  refine ⟨rfl, ?_⟩
  conv => whnf
  refine ⟨o, hh, q, 8, R, rfl, ⟨ho, hq, by omega, by omega, by omega⟩, g, ?_⟩
  cases e : q.kinds hh with
  | none =>
    rw [e] at h
    conv => whnf
    refine ⟨?_⟩
    conv => whnf
    exact .now h
  | some ks =>
    rw [e] at h
    have qg : q.good hh := by
      cases q with
      | tab t =>
        have e : (if 0 ≤ t ∧ t < hh.length then some (ksOf hh t.toNat) else none) = some ks := e
        by_cases c : 0 ≤ t ∧ t < hh.length
        · exact c
        · rw [if_neg c] at e; cases e
      | view0 => cases e
      | keep t c => exact hq
      | grp t j => exact hq
    conv => whnf
    refine ⟨?_⟩
    conv => whnf
    refine onSome_i (has_1 g) ?_
    conv => whnf
    refine ⟨hh, q, rfl, ⟨qg, by omega⟩, ?_⟩
    conv => whnf
    refine ⟨?_⟩
    conv => whnf
    refine ⟨hh, q, rfl, ⟨qg, by omega⟩, ?_⟩
    conv => whnf
    refine ⟨hh, q, rfl, ⟨qg, by omega⟩, ?_⟩
    conv => whnf
    have e : decide (((q.dep : Nat) : Int) ≤ 8) = true := decide_eq_true (by omega)
    have h : Q (.bl (decide (((q.dep : Nat) : Int) ≤ 8))) st := by rw [e]; exact h
    exact .now h
theorem v_is_query (ds : List D) (st : Sto) (Q : D → Sto → Prop) (X : EX) (hs : CloS st.length st) (hd : Clos st.length ds) (h0 : L.call "is_query" ds st Q X) : b_is_query.run L ds st (Gc st.length Q) (GcX st.length X) := by
  obtain ⟨hh, q, R, rfl, ⟨ho, hq⟩, g, h⟩ := (show sQuery ds st Q X from h0)
  clear h0 hd
  conv => whnf
  refine ⟨?_⟩
  conv => whnf
  refine ⟨st.length, hh, R, rfl, g.add, fun st' g2 => ?_⟩
  conv => whnf
  refine onSome_i (has_1 g2) ?_
  conv => whnf
  refine ⟨rfl, ?_⟩
  conv => whnf
  refine ⟨st.length, hh, q, R, rfl, ⟨ho, hq⟩, g2, ?_⟩
  exact .now (h st' (has_tl g2))
end K

set_option maxHeartbeats 1000000
namespace K
open PySem PySem.Spec PyProof.Rows L2 DL
theorem stsD_map : ∀ ss : List St, stsD ss = ss.map St.d
  | [] => by unfold stsD; rfl
  | s :: ss => by unfold stsD; rw [stsD_map ss]; rfl
theorem stsB_all {h : Hs} {w : Int} : ∀ ss : List St, stsB h w ss = ss.all (stB h w)
  | [] => by unfold stsB; rfl
  | s :: ss => by unfold stsB; rw [stsB_all ss]; rfl
theorem stsOk_iff {h : Hs} : ∀ {ss : List St}, stsOk h ss ↔ ∀ s ∈ ss, stOk h s
  | [] => by unfold stsOk; simp
  | s :: ss => by unfold stsOk; rw [stsOk_iff (ss := ss)]; simp
theorem stsH_le : ∀ {ss : List St} {s : St}, s ∈ ss → stH s ≤ stsH ss
  | s :: ss, x, m => by
    unfold stsH
    rcases List.mem_cons.mp m with rfl | m
    · exact Nat.le_max_left _ _
    · exact Nat.le_trans (stsH_le m) (Nat.le_max_right _ _)
theorem stsC_len : ∀ ss : List St, ss.length ≤ stsC ss
  | [] => Nat.zero_le _
  | s :: ss => by
    have := stsC_len ss
    have : 1 ≤ stC s := by cases s <;> (unfold stC; omega)
    unfold stsC
    rw [List.length_cons]
    omega
theorem abs_eq (w : Int) : (if w < 0 then -w else w) = w.natAbs := by split <;> omega
theorem v_are_steps (n : Nat) (ds : List D) (st : Sto) (Q : D → Sto → Prop) (X : EX) (hs : CloS st.length st) (hd : Clos st.length ds) (h0 : (Lr_are_steps (n + 1)).call "are_steps" ds st Q X) : b_are_steps.run (Lr_are_steps n) ds st (Gc st.length Q) (GcX st.length X) := by
  obtain ⟨hh, d, w, R, rfl, ho, g, h⟩ := (show sSteps n ds st Q X from h0)
  clear h0 hd
  have hz := line_gt
  rcases h with ⟨xs, rfl, h⟩ | ⟨ss, rfl, ⟨hok, hH, hl⟩, h⟩
  · conv => whnf
    exact .now (h st g)
  conv => whnf
  rw [abs_eq]
  refine ifB_intro (fun c => ?_) (fun c => ?_)
  · have c : (4 : Int) < w.natAbs := of_decide_eq_true c
    rw [decide_eq_false (by omega), Bool.false_and] at h
    conv => whnf
    exact .now (h st g)
  have c : ¬ (4 : Int) < w.natAbs := of_decide_eq_false c
  rw [decide_eq_true (by omega), Bool.true_and, stsB_all] at h
  conv => whnf
  rw [stsD_map]
  refine lcGo_ind (f := St.d) (fun done todo acc st1 => done ++ todo = ss ∧ Has st1 R ∧ acc = (done.map fun s : St => D.bl (stB hh w s)).reverse) ss [] ⟨rfl, g, rfl⟩ ?_ ?_
  · rintro done s todo acc st1 kk ⟨e, g1, rfl⟩ hn
    have ms : s ∈ ss := by rw [← e]; simp
    have l := congrArg List.length e
    rw [List.length_append, List.length_cons] at l
    conv => whnf
    refine ⟨hh, s, w, R, rfl, ⟨ho, stsOk_iff.mp hok s ms, Nat.le_trans (stsH_le ms) hH, by omega⟩, g1, fun st2 g2 => ?_⟩
    conv => whnf
    refine ⟨by rw [List.length_reverse, List.length_map]; omega, hn _ _ ⟨by rw [List.append_assoc]; exact e, g2, ?_⟩⟩
    rw [List.map_append, List.reverse_append]
    rfl
  · rintro acc st1 ⟨_, g1, rfl⟩
    rw [List.nil_append, List.reverse_reverse]
    conv => whnf
    refine ⟨bls_all _ _, ?_⟩
    rw [bls_val]
    exact .now (h st1 g1)
theorem around_abs (w : Int) (b : Bool) : (aroundI w b).natAbs = w.natAbs + 1 := by
  unfold aroundI
  cases b || decide (w < 0)
  · show ((w.natAbs : Int) + 1).natAbs = _; omega
  · show (-((w.natAbs : Int) + 1)).natAbs = _; omega
theorem v_is_step (n : Nat) (ds : List D) (st : Sto) (Q : D → Sto → Prop) (X : EX) (hs : CloS st.length st) (hd : Clos st.length ds) (h0 : (Lr_are_steps n).call "is_step" ds st Q X) : b_is_step.run (Lr_are_steps n) ds st (Gc st.length Q) (GcX st.length X) := by
  obtain ⟨hh, s, w, R, rfl, ⟨ho, hok, hH, hw⟩, g, h⟩ := (show sStep n ds st Q X from h0)
  clear h0 hd
  have hz := line_gt
  conv => whnf
  refine ⟨?_⟩
  cases s with
  | quit =>
    conv => whnf
    repeat (refine Stop.mk ?_; conv => whnf)
    have e : stB hh w .quit = true := by unfold stB; rfl
    rw [e] at h
    exact .now (h st g)
  | put t row =>
    have e : stB hh w (.put t row) = inR 0 (hh.length - 1) t := by unfold stB; rfl
    rw [e] at h
    conv => whnf
    repeat (refine Stop.mk ?_; conv => whnf)
    refine ⟨.int t, 0, (((hh.map Tb.d).length : Nat) : Int) - 1, rfl, ⟨0, rfl⟩, ?_⟩
    rw [hlen]
    have e2 : isInt 0 ((hh.length : Int) - 1) (.int t) = inR 0 (hh.length - 1) t := rfl
    rw [e2]
    generalize inR 0 ((hh.length : Int) - 1) t = b at h ⊢
    cases b with
    | true =>
      conv => whnf
      exact .now (h st g)
    | false =>
      conv => whnf
      exact .now (h st g)
  | take t row =>
    have e : stB hh w (.take t row) = inR 0 (hh.length - 1) t := by unfold stB; rfl
    rw [e] at h
    conv => whnf
    repeat (refine Stop.mk ?_; conv => whnf)
    refine ⟨.int t, 0, (((hh.map Tb.d).length : Nat) : Int) - 1, rfl, ⟨0, rfl⟩, ?_⟩
    rw [hlen]
    have e2 : isInt 0 ((hh.length : Int) - 1) (.int t) = inR 0 (hh.length - 1) t := rfl
    rw [e2]
    generalize inR 0 ((hh.length : Int) - 1) t = b at h ⊢
    cases b with
    | true =>
      conv => whnf
      exact .now (h st g)
    | false =>
      conv => whnf
      exact .now (h st g)
  | ask m q =>
    have e : stB hh w (.ask m q) = (decide (0 ≤ w) && (inR 0 7 m && (q.kinds hh).isSome)) := by unfold stB; rfl
    rw [e] at h
    have hq : q.ok hh := by unfold stOk at hok; exact hok
    conv => whnf
    repeat (refine Stop.mk ?_; conv => whnf)
    refine ifB_intro (fun c => ?_) (fun c => ?_)
    · have c : 0 ≤ w := of_decide_eq_true c
      rw [decide_eq_true c, Bool.true_and] at h
      conv => whnf
      refine ⟨.int m, 0, 8 - 1, rfl, ⟨0, rfl⟩, ?_⟩
      have e2 : isInt 0 (8 - 1) (.int m) = inR 0 7 m := rfl
      rw [e2]
      cases e3 : inR 0 7 m with
      | true =>
        rw [e3, Bool.true_and] at h
        conv => whnf
        exact ⟨hh, q, R, rfl, ⟨ho, hq⟩, g, fun st' g' => .now (h st' g')⟩
      | false =>
        rw [e3, Bool.false_and] at h
        conv => whnf
        exact .now (h st g)
    · have c : ¬ 0 ≤ w := of_decide_eq_false c
      rw [decide_eq_false c, Bool.false_and] at h
      conv => whnf
      exact .now (h st g)
  | try_ ss =>
    have e : stB hh w (.try_ ss) = (decide ((aroundI w false).natAbs ≤ 4) && stsB hh (aroundI w false) ss) := by rw [stB]
    rw [e] at h
    have hk : ss.length ≤ 1000 ∧ stsOk hh ss := by unfold stOk at hok; exact hok
    have hH : stsH ss + 1 ≤ n := by unfold stH at hH; exact hH
    obtain ⟨m, rfl⟩ : ∃ m, n = m + 1 := ⟨n - 1, by omega⟩
    conv => whnf
    repeat (refine Stop.mk ?_; conv => whnf)
    refine ⟨w, false, rfl, ?_⟩
    conv => whnf
    exact ⟨hh, _, _, R, rfl, ho, g, .inr ⟨ss, rfl, ⟨hk.2, by omega, hk.1⟩, fun st' g' => .now (h st' g')⟩⟩
  | each k ss =>
    have e : stB hh w (.each k ss) = (inR 0 7 k && (decide ((aroundI w true).natAbs ≤ 4) && stsB hh (aroundI w true) ss)) := by rw [stB]
    rw [e] at h
    have hk : ss.length ≤ 1000 ∧ stsOk hh ss := by unfold stOk at hok; exact hok
    have hH : stsH ss + 1 ≤ n := by unfold stH at hH; exact hH
    obtain ⟨m, rfl⟩ : ∃ m, n = m + 1 := ⟨n - 1, by omega⟩
    conv => whnf
    repeat (refine Stop.mk ?_; conv => whnf)
    refine ⟨.int k, 0, 8 - 1, rfl, ⟨0, rfl⟩, ?_⟩
    have e2 : isInt 0 (8 - 1) (.int k) = inR 0 7 k := rfl
    rw [e2]
    generalize inR 0 7 k = b at h ⊢
    cases b with
    | true =>
      rw [Bool.true_and] at h
      conv => whnf
      repeat (refine Stop.mk ?_; conv => whnf)
      refine ⟨w, true, rfl, ?_⟩
      conv => whnf
      exact ⟨hh, _, _, R, rfl, ho, g, .inr ⟨ss, rfl, ⟨hk.2, by omega, hk.1⟩, fun st' g' => .now (h st' g')⟩⟩
    | false =>
      conv => whnf
      repeat (refine Stop.mk ?_; conv => whnf)
      exact .now (h st g)
  | whn k lo hi ss =>
    have e : stB hh w (.whn k lo hi ss) = (inR 0 7 k && (inR 0 400 lo && (inR 0 400 hi && (decide ((aroundI w false).natAbs ≤ 4) && stsB hh (aroundI w false) ss)))) := by rw [stB]
    rw [e] at h
    have hk : ss.length ≤ 1000 ∧ stsOk hh ss := by unfold stOk at hok; exact hok
    have hH : stsH ss + 1 ≤ n := by unfold stH at hH; exact hH
    obtain ⟨m, rfl⟩ : ∃ m, n = m + 1 := ⟨n - 1, by omega⟩
    conv => whnf
    repeat (refine Stop.mk ?_; conv => whnf)
    refine ⟨.int k, 0, 8 - 1, rfl, ⟨0, rfl⟩, ?_⟩
    have e2 : isInt 0 (8 - 1) (.int k) = inR 0 7 k := rfl
    rw [e2]
    generalize inR 0 7 k = b at h ⊢
    cases b with
    | false =>
      conv => whnf
      repeat (refine Stop.mk ?_; conv => whnf)
      exact .now (h st g)
    | true =>
      rw [Bool.true_and] at h
      conv => whnf
      repeat (refine Stop.mk ?_; conv => whnf)
      refine ⟨.int lo, 0, 400, rfl, ⟨0, rfl⟩, ?_⟩
      have e2 : isInt 0 400 (.int lo) = inR 0 400 lo := rfl
      rw [e2]
      generalize inR 0 400 lo = b at h ⊢
      cases b with
      | false =>
        conv => whnf
        repeat (refine Stop.mk ?_; conv => whnf)
        exact .now (h st g)
      | true =>
        rw [Bool.true_and] at h
        conv => whnf
        refine ⟨.int hi, 0, 400, rfl, ⟨0, rfl⟩, ?_⟩
        have e2 : isInt 0 400 (.int hi) = inR 0 400 hi := rfl
        rw [e2]
        generalize inR 0 400 hi = b at h ⊢
        cases b with
        | false =>
          conv => whnf
          repeat (refine Stop.mk ?_; conv => whnf)
          exact .now (h st g)
        | true =>
          rw [Bool.true_and] at h
          conv => whnf
          repeat (refine Stop.mk ?_; conv => whnf)
          refine ⟨w, false, rfl, ?_⟩
          conv => whnf
          exact ⟨hh, _, _, R, rfl, ho, g, .inr ⟨ss, rfl, ⟨hk.2, by omega, hk.1⟩, fun st' g' => .now (h st' g')⟩⟩
  | odd d =>
    have e : stB hh w (.odd d) = false := by unfold stB; rfl
    rw [e] at h
    have hk : Odd d := by unfold stOk at hok; exact hok
    have fin : ∀ st', Has st' R → Gc st.length Q (.bl false) st' := fun st' g' => .now (h st' g')
    rcases hk with mem | ⟨t, rfl | rfl | rfl | rfl⟩
    · have hn : 1 ≤ n := by unfold stH at hH; exact hH
      obtain ⟨m, rfl⟩ : ∃ m, n = m + 1 := ⟨n - 1, by omega⟩
      simp only [oddL, List.mem_cons, List.not_mem_nil, or_false] at mem
      rcases mem with rfl | rfl | rfl | rfl | rfl | rfl | rfl | rfl | rfl | rfl | rfl | rfl | rfl | rfl | rfl | rfl
      all_goals
        conv => whnf
        repeat first
          | (refine Stop.mk ?_; conv => whnf)
          | (refine ⟨_, 0, _, rfl, ⟨9, rfl⟩, ?_⟩; conv => whnf)
          | (refine ⟨w, _, rfl, ?_⟩; conv => whnf)
        first
          | exact fin st g
          | exact ⟨hh, _, _, R, rfl, ho, g, .inl ⟨_, rfl, fun st' g' => fin st' g'⟩⟩
    · conv => whnf
      repeat (refine Stop.mk ?_; conv => whnf)
      refine ifB_intro (fun c => ?_) (fun c => ?_)
      · conv => whnf
        refine ⟨.bl true, 0, 8 - 1, rfl, ⟨0, rfl⟩, ?_⟩
        conv => whnf
        exact fin st g
      · conv => whnf
        exact fin st g
    · conv => whnf
      repeat (refine Stop.mk ?_; conv => whnf)
      refine ⟨.int t, 0, (((hh.map Tb.d).length : Nat) : Int) - 1, rfl, ⟨0, rfl⟩, ?_⟩
      generalize isInt 0 ((((hh.map Tb.d).length : Nat) : Int) - 1) (.int t) = b
      cases b with
      | true =>
        conv => whnf
        exact fin st g
      | false =>
        conv => whnf
        exact fin st g
    · conv => whnf
      repeat (refine Stop.mk ?_; conv => whnf)
      exact fin st g
    · conv => whnf
      repeat (refine Stop.mk ?_; conv => whnf)
      exact fin st g
end K

set_option maxHeartbeats 1000000
namespace K
open PySem PySem.Spec PyProof.Rows L2 DL
theorem stsC_app : ∀ (a b : List St), stsC (a ++ b) = stsC a + stsC b
  | [], b => by
    rw [List.nil_append, show stsC [] = 0 by unfold stsC; rfl, Nat.zero_add]
  | s :: a, b => by
    rw [List.cons_append, stsC, stsC, stsC_app a b]
    omega
theorem stsC_one (s : St) : stsC [s] = stC s := by rw [stsC, stsC]; omega
theorem stB_mem {h : Hs} {w : Int} {ss : List St} (hb : stsB h w ss = true) {s : St} (m : s ∈ ss) : stB h w s = true := by
  rw [stsB_all] at hb
  exact List.all_eq_true.mp hb s m
/-- the steps within one -/
def St.subs : St → Option (List St)
  | .whn _ _ _ ss => some ss
  | .each _ ss => some ss
  | .try_ ss => some ss
  | _ => none
theorem v_count_steps (n : Nat) (ds : List D) (st : Sto) (Q : D → Sto → Prop) (X : EX) (hs : CloS st.length st) (hd : Clos st.length ds) (h0 : (Lr_count_steps (n + 1)).call "count_steps" ds st Q X) : b_count_steps.run (Lr_count_steps n) ds st (Gc st.length Q) (GcX st.length X) := by
  obtain ⟨ss, hh, w, rfl, ⟨hH, hb⟩, h⟩ := (show sCount n ds st Q X from h0)
  clear h0 hd
  have hz := line_gt
  have h3 : 3 ≤ sizeLine := by omega
  conv => whnf
  refine ⟨?_⟩
  conv => whnf
  refine ⟨?_⟩
  conv => whnf
  rw [stsD_map]
  refine forGo_ind (f := St.d) (fun done todo env st1 => done ++ todo = ss ∧ st1 = st ∧ ∃ e2, env = [some (.tup (ss.map St.d)), some (.int (stsC done)), e2]) ss [] ⟨rfl, rfl, _, by unfold stsC; rfl⟩ ?_ ?_
  · rintro done s todo env st1 kk ⟨e, rfl, e2, rfl⟩ hn
    have ms : s ∈ ss := by rw [← e]; simp
    have bs := stB_mem hb ms
    have hs2 := Nat.le_trans (stsH_le ms) hH
    have fin : ∀ (v : Int) e2, v = stsC done + stC s → kk [some (.tup (ss.map St.d)), some (.int v), e2] st1 := fun v e2 ev => hn _ _ ⟨by rw [List.append_assoc]; exact e, rfl, e2, by rw [stsC_app, stsC_one, ev, Int.natCast_add]⟩
    conv => whnf
    refine ⟨?_⟩
    conv => whnf
    refine ⟨?_⟩
    cases s with
    | odd d => unfold stB at bs; cases bs
    | whn k lo hi ts =>
      have hs2 : stsH ts + 1 ≤ n := by unfold stH at hs2; exact hs2
      have bt : stsB hh (aroundI w false) ts = true := by
        rw [stB] at bs
        simp only [Bool.and_eq_true] at bs
        exact bs.2.2.2.2
      obtain ⟨m, rfl⟩ : ∃ m, n = m + 1 := ⟨n - 1, by omega⟩
      conv => whnf
      refine ⟨h3, ?_⟩
      conv => whnf
      refine ⟨⟨rfl, rfl⟩, ?_⟩
      conv => whnf
      refine ⟨?_⟩
      conv => whnf
      refine ⟨ts, hh, _, rfl, ⟨by omega, bt⟩, ?_⟩
      conv => whnf
      exact fin _ _ (by unfold stC; omega)
    | each k ts =>
      have hs2 : stsH ts + 1 ≤ n := by unfold stH at hs2; exact hs2
      have bt : stsB hh (aroundI w true) ts = true := by
        rw [stB] at bs
        simp only [Bool.and_eq_true] at bs
        exact bs.2.2
      obtain ⟨m, rfl⟩ : ∃ m, n = m + 1 := ⟨n - 1, by omega⟩
      conv => whnf
      refine ⟨h3, ?_⟩
      conv => whnf
      refine ⟨⟨rfl, rfl⟩, ?_⟩
      conv => whnf
      refine ⟨?_⟩
      conv => whnf
      refine ⟨ts, hh, _, rfl, ⟨by omega, bt⟩, ?_⟩
      conv => whnf
      exact fin _ _ (by unfold stC; omega)
    | try_ ts =>
      have hs2 : stsH ts + 1 ≤ n := by unfold stH at hs2; exact hs2
      have bt : stsB hh (aroundI w false) ts = true := by
        rw [stB] at bs
        simp only [Bool.and_eq_true] at bs
        exact bs.2
      obtain ⟨m, rfl⟩ : ∃ m, n = m + 1 := ⟨n - 1, by omega⟩
      conv => whnf
      refine ⟨h3, ?_⟩
      conv => whnf
      refine ⟨⟨rfl, rfl⟩, ?_⟩
      conv => whnf
      refine ⟨?_⟩
      conv => whnf
      refine ⟨ts, hh, _, rfl, ⟨by omega, bt⟩, ?_⟩
      conv => whnf
      exact fin _ _ (by unfold stC; omega)
    | _ =>
      conv => whnf
      refine ⟨h3, ?_⟩
      conv => whnf
      refine ⟨⟨rfl, rfl⟩, ?_⟩
      conv => whnf
      exact fin _ _ (by unfold stC; omega)
  · rintro env st1 ⟨_, rfl, e2, rfl⟩
    conv => whnf
    refine ⟨?_⟩
    conv => whnf
    rw [List.nil_append]
    exact .now h
theorem v_law_count (n : Nat) (ds : List D) (st : Sto) (Q : D → Sto → Prop) (X : EX) (hs : CloS st.length st) (hd : Clos st.length ds) (h0 : (Lr_law_count (n + 1)).call "_law_count" ds st Q X) : b_law_count.run (Lr_law_count n) ds st (Gc st.length Q) (GcX st.length X) := by
  obtain ⟨ss, hh, w, rfl, ⟨hH, hb⟩, h⟩ := (show sCount n ds st Q X from h0)
  clear h0 hd
  have hz := line_gt
  have h3 : 3 ≤ sizeLine := by omega
  conv => whnf
  refine ⟨?_⟩
  conv => whnf
  refine ⟨?_⟩
  conv => whnf
  rw [stsD_map, List.length_map]
  refine forGo_ind (f := St.d) (fun done todo env st1 => done ++ todo = ss ∧ st1 = st ∧ ∃ (v : Int) (e2 : Option D), v = ss.length + stsC done - done.length ∧ env = [some (.tup (ss.map St.d)), some (.int v), e2]) ss [] ⟨rfl, rfl, _, _, by unfold stsC; simp, rfl⟩ ?_ ?_
  · rintro done s todo env st1 kk ⟨e, rfl, v, e2, ev, rfl⟩ hn
    have ms : s ∈ ss := by rw [← e]; simp
    have bs := stB_mem hb ms
    have hs2 := Nat.le_trans (stsH_le ms) hH
    have fin : ∀ (v2 : Int) e2, v2 = v + stC s - 1 → kk [some (.tup (ss.map St.d)), some (.int v2), e2] st1 := fun v2 e2 e3 => hn _ _ ⟨by rw [List.append_assoc]; exact e, rfl, v2, e2, by rw [stsC_app, stsC_one, List.length_append, List.length_singleton]; omega, rfl⟩
    conv => whnf
    refine ⟨?_⟩
    cases s with
    | odd d => unfold stB at bs; cases bs
    | whn k lo hi ts =>
      have hs2 : stsH ts + 1 ≤ n := by unfold stH at hs2; exact hs2
      have bt : stsB hh (aroundI w false) ts = true := by
        rw [stB] at bs
        simp only [Bool.and_eq_true] at bs
        exact bs.2.2.2.2
      obtain ⟨m, rfl⟩ : ∃ m, n = m + 1 := ⟨n - 1, by omega⟩
      conv => whnf
      refine ⟨h3, ?_⟩
      conv => whnf
      refine ⟨⟨rfl, rfl⟩, ?_⟩
      conv => whnf
      refine ⟨?_⟩
      conv => whnf
      refine ⟨ts, hh, _, rfl, ⟨by omega, bt⟩, ?_⟩
      conv => whnf
      exact fin _ _ (by unfold stC; omega)
    | each k ts =>
      have hs2 : stsH ts + 1 ≤ n := by unfold stH at hs2; exact hs2
      have bt : stsB hh (aroundI w true) ts = true := by
        rw [stB] at bs
        simp only [Bool.and_eq_true] at bs
        exact bs.2.2
      obtain ⟨m, rfl⟩ : ∃ m, n = m + 1 := ⟨n - 1, by omega⟩
      conv => whnf
      refine ⟨h3, ?_⟩
      conv => whnf
      refine ⟨⟨rfl, rfl⟩, ?_⟩
      conv => whnf
      refine ⟨?_⟩
      conv => whnf
      refine ⟨ts, hh, _, rfl, ⟨by omega, bt⟩, ?_⟩
      conv => whnf
      exact fin _ _ (by unfold stC; omega)
    | try_ ts =>
      have hs2 : stsH ts + 1 ≤ n := by unfold stH at hs2; exact hs2
      have bt : stsB hh (aroundI w false) ts = true := by
        rw [stB] at bs
        simp only [Bool.and_eq_true] at bs
        exact bs.2
      obtain ⟨m, rfl⟩ : ∃ m, n = m + 1 := ⟨n - 1, by omega⟩
      conv => whnf
      refine ⟨h3, ?_⟩
      conv => whnf
      refine ⟨⟨rfl, rfl⟩, ?_⟩
      conv => whnf
      refine ⟨?_⟩
      conv => whnf
      refine ⟨ts, hh, _, rfl, ⟨by omega, bt⟩, ?_⟩
      conv => whnf
      exact fin _ _ (by unfold stC; omega)
    | _ =>
      conv => whnf
      refine ⟨h3, ?_⟩
      conv => whnf
      refine ⟨⟨rfl, rfl⟩, ?_⟩
      conv => whnf
      exact fin _ _ (by unfold stC; omega)
  · rintro env st1 ⟨_, rfl, v, e2, ev, rfl⟩
    conv => whnf
    refine ⟨?_⟩
    conv => whnf
    rw [List.nil_append] at ev
    have e : v = stsC ss := by omega
    subst e
    exact .now h
theorem v_is_program (ds : List D) (st : Sto) (Q : D → Sto → Prop) (X : EX) (hs : CloS st.length st) (hd : Clos st.length ds) (h0 : L.call "is_program" ds st Q X) : b_is_program.run L ds st (Gc st.length Q) (GcX st.length X) := by
  obtain ⟨hh, d, R, rfl, ho, g, h⟩ := (show sIsProgram ds st Q X from h0)
  clear h0 hd
  conv => whnf
  refine ⟨?_⟩
  rcases h with ⟨mem, h⟩ | ⟨ss, rfl, hok, hH, hl, h⟩
  · have fin : ∀ st', Has st' R → Gc st.length Q (.bl false) st' := fun st' g' => .now (h st' g')
    simp only [oddP, List.mem_cons, List.not_mem_nil, or_false] at mem
    rcases mem with rfl | rfl | rfl | rfl | rfl | rfl | rfl
    all_goals
      conv => whnf
      repeat (refine Stop.mk ?_; conv => whnf)
      first
        | exact fin st g
        | (refine ⟨hh, _, _, R, rfl, ho, g, .inl ⟨_, rfl, fun st' g' => ?_⟩⟩
           conv => whnf
           repeat (refine Stop.mk ?_; conv => whnf)
           exact fin st' g')
  · conv => whnf
    refine ⟨?_⟩
    conv => whnf
    refine ⟨hh, .tup (stsD ss), 0, R, rfl, ho, g, .inr ⟨ss, rfl, ⟨hok, hH, hl⟩, fun st' g' => ?_⟩⟩
    have h := h st' g'
    have e : (decide ((0 : Int).natAbs ≤ 4) && stsB hh 0 ss) = stsB hh 0 ss := by rw [decide_eq_true (by decide), Bool.true_and]
    rw [e]
    cases eb : stsB hh 0 ss with
    | false =>
      rw [eb, Bool.false_and] at h
      conv => whnf
      repeat (refine Stop.mk ?_; conv => whnf)
      exact .now h
    | true =>
      rw [eb, Bool.true_and] at h
      conv => whnf
      repeat (refine Stop.mk ?_; conv => whnf)
      refine ⟨ss, hh, 0, rfl, ⟨(show stsH ss ≤ 11 by omega), eb⟩, ?_⟩
      conv => whnf
      have e2 : decide (((stsC ss : Nat) : Int) ≤ 40) = decide (stsC ss ≤ 40) := ltd (by omega)
      have h : Q (.bl (decide (((stsC ss : Nat) : Int) ≤ 40))) st' := by rw [e2]; exact h
      exact .now h
end K

set_option maxHeartbeats 1000000
namespace K
open PySem PySem.Spec PyProof.Rows L2 DL
def whB : S → Ss
  | .while_ _ b => b
  | _ => .nil
def tpC (c : Nat) (sd : Int) : Cell := .lst [.loc c, .int sd]
def inC (ns : List Int) : Cell := .lst (ns.map D.int)
theorem v_law_tape (ds : List D) (st : Sto) (Q : D → Sto → Prop) (X : EX) (hs : CloS st.length st) (hd : Clos st.length ds) (h0 : L.call "_law_tape" ds st Q X) : b_law_tape.run L ds st (Gc st.length Q) (GcX st.length X) := by
  obtain ⟨ns, R, rfl, hl, g, h⟩ := (show sTape ds st Q X from h0)
  clear h0 hd
  have hz := line_gt
  conv => whnf
  refine ⟨?_⟩
  conv => whnf
  refine ⟨?_⟩
  conv => whnf
  refine forGo_ind (f := D.int) (fun done todo env st1 => st1 = st ∧ ∃ (sd : Int) (e2 : Option D), (0 ≤ sd ∧ sd ≤ 1000003) ∧ env = [some (.scr ns), some (.int sd), e2]) ns [] ⟨rfl, 7, _, by omega, rfl⟩ ?_ ?_
  · rintro done x todo env st1 kk ⟨rfl, sd, e2, hsd, rfl⟩ hn
    conv => whnf
    refine ⟨?_⟩
    conv => whnf
    refine ⟨by rw [Bool.or_eq_true]; exact .inr (by decide), ?_⟩
    conv => whnf
    refine ⟨by decide, ?_⟩
    conv => whnf
    exact hn _ _ ⟨rfl, _, _, by omega, rfl⟩
  · rintro env st1 ⟨rfl, sd, e2, hsd, rfl⟩
    conv => whnf
    refine ⟨?_⟩
    conv => whnf
    refine lcGo_ind (f := D.int) (fun done todo acc st2 => done.length + todo.length ≤ 63 ∧ st2 = st1 ∧ ∃ ms : List Int, (∀ m ∈ ms, 0 ≤ m) ∧ ms.length = done.length ∧ acc = (ms.map D.int).reverse) ns [] ⟨by simpa using hl, rfl, [], by simp, rfl, rfl⟩ ?_ ?_
    · rintro done x todo acc st2 kk ⟨hk, rfl, ms, hp, hm, rfl⟩ hn
      simp only [List.length_cons] at hk
      conv => whnf
      refine ⟨by rw [List.length_reverse, List.length_map]; omega, hn _ _ ⟨by simp only [List.length_append, List.length_singleton]; omega, rfl, ms ++ [if x < 0 then -x else x], ?_, by simp [hm], by rw [List.map_append, List.reverse_append]; rfl⟩⟩
      intro y hy
      rcases List.mem_append.mp hy with hy | hy
      · exact hp y hy
      · rw [List.mem_singleton.mp hy]; split <;> omega
    · rintro acc st2 ⟨_, rfl, ms, hp, hm, rfl⟩
      rw [List.reverse_reverse]
      conv => whnf
      refine ⟨(show 2 ≤ sizeLine by omega), ?_⟩
      have g2 : Has ((st2 ++ [inC ms]) ++ [tpC st2.length (sd + 1)]) (((st2 ++ [inC ms]).length, tpC st2.length (sd + 1)) :: (st2.length, inC ms) :: R) := g.add.add
      exact .now (h _ _ _ ⟨sd + 1, ms, by omega, hp, g2⟩)
theorem draw_end {t c : Nat} {sd many : Int} {ns : List Int} {R : Pl} {st : Sto} {Q : D → Sto → Prop} {P : Post} {e3 : Option D} {N : Nat} (hm : 0 < many ∧ many < 1073741824) (hsd : 0 ≤ sd ∧ sd ≤ 2147483648) (hp : ∀ n ∈ ns, 0 ≤ n) (g : Has st ((t, tpC c sd) :: (c, inC ns) :: R)) (eP : P.rt = Gc N Q)
    (h : ∀ v st', 0 ≤ v → v < many → Tp t c R st' → Q (.int v) st') : wpSs L (dropS 2 b_law_draw.body) [some (.loc t), some (.int many), some (.loc c), e3] st P := by
  conv => whnf
  refine onSome_i (has_2 g) ?_
  conv => whnf
  cases ns with
  | nil =>
    conv => whnf
    refine ⟨?_⟩
    conv => whnf
    refine onSome_i (has_1 g) ?_
    conv => whnf
    refine ⟨by rw [Bool.or_eq_true]; exact .inr (by decide), ?_⟩
    conv => whnf
    refine ⟨by decide, ?_⟩
    conv => whnf
    refine onSome_i (has_1 g) ?_
    conv => whnf
    refine ⟨?_⟩
    have g2 := has_set1 (c' := tpC c ((sd * 48271 + 12345) % 2147483647)) g
    conv => whnf
    refine onSome_i (has_1 g2) ?_
    conv => whnf
    refine ⟨by decide, ?_⟩
    conv => whnf
    refine ⟨by omega, ?_⟩
    show P.rt _ _
    rw [eP]
    exact .now (h _ _ (Int.emod_nonneg _ (by omega)) (Int.emod_lt_of_pos _ (by omega)) ⟨_, [], by omega, by simp, g2⟩)
  | cons x r =>
    refine ifB_t (decide_eq_true (by show (0 : Int) < (((x :: r).map D.int).length : Nat); rw [List.length_map, List.length_cons]; omega)) ?_
    conv => whnf
    refine ⟨?_⟩
    conv => whnf
    refine onSome_i (has_2 g) ?_
    conv => whnf
    refine onSome_i (a := .int x) (show atI (D.int x :: r.map D.int) 0 = _ from at0) ?_
    conv => whnf
    refine ⟨?_⟩
    conv => whnf
    refine ⟨by omega, ?_⟩
    conv => whnf
    refine onSome_i (has_2 g) ?_
    conv => whnf
    have g2 : Has (st.set c (inC (x / many :: r))) ((t, tpC c sd) :: (c, inC (x / many :: r)) :: R) := Has.set (l1 := [(t, tpC c sd)]) g
    refine onSome_i (a := 0) (show ixN ((x :: r).map D.int).length 0 = some 0 from ?_) ?_
    · rw [List.length_map, List.length_cons]
      unfold ixN
      rw [if_pos (by omega), if_pos (by omega)]
      rfl
    have es : st.set c (.lst (((x :: r).map D.int).set 0 (.int (x / many)))) = st.set c (inC (x / many :: r)) := rfl
    rw [es]
    conv => whnf
    refine ⟨?_⟩
    conv => whnf
    refine ⟨by omega, ?_⟩
    show P.rt _ _
    rw [eP]
    refine .now (h _ _ (Int.emod_nonneg _ (by omega)) (Int.emod_lt_of_pos _ (by omega)) ⟨sd, x / many :: r, hsd, fun y hy => ?_, g2⟩)
    rcases List.mem_cons.mp hy with rfl | hy
    · exact Int.ediv_nonneg (hp x (by simp)) (by omega)
    · exact hp y (by simp [hy])
theorem v_law_draw (ds : List D) (st : Sto) (Q : D → Sto → Prop) (X : EX) (hs : CloS st.length st) (hd : Clos st.length ds) (h0 : L.call "_law_draw" ds st Q X) : b_law_draw.run L ds st (Gc st.length Q) (GcX st.length X) := by
  obtain ⟨t, c, many, R, rfl, hm, ⟨sd, ns, hsd, hp, g⟩, h⟩ := (show sDraw ds st Q X from h0)
  clear h0 hd
  have g : Has st ((t, tpC c sd) :: (c, inC ns) :: R) := g
  conv => whnf
  refine ⟨?_⟩
  conv => whnf
  refine onSome_i (has_1 g) ?_
  conv => whnf
  refine ⟨?_⟩
  conv => whnf
  refine ⟨ns.length + 1, ?_⟩
  refine whileGo_ind (fun m env st1 => ∃ ms : List Int, m = ms.length ∧ (∀ n ∈ ms, 0 ≤ n) ∧ Has st1 ((t, tpC c sd) :: (c, inC ms) :: R) ∧ env = [some (.loc t), some (.int many), some (.loc c), none]) ?_ _ ns.length _ _ (by omega) ⟨ns, rfl, hp, g, rfl⟩
  rintro m env st1 kk ⟨ms, rfl, hp1, g1, rfl⟩ hn
  conv => whnf
  refine onSome_i (has_2 g1) ?_
  cases ms with
  | nil =>
    conv => whnf
    refine ⟨?_⟩
    exact draw_end hm hsd hp1 g1 rfl h
  | cons x r =>
    conv => whnf
    refine ifB_t (decide_eq_true (by show (0 : Int) < (((x :: r).map D.int).length : Nat); rw [List.length_map, List.length_cons]; omega)) ?_
    conv => whnf
    refine onSome_i (has_2 g1) ?_
    conv => whnf
    refine onSome_i (a := .int x) (show atI (D.int x :: r.map D.int) 0 = _ from at0) ?_
    conv => whnf
    refine ifB_intro (fun q => ?_) (fun q => ?_)
    · have g2 : Has (st1.set c (inC r)) ((t, tpC c sd) :: (c, inC r) :: R) := Has.set (l1 := [(t, tpC c sd)]) g1
      conv => whnf
      refine ⟨?_⟩
      conv => whnf
      refine ⟨onSome_i (has_2 g1) trivial, ?_⟩
      conv => whnf
      refine onSome_i (has_2 g1) ?_
      conv => whnf
      refine ⟨⟨by decide, by decide⟩, ?_⟩
      refine onSome_i (a := 0) (show ixN ((x :: r).map D.int).length 0 = some 0 from ?_) ?_
      · rw [List.length_map, List.length_cons]
        unfold ixN
        rw [if_pos (by omega), if_pos (by omega)]
        rfl
      refine onSome_i (a := .int x) rfl ?_
      exact hn r.length _ _ (by rw [List.length_cons]; omega) ⟨r, rfl, fun n hn => hp1 n (by simp [hn]), g2, rfl⟩
    · conv => whnf
      refine ⟨?_⟩
      exact draw_end hm hsd hp1 g1 rfl h
theorem v_law_pick (ds : List D) (st : Sto) (Q : D → Sto → Prop) (X : EX) (hs : CloS st.length st) (hd : Clos st.length ds) (h0 : L.call "_law_pick" ds st Q X) : b_law_pick.run L ds st (Gc st.length Q) (GcX st.length X) := by
  obtain ⟨t, c, u, xs, R, rfl, hu, hl, g, h⟩ := (show sPick ds st Q X from h0)
  clear h0 hd
  rcases hu with rfl | rfl
  all_goals
    conv => whnf
    refine ⟨t, c, _, R, rfl, ⟨by omega, by omega⟩, g, fun v st1 p q g1 => ?_⟩
    conv => whnf
    refine pick_d p q fun z m => ?_
    exact .now (h _ _ m g1)
theorem v_law_same (n : Nat) (ds : List D) (st : Sto) (Q : D → Sto → Prop) (X : EX) (hs : CloS st.length st) (hd : Clos st.length ds) (h0 : (Lr_law_same (n + 1)).call "_law_same" ds st Q X) : b_law_same.run (Lr_law_same n) ds st (Gc st.length Q) (GcX st.length X) := by
  obtain ⟨a, b, rfl, h⟩ := (show sSame n ds st Q X from h0)
  clear h0 hd
  have hz := line_gt
  conv => whnf
  refine ⟨?_⟩
  rcases h with ⟨x, y, rfl, rfl, h⟩ | ⟨x, y, rfl, rfl, h⟩ | ⟨hn, xs, hl, rfl, rfl, h⟩
  · conv => whnf
    repeat (refine Stop.mk ?_; conv => whnf)
    refine ⟨⟨rfl, rfl⟩, ?_⟩
    exact .now h
  · conv => whnf
    repeat (refine Stop.mk ?_; conv => whnf)
    exact .now h
  · obtain ⟨m, rfl⟩ : ∃ m, n = m + 1 := ⟨n - 1, by omega⟩
    conv => whnf
    repeat (refine Stop.mk ?_; conv => whnf)
    refine ⟨⟨rfl, rfl⟩, ?_⟩
    conv => whnf
    refine ⟨⟨rfl, rfl⟩, ?_⟩
    conv => whnf
    repeat (refine Stop.mk ?_; conv => whnf)
    refine ifB_f (show (!decide (_ = _)) = false by simp) ?_
    conv => whnf
    repeat (refine Stop.mk ?_; conv => whnf)
    have el : (((xs.map D.int).length : Nat) : Int) = xs.length := by rw [List.length_map]
    refine ⟨⟨by rw [el]; omega, by rw [el]; omega⟩, ?_⟩
    have en : (((xs.map D.int).length : Nat) : Int).toNat = xs.length := by rw [el]; rfl
    refine lcGo_ind (f := fun i : Nat => D.int (0 + (i : Nat))) (fun done todo acc st1 => done ++ todo = List.range xs.length ∧ st1 = st ∧ acc = List.replicate done.length (D.bl true)) (List.range (((xs.map D.int).length : Nat) : Int).toNat) [] ⟨by rw [en]; rfl, rfl, rfl⟩ ?_ ?_
    · rintro done j todo acc st1 kk ⟨e, rfl, rfl⟩ hn2
      have hj : j < xs.length := List.mem_range.mp (by rw [← e]; simp)
      have l := congrArg List.length e
      rw [List.length_append, List.length_cons, List.length_range] at l
      dsimp only
      rw [Int.zero_add]
      have ej : atI (xs.map D.int) (j : Int) = some (.int xs[j]) := atI_n (by rw [List.getElem?_map, List.getElem?_eq_getElem hj]; rfl)
      conv => whnf
      refine onSome_i ej ?_
      conv => whnf
      refine onSome_i ej ?_
      conv => whnf
      refine ⟨.int xs[j], .int xs[j], rfl, .inr (.inl ⟨xs[j], xs[j], rfl, rfl, ?_⟩)⟩
      rw [decide_eq_true rfl]
      conv => whnf
      refine ⟨by rw [List.length_replicate]; omega, hn2 _ _ ⟨by rw [List.append_assoc]; exact e, rfl, ?_⟩⟩
      rw [List.length_append, List.length_singleton, List.replicate_succ]
    · rintro acc st1 ⟨_, rfl, rfl⟩
      rw [List.reverse_replicate]
      conv => whnf
      refine ⟨⟨rfl, lst_cmp (n := 0) (by decide) (fun d m => by rw [(List.mem_replicate.mp m).2]; rfl) (fun d m => by rw [(List.mem_replicate.mp m).2]; exact Nat.le_refl _)⟩, ?_⟩
      have e : ∀ n : Nat, ((List.replicate n (D.bl true)).any fun z => D.eqv z (.bl false)) = false := fun n => by
        induction n with
        | zero => rfl
        | succ n ih => rw [List.replicate_succ, List.any_cons, ih]; rfl
      have h : Q (.bl (true != (List.replicate ([] ++ List.range (((xs.map D.int).length : Nat) : Int).toNat).length (D.bl true)).any fun z => D.eqv z (.bl false))) st1 := by rw [e]; exact h
      exact .now h
end K

set_option maxHeartbeats 1000000
namespace K
open PySem PySem.Spec PyProof.Rows L2 DL
theorem v_law_item (ds : List D) (st : Sto) (Q : D → Sto → Prop) (X : EX) (hs : CloS st.length st) (hd : Clos st.length ds) (h0 : L.call "_law_item" ds st Q X) : b_law_item.run L ds st (Gc st.length Q) (GcX st.length X) := by
  obtain ⟨t, c, k, R, rfl, hk, g, h⟩ := (show sItem ds st Q X from h0)
  clear h0 hd
  have hz := line_gt
  conv => whnf
  refine ⟨?_⟩
  rcases hk with rfl | rfl
  · conv => whnf
    refine ⟨?_⟩
    conv => whnf
    refine ⟨t, c, _, R, rfl, ⟨by decide, by decide⟩, g, fun v st1 p q g1 => ?_⟩
    conv => whnf
    refine ifB_intro (fun q2 => ?_) (fun q2 => ?_)
    · conv => whnf
      refine ⟨?_⟩
      conv => whnf
      refine ⟨(show 3 ≤ sizeLine by omega), ?_⟩
      conv => whnf
      refine ⟨t, c, _, [.int (-2147483648), .int 2147483647, .int (-1)], R, rfl, .inl rfl, ⟨by decide, by decide⟩, g1, fun x st2 m g2 => .now (h x st2 ?_ g2)⟩
      simp only [List.mem_cons, List.not_mem_nil, or_false] at m
      rcases m with rfl | rfl | rfl <;> exact .inl ⟨rfl, _, rfl, by omega, by omega⟩
    · conv => whnf
      refine ⟨?_⟩
      conv => whnf
      exact ⟨t, c, _, R, rfl, ⟨by decide, by decide⟩, g1, fun v2 st2 p2 q2 g2 => .now (h _ st2 (.inl ⟨rfl, _, rfl, by omega, by omega⟩) g2)⟩
  · conv => whnf
    refine ⟨?_⟩
    conv => whnf
    refine ⟨(show 6 ≤ sizeLine by omega), ?_⟩
    conv => whnf
    refine ⟨t, c, _, [.str "", .str "a", .str "b", .str "ab", .str "zz9", .str "a0"], R, rfl, .inl rfl, ⟨by decide, by decide⟩, g, fun x st2 m g2 => .now (h x st2 ?_ g2)⟩
    simp only [List.mem_cons, List.not_mem_nil, or_false] at m
    rcases m with rfl | rfl | rfl | rfl | rfl | rfl <;> exact .inr ⟨rfl, _, rfl, by decide +kernel⟩
def fit (ks : List String) (k : String) (l : List Nat) : List Nat := l.filter fun j => decide (ks[j]? = some k)
theorem side_lit {t c : Nat} {ks : List String} {k : String} {R : Pl} {st : Sto} {Q : D → Sto → Prop} {P : Post} {e3 e4 e5 : Option D} {N : Nat} (hk : k = "number" ∨ k = "text") (g : Tp t c R st) (eP : P.rt = Gc N Q)
    (h : ∀ (e : Ex) st', wt ks e k → e.dep ≤ 2 → Tp t c R st' → Q e.d st') : wpSs L (dropS 2 b_law_side.body) [some (.loc t), some (ksD ks), some (.str k), e3, e4, e5] st P := by
  have hz := line_gt
  rcases hk with rfl | rfl
  · conv => whnf
    refine ⟨t, c, _, R, rfl, ⟨by decide, by decide⟩, g, fun v st1 p q g1 => ?_⟩
    conv => whnf
    refine ⟨(show 2 ≤ sizeLine by omega), ?_⟩
    show P.rt _ _
    rw [eP]
    exact .now (h (.num v) st1 ⟨rfl, p, by omega⟩ (by simp only [Ex.dep]; omega) g1)
  · conv => whnf
    refine ⟨t, c, "text", R, rfl, .inr rfl, g, fun x st1 hx g1 => ?_⟩
    conv => whnf
    refine ⟨(show 2 ≤ sizeLine by omega), ?_⟩
    show P.rt _ _
    rw [eP]
    rcases hx with ⟨e, -⟩ | ⟨-, s, rfl, hs⟩
    · exact absurd e (by decide)
    · exact .now (h (.txt s) st1 ⟨rfl, hs⟩ (by simp only [Ex.dep]; omega) g1)
theorem v_law_side (ds : List D) (st : Sto) (Q : D → Sto → Prop) (X : EX) (hs : CloS st.length st) (hd : Clos st.length ds) (h0 : L.call "_law_side" ds st Q X) : b_law_side.run L ds st (Gc st.length Q) (GcX st.length X) := by
  obtain ⟨t, c, ks, k, R, rfl, ⟨hkl, hkk⟩, g, h⟩ := (show sSide ds st Q X from h0)
  clear h0 hd
  have hz := line_gt
  conv => whnf
  refine ⟨?_⟩
  conv => whnf
  have e2 : ((ks.map D.str).length : Int) = ks.length := by rw [List.length_map]
  refine ⟨⟨by rw [e2]; omega, by rw [e2]; omega⟩, ?_⟩
  have en : ((ks.map D.str).length : Int).toNat = ks.length := by rw [e2]; rfl
  refine lcGo_ind (f := fun i : Nat => D.int (0 + (i : Nat))) (fun done todo acc st1 => done ++ todo = List.range ks.length ∧ st1 = st ∧ acc = ((fit ks k done).map fun j : Nat => D.int j).reverse) (List.range ((ks.map D.str).length : Int).toNat) [] ⟨by rw [en]; rfl, rfl, rfl⟩ ?_ ?_
  · rintro done j todo acc st1 kk ⟨e, rfl, rfl⟩ hn
    have hj : j < ks.length := List.mem_range.mp (by rw [← e]; simp)
    have hl : done.length + todo.length + 1 = ks.length := by
      have := congrArg List.length e
      rw [List.length_append, List.length_cons, List.length_range] at this
      omega
    have e3 : (0 : Int) + (j : Nat) = (j : Nat) := Int.zero_add _
    dsimp only
    rw [e3]
    conv => whnf
    refine onSome_i (a := .str ks[j]) (atI_n (by rw [List.getElem?_map, List.getElem?_eq_getElem hj]; rfl)) ?_
    conv => whnf
    refine ifB_intro (fun q => ?_) (fun q => ?_)
    · have q : ks[j] = k := of_decide_eq_true q
      conv => whnf
      have fl : (fit ks k done).length ≤ done.length := List.length_filter_le _ _
      refine ⟨by rw [List.length_reverse, List.length_map]; omega, hn _ _ ⟨by rw [List.append_assoc]; exact e, rfl, ?_⟩⟩
      unfold fit
      rw [List.filter_append, List.filter_cons_of_pos (by rw [List.getElem?_eq_getElem hj, q]; exact decide_eq_true rfl), List.map_append, List.reverse_append]
      rfl
    · have q : ¬ ks[j] = k := of_decide_eq_false q
      conv => whnf
      refine hn _ _ ⟨by rw [List.append_assoc]; exact e, rfl, ?_⟩
      unfold fit
      rw [List.filter_append, List.filter_cons_of_neg (by rw [List.getElem?_eq_getElem hj]; simpa using q), List.filter_nil, List.append_nil]
  · rintro acc st1 ⟨_, rfl, rfl⟩
    rw [List.nil_append, List.reverse_reverse, en]
    have fl : (fit ks k (List.range ks.length)).length ≤ 8 := Nat.le_trans (List.length_filter_le _ _) (by simpa using hkl)
    conv => whnf
    refine ⟨?_⟩
    conv => whnf
    refine ifB_intro (fun q => ?_) (fun q => ?_)
    · have q : (0 : Int) < ((fit ks k (List.range ks.length)).map fun j : Nat => D.int j).length := of_decide_eq_true q
      rw [List.length_map] at q
      conv => whnf
      refine ⟨t, c, _, R, rfl, ⟨by decide, by decide⟩, g, fun v st2 p q2 g1 => ?_⟩
      conv => whnf
      refine ifB_intro (fun q3 => ?_) (fun q3 => ?_)
      · conv => whnf
        refine ⟨?_⟩
        conv => whnf
        refine ⟨t, c, _, (fit ks k (List.range ks.length)).map fun j : Nat => D.int j, R, rfl, .inl rfl, ⟨by rw [List.length_map]; omega, by rw [List.length_map]; omega⟩, g1, fun z st3 m g2 => ?_⟩
        obtain ⟨j, hj, rfl⟩ := List.mem_map.mp m
        have hj := of_decide_eq_true (List.mem_filter.mp hj).2
        conv => whnf
        refine ⟨(show 2 ≤ sizeLine by omega), ?_⟩
        conv => whnf
        refine ⟨?_⟩
        rcases hkk with rfl | rfl
        · conv => whnf
          refine ⟨t, c, _, R, rfl, ⟨by decide, by decide⟩, g2, fun v st4 p q2 g3 => ?_⟩
          conv => whnf
          refine ifB_intro (fun q4 => ?_) (fun q4 => ?_)
          · conv => whnf
            refine ⟨?_⟩
            conv => whnf
            refine ⟨(show 5 ≤ sizeLine by omega), ?_⟩
            conv => whnf
            refine ⟨t, c, _, [.str "+", .str "-", .str "*", .str "/", .str "mod"], R, rfl, .inl rfl, ⟨by decide, by decide⟩, g3, fun z st5 mz g4 => ?_⟩
            have hz2 : ∃ i : String, z = .str i ∧ i ∈ RECK := by
              simp only [List.mem_cons, List.not_mem_nil, or_false] at mz
              rcases mz with rfl | rfl | rfl | rfl | rfl <;> exact ⟨_, rfl, by decide⟩
            obtain ⟨i, rfl, i1⟩ := hz2
            conv => whnf
            refine ⟨t, c, _, R, rfl, ⟨by decide, by decide⟩, g4, fun v2 st6 p2 q5 g5 => ?_⟩
            conv => whnf
            refine ⟨(show 2 ≤ sizeLine by omega), ?_⟩
            conv => whnf
            refine ⟨(show 4 ≤ sizeLine by omega), ?_⟩
            exact .now (h (.op i (.col j) (.num v2)) st6 ⟨rfl, i1, hj, rfl, p2, by omega⟩ (by simp only [Ex.dep]; omega) g5)
          · conv => whnf
            refine ⟨?_⟩
            conv => whnf
            exact .now (h (.col j) st4 hj (by simp only [Ex.dep]; omega) g3)
        · conv => whnf
          refine ⟨?_⟩
          conv => whnf
          exact .now (h (.col j) st3 hj (by simp only [Ex.dep]; omega) g2)
      · conv => whnf
        refine ⟨?_⟩
        exact side_lit hkk g1 rfl h
    · conv => whnf
      refine ⟨?_⟩
      exact side_lit hkk g rfl h
theorem cond_cmp {n t c : Nat} {ks : List String} {deep v : Int} {dp : Nat} {R : Pl} {st : Sto} {Q : D → Sto → Prop} {P : Post} {e4 e5 : Option D} {N : Nat} (hk : ksGood ks) (g : Tp t c R st) (eP : P.rt = Gc N Q)
    (h : ∀ (x : Cn) st', wtC ks x → x.dep ≤ dp + 3 → Tp t c R st' → Q x.d st') : wpSs (Lr_law_condition n) (dropS 4 b_law_condition.body) [some (.loc t), some (ksD ks), some (.int deep), some (.int v), e4, e5] st P := by
  have hz := line_gt
  have k8 := hk.1.2
  conv => whnf
  refine ⟨t, c, _, ks.map D.str, R, rfl, .inr rfl, ⟨by rw [List.length_map]; exact hk.1.1, by rw [List.length_map]; omega⟩, g, fun z st1 m g1 => ?_⟩
  obtain ⟨kd, hkd, rfl⟩ := List.mem_map.mp m
  have hkd := hk.2 kd hkd
  conv => whnf
  refine ⟨?_⟩
  conv => whnf
  refine ⟨(show 8 ≤ sizeLine by omega), ?_⟩
  conv => whnf
  refine ⟨t, c, _, [.str "=", .str "!=", .str "<", .str "<=", .str ">", .str ">=", .str "=", .str "="], R, rfl, .inl rfl, ⟨by decide, by decide⟩, g1, fun z st2 mz g2 => ?_⟩
  have hz2 : ∃ i : String, z = .str i ∧ i ∈ COMP := by
    simp only [List.mem_cons, List.not_mem_nil, or_false] at mz
    rcases mz with rfl | rfl | rfl | rfl | rfl | rfl | rfl | rfl <;> exact ⟨_, rfl, by decide⟩
  obtain ⟨i, rfl, i1⟩ := hz2
  conv => whnf
  refine ⟨?_⟩
  conv => whnf
  refine ⟨t, c, ks, kd, R, rfl, ⟨k8, hkd⟩, g2, fun a st3 wa da g3 => ?_⟩
  conv => whnf
  refine ⟨t, c, ks, kd, R, rfl, ⟨k8, hkd⟩, g3, fun b st4 wb db g4 => ?_⟩
  conv => whnf
  refine ⟨(show 4 ≤ sizeLine by omega), ?_⟩
  show P.rt _ _
  rw [eP]
  refine .now (h (.cmp i a b) st4 ⟨i1, kd, wa, wb⟩ ?_ g4)
  show max a.dep b.dep + 1 ≤ _
  omega
theorem cond_tru {n t c : Nat} {ks : List String} {deep v : Int} {dp : Nat} {R : Pl} {st : Sto} {Q : D → Sto → Prop} {P : Post} {e4 e5 : Option D} {N : Nat} (hk : ksGood ks) (g : Tp t c R st) (eP : P.rt = Gc N Q)
    (h : ∀ (x : Cn) st', wtC ks x → x.dep ≤ dp + 3 → Tp t c R st' → Q x.d st') : wpSs (Lr_law_condition n) (dropS 3 b_law_condition.body) [some (.loc t), some (ksD ks), some (.int deep), some (.int v), e4, e5] st P := by
  have hz := line_gt
  conv => whnf
  refine ifB_intro (fun q => ?_) (fun q => ?_)
  · conv => whnf
    refine ⟨t, c, _, R, rfl, ⟨by decide, by decide⟩, g, fun v st1 p q2 g1 => ?_⟩
    conv => whnf
    refine ifB_intro (fun q3 => ?_) (fun q3 => ?_)
    · conv => whnf
      refine ⟨?_⟩
      conv => whnf
      refine ⟨(show 1 ≤ sizeLine by omega), ?_⟩
      show P.rt _ _
      rw [eP]
      exact .now (h .tru st1 trivial (by simp only [Cn.dep]; omega) g1)
    · conv => whnf
      refine ⟨?_⟩
      exact cond_cmp hk g1 eP h
  · conv => whnf
    refine ⟨?_⟩
    exact cond_cmp hk g eP h
theorem v_law_condition (n : Nat) (ds : List D) (st : Sto) (Q : D → Sto → Prop) (X : EX) (hs : CloS st.length st) (hd : Clos st.length ds) (h0 : (Lr_law_condition (n + 1)).call "_law_condition" ds st Q X) : b_law_condition.run (Lr_law_condition n) ds st (Gc st.length Q) (GcX st.length X) := by
  obtain ⟨t, c, ks, deep, R, rfl, ⟨hk, hdp⟩, g, h⟩ := (show sLawCond n ds st Q X from h0)
  clear h0 hd
  have hz := line_gt
  conv => whnf
  refine ⟨?_⟩
  conv => whnf
  refine ⟨t, c, _, R, rfl, ⟨by decide, by decide⟩, g, fun v st1 p q g1 => ?_⟩
  conv => whnf
  refine ⟨?_⟩
  cases deep with
  | zero =>
    conv => whnf
    refine ⟨?_⟩
    conv => whnf
    refine ⟨?_⟩
    exact cond_tru hk g1 rfl h
  | succ d =>
    obtain ⟨m, rfl⟩ : ∃ m, n = m + 1 := ⟨n - 1, by omega⟩
    have lm : (((d + 1 : Nat) : Int) - 1) = (d : Int) := by omega
    have pz : decide ((0 : Int) < ((d + 1 : Nat) : Int)) = true := decide_eq_true (by omega)
    conv => whnf
    refine ifB_t pz ?_
    conv => whnf
    refine ifB_intro (fun q2 => ?_) (fun q2 => ?_)
    · conv => whnf
      refine ⟨?_⟩
      conv => whnf
      refine ⟨(show 2 ≤ sizeLine by omega), ?_⟩
      conv => whnf
      refine ⟨t, c, _, [.str "and", .str "or"], R, rfl, .inl rfl, ⟨by decide, by decide⟩, g1, fun z st2 mz g2 => ?_⟩
      have hz2 : ∃ k : Bool, z = .str (conN k) := by
        simp only [List.mem_cons, List.not_mem_nil, or_false] at mz
        rcases mz with rfl | rfl
        · exact ⟨true, rfl⟩
        · exact ⟨false, rfl⟩
      obtain ⟨k, rfl⟩ := hz2
      conv => whnf
      refine ⟨t, c, ks, d, R, congrArg (fun z => [D.loc t, ksD ks, D.int z]) lm, ⟨hk, by omega⟩, g2, fun a st3 wa da g3 => ?_⟩
      conv => whnf
      refine ⟨t, c, ks, d, R, congrArg (fun z => [D.loc t, ksD ks, D.int z]) lm, ⟨hk, by omega⟩, g3, fun b st4 wb db g4 => ?_⟩
      conv => whnf
      refine ⟨(show 3 ≤ sizeLine by omega), ?_⟩
      refine .now (h (.con k a b) st4 ⟨wa, wb⟩ ?_ g4)
      show max a.dep b.dep + 1 ≤ _
      omega
    · conv => whnf
      refine ⟨?_⟩
      conv => whnf
      refine ifB_t pz ?_
      conv => whnf
      refine ifB_intro (fun q3 => ?_) (fun q3 => ?_)
      · conv => whnf
        refine ⟨?_⟩
        conv => whnf
        refine ⟨t, c, ks, d, R, congrArg (fun z => [D.loc t, ksD ks, D.int z]) lm, ⟨hk, by omega⟩, g1, fun a st3 wa da g3 => ?_⟩
        conv => whnf
        refine ⟨(show 2 ≤ sizeLine by omega), ?_⟩
        refine .now (h (.neg a) st3 wa ?_ g3)
        show a.dep + 1 ≤ _
        omega
      · conv => whnf
        refine ⟨?_⟩
        exact cond_tru hk g1 rfl h
end K

set_option maxHeartbeats 1000000
namespace K
open PySem PySem.Spec PyProof.Rows L2 DL
theorem ks_len {h : Hs} {t : Nat} (ht : t < h.length) : (ksOf h t).length = h[t].cols.length := by
  rw [ks_seq (List.getElem?_eq_getElem ht)]
  unfold Tb.ks
  rw [List.length_map]
theorem at_tb {h : Hs} {t : Nat} (ht : t < h.length) : atI (h.map Tb.d) (t : Int) = some (h[t]).d := atI_n (by rw [List.getElem?_map, List.getElem?_eq_getElem ht]; rfl)
theorem v_law_asked (ds : List D) (st : Sto) (Q : D → Sto → Prop) (X : EX) (hs : CloS st.length st) (hd : Clos st.length ds) (h0 : L.call "_law_asked" ds st Q X) : b_law_asked.run L ds st (Gc st.length Q) (GcX st.length X) := by
  obtain ⟨t, c, hh, R, rfl, ho, g, h⟩ := (show sAsked ds st Q X from h0)
  clear h0 hd
  have hz := line_gt
  have hl := ho.len
  conv => whnf
  refine ⟨?_⟩
  conv => whnf
  refine ⟨t, c, _, R, rfl, ⟨by rw [hlen]; omega, by rw [hlen]; omega⟩, g, fun v st1 p q g1 => ?_⟩
  rw [hlen] at q
  obtain ⟨j, rfl⟩ : ∃ j : Nat, v = j := ⟨v.toNat, by omega⟩
  have hj : j < hh.length := by omega
  have kg := ks_get ho hj
  conv => whnf
  refine ⟨?_⟩
  conv => whnf
  refine ⟨t, c, _, R, rfl, ⟨by decide, by decide⟩, g1, fun f st2 p2 q2 g2 => ?_⟩
  conv => whnf
  refine ⟨?_⟩
  conv => whnf
  have keep : ∀ P : Post, P.rt = Gc st.length Q → wpSs L (thenS (headS (dropS 3 b_law_asked.body))) [some (.loc t), some (hD hh), some (.tup []), some (.int j), some (.int f)] st2 P := fun P eP => by
    conv => whnf
    refine ⟨?_⟩
    conv => whnf
    refine ⟨(show 2 ≤ sizeLine by omega), ?_⟩
    conv => whnf
    refine ⟨hh, j, rfl, ⟨ho, hj⟩, ?_⟩
    conv => whnf
    refine ⟨t, c, ksOf hh j, 1, R, rfl, ⟨kg, by decide⟩, g2, fun x st3 wx dx g3 => ?_⟩
    conv => whnf
    refine ⟨(show 3 ≤ sizeLine by omega), ?_⟩
    show P.rt _ _
    rw [eP]
    exact .now (h (.keep j x) st3 ⟨hj, wx, by omega⟩ g3)
  refine ifB_intro (fun c1 => ?_) (fun c1 => ?_)
  · conv => whnf
    refine ⟨?_⟩
    conv => whnf
    refine ⟨(show 2 ≤ sizeLine by omega), ?_⟩
    exact .now (h (.tab j) st2 ⟨by omega, by omega⟩ g2)
  · conv => whnf
    refine ⟨?_⟩
    conv => whnf
    refine ifB_intro (fun c2 => ?_) (fun c2 => ?_)
    · exact keep _ rfl
    · conv => whnf
      refine onSome_i (at_tb hj) ?_
      conv => whnf
      refine ifB_intro (fun c3 => ?_) (fun c3 => ?_)
      · exact keep _ rfl
      · conv => whnf
        refine ⟨?_⟩
        conv => whnf
        refine ⟨(show 2 ≤ sizeLine by omega), ?_⟩
        conv => whnf
        refine onSome_i (at_tb hj) ?_
        conv => whnf
        have el : (((hh[j].cols.map fun c : String × String => D.tup [.str c.1, .str c.2]).length : Nat) : Int) = (ksOf hh j).length := by rw [List.length_map, ks_len hj]
        have kl := kg.1
        refine ⟨t, c, _, R, rfl, ⟨by rw [el]; omega, by rw [el]; omega⟩, g2, fun w st3 p3 q3 g3 => ?_⟩
        rw [el] at q3
        obtain ⟨i, rfl⟩ : ∃ i : Nat, w = i := ⟨w.toNat, by omega⟩
        conv => whnf
        refine ⟨(show 1 ≤ sizeLine by omega), ?_⟩
        conv => whnf
        refine ⟨(show 1 ≤ sizeLine by omega), ?_⟩
        conv => whnf
        refine ⟨(show 1 ≤ sizeLine by omega), ?_⟩
        conv => whnf
        refine ⟨(show 4 ≤ sizeLine by omega), ?_⟩
        exact .now (h (.grp j i) st3 ⟨hj, by omega⟩ g3)
theorem v_law_answer_kinds (ds : List D) (st : Sto) (Q : D → Sto → Prop) (X : EX) (hs : CloS st.length st) (hd : Clos st.length ds) (h0 : L.call "_law_answer_kinds" ds st Q X) : b_law_answer_kinds.run L ds st (Gc st.length Q) (GcX st.length X) := by
  obtain ⟨hh, q, rfl, ⟨ho, hq⟩, h⟩ := (show sAnsKinds ds st Q X from h0)
  clear h0 hd
  have hz := line_gt
  cases q with
  | tab t =>
    obtain ⟨j, rfl⟩ : ∃ j : Nat, t = j := ⟨t.toNat, by have := hq.1; omega⟩
    have hj : j < hh.length := by have := hq.2; omega
    have e : (Qr.tab j).kinds hh = some (ksOf hh j) := by
      show (if 0 ≤ (j : Int) ∧ (j : Int) < hh.length then some (ksOf hh (j : Int).toNat) else none) = _
      rw [if_pos ⟨by omega, by omega⟩, Int.toNat_natCast]
    rw [e] at h
    conv => whnf
    exact ⟨hh, j, rfl, ⟨ho, hj⟩, .now h⟩
  | view0 => exact hq.elim
  | keep t c =>
    conv => whnf
    exact ⟨hh, t, rfl, ⟨ho, hq.1⟩, .now h⟩
  | grp t j =>
    have hj := hq.2
    have e : kk ((Qr.grp t j).kinds hh) = .tup [.str (ksOf hh t)[j], .str "number"] := by
      show ksD [(ksOf hh t).getD j "", "number"] = _
      rw [List.getD_eq_getElem?_getD, List.getElem?_eq_getElem hj]
      rfl
    rw [e] at h
    conv => whnf
    refine ⟨hh, t, rfl, ⟨ho, hq.1⟩, ?_⟩
    conv => whnf
    refine onSome_i (a := .str (ksOf hh t)[j]) (atI_n (by rw [List.getElem?_map, List.getElem?_eq_getElem hj]; rfl)) ?_
    conv => whnf
    exact ⟨(show 2 ≤ sizeLine by omega), .now h⟩
theorem v_law_deep (ds : List D) (st : Sto) (Q : D → Sto → Prop) (X : EX) (hs : CloS st.length st) (hd : Clos st.length ds) (h0 : L.call "_law_deep" ds st Q X) : b_law_deep.run L ds st (Gc st.length Q) (GcX st.length X) := by
  obtain ⟨t, c, many, w, R, rfl, ⟨hm, hw⟩, g, h⟩ := (show sDeep ds st Q X from h0)
  clear h0 hd
  have hz := line_gt
  have h1 : 1 ≤ sizeLine := by omega
  have h2 : 2 ≤ sizeLine := by omega
  have h3 : 3 ≤ sizeLine := by omega
  have nest : ∀ (k : Nat) (s : St), deepS k s → (∀ n, 0 ≤ n → n ≤ 7 → deepS (k + 1) (.whn n 0 400 [s])) ∧ deepS (k + 1) (.each 0 [s]) ∧ deepS (k + 1) (.try_ [s]) := fun k s ⟨d1, d2, d3, d4⟩ => by
    have sB : ∀ hh v, stsB hh v [s] = stB hh v s := fun hh v => by rw [stsB, stsB, Bool.and_true]
    have sH : stsH [s] = k := by rw [stsH, stsH, d3]; omega
    have sC : stsC [s] = k + 1 := by rw [stsC_one, d4]
    have key : ∀ (hh : Hs) (v : Int) (b : Bool), (decide ((aroundI v b).natAbs ≤ 4) && stsB hh (aroundI v b) [s]) = decide (v.natAbs + (k + 1) ≤ 4) := fun hh v b => by
      rw [sB]
      by_cases q : (aroundI v b).natAbs ≤ 4
      · rw [d1 _ _ q, decide_eq_true q, Bool.true_and, around_abs]
        exact ltd (by omega)
      · rw [decide_eq_false q, Bool.false_and, decide_eq_false]
        rw [around_abs] at q
        omega
    have ok1 : ∀ hh, [s].length ≤ 1000 ∧ stsOk hh [s] := fun hh => ⟨by simp, stsOk_iff.mpr fun x hx => by rw [List.mem_singleton.mp hx]; exact d2 hh⟩
    refine ⟨fun n n0 n7 => ⟨fun hh v _ => ?_, fun hh => ?_, ?_, ?_⟩, ⟨fun hh v _ => ?_, fun hh => ?_, ?_, ?_⟩, ⟨fun hh v _ => ?_, fun hh => ?_, ?_, ?_⟩⟩
    · rw [stB, key]
      have : inR 0 7 n = true := by unfold inR; rw [decide_eq_true n0, decide_eq_true n7]; rfl
      rw [this]
      rfl
    · unfold stOk; exact ok1 hh
    · unfold stH; rw [sH]
    · unfold stC; rw [sC]
    · rw [stB, key]; rfl
    · unfold stOk; exact ok1 hh
    · unfold stH; rw [sH]
    · unfold stC; rw [sC]
    · rw [stB, key]
    · unfold stOk; exact ok1 hh
    · unfold stH; rw [sH]
    · unfold stC; rw [sC]
  have q0 : deepS 0 .quit := ⟨fun hh v hv => by rw [decide_eq_true (by omega)]; unfold stB; rfl, fun hh => by unfold stOk; trivial, by unfold stH; rfl, by unfold stC; rfl⟩
  conv => whnf
  refine ⟨?_⟩
  conv => whnf
  refine ⟨h1, ?_⟩
  conv => whnf
  refine ⟨?_⟩
  conv => whnf
  refine ⟨⟨by omega, by omega⟩, ?_⟩
  have hrd : rangeD 0 (many : Int).toNat = (List.range many).map fun i : Nat => D.int (0 + (i : Nat)) := rfl
  rw [hrd]
  refine forGo_ind (f := fun i : Nat => D.int (0 + (i : Nat))) (fun done todo env st1 => done ++ todo = List.range many ∧ ∃ (s : St) (e4 : Option D), deepS done.length s ∧ Tp t c R st1 ∧ env = [some (.loc t), some (.int many), some (.str w), some s.d, e4]) (List.range many) [] ⟨rfl, .quit, _, q0, g, by unfold St.d; rfl⟩ ?_ ?_
  · rintro done y todo env st1 kk ⟨e, s, e4, hs1, g1, rfl⟩ hn
    have nx : ∀ (s' : St) (e4 : Option D) (d : D) st2, d = s'.d → deepS (done.length + 1) s' → Tp t c R st2 → kk [some (.loc t), some (.int many), some (.str w), some d, e4] st2 := fun s' e4 d st2 ed hd2 g2 => by
      subst ed
      exact hn _ _ ⟨by rw [List.append_assoc]; exact e, s', e4, by rw [List.length_append, List.length_singleton]; exact hd2, g2, rfl⟩
    obtain ⟨n1, n2, n3⟩ := nest done.length s hs1
    have one : stsD [s] = [s.d] := by rw [stsD_map]; rfl
    rcases hw with rfl | rfl | rfl
    · conv => whnf
      refine ⟨?_⟩
      conv => whnf
      refine ⟨?_⟩
      conv => whnf
      refine ⟨h1, ?_⟩
      conv => whnf
      refine ⟨h3, ?_⟩
      exact nx (.each 0 [s]) _ _ _ (by rw [St.d, one]) n2 g1
    · conv => whnf
      refine ⟨?_⟩
      conv => whnf
      refine ⟨?_⟩
      conv => whnf
      refine ⟨t, c, _, R, rfl, ⟨by decide, by decide⟩, g1, fun v st2 p q g2 => ?_⟩
      conv => whnf
      refine ⟨h1, ?_⟩
      conv => whnf
      refine ⟨(show 5 ≤ sizeLine by omega), ?_⟩
      exact nx (.whn v 0 400 [s]) _ _ _ (by rw [St.d, one]) (n1 v p (by omega)) g2
    · conv => whnf
      refine ⟨?_⟩
      conv => whnf
      refine ⟨?_⟩
      conv => whnf
      refine ⟨h1, ?_⟩
      conv => whnf
      refine ⟨h2, ?_⟩
      exact nx (.try_ [s]) _ _ _ (by rw [St.d, one]) n3 g1
  · rintro env st1 ⟨_, s, e4, hs1, g1, rfl⟩
    have hs1 : deepS many s := by simpa using hs1
    conv => whnf
    refine ⟨?_⟩
    conv => whnf
    exact .now (h s st1 hs1 g1)
end K

set_option maxHeartbeats 1000000
namespace K
open PySem PySem.Spec PyProof.Rows L2 DL
theorem Tp.add {t c : Nat} {R : Pl} {st : Sto} {x : Cell} (g : Tp t c R st) : Tp t c ((st.length, x) :: R) (st ++ [x]) := by
  obtain ⟨sd, ns, h1, h2, h3⟩ := g
  refine ⟨sd, ns, h1, h2, h3.add.perm ?_⟩
  exact ((List.Perm.swap _ _ _).trans (List.Perm.cons _ (List.Perm.swap _ _ _))).symm.trans (List.Perm.refl _) |>.symm.symm
theorem Tp.get {t c f : Nat} {R : Pl} {st : Sto} {x : Cell} (g : Tp t c ((f, x) :: R) st) : st[f]? = some x := by
  obtain ⟨sd, ns, h1, h2, h3⟩ := g
  exact h3.get (by simp)
theorem Tp.set {t c f : Nat} {R : Pl} {st : Sto} {x y : Cell} (g : Tp t c ((f, x) :: R) st) : Tp t c ((f, y) :: R) (st.set f y) := by
  obtain ⟨sd, ns, h1, h2, h3⟩ := g
  exact ⟨sd, ns, h1, h2, Has.set (l1 := [(t, .lst [.loc c, .int sd]), (c, .lst (ns.map D.int))]) h3⟩
theorem Tp.tl {t c : Nat} {R : Pl} {st : Sto} {p : Nat × Cell} (g : Tp t c (p :: R) st) : Tp t c R st := by
  obtain ⟨sd, ns, h1, h2, h3⟩ := g
  exact ⟨sd, ns, h1, h2, has_sub h3 (((List.sublist_cons_self p R).cons₂ _).cons₂ _)⟩
theorem es_tail {t c f : Nat} {ks ls : List String} {k : String} {R : Pl} {st : Sto} {acc : List D} {P : Post} (hk : ks.length ≤ 8 ∧ (k = "number" ∨ k = "text")) (hl : acc.length < 1000) (g : Tp t c ((f, .lst acc) :: R) st)
    (h : ∀ x st', Tp t c ((f, .lst (acc ++ [x])) :: R) st' → P.nx [some (.loc t), some (ksD ks), some (ksD ls), some (.loc f), some (.str k)] st') :
    wpSs L (dropS 1 (bodyS (headS (dropS 1 b_law_es.body)))) [some (.loc t), some (ksD ks), some (ksD ls), some (.loc f), some (.str k)] st P := by
  have hz := line_gt
  conv => whnf
  refine ⟨onSome_i g.get trivial, ?_⟩
  conv => whnf
  refine ⟨t, c, ks, k, _, rfl, hk, g, fun e st1 _ _ g1 => ?_⟩
  conv => whnf
  refine onSome_i g1.get ?_
  conv => whnf
  refine ⟨by omega, ?_⟩
  exact h e.d _ g1.set
theorem v_law_es (ds : List D) (st : Sto) (Q : D → Sto → Prop) (X : EX) (hs : CloS st.length st) (hd : Clos st.length ds) (h0 : L.call "_law_es" ds st Q X) : b_law_es.run L ds st (Gc st.length Q) (GcX st.length X) := by
  obtain ⟨t, c, ks, ls, R, rfl, ⟨hk, hl, hkk⟩, g, h⟩ := (show sEs ds st Q X from h0)
  clear h0 hd
  have hz := line_gt
  conv => whnf
  refine ⟨?_⟩
  conv => whnf
  refine ⟨Nat.zero_le _, ?_⟩
  conv => whnf
  refine ⟨?_⟩
  conv => whnf
  refine forGo_ind (f := D.str) (fun done todo env st1 => done ++ todo = ls ∧ ∃ (acc : List D) (e4 : Option D), acc.length = done.length ∧ Tp t c ((st.length, .lst acc) :: R) st1 ∧ env = [some (.loc t), some (ksD ks), some (ksD ls), some (.loc st.length), e4]) ls [] ⟨rfl, [], _, rfl, g.add, rfl⟩ ?_ ?_
  · rintro done k todo env st1 kk ⟨e, acc, e4, ha, g1, rfl⟩ hn
    have hkd := hkk k (by rw [← e]; simp)
    have l := congrArg List.length e
    rw [List.length_append, List.length_cons] at l
    have nx : ∀ k' x st', Tp t c ((st.length, .lst (acc ++ [x])) :: R) st' → kk [some (.loc t), some (ksD ks), some (ksD ls), some (.loc st.length), some (.str k')] st' := fun k' x st' g' => hn _ _ ⟨by rw [List.append_assoc]; exact e, acc ++ [x], _, by simp [ha], g', rfl⟩
    conv => whnf
    refine ⟨?_⟩
    conv => whnf
    refine ⟨t, c, _, _, rfl, ⟨by decide, by decide⟩, g1, fun v st2 p q g2 => ?_⟩
    conv => whnf
    refine ifB_intro (fun q1 => ?_) (fun q1 => ?_)
    · conv => whnf
      refine ⟨?_⟩
      rcases hkd with rfl | rfl
      · conv => whnf
        refine ⟨?_⟩
        exact es_tail ⟨hk, .inr rfl⟩ (by omega) g2 fun x st' g' => nx _ x st' g'
      · conv => whnf
        refine ⟨?_⟩
        exact es_tail ⟨hk, .inl rfl⟩ (by omega) g2 fun x st' g' => nx _ x st' g'
    · conv => whnf
      refine ⟨?_⟩
      exact es_tail ⟨hk, hkd⟩ (by omega) g2 fun x st' g' => nx _ x st' g'
  · rintro env st1 ⟨_, acc, e4, ha, g1, rfl⟩
    conv => whnf
    refine ⟨?_⟩
    conv => whnf
    refine onSome_i g1.get ?_
    exact .now (h acc st1 g1.tl)
end K

set_option maxHeartbeats 1000000
namespace K
open PySem PySem.Spec PyProof.Rows L2 DL
theorem ans_good {h : Hs} {q : Qr} (ho : hOk h) (hq : q.good h) : ∃ ks, q.kinds h = some ks ∧ ksGood ks := by
  cases q with
  | tab t =>
    obtain ⟨j, rfl⟩ : ∃ j : Nat, t = j := ⟨t.toNat, by have := hq.1; omega⟩
    have hj : j < h.length := by have := hq.2; omega
    refine ⟨ksOf h j, ?_, ks_get ho hj⟩
    show (if 0 ≤ (j : Int) ∧ (j : Int) < h.length then some (ksOf h (j : Int).toNat) else none) = _
    rw [if_pos ⟨by omega, by omega⟩, Int.toNat_natCast]
  | view0 => exact hq.elim
  | keep t c => exact ⟨_, rfl, ks_get ho hq.1⟩
  | grp t j =>
    refine ⟨_, rfl, ⟨by simp, by simp⟩, fun k m => ?_⟩
    have kg := ks_get ho hq.1
    simp only [List.mem_cons, List.not_mem_nil, or_false] at m
    rcases m with rfl | rfl
    · rw [List.getD_eq_getElem?_getD, List.getElem?_eq_getElem hq.2]
      exact kg.2 _ (List.getElem_mem hq.2)
    · exact .inl rfl
theorem good_ok {h : Hs} {q : Qr} (hq : q.good h) : q.ok h := by
  cases q with
  | tab t => trivial
  | view0 => trivial
  | keep t c => exact hq
  | grp t j => exact hq
theorem v_law_program (ds : List D) (st : Sto) (Q : D → Sto → Prop) (X : EX) (hs : CloS st.length st) (hd : Clos st.length ds) (h0 : L.call "_law_program" ds st Q X) : b_law_program.run L ds st (Gc st.length Q) (GcX st.length X) := by
  obtain ⟨t, c, hh, R, rfl, ho, g, h⟩ := (show sProgram ds st Q X from h0)
  clear h0 hd
  have hz := line_gt
  conv => whnf
  refine ⟨?_⟩
  conv => whnf
  refine ⟨?_⟩
  have ga : Tp t c ((st.length, .dct false []) :: R) (st ++ [.dct false []]) := g.add
  conv => whnf
  refine ⟨Nat.zero_le _, ?_⟩
  conv => whnf
  refine ⟨t, c, hh, _, rfl, ho, ga, fun q st1 hq g1 => ?_⟩
  obtain ⟨ks, ek, kg⟩ := ans_good ho hq
  conv => whnf
  refine ⟨?_⟩
  conv => whnf
  refine ⟨hh, q, rfl, ⟨ho, hq⟩, ?_⟩
  rw [ek]
  conv => whnf
  refine onSome_i g1.get ?_
  conv => whnf
  refine ⟨rfl, Nat.lt_of_le_of_lt (Nat.zero_le _) hz, ?_⟩
  have g2 : Tp t c ((st.length, .dct false [(.int 0, ksD ks)]) :: R) (st1.set st.length (.dct false (dPut [] (.int 0) (ksD ks)))) := g1.set
  refine ⟨?_⟩
  conv => whnf
  refine ⟨t, c, st.length, hh, false, ks, 0, [(.int 0, ksD ks)], R, rfl, ⟨ho, kg, by decide, by decide, fun z => nomatch z⟩, ⟨by simp, fun p m => ⟨0, ks, List.mem_singleton.mp m, by omega, kg⟩⟩, g2, fun ss m' st3 hb hok hH hC ha g3 => ?_⟩
  have hb : stsB hh 0 ss = true := hb
  have hC : stsC ss ≤ 159 := hC
  have hlen := stsC_len ss
  have hl2 : (stsD ss).length = ss.length := by rw [stsD_map, List.length_map]
  conv => whnf
  refine ⟨?_⟩
  conv => whnf
  refine ⟨t, c, _, _, rfl, ⟨by decide, by decide⟩, g3, fun v st4 p q4 g4 => ?_⟩
  conv => whnf
  refine ifB_intro (fun q1 => ?_) (fun q1 => ?_)
  · conv => whnf
    refine ⟨?_⟩
    conv => whnf
    refine ⟨(show 3 ≤ sizeLine by omega), ?_⟩
    conv => whnf
    refine ⟨(show 1 ≤ sizeLine by omega), ?_⟩
    conv => whnf
    refine ⟨by rw [hl2]; show 1 + ss.length ≤ _; omega, ?_⟩
    conv => whnf
    refine ⟨?_⟩
    conv => whnf
    refine ⟨(show 2 ≤ sizeLine by omega), ?_⟩
    have e : prog (.ask 0 q :: ss) = .tup [.str "program", .tup ([.tup [.str "ask", .int 0, q.d]] ++ stsD ss)] := by
      unfold prog
      rw [stsD, St.d]
      rfl
    have := h (.ask 0 q :: ss) st4 ?_ ?_ ?_ ?_ g4.tl
    · rw [e] at this
      exact .now this
    · rw [stsB, hb, stB, ek]; rfl
    · unfold stsOk; exact ⟨by unfold stOk; exact good_ok hq, hok⟩
    · unfold stsH stH; omega
    · unfold stsC stC; omega
  · conv => whnf
    refine ⟨?_⟩
    conv => whnf
    refine ⟨(show 2 ≤ sizeLine by omega), ?_⟩
    exact .now (h ss st4 hb hok hH (by omega) g4.tl)
end K

set_option maxHeartbeats 1000000
namespace K
open PySem PySem.Spec PyProof.Rows L2 DL
theorem cut_to {α : Type} (xs : List α) {m : Nat} (h : m ≤ xs.length) : DL.cutD xs none (some (m : Int)) = xs.take m := by
  unfold DL.cutD HT.sIx
  simp only [Nat.sub_zero, List.drop_zero]
  rw [if_neg (by omega)]
  rw [show min (m : Int).toNat xs.length = m by simp; omega]
theorem cut_from {α : Type} (xs : List α) {m : Nat} (h : m ≤ xs.length) : DL.cutD xs (some (m : Int)) none = xs.drop m := by
  unfold DL.cutD HT.sIx
  simp only
  rw [if_neg (by omega)]
  rw [show min (m : Int).toNat xs.length = m by simp; omega]
  exact List.take_of_length_le (by rw [List.length_drop]; omega)
theorem stsH_of {m : Nat} : ∀ {ss : List St}, (∀ s ∈ ss, stH s ≤ m) → stsH ss ≤ m
  | [], _ => by unfold stsH; exact Nat.zero_le _
  | s :: ss, h => by
    unfold stsH
    have := h s (by simp)
    have := stsH_of (ss := ss) fun x hx => h x (by simp [hx])
    omega
theorem stsB_put {h : Hs} {s : St} (hb : ∀ w, stB h w s = false) (a b : List St) (w : Int) : stsB h w (a ++ s :: b) = false := by
  rw [stsB_all, List.all_append, List.all_cons, hb w, Bool.false_and, Bool.and_false]
theorem ins_D (a b : List St) (s : St) (x : D) (e : x = s.d) : (stsD a ++ [x]) ++ stsD b = stsD (a ++ s :: b) := by
  subst e
  rw [stsD_map, stsD_map, stsD_map, List.map_append, List.map_cons, List.append_assoc]
  rfl
theorem take_D (ss : List St) (j : Nat) : (stsD ss).take j = stsD (ss.take j) := by rw [stsD_map, stsD_map, List.map_take]
theorem drop_D (ss : List St) (j : Nat) : (stsD ss).drop j = stsD (ss.drop j) := by rw [stsD_map, stsD_map, List.map_drop]
theorem stsC_mem : ∀ {ss : List St} {s : St}, s ∈ ss → stC s ≤ stsC ss
  | x :: ss, s, m => by
    unfold stsC
    rcases List.mem_cons.mp m with rfl | m
    · omega
    · have := stsC_mem m; omega
theorem v_law_into (n : Nat) (ds : List D) (st : Sto) (Q : D → Sto → Prop) (X : EX) (hs : CloS st.length st) (hd : Clos st.length ds) (h0 : (Lr_law_into (n + 1)).call "_law_into" ds st Q X) : b_law_into.run (Lr_law_into n) ds st (Gc st.length Q) (GcX st.length X) := by
  obtain ⟨t, c, hh, ss, s, w0, R, rfl, ⟨hH, hC, hb, hok⟩, bad, bok, g, h⟩ := (show sInto n ds st Q X from h0)
  clear h0 hd
  have hz := line_gt
  have hlen := stsC_len ss
  have dl : (stsD ss).length = ss.length := by rw [stsD_map, List.length_map]
  conv => whnf
  refine ⟨?_⟩
  conv => whnf
  refine ⟨t, c, _, R, rfl, ⟨by rw [dl]; omega, by rw [dl]; omega⟩, g, fun v st1 p q g1 => ?_⟩
  rw [dl] at q
  obtain ⟨j, rfl⟩ : ∃ j : Nat, v = j := ⟨v.toNat, by omega⟩
  have hj : j ≤ ss.length := by omega
  have ins : ∀ (P : Post) (st2 : Sto) (e4 : Option D), P.rt = Gc st.length Q → Tp t c R st2 → wpSs (Lr_law_into n) (dropS 2 b_law_into.body) [some (.loc t), some (.tup (stsD ss)), some s.d, some (.int j), e4] st2 P := fun P st2 e4 eP g2 => by
    conv => whnf
    refine ⟨(show 1 ≤ sizeLine by omega), ?_⟩
    rw [cut_to _ (by rw [dl]; exact hj)]
    conv => whnf
    refine ⟨by rw [List.length_take, dl]; show _ + 1 ≤ _; omega, ?_⟩
    conv => whnf
    rw [cut_from _ (by rw [dl]; exact hj)]
    refine ⟨by rw [List.length_append, List.length_drop, List.length_take, dl]; show _ + 1 + _ ≤ _; omega, ?_⟩
    show P.rt _ _
    rw [eP, take_D, drop_D, ins_D _ _ s _ rfl]
    refine .now (h _ st2 (stsB_put bad _ _) (stsOk_iff.mpr fun x hx => ?_) (stsH_of fun x hx => ?_) (by simp; omega) g2)
    · rcases List.mem_append.mp hx with hx | hx
      · exact stsOk_iff.mp hok x (List.mem_of_mem_take hx)
      · rcases List.mem_cons.mp hx with rfl | hx
        · exact bok
        · exact stsOk_iff.mp hok x (List.mem_of_mem_drop hx)
    · rcases List.mem_append.mp hx with hx | hx
      · have := stsH_le (List.mem_of_mem_take hx); omega
      · rcases List.mem_cons.mp hx with rfl | hx
        · omega
        · have := stsH_le (List.mem_of_mem_drop hx); omega
  conv => whnf
  refine ⟨?_⟩
  conv => whnf
  refine ifB_intro (fun c1 => ?_) (fun c1 => ?_)
  · have c1 : (j : Int) < (((stsD ss).length : Nat) : Int) := of_decide_eq_true c1
    rw [dl] at c1
    have hj2 : j < ss.length := by omega
    have ms : ss[j] ∈ ss := List.getElem_mem hj2
    have ej : atI (stsD ss) (j : Int) = some (ss[j]).d := atI_n (by rw [stsD_map, List.getElem?_map, List.getElem?_eq_getElem hj2]; rfl)
    have bs := stB_mem hb ms
    have hs2 := Nat.le_trans (stsH_le ms) hH
    have os := stsOk_iff.mp hok _ ms
    have put : ∀ (s' : St) (x : D) (st2 : Sto), x = s'.d → (∀ w, stB hh w s' = false) → stOk hh s' → stH s' ≤ stsH ss + stH s → Tp t c R st2 → Gc st.length Q (.tup (((stsD ss).take j ++ [x]) ++ (stsD ss).drop (j + 1))) st2 := fun s' x st2 ex fb fo fh g2 => by
      rw [take_D, drop_D, ins_D _ _ s' _ ex]
      refine .now (h _ st2 (stsB_put fb _ _) (stsOk_iff.mpr fun x hx => ?_) (stsH_of fun x hx => ?_) (by simp; omega) g2)
      · rcases List.mem_append.mp hx with hx | hx
        · exact stsOk_iff.mp hok x (List.mem_of_mem_take hx)
        · rcases List.mem_cons.mp hx with rfl | hx
          · exact fo
          · exact stsOk_iff.mp hok x (List.mem_of_mem_drop hx)
      · rcases List.mem_append.mp hx with hx | hx
        · have := stsH_le (List.mem_of_mem_take hx); omega
        · rcases List.mem_cons.mp hx with rfl | hx
          · exact fh
          · have := stsH_le (List.mem_of_mem_drop hx); omega
    conv => whnf
    refine onSome_i ej ?_
    have h3 : 3 ≤ sizeLine := by omega
    generalize es : ss[j] = o at ej bs hs2 os ⊢
    cases o with
    | odd d => unfold stB at bs; cases bs
    | whn k lo hi ts =>
      have hs3 : stsH ts + 1 ≤ n := by unfold stH at hs2; exact hs2
      have hs4 : stsH ts + 1 ≤ stsH ss := by have := stsH_le ms; rw [es] at this; unfold stH at this; exact this
      have bt : stsB hh (aroundI w0 false) ts = true := by
        rw [stB] at bs
        simp only [Bool.and_eq_true] at bs
        exact bs.2.2.2.2
      have ot : ts.length ≤ 1000 ∧ stsOk hh ts := by unfold stOk at os; exact os
      have ct : stsC ts ≤ 900 := by
        have := stsC_mem ms
        rw [es] at this
        unfold stC at this
        omega
      have lt := stsC_len ts
      obtain ⟨m, rfl⟩ : ∃ m, n = m + 1 := ⟨n - 1, by omega⟩
      conv => whnf
      refine ⟨h3, ?_⟩
      conv => whnf
      refine ⟨⟨rfl, rfl⟩, ?_⟩
      conv => whnf
      refine ⟨t, c, _, R, rfl, ⟨by decide, by decide⟩, g1, fun v st2 p2 q2 g2 => ?_⟩
      conv => whnf
      refine ifB_intro (fun c2 => ?_) (fun c2 => ?_)
      · conv => whnf
        refine ⟨?_⟩
        conv => whnf
        refine onSome_i ej ?_
        conv => whnf
        refine ⟨?_⟩
        conv => whnf
        refine ⟨t, c, hh, ts, s, _, R, rfl, ⟨by omega, ct, bt, ot.2⟩, bad, bok, g2, fun ts' st3 fb fo fh fl g3 => ?_⟩
        conv => whnf
        refine ⟨(show 1 ≤ sizeLine by omega), ?_⟩
        conv => whnf
        refine ⟨(show 5 ≤ sizeLine by omega), ?_⟩
        conv => whnf
        refine ⟨(show 1 ≤ sizeLine by omega), ?_⟩
        rw [cut_to _ (by rw [dl]; exact hj)]
        conv => whnf
        refine ⟨by rw [List.length_take, dl]; show _ + 1 ≤ _; omega, ?_⟩
        conv => whnf
        rw [show ((j : Int) + 1) = ((j + 1 : Nat) : Int) by omega, cut_from _ (by rw [dl]; omega)]
        refine ⟨by rw [List.length_append, List.length_drop, List.length_take, dl]; show _ + 1 + _ ≤ _; omega, ?_⟩
        refine put (.whn k lo hi ts') _ st3 (by rw [St.d]; rfl) (fun w => ?_) ?_ ?_ g3
        · rw [stB, fb]; simp
        · unfold stOk; exact ⟨by omega, fo⟩
        · rw [show stH (.whn k lo hi ts') = stsH ts' + 1 by unfold stH; rfl]; omega
      · conv => whnf
        refine ⟨?_⟩
        exact ins _ _ _ rfl g2
    | each k ts =>
      have hs3 : stsH ts + 1 ≤ n := by unfold stH at hs2; exact hs2
      have hs4 : stsH ts + 1 ≤ stsH ss := by have := stsH_le ms; rw [es] at this; unfold stH at this; exact this
      have bt : stsB hh (aroundI w0 true) ts = true := by
        rw [stB] at bs
        simp only [Bool.and_eq_true] at bs
        exact bs.2.2
      have ot : ts.length ≤ 1000 ∧ stsOk hh ts := by unfold stOk at os; exact os
      have ct : stsC ts ≤ 900 := by
        have := stsC_mem ms
        rw [es] at this
        unfold stC at this
        omega
      have lt := stsC_len ts
      obtain ⟨m, rfl⟩ : ∃ m, n = m + 1 := ⟨n - 1, by omega⟩
      conv => whnf
      refine ⟨h3, ?_⟩
      conv => whnf
      refine ⟨⟨rfl, rfl⟩, ?_⟩
      conv => whnf
      refine ⟨t, c, _, R, rfl, ⟨by decide, by decide⟩, g1, fun v st2 p2 q2 g2 => ?_⟩
      conv => whnf
      refine ifB_intro (fun c2 => ?_) (fun c2 => ?_)
      · conv => whnf
        refine ⟨?_⟩
        conv => whnf
        refine onSome_i ej ?_
        conv => whnf
        refine ⟨?_⟩
        conv => whnf
        refine ⟨t, c, hh, ts, s, _, R, rfl, ⟨by omega, ct, bt, ot.2⟩, bad, bok, g2, fun ts' st3 fb fo fh fl g3 => ?_⟩
        conv => whnf
        refine ⟨(show 1 ≤ sizeLine by omega), ?_⟩
        conv => whnf
        refine ⟨(show 3 ≤ sizeLine by omega), ?_⟩
        conv => whnf
        refine ⟨(show 1 ≤ sizeLine by omega), ?_⟩
        rw [cut_to _ (by rw [dl]; exact hj)]
        conv => whnf
        refine ⟨by rw [List.length_take, dl]; show _ + 1 ≤ _; omega, ?_⟩
        conv => whnf
        rw [show ((j : Int) + 1) = ((j + 1 : Nat) : Int) by omega, cut_from _ (by rw [dl]; omega)]
        refine ⟨by rw [List.length_append, List.length_drop, List.length_take, dl]; show _ + 1 + _ ≤ _; omega, ?_⟩
        refine put (.each k ts') _ st3 (by rw [St.d]; rfl) (fun w => ?_) ?_ ?_ g3
        · rw [stB, fb]; simp
        · unfold stOk; exact ⟨by omega, fo⟩
        · rw [show stH (.each k ts') = stsH ts' + 1 by unfold stH; rfl]; omega
      · conv => whnf
        refine ⟨?_⟩
        exact ins _ _ _ rfl g2
    | try_ ts =>
      have hs3 : stsH ts + 1 ≤ n := by unfold stH at hs2; exact hs2
      have hs4 : stsH ts + 1 ≤ stsH ss := by have := stsH_le ms; rw [es] at this; unfold stH at this; exact this
      have bt : stsB hh (aroundI w0 false) ts = true := by
        rw [stB] at bs
        simp only [Bool.and_eq_true] at bs
        exact bs.2
      have ot : ts.length ≤ 1000 ∧ stsOk hh ts := by unfold stOk at os; exact os
      have ct : stsC ts ≤ 900 := by
        have := stsC_mem ms
        rw [es] at this
        unfold stC at this
        omega
      have lt := stsC_len ts
      obtain ⟨m, rfl⟩ : ∃ m, n = m + 1 := ⟨n - 1, by omega⟩
      conv => whnf
      refine ⟨h3, ?_⟩
      conv => whnf
      refine ⟨⟨rfl, rfl⟩, ?_⟩
      conv => whnf
      refine ⟨t, c, _, R, rfl, ⟨by decide, by decide⟩, g1, fun v st2 p2 q2 g2 => ?_⟩
      conv => whnf
      refine ifB_intro (fun c2 => ?_) (fun c2 => ?_)
      · conv => whnf
        refine ⟨?_⟩
        conv => whnf
        refine onSome_i ej ?_
        conv => whnf
        refine ⟨?_⟩
        conv => whnf
        refine ⟨t, c, hh, ts, s, _, R, rfl, ⟨by omega, ct, bt, ot.2⟩, bad, bok, g2, fun ts' st3 fb fo fh fl g3 => ?_⟩
        conv => whnf
        refine ⟨(show 1 ≤ sizeLine by omega), ?_⟩
        conv => whnf
        refine ⟨(show 2 ≤ sizeLine by omega), ?_⟩
        conv => whnf
        refine ⟨(show 1 ≤ sizeLine by omega), ?_⟩
        rw [cut_to _ (by rw [dl]; exact hj)]
        conv => whnf
        refine ⟨by rw [List.length_take, dl]; show _ + 1 ≤ _; omega, ?_⟩
        conv => whnf
        rw [show ((j : Int) + 1) = ((j + 1 : Nat) : Int) by omega, cut_from _ (by rw [dl]; omega)]
        refine ⟨by rw [List.length_append, List.length_drop, List.length_take, dl]; show _ + 1 + _ ≤ _; omega, ?_⟩
        refine put (.try_ ts') _ st3 (by rw [St.d]; rfl) (fun w => ?_) ?_ ?_ g3
        · rw [stB, fb]; simp
        · unfold stOk; exact ⟨by omega, fo⟩
        · rw [show stH (.try_ ts') = stsH ts' + 1 by unfold stH; rfl]; omega
      · conv => whnf
        refine ⟨?_⟩
        exact ins _ _ _ rfl g2
    | _ =>
      conv => whnf
      refine ⟨h3, ?_⟩
      conv => whnf
      refine ⟨⟨rfl, rfl⟩, ?_⟩
      conv => whnf
      refine ⟨?_⟩
      exact ins _ _ _ rfl g1
  · conv => whnf
    refine ⟨?_⟩
    exact ins _ _ _ rfl g1
end K

set_option maxHeartbeats 1000000
namespace K
open PySem PySem.Spec PyProof.Rows L2 DL
theorem str40 : ∀ v ∈ List.range 40, (toString (v : Int)).length ≤ 3 := by decide +kernel
theorem log_s {j : Nat} (h : j < 40) : (j : Int).natAbs.log2 < 1920 := by
  have h1 : (j : Int).natAbs ≤ 40 := by omega
  have : (j : Int).natAbs.log2 ≤ 40 := Nat.le_trans (Nat.log2_le_self _) h1
  omega
def hB : Ss := bodyS (headS (dropS 2 b_law_house.body))
/-- the table is put behind the others -/
theorem hs_4 {t c f i : Nat} {b1 b2 many : D} {R : Pl} {st : Sto} {acc : List Tb} {cols : List (String × String)} {key : List Nat} {e8 : Option D} {P : Post} (hi : i < 40) (hl : acc.length < 100) (hk : (∀ k ∈ cols.map (·.2), k = "number" ∨ k = "text") ∧ (1 ≤ cols.length ∧ cols.length ≤ 8) ∧ (∀ j ∈ key, j < cols.length) ∧ key.length ≤ 8) (g : Tp t c ((f, .lst (acc.map Tb.d)) :: R) st)
    (h : ∀ (b : Tb) st', b.ok → Tp t c ((f, .lst ((acc ++ [b]).map Tb.d)) :: R) st' → P.nx [some (.loc t), some b1, some b2, some (.loc f), some (.int i), some many, some (.tup (cols.map fun c => .tup [.str c.1, .str c.2])), some (.lst (key.map fun j : Nat => D.int j)), e8] st') :
    wpSs L (dropS 4 hB) [some (.loc t), some b1, some b2, some (.loc f), some (.int i), some many, some (.tup (cols.map fun c => .tup [.str c.1, .str c.2])), some (.lst (key.map fun j : Nat => D.int j)), e8] st P := by
  have hz := line_gt
  have sl := str40 i (List.mem_range.mpr hi)
  conv => whnf
  refine ⟨onSome_i g.get trivial, ?_⟩
  conv => whnf
  refine ⟨log_s hi, ?_⟩
  conv => whnf
  refine ⟨by have : ("t" : String).length = 1 := rfl; omega, ?_⟩
  conv => whnf
  refine ⟨(show 3 ≤ sizeLine by omega), ?_⟩
  conv => whnf
  refine onSome_i g.get ?_
  conv => whnf
  refine ⟨by rw [List.length_map]; omega, ?_⟩
  refine h ⟨"t" ++ toString (i : Int), cols, key⟩ _ ⟨hk.2.1, hk.1, hk.2.2.1, hk.2.2.2⟩ ?_
  rw [List.map_append]
  exact g.set
theorem hs_2 {t c f i many : Nat} {b1 b2 : D} {R : Pl} {st : Sto} {acc : List Tb} {cols : List (String × String)} {e7 e8 : Option D} {P : Post} (hi : i < 40) (hl : acc.length < 100) (hk : ∀ k ∈ cols.map (·.2), k = "number" ∨ k = "text") (hc : (1 ≤ many ∧ many ≤ 8) ∧ cols.length = many) (g : Tp t c ((f, .lst (acc.map Tb.d)) :: R) st)
    (h : ∀ (b : Tb) env st', b.ok → Tp t c ((f, .lst ((acc ++ [b]).map Tb.d)) :: R) st' → (∃ e7 e8, env = [some (.loc t), some b1, some b2, some (.loc f), some (.int i), some (.int many), some (.tup (cols.map fun c => .tup [.str c.1, .str c.2])), e7, e8]) → P.nx env st') :
    wpSs L (dropS 2 hB) [some (.loc t), some b1, some b2, some (.loc f), some (.int i), some (.int many), some (.tup (cols.map fun c => .tup [.str c.1, .str c.2])), e7, e8] st P := by
  have hz := line_gt
  conv => whnf
  refine ⟨⟨by omega, by omega⟩, ?_⟩
  have hrd : rangeD 0 (many : Int).toNat = (List.range many).map fun i : Nat => D.int (0 + (i : Nat)) := rfl
  rw [hrd]
  refine lcGo_ind (f := fun i : Nat => D.int (0 + (i : Nat))) (fun done todo a st1 => done ++ todo = List.range many ∧ ∃ key : List Nat, key.length ≤ done.length ∧ (∀ j ∈ key, j < many) ∧ a = (key.map fun j : Nat => D.int j).reverse ∧ Tp t c ((f, .lst (acc.map Tb.d)) :: R) st1) (List.range many) [] ⟨rfl, [], by simp, by simp, rfl, g⟩ ?_ ?_
  · rintro done j todo a st1 kk ⟨e, key, k1, k2, rfl, g1⟩ hn
    have hj : j < many := List.mem_range.mp (by rw [← e]; simp)
    have l := congrArg List.length e
    rw [List.length_append, List.length_cons, List.length_range] at l
    conv => whnf
    refine ⟨t, c, _, _, rfl, ⟨by decide, by decide⟩, g1, fun v st2 p q g2 => ?_⟩
    conv => whnf
    refine ifB_intro (fun _ => ?_) (fun _ => ?_)
    · conv => whnf
      refine ⟨by rw [List.length_reverse, List.length_map]; omega, hn _ _ ⟨by rw [List.append_assoc]; exact e, key ++ [j], by simp; omega, fun x hx => ?_, by rw [List.map_append, List.reverse_append, Int.zero_add]; rfl, g2⟩⟩
      rcases List.mem_append.mp hx with hx | hx
      · exact k2 x hx
      · rw [List.mem_singleton.mp hx]; exact hj
    · conv => whnf
      exact hn _ _ ⟨by rw [List.append_assoc]; exact e, key, by simp; omega, k2, rfl, g2⟩
  · rintro a st1 ⟨e, key, k1, k2, rfl, g1⟩
    have k1 : key.length ≤ many := by simpa using k1
    rw [List.reverse_reverse]
    conv => whnf
    refine ⟨?_⟩
    conv => whnf
    refine ifB_intro (fun _ => ?_) (fun _ => ?_)
    · conv => whnf
      refine ⟨?_⟩
      conv => whnf
      refine ⟨t, c, _, _, rfl, ⟨by omega, by omega⟩, g1, fun v st2 p q g2 => ?_⟩
      obtain ⟨j, rfl⟩ : ∃ j : Nat, v = j := ⟨v.toNat, by omega⟩
      conv => whnf
      refine ⟨(show 1 ≤ sizeLine by omega), ?_⟩
      conv => whnf
      refine ⟨?_⟩
      exact hs_4 (key := [j]) hi hl ⟨hk, by omega, fun x hx => by rw [List.mem_singleton.mp hx]; omega, by simp⟩ g2 fun b st' ob g' => h b _ st' ob g' ⟨_, _, rfl⟩
    · conv => whnf
      refine ⟨?_⟩
      exact hs_4 hi hl ⟨hk, by omega, fun x hx => by have := k2 x hx; omega, by omega⟩ g1 fun b st' ob g' => h b _ st' ob g' ⟨_, _, rfl⟩
theorem hs_1 {t c f i many : Nat} {b1 b2 : D} {R : Pl} {st : Sto} {acc : List Tb} {e6 e7 e8 : Option D} {P : Post} (hi : i < 40) (hl : acc.length < 100) (hc : 1 ≤ many ∧ many ≤ 8) (g : Tp t c ((f, .lst (acc.map Tb.d)) :: R) st)
    (h : ∀ (b : Tb) env st', b.ok → Tp t c ((f, .lst ((acc ++ [b]).map Tb.d)) :: R) st' → (∃ e6 e7 e8, env = [some (.loc t), some b1, some b2, some (.loc f), some (.int i), some (.int many), e6, e7, e8]) → P.nx env st') :
    wpSs L (dropS 1 hB) [some (.loc t), some b1, some b2, some (.loc f), some (.int i), some (.int many), e6, e7, e8] st P := by
  have hz := line_gt
  conv => whnf
  refine ⟨⟨by omega, by omega⟩, ?_⟩
  have hrd : rangeD 0 (many : Int).toNat = (List.range many).map fun i : Nat => D.int (0 + (i : Nat)) := rfl
  rw [hrd]
  refine lcGo_ind (f := fun i : Nat => D.int (0 + (i : Nat))) (fun done todo a st1 => done ++ todo = List.range many ∧ ∃ cols : List (String × String), cols.length = done.length ∧ (∀ k ∈ cols.map (·.2), k = "number" ∨ k = "text") ∧ a = (cols.map fun c => D.tup [.str c.1, .str c.2]).reverse ∧ Tp t c ((f, .lst (acc.map Tb.d)) :: R) st1) (List.range many) [] ⟨rfl, [], rfl, by simp, rfl, g⟩ ?_ ?_
  · rintro done j todo a st1 kk ⟨e, cols, k1, k2, rfl, g1⟩ hn
    have hj : j < many := List.mem_range.mp (by rw [← e]; simp)
    have sl := str40 j (List.mem_range.mpr (by omega))
    have l := congrArg List.length e
    rw [List.length_append, List.length_cons, List.length_range] at l
    dsimp only
    rw [Int.zero_add]
    conv => whnf
    refine ⟨log_s (by omega), ?_⟩
    conv => whnf
    refine ⟨by have : ("c" : String).length = 1 := rfl; omega, ?_⟩
    conv => whnf
    refine ⟨(show 3 ≤ sizeLine by omega), ?_⟩
    conv => whnf
    refine ⟨t, c, _, [.str "number", .str "number", .str "text"], _, rfl, .inl rfl, ⟨by decide, by decide⟩, g1, fun z st2 mz g2 => ?_⟩
    have hz2 : ∃ k : String, z = .str k ∧ (k = "number" ∨ k = "text") := by
      simp only [List.mem_cons, List.not_mem_nil, or_false] at mz
      rcases mz with rfl | rfl | rfl
      · exact ⟨_, rfl, .inl rfl⟩
      · exact ⟨_, rfl, .inl rfl⟩
      · exact ⟨_, rfl, .inr rfl⟩
    obtain ⟨k, rfl, hk⟩ := hz2
    conv => whnf
    refine ⟨(show 2 ≤ sizeLine by omega), ?_⟩
    conv => whnf
    refine ⟨by rw [List.length_reverse, List.length_map]; omega, hn _ _ ⟨by rw [List.append_assoc]; exact e, cols ++ [("c" ++ toString (j : Int), k)], by simp [k1], fun x hx => ?_, by rw [List.map_append, List.reverse_append]; rfl, g2⟩⟩
    rw [List.map_append] at hx
    rcases List.mem_append.mp hx with hx | hx
    · exact k2 x hx
    · rw [List.mem_singleton.mp hx]; exact hk
  · rintro a st1 ⟨e, cols, k1, k2, rfl, g1⟩
    have k1 : cols.length = many := by simpa using k1
    rw [List.reverse_reverse]
    conv => whnf
    refine ⟨?_⟩
    exact hs_2 hi hl k2 ⟨hc, k1⟩ g1 fun b env st' ob g' ⟨e7, e8, ee⟩ => h b env st' ob g' ⟨_, e7, e8, ee⟩
theorem hs_loop {t c f N : Nat} {b x : Bool} {R : Pl} {st : Sto} {Q : D → Sto → Prop} {P : Post} {M : Nat} {e4 e5 e6 e7 e8 : Option D} (hN : 1 ≤ N ∧ N ≤ 8) (g : Tp t c ((f, .lst []) :: R) st) (eP : P.rt = Gc M Q) (h : ∀ h st', hOk h → Tp t c R st' → Q (hD h) st') :
    forGo [] (wpT (.v 4)) (fun env st P => wpSs L hB env st P) ((List.range N).map fun i : Nat => D.int (0 + (i : Nat))) [some (.loc t), some (.bl b), some (.bl x), some (.loc f), e4, e5, e6, e7, e8] st { P with nx := fun env st => wpSs L (.stop (dropS 3 b_law_house.body)) env st P } := by
  have hz := line_gt
  refine forGo_ind (f := fun i : Nat => D.int (0 + (i : Nat))) (fun done todo env st1 => done ++ todo = List.range N ∧ ∃ (acc : List Tb) (e4 e5 e6 e7 e8 : Option D), acc.length = done.length ∧ (∀ b ∈ acc, b.ok) ∧ Tp t c ((f, .lst (acc.map Tb.d)) :: R) st1 ∧ env = [some (.loc t), some (.bl b), some (.bl x), some (.loc f), e4, e5, e6, e7, e8]) (List.range N) [] ⟨rfl, [], _, _, _, _, _, rfl, by simp, g, rfl⟩ ?_ ?_
  · rintro done i todo env st1 kk ⟨e, acc, e4, e5, e6, e7, e8, ha, hb, g1, rfl⟩ hn
    have hi : i < N := List.mem_range.mp (by rw [← e]; simp)
    have l := congrArg List.length e
    rw [List.length_append, List.length_cons, List.length_range] at l
    have nx : ∀ (b' : Tb) env st', b'.ok → Tp t c ((f, .lst ((acc ++ [b']).map Tb.d)) :: R) st' → (∃ many : Nat, ∃ e6 e7 e8, env = [some (.loc t), some (.bl b), some (.bl x), some (.loc f), some (.int i), some (.int many), e6, e7, e8]) → kk env st' := fun b' env st' ob g' ⟨many, e6, e7, e8, ee⟩ => by
      subst ee
      refine hn _ _ ⟨by rw [List.append_assoc]; exact e, acc ++ [b'], _, _, _, _, _, by simp [ha], fun y hy => ?_, g', rfl⟩
      rcases List.mem_append.mp hy with hy | hy
      · exact hb y hy
      · rw [List.mem_singleton.mp hy]; exact ob
    dsimp only
    rw [Int.zero_add]
    cases x with
    | true =>
      conv => whnf
      refine ⟨?_⟩
      conv => whnf
      refine ⟨?_⟩
      exact hs_1 (many := 8) (by omega) (by omega) (by omega) g1 fun b' env st' ob g' ⟨e6, e7, e8, ee⟩ => nx b' env st' ob g' ⟨8, e6, e7, e8, ee⟩
    | false =>
      conv => whnf
      refine ⟨?_⟩
      conv => whnf
      refine ⟨t, c, _, _, rfl, ⟨by decide, by decide⟩, g1, fun v st2 p q g2 => ?_⟩
      obtain ⟨m, em⟩ : ∃ m : Nat, (1 : Int) + v = m := ⟨(1 + v).toNat, by omega⟩
      conv => whnf
      refine ⟨?_⟩
      rw [em]
      exact hs_1 (many := m) (by omega) (by omega) (by omega) g2 fun b' env st' ob g' ⟨e6, e7, e8, ee⟩ => nx b' env st' ob g' ⟨m, e6, e7, e8, ee⟩
  · rintro env st1 ⟨e, acc, e4, e5, e6, e7, e8, ha, hb, g1, rfl⟩
    have ha : acc.length = N := by simpa using ha
    conv => whnf
    refine ⟨?_⟩
    conv => whnf
    refine onSome_i g1.get ?_
    conv => whnf
    refine ⟨Nat.zero_le _, ?_⟩
    conv => whnf
    refine ⟨Nat.zero_le _, ?_⟩
    conv => whnf
    refine ⟨(show 5 ≤ sizeLine by omega), ?_⟩
    show P.rt _ _
    rw [eP]
    exact .now (h acc st1 ⟨by omega, hb⟩ g1.tl)
end K

set_option maxHeartbeats 1000000
namespace K
open PySem PySem.Spec PyProof.Rows L2 DL
theorem hs_top {t c : Nat} {b x : Bool} {R : Pl} {st st1 : Sto} {Q : D → Sto → Prop} {X : EX} {e3 e4 e5 e6 e7 e8 : Option D} (g : Tp t c R st1) (h : ∀ h st', hOk h → Tp t c R st' → Q (hD h) st') :
    wpSs L (dropS 1 b_law_house.body) [some (.loc t), some (.bl b), some (.bl x), e3, e4, e5, e6, e7, e8] st1 { nx := fun _ s => Gc st.length Q .non s, rt := Gc st.length Q, ex := fun y _ s => GcX st.length X y s } := by
  have hz := line_gt
  have ga : Tp t c ((st1.length, .lst []) :: R) (st1 ++ [.lst []]) := g.add
  conv => whnf
  refine ⟨Nat.zero_le _, ?_⟩
  conv => whnf
  refine ⟨?_⟩
  cases x with
  | true =>
    conv => whnf
    refine ⟨⟨by omega, by omega⟩, ?_⟩
    have hrd : rangeD 0 (8 : Int).toNat = (List.range 8).map fun i : Nat => D.int (0 + (i : Nat)) := rfl
    rw [hrd]
    exact hs_loop (P := { nx := fun _ s => Gc st.length Q .non s, rt := Gc st.length Q, ex := fun y _ s => GcX st.length X y s }) ⟨by omega, by omega⟩ ga rfl h
  | false =>
    conv => whnf
    refine ⟨t, c, _, _, rfl, ⟨by decide, by decide⟩, ga, fun v st2 p q g2 => ?_⟩
    obtain ⟨m, em⟩ : ∃ m : Nat, (1 : Int) + v = m := ⟨(1 + v).toNat, by omega⟩
    conv => whnf
    rw [em]
    refine ⟨⟨by omega, by omega⟩, ?_⟩
    have hrd : rangeD 0 (m : Int).toNat = (List.range m).map fun i : Nat => D.int (0 + (i : Nat)) := rfl
    rw [hrd]
    exact hs_loop (P := { nx := fun _ s => Gc st.length Q .non s, rt := Gc st.length Q, ex := fun y _ s => GcX st.length X y s }) ⟨by omega, by omega⟩ g2 rfl h
theorem v_law_house (ds : List D) (st : Sto) (Q : D → Sto → Prop) (X : EX) (hs : CloS st.length st) (hd : Clos st.length ds) (h0 : L.call "_law_house" ds st Q X) : b_law_house.run L ds st (Gc st.length Q) (GcX st.length X) := by
  obtain ⟨t, c, b, R, rfl, g, h⟩ := (show sHouse ds st Q X from h0)
  clear h0 hd
  conv => whnf
  refine ⟨?_⟩
  cases b with
  | true =>
    conv => whnf
    refine ⟨t, c, _, _, rfl, ⟨by decide, by decide⟩, g, fun v st2 p q g2 => ?_⟩
    conv => whnf
    refine ⟨?_⟩
    exact hs_top g2 h
  | false =>
    conv => whnf
    refine ⟨?_⟩
    exact hs_top g h
end K

set_option maxHeartbeats 4000000
namespace K
open PySem PySem.Spec PyProof.Rows L2 DL
/-- a bad step -/
def Bd (h : Hs) (z : D) : Prop := ∃ s : St, z = s.d ∧ (∀ w, stB h w s = false) ∧ stOk h s ∧ stH s ≤ 2
theorem bd_odd {h : Hs} {z : D} (m : Odd z) : Bd h z := ⟨.odd z, by rw [St.d], fun w => by unfold stB; rfl, by unfold stOk; exact m, by unfold stH; omega⟩
theorem bd_ask {h : Hs} {n : Int} {q : Qr} (hq : q.ok h) (hb : inR 0 7 n = false ∨ (q.kinds h).isSome = false) : Bd h (.tup [.str "ask", .int n, q.d]) :=
  ⟨.ask n q, by rw [St.d], fun w => by rw [stB]; rcases hb with e | e <;> rw [e] <;> simp, by unfold stOk; exact hq, by unfold stH; omega⟩
theorem bd_put {h : Hs} {n : Int} {xs : List D} (hb : inR 0 (h.length - 1) n = false) : Bd h (.tup [.str "put", .int n, .tup xs]) :=
  ⟨.put n xs, by rw [St.d], fun w => by rw [stB]; exact hb, by unfold stOk; trivial, by unfold stH; omega⟩
theorem neg_ask {h : Hs} {w n : Int} {q : Qr} (hw : w < 0) : stB h w (.ask n q) = false := by rw [stB, decide_eq_false (by omega), Bool.false_and]
theorem ar_neg (w : Int) : aroundI w true < 0 := by unfold aroundI; show -((w.natAbs : Int) + 1) < 0; omega
theorem ar_neg2 {w : Int} (h : w < 0) : aroundI w false < 0 := by unfold aroundI; rw [decide_eq_true h]; show -((w.natAbs : Int) + 1) < 0; omega
theorem sts1 {h : Hs} {w : Int} {s : St} : stsB h w [s] = stB h w s := by rw [stsB, stsB, Bool.and_true]
theorem one_D (s : St) : stsD [s] = [s.d] := by rw [stsD_map]; rfl
theorem ok1 {h : Hs} {s : St} (hs : stOk h s) : [s].length ≤ 1000 ∧ stsOk h [s] := ⟨by simp, stsOk_iff.mpr fun x hx => by rw [List.mem_singleton.mp hx]; exact hs⟩
theorem sH1 (s : St) : stsH [s] = stH s := by rw [stsH, stsH]; omega
theorem ok_ask {h : Hs} {n : Int} {q : Qr} (hq : q.ok h) : stOk h (.ask n q) := by unfold stOk; exact hq
theorem bd_each {h : Hs} {s : St} (hs : stOk h s) (hb : ∀ w, w < 0 → stB h w s = false) (hh : stH s ≤ 1) : Bd h (.tup [.str "each", .int 0, .tup [s.d]]) :=
  ⟨.each 0 [s], by rw [St.d, one_D], fun w => by rw [stB, sts1, hb _ (ar_neg w), Bool.and_false, Bool.and_false], by unfold stOk; exact ok1 hs, by rw [show stH (.each 0 [s]) = stsH [s] + 1 by unfold stH; rfl, sH1]; omega⟩
theorem bd_when {h : Hs} {n lo hi : Int} {ss : List St} (hs : ss.length ≤ 1000 ∧ stsOk h ss) (hb : inR 0 7 n = false ∨ inR 0 400 lo = false ∨ inR 0 400 hi = false ∨ ∀ w, stsB h w ss = false) (hh : stsH ss ≤ 1) : Bd h (.tup [.str "when", .int n, .int lo, .int hi, .tup (stsD ss)]) :=
  ⟨.whn n lo hi ss, by rw [St.d], fun w => by
    rw [stB]
    rcases hb with e | e | e | e
    · rw [e]; simp
    · rw [e]; simp
    · rw [e]; simp
    · rw [e]; simp, by unfold stOk; exact hs, by rw [show stH (.whn n lo hi ss) = stsH ss + 1 by unfold stH; rfl]; omega⟩
theorem v_law_bad (ds : List D) (st : Sto) (Q : D → Sto → Prop) (X : EX) (hs : CloS st.length st) (hd : Clos st.length ds) (h0 : L.call "_law_bad" ds st Q X) : b_law_bad.run L ds st (Gc st.length Q) (GcX st.length X) := by
  obtain ⟨t, c, hh, R, rfl, ho, g, h⟩ := (show sBad ds st Q X from h0)
  clear h0 hd
  have hz := line_gt
  have hl := ho.len
  conv => whnf
  refine ⟨?_⟩
  conv => whnf
  refine ⟨t, c, _, R, rfl, ⟨by rw [hlen]; omega, by rw [hlen]; omega⟩, g, fun v st1 p q g1 => ?_⟩
  rw [hlen] at q
  obtain ⟨j, rfl⟩ : ∃ j : Nat, v = j := ⟨v.toNat, by omega⟩
  conv => whnf
  repeat first
    | (refine Stop.mk ?_; conv => whnf)
    | (refine ⟨by simp only [List.length_append, List.length_cons, List.length_nil]; omega, ?_⟩; conv => whnf)
  refine ⟨t, c, _, _, R, rfl, .inl rfl, ⟨by simp only [List.length_append, List.length_cons, List.length_nil]; omega, by simp only [List.length_append, List.length_cons, List.length_nil]; omega⟩, g1, fun z st2 m g2 => ?_⟩
  have fin : Bd hh z → Gc st.length Q z st2 := fun ⟨s, e, b1, b2, b3⟩ => by
    subst e
    exact .now (h s st2 b1 b2 b3 g2)
  refine fin ?_
  simp only [List.mem_append, List.mem_cons, List.not_mem_nil, or_false, or_assoc] at m
  have kt : ((Qr.tab ((hh.map Tb.d).length : Int)).kinds hh).isSome = false := by
    show (if 0 ≤ ((hh.map Tb.d).length : Int) ∧ ((hh.map Tb.d).length : Int) < hh.length then some (ksOf hh ((hh.map Tb.d).length : Int).toNat) else none).isSome = false
    rw [if_neg (by rw [hlen]; omega)]
    rfl
  have ask0 : ∀ n : Int, stOk hh (.ask n (.tab j)) := fun n => ok_ask (q := .tab j) trivial
  rcases m with rfl | rfl | rfl | rfl | rfl | rfl | rfl | rfl | rfl | rfl | rfl | rfl | rfl | rfl | rfl | rfl | rfl | rfl | rfl | rfl | rfl | rfl | rfl | rfl | rfl | rfl | rfl | rfl | rfl | rfl | rfl | rfl | rfl | rfl
  · exact bd_odd (.inl (by decide))
  · exact bd_odd (.inl (by decide))
  · exact bd_odd (.inl (by decide))
  · exact bd_odd (.inl (by decide))
  · exact bd_odd (.inl (by decide))
  · exact bd_ask (q := .tab j) trivial (.inl (by decide))
  · exact bd_ask (q := .tab j) trivial (.inl (by decide))
  · exact bd_odd (.inr ⟨j, .inl rfl⟩)
  · exact bd_ask (q := .tab ((hh.map Tb.d).length : Int)) trivial (.inr kt)
  · exact bd_ask (q := .view0) trivial (.inr rfl)
  · exact bd_odd (.inl (by decide))
  · exact ⟨.each 8 [], by rw [St.d, stsD], fun w => by rw [stB, show inR 0 7 8 = false by decide, Bool.false_and], by unfold stOk; exact ⟨by simp, by unfold stsOk; trivial⟩, by simp [stH, stsH]⟩
  · exact bd_odd (.inl (by decide))
  · exact bd_each (s := .ask 0 (.tab j)) (ask0 0) (fun w hw => neg_ask hw) (by unfold stH; omega)
  · exact bd_each (s := .whn 0 0 9 [.ask 0 (.tab j)]) (by unfold stOk; exact ok1 (ask0 0)) (fun w hw => by rw [stB, sts1, neg_ask (ar_neg2 hw)]; simp) (by simp [stH, stsH])
  · exact bd_odd (.inl (by decide))
  · exact bd_odd (.inl (by decide))
  · exact bd_odd (.inl (by decide))
  · exact bd_each (s := .try_ [.ask 0 (.tab j)]) (by unfold stOk; exact ok1 (ask0 0)) (fun w hw => by rw [stB, sts1, neg_ask (ar_neg2 hw)]; simp) (by simp [stH, stsH])
  · exact bd_when (ss := []) ⟨by simp, by unfold stsOk; trivial⟩ (.inr (.inl (by decide))) (by simp [stsH])
  · exact bd_when (ss := []) ⟨by simp, by unfold stsOk; trivial⟩ (.inr (.inr (.inl (by decide)))) (by simp [stsH])
  · exact bd_when (ss := [.odd .non]) (ok1 (by unfold stOk; exact .inl (by decide))) (.inr (.inr (.inr fun w => by rw [sts1]; unfold stB; rfl))) (by rw [sH1]; unfold stH; omega)
  · exact bd_odd (.inl (by decide))
  · exact bd_when (ss := []) ⟨by simp, by unfold stsOk; trivial⟩ (.inl (by decide)) (by simp [stsH])
  · exact bd_put (by unfold inR; rw [hlen, decide_eq_false (show ¬ (hh.length : Int) ≤ (hh.length : Int) - 1 by omega), Bool.and_false])
  · exact bd_put (by unfold inR; rw [decide_eq_false (show ¬ (0 : Int) ≤ -1 by decide), Bool.false_and])
  · exact bd_odd (.inr ⟨j, .inr (.inl rfl)⟩)
  · exact bd_odd (.inr ⟨j, .inr (.inr (.inl rfl))⟩)
  · exact bd_odd (.inl (by decide))
  · exact bd_odd (.inl (by decide))
  · exact bd_odd (.inl (by decide))
  · exact bd_odd (.inl (by decide))
  · exact bd_odd (.inl (by decide))
  · exact bd_odd (.inr ⟨j, .inr (.inr (.inr rfl))⟩)
end K

set_option maxHeartbeats 1000000
namespace K
open PySem PySem.Spec PyProof.Rows L2 DL
/-! what the law calls, told for the tape's frame -/
theorem ip_ss {t c : Nat} {h : Hs} {ss : List St} {st : Sto} {Q : D → Sto → Prop} {X : EX} (ho : hOk h) (hok : stsOk h ss) (hH : stsH ss ≤ 5) (hl : ss.length ≤ 1000) (g : Tp t c [] st) (hq : ∀ st', Tp t c [] st' → Q (.bl (stsB h 0 ss && decide (stsC ss ≤ 40))) st') : sIsProgram [hD h, prog ss] st Q X := by
  obtain ⟨sd, ns, h1, h2, h3⟩ := g
  exact ⟨h, prog ss, _, rfl, ho, h3, .inr ⟨ss, rfl, hok, hH, hl, fun st' g' => hq st' ⟨sd, ns, h1, h2, g'⟩⟩⟩
theorem ip_odd {t c : Nat} {h : Hs} {d : D} {st : Sto} {Q : D → Sto → Prop} {X : EX} (ho : hOk h) (m : d ∈ oddP) (g : Tp t c [] st) (hq : ∀ st', Tp t c [] st' → Q (.bl false) st') : sIsProgram [hD h, d] st Q X := by
  obtain ⟨sd, ns, h1, h2, h3⟩ := g
  exact ⟨h, d, _, rfl, ho, h3, .inl ⟨m, fun st' g' => hq st' ⟨sd, ns, h1, h2, g'⟩⟩⟩
theorem same_b {x y : Bool} {st : Sto} {Q : D → Sto → Prop} {X : EX} (hq : Q (.bl (x == y)) st) : sSame 1 [.bl x, .bl y] st Q X := ⟨.bl x, .bl y, rfl, .inl ⟨x, y, rfl, rfl, hq⟩⟩
/-- padded with quits -/
theorem pad_B {h : Hs} {w : Int} {ss : List St} (hb : stsB h w ss = true) (k : Nat) : stsB h w (ss ++ List.replicate k .quit) = true := by
  rw [stsB_all, List.all_append, ← stsB_all, hb, Bool.true_and, List.all_eq_true]
  intro x hx
  rw [(List.mem_replicate.mp hx).2]
  unfold stB
  rfl
theorem pad_C (ss : List St) (k : Nat) : stsC (ss ++ List.replicate k .quit) = stsC ss + k := by
  rw [stsC_app]
  have : ∀ k : Nat, stsC (List.replicate k St.quit) = k := fun k => by
    induction k with
    | zero => unfold stsC; rfl
    | succ k ih =>
      rw [List.replicate_succ, stsC, ih]
      unfold stC
      omega
  rw [this]
theorem pad_D (ss : List St) (k : Nat) : stsD (ss ++ List.replicate k .quit) = stsD ss ++ List.replicate k (.tup [.str "quit"]) := by
  rw [stsD_map, stsD_map, List.map_append, List.map_replicate]
  rfl
end K

set_option maxHeartbeats 1000000
namespace K
open PySem PySem.Spec PyProof.Rows L2 DL
def lb : Ss := bodyS (headS (dropS 2 b_law.body))
def EnvOk (ns : List Int) (t : Nat) (env : St') : Prop := ∃ e2 e3 e4 e5 e6 e7 e8 e9 e10 : Option D, env = [some (.scr ns), some (.loc t), e2, e3, e4, e5, e6, e7, e8, e9, e10]
theorem l7 {ns : List Int} {t c : Nat} {h : Hs} {st : Sto} {e2 e4 e5 e6 e7 e8 e9 e10 : Option D} {P : Post} (ho : hOk h) (g : Tp t c [] st) (hn : ∀ env st', EnvOk ns t env → Tp t c [] st' → P.nx env st') :
    wpSs L (dropS 7 lb) [some (.scr ns), some (.loc t), e2, some (hD h), e4, e5, e6, e7, e8, e9, e10] st P := by
  have hz := line_gt
  conv => whnf
  refine ⟨Nat.zero_le _, ?_⟩
  conv => whnf
  refine ⟨(show 2 ≤ sizeLine by omega), ?_⟩
  conv => whnf
  refine ⟨(show 1 ≤ sizeLine by omega), ?_⟩
  conv => whnf
  refine ⟨Nat.zero_le _, ?_⟩
  conv => whnf
  refine ⟨(show 2 ≤ sizeLine by omega), ?_⟩
  conv => whnf
  refine ⟨Nat.zero_le _, ?_⟩
  conv => whnf
  refine ⟨(show 2 ≤ sizeLine by omega), ?_⟩
  conv => whnf
  refine ⟨Nat.zero_le _, ?_⟩
  conv => whnf
  refine ⟨(show 3 ≤ sizeLine by omega), ?_⟩
  conv => whnf
  refine ⟨(show 7 ≤ sizeLine by omega), ?_⟩
  conv => whnf
  refine ⟨t, c, _, oddP, [], rfl, .inl rfl, ⟨by decide, by decide⟩, g, fun z st1 m g1 => ?_⟩
  conv => whnf
  refine ⟨?_⟩
  conv => whnf
  obtain ⟨sd, ms, q1, q2, q3⟩ := g1
  refine ⟨h, z, _, rfl, ho, q3, .inl ⟨m, fun st2 g' => ?_⟩⟩
  have g2 : Tp t c [] st2 := ⟨sd, ms, q1, q2, g'⟩
  conv => whnf
  refine ⟨.bl _, .bl _, rfl, .inl ⟨_, _, rfl, rfl, ?_⟩⟩
  conv => whnf
  refine ⟨Nat.zero_le _, ?_⟩
  conv => whnf
  refine ⟨(show 2 ≤ sizeLine by omega), ?_⟩
  have e : D.tup [.str "program", .tup []] = prog [] := by unfold prog stsD; rfl
  conv => whnf
  refine ⟨h, prog [], _, by rw [e], ho, g', .inr ⟨[], rfl, by unfold stsOk; trivial, by unfold stsH; omega, by simp, fun st3 g'' => ?_⟩⟩
  have g3 : Tp t c [] st3 := ⟨sd, ms, q1, q2, g''⟩
  have e2 : (stsB h 0 [] && decide (stsC [] ≤ 40)) = true := by unfold stsB stsC; rfl
  rw [e2]
  conv => whnf
  refine ⟨.bl _, .bl _, rfl, .inl ⟨_, _, rfl, rfl, ?_⟩⟩
  conv => whnf
  exact hn _ _ ⟨_, _, _, _, _, _, _, _, _, rfl⟩ g3
end K

set_option maxHeartbeats 1000000
namespace K
open PySem PySem.Spec PyProof.Rows L2 DL
theorem l5 {ns : List Int} {t c : Nat} {h : Hs} {st : Sto} {e2 e4 e5 e6 e7 e8 e9 e10 : Option D} {P : Post} (ho : hOk h) (g : Tp t c [] st) (hn : ∀ env st', EnvOk ns t env → Tp t c [] st' → P.nx env st') :
    wpSs L (dropS 5 lb) [some (.scr ns), some (.loc t), e2, some (hD h), e4, e5, e6, e7, e8, e9, e10] st P := by
  have hz := line_gt
  conv => whnf
  refine ⟨(show 3 ≤ sizeLine by omega), ?_⟩
  conv => whnf
  refine ⟨t, c, _, [.str "each", .str "when", .str "try"], [], rfl, .inl rfl, ⟨by decide, by decide⟩, g, fun z st1 m g1 => ?_⟩
  have hz2 : ∃ w : String, z = .str w ∧ (w = "each" ∨ w = "when" ∨ w = "try") := by
    simp only [List.mem_cons, List.not_mem_nil, or_false] at m
    rcases m with rfl | rfl | rfl
    · exact ⟨_, rfl, .inl rfl⟩
    · exact ⟨_, rfl, .inr (.inl rfl)⟩
    · exact ⟨_, rfl, .inr (.inr rfl)⟩
  obtain ⟨w, rfl, hw⟩ := hz2
  conv => whnf
  refine ⟨?_⟩
  conv => whnf
  refine ⟨(show 3 ≤ sizeLine by omega), ?_⟩
  refine forGo_ind (f := fun n : Nat => D.int n) (fun done todo env st2 => (∀ x ∈ todo, x ≤ 5) ∧ Tp t c [] st2 ∧ ∃ e7, env = [some (.scr ns), some (.loc t), e2, some (hD h), e4, e5, some (.str w), e7, e8, e9, e10]) [3, 4, 5] [] ⟨by decide, g1, _, rfl⟩ ?_ ?_
  · rintro done x todo env st2 kk ⟨hx, g2, e7, rfl⟩ hk
    have x5 := hx x (by simp)
    conv => whnf
    refine ⟨?_⟩
    conv => whnf
    refine ⟨t, c, x, w, [], rfl, ⟨x5, hw⟩, g2, fun s st3 hs3 g3 => ?_⟩
    obtain ⟨sd, ms, q1, q2, q3⟩ := g3
    conv => whnf
    refine ⟨(show 1 ≤ sizeLine by omega), ?_⟩
    conv => whnf
    refine ⟨(show 2 ≤ sizeLine by omega), ?_⟩
    obtain ⟨d1, d2, d3, d4⟩ := hs3
    have e : D.tup [.str "program", .tup [s.d]] = prog [s] := by unfold prog; rw [one_D]
    conv => whnf
    refine ⟨h, prog [s], _, by rw [e], ho, q3, .inr ⟨[s], rfl, (ok1 (d2 h)).2, by rw [sH1, d3]; omega, by simp, fun st4 g' => ?_⟩⟩
    have e2 : (stsB h 0 [s] && decide (stsC [s] ≤ 40)) = decide (x ≤ 4) := by
      rw [sts1, stsC_one, d1 h 0 (by decide), d4, decide_eq_true (show x + 1 ≤ 40 by omega), Bool.and_true]
      exact ltd (by simp)
    rw [e2]
    have e3 : decide ((x : Int) ≤ 4) = decide (x ≤ 4) := ltd (by omega)
    conv => whnf
    refine ⟨.bl (decide (x ≤ 4)), .bl (decide ((x : Int) ≤ 4)), rfl, .inl ⟨_, _, rfl, rfl, ?_⟩⟩
    rw [e3, beq_self_eq_true]
    conv => whnf
    exact hk _ _ ⟨fun y hy => hx y (by simp [hy]), ⟨sd, ms, q1, q2, g'⟩, _, rfl⟩
  · rintro env st2 ⟨_, g2, e7, rfl⟩
    conv => whnf
    refine ⟨?_⟩
    exact l7 ho g2 hn
end K

set_option maxHeartbeats 1000000
namespace K
open PySem PySem.Spec PyProof.Rows L2 DL
/-- a bad step put in -/
theorem l4c {ns : List Int} {t c : Nat} {h : Hs} {ss : List St} {st : Sto} {e2 e6 e7 e8 e9 e10 : Option D} {P : Post} (ho : hOk h) (hb : stsB h 0 ss = true) (hok : stsOk h ss) (hH : stsH ss ≤ 3) (hC : stsC ss ≤ 300) (g : Tp t c [] st)
    (hn : ∀ env st', (∃ e6 e7 e8 e9 e10, env = [some (.scr ns), some (.loc t), e2, some (hD h), some (prog ss), some (.int (stsC ss)), e6, e7, e8, e9, e10]) → Tp t c [] st' → P.nx env st') :
    wpSs L (dropS 3 (thenS (headS (dropS 4 lb)))) [some (.scr ns), some (.loc t), e2, some (hD h), some (prog ss), some (.int (stsC ss)), e6, e7, e8, e9, e10] st P := by
  have hz := line_gt
  conv => whnf
  refine ifB_intro (fun _ => ?_) (fun _ => ?_)
  · conv => whnf
    refine ⟨?_⟩
    conv => whnf
    refine ⟨t, c, h, [], rfl, ho, g, fun s st1 sb so sh g1 => ?_⟩
    conv => whnf
    refine ⟨t, c, h, ss, s, 0, [], rfl, ⟨(show stsH ss ≤ 5 by omega), by omega, hb, hok⟩, sb, so, g1, fun ss' st2 b1 b2 b3 b4 g2 => ?_⟩
    have hl := stsC_len ss
    obtain ⟨sd, ms, q1, q2, q3⟩ := g2
    conv => whnf
    refine ⟨(show 2 ≤ sizeLine by omega), ?_⟩
    conv => whnf
    refine ⟨?_⟩
    conv => whnf
    refine ⟨h, prog ss', _, rfl, ho, q3, .inr ⟨ss', rfl, b2, by omega, by omega, fun st4 g' => ?_⟩⟩
    rw [b1 0, Bool.false_and]
    conv => whnf
    refine ⟨.bl _, .bl _, rfl, .inl ⟨_, _, rfl, rfl, ?_⟩⟩
    conv => whnf
    exact hn _ _ ⟨_, _, _, _, _, rfl⟩ ⟨sd, ms, q1, q2, g'⟩
  · conv => whnf
    exact hn _ _ ⟨_, _, _, _, _, rfl⟩ g
theorem quits (k : Nat) : (List.replicate k [D.tup [.str "quit"]]).flatten = List.replicate k (D.tup [.str "quit"]) := by
  induction k with
  | zero => rfl
  | succ k ih => rw [List.replicate_succ, List.flatten_cons, ih, List.replicate_succ]; rfl
theorem pad_prog (ss : List St) (k : Nat) : D.tup [.str "program", .tup (stsD ss ++ (List.replicate k [D.tup [.str "quit"]]).flatten)] = prog (ss ++ List.replicate k .quit) := by
  unfold prog
  rw [quits, pad_D]
theorem ok_pad {h : Hs} {ss : List St} (hok : stsOk h ss) (k : Nat) : stsOk h (ss ++ List.replicate k .quit) := stsOk_iff.mpr fun x hx => by
  rcases List.mem_append.mp hx with hx | hx
  · exact stsOk_iff.mp hok x hx
  · rw [(List.mem_replicate.mp hx).2]; unfold stOk; trivial
theorem h_pad {ss : List St} {m : Nat} (hH : stsH ss ≤ m) (k : Nat) : stsH (ss ++ List.replicate k .quit) ≤ m := stsH_of fun x hx => by
  rcases List.mem_append.mp hx with hx | hx
  · exact Nat.le_trans (stsH_le hx) hH
  · rw [(List.mem_replicate.mp hx).2]; unfold stH; omega
theorem l4 {ns : List Int} {t c : Nat} {h : Hs} {ss : List St} {st : Sto} {e2 e6 e7 e8 e9 e10 : Option D} {P : Post} (ho : hOk h) (hb : stsB h 0 ss = true) (hok : stsOk h ss) (hH : stsH ss ≤ 3) (hC : stsC ss ≤ 300) (g : Tp t c [] st) (hn : ∀ env st', EnvOk ns t env → Tp t c [] st' → P.nx env st') :
    wpSs L (dropS 4 lb) [some (.scr ns), some (.loc t), e2, some (hD h), some (prog ss), some (.int (stsC ss)), e6, e7, e8, e9, e10] st P := by
  have hz := line_gt
  have hl := stsC_len ss
  have dl : (stsD ss).length = ss.length := by rw [stsD_map, List.length_map]
  conv => whnf
  refine ifB_intro (fun q => ?_) (fun q => ?_)
  · have q : ((stsC ss : Nat) : Int) ≤ 40 := of_decide_eq_true q
    obtain ⟨k, ek⟩ : ∃ k : Nat, (40 : Int) - (stsC ss : Nat) = k := ⟨40 - stsC ss, by omega⟩
    conv => whnf
    refine ⟨?_⟩
    conv => whnf
    refine ⟨(show 1 ≤ sizeLine by omega), ?_⟩
    conv => whnf
    refine ⟨(show 1 ≤ sizeLine by omega), ?_⟩
    conv => whnf
    rw [ek]
    refine ⟨⟨by omega, by omega, by decide, by decide⟩, ?_⟩
    conv => whnf
    rw [Int.toNat_natCast]
    refine ⟨by rw [dl, quits, List.length_replicate]; omega, ?_⟩
    conv => whnf
    refine ⟨(show 2 ≤ sizeLine by omega), ?_⟩
    rw [pad_prog]
    have fl : (ss ++ List.replicate k St.quit).length ≤ 1000 := by rw [List.length_append, List.length_replicate]; omega
    obtain ⟨sd, ms, q1, q2, q3⟩ := g
    conv => whnf
    refine ⟨?_⟩
    conv => whnf
    refine ⟨h, prog (ss ++ List.replicate k .quit), _, rfl, ho, q3, .inr ⟨_, rfl, ok_pad hok k, Nat.le_trans (h_pad hH k) (by decide), fl, fun st2 g2 => ?_⟩⟩
    rw [pad_B hb, pad_C, decide_eq_true (show stsC ss + k ≤ 40 by omega)]
    conv => whnf
    refine ⟨.bl _, .bl _, rfl, .inl ⟨_, _, rfl, rfl, ?_⟩⟩
    conv => whnf
    refine ⟨?_⟩
    conv => whnf
    refine ⟨(show 1 ≤ sizeLine by omega), ?_⟩
    conv => whnf
    refine ⟨(show 1 ≤ sizeLine by omega), ?_⟩
    conv => whnf
    refine ⟨by rw [stsD_map, List.length_map]; show _ + 1 ≤ _; omega, ?_⟩
    conv => whnf
    refine ⟨(show 2 ≤ sizeLine by omega), ?_⟩
    have e1 : D.tup [.str "program", .tup (stsD (ss ++ List.replicate k .quit) ++ [D.tup [.str "quit"]])] = prog (ss ++ List.replicate (k + 1) .quit) := by
      unfold prog
      rw [pad_D, pad_D, List.append_assoc, List.replicate_succ']
    conv => whnf
    refine ⟨h, prog (ss ++ List.replicate (k + 1) .quit), _, by rw [← e1], ho, g2, .inr ⟨_, rfl, ok_pad hok _, Nat.le_trans (h_pad hH _) (by decide), by rw [List.length_append, List.length_replicate]; omega, fun st3 g3 => ?_⟩⟩
    rw [pad_C, decide_eq_false (show ¬ stsC ss + (k + 1) ≤ 40 by omega), Bool.and_false]
    conv => whnf
    refine ⟨.bl _, .bl _, rfl, .inl ⟨_, _, rfl, rfl, ?_⟩⟩
    conv => whnf
    refine ⟨?_⟩
    refine l4c ho hb hok hH hC ⟨sd, ms, q1, q2, g3⟩ fun env st4 ⟨e6, e7, e8, e9, e10, ee⟩ g4 => ?_
    subst ee
    conv => whnf
    refine ⟨?_⟩
    exact l5 ho g4 hn
  · conv => whnf
    refine ⟨?_⟩
    exact l5 ho g hn
end K

set_option maxHeartbeats 1000000
namespace K
open PySem PySem.Spec PyProof.Rows L2 DL
theorem l1 {ns : List Int} {t c : Nat} {h : Hs} {st : Sto} {e2 e4 e5 e6 e7 e8 e9 e10 : Option D} {P : Post} (ho : hOk h) (g : Tp t c [] st) (hn : ∀ env st', EnvOk ns t env → Tp t c [] st' → P.nx env st') :
    wpSs L (dropS 1 lb) [some (.scr ns), some (.loc t), e2, some (hD h), e4, e5, e6, e7, e8, e9, e10] st P := by
  have hz := line_gt
  conv => whnf
  refine ⟨t, c, h, [], rfl, ho, g, fun ss st1 hb hok hH hC g1 => ?_⟩
  have hl := stsC_len ss
  obtain ⟨sd, ms, q1, q2, q3⟩ := g1
  conv => whnf
  refine ⟨?_⟩
  conv => whnf
  refine ⟨h, prog ss, _, rfl, ho, q3, .inr ⟨ss, rfl, hok, by omega, by omega, fun st2 g2 => ?_⟩⟩
  rw [hb, Bool.true_and]
  conv => whnf
  refine ⟨ss, h, 0, rfl, ⟨(show stsH ss ≤ 11 by omega), hb⟩, ?_⟩
  have e3 : decide (((stsC ss : Nat) : Int) ≤ 40) = decide (stsC ss ≤ 40) := ltd (by omega)
  conv => whnf
  refine ⟨.bl (decide (stsC ss ≤ 40)), .bl (decide (((stsC ss : Nat) : Int) ≤ 40)), rfl, .inl ⟨_, _, rfl, rfl, ?_⟩⟩
  rw [e3, beq_self_eq_true]
  conv => whnf
  refine ⟨?_⟩
  conv => whnf
  refine ⟨ss, h, 0, rfl, ⟨(show stsH ss ≤ 11 by omega), hb⟩, ?_⟩
  conv => whnf
  refine ⟨?_⟩
  exact l4 ho hb hok hH hC ⟨sd, ms, q1, q2, g2⟩ hn
theorem v_law (ds : List D) (st : Sto) (Q : D → Sto → Prop) (X : EX) (hs : CloS st.length st) (hd : Clos st.length ds) (h0 : L.call "law" ds st Q X) : b_law.run L ds st (Gc st.length Q) (GcX st.length X) := by
  obtain ⟨ns, rfl, hl, h⟩ := (show sLaw ds st Q X from h0)
  clear h0
  have hz := line_gt
  conv => whnf
  refine ⟨?_⟩
  conv => whnf
  refine ⟨ns, [], rfl, hl, ⟨fun _ m => (by cases m), List.nodup_nil⟩, fun t c st1 g => ?_⟩
  conv => whnf
  refine ⟨?_⟩
  conv => whnf
  refine ⟨(show 4 ≤ sizeLine by omega), ?_⟩
  conv => whnf
  refine ⟨(show 4 ≤ sizeLine by omega), ?_⟩
  conv => whnf
  refine ⟨_, _, rfl, .inr (.inr ⟨by decide, [8, 400, 40, 4], by decide, rfl, rfl, ?_⟩)⟩
  conv => whnf
  refine ⟨?_⟩
  conv => whnf
  refine ⟨⟨by omega, by omega⟩, ?_⟩
  have hrd : rangeD 0 (4 : Int).toNat = (List.range 4).map fun i : Nat => D.int (0 + (i : Nat)) := rfl
  rw [hrd]
  refine forGo_ind (f := fun i : Nat => D.int (0 + (i : Nat))) (fun done todo env st2 => EnvOk ns t env ∧ Tp t c [] st2) (List.range 4) [] ⟨⟨_, _, _, _, _, _, _, _, _, rfl⟩, g⟩ ?_ ?_
  · rintro done y todo env st2 kk ⟨⟨e2, e3, e4, e5, e6, e7, e8, e9, e10, rfl⟩, g1⟩ hk
    conv => whnf
    refine ⟨?_⟩
    conv => whnf
    refine ⟨t, c, true, [], rfl, g1, fun h st3 ho g2 => ?_⟩
    conv => whnf
    refine ⟨?_⟩
    exact l1 ho g2 fun env st' e g' => hk _ _ ⟨e, g'⟩
  · rintro env st2 ⟨⟨e2, e3, e4, e5, e6, e7, e8, e9, e10, rfl⟩, g1⟩
    conv => whnf
    refine ⟨?_⟩
    conv => whnf
    exact .now (h _)
end K

set_option maxHeartbeats 1000000
namespace K
open PySem PySem.Spec PyProof.Rows L2 DL
def cS : Nat → Nat
  | 0 => 53
  | 1 => 17
  | 2 => 5
  | _ => 1
theorem cB_cS (w : Nat) : cB w = 3 * cS w := by
  match w with
  | 0 => rfl
  | 1 => rfl
  | 2 => rfl
  | _ + 3 => rfl
theorem cS_pos (w : Nat) : 1 ≤ cS w := by
  match w with
  | 0 => decide
  | 1 => decide
  | 2 => decide
  | _ + 3 => exact Nat.le_refl _
theorem cS_up {w : Nat} (h : w < 3) : cB (w + 1) + 2 = cS w := by
  match w with
  | 0 => rfl
  | 1 => rfl
  | 2 => rfl
  | _ + 3 => omega
theorem AnsOk.len {m : List (D × D)} (h : AnsOk m) : m.length ≤ 3 := by
  have := few_of (B := [D.int 0, .int 1, .int 2]) h.1 fun x hx => by
    obtain ⟨p, hp, rfl⟩ := List.mem_map.mp hx
    obtain ⟨i, ks, e, hi, _⟩ := h.2 p hp
    rw [e]
    match i, hi with
    | 0, _ => simp
    | 1, _ => simp
    | 2, _ => simp
  rwa [List.length_map] at this
theorem dPut_ok {m : List (D × D)} {i : Nat} {ks : List String} (h : AnsOk m) (hi : i ≤ 2) (hk : ksGood ks) : AnsOk (dPut m (.int i) (ksD ks)) := by
  unfold dPut
  split
  · refine ⟨?_, fun p hp => ?_⟩
    · have e : ((m.map fun p => if p.1 = .int i then (p.1, ksD ks) else p).map (·.1)) = m.map (·.1) := by
        rw [List.map_map]
        refine List.map_congr_left fun p _ => ?_
        show (if p.1 = .int i then (p.1, ksD ks) else p).1 = p.1
        split <;> rfl
      rw [e]
      exact h.1
    · obtain ⟨q, hq, rfl⟩ := List.mem_map.mp hp
      obtain ⟨j, ls, e, hj, hl⟩ := h.2 q hq
      split
      · rename_i ee
        exact ⟨i, ks, by rw [ee], hi, hk⟩
      · exact ⟨j, ls, e, hj, hl⟩
  · rename_i hn
    refine ⟨?_, fun p hp => ?_⟩
    · rw [List.map_append, List.nodup_append]
      refine ⟨h.1, by simp, fun x hx y hy e => ?_⟩
      simp only [List.map_cons, List.map_nil, List.mem_singleton] at hy
      subst hy
      subst e
      obtain ⟨p, hp, e⟩ := List.mem_map.mp hx
      exact hn (List.any_eq_true.mpr ⟨p, hp, decide_eq_true e⟩)
    · rcases List.mem_append.mp hp with hp | hp
      · exact h.2 p hp
      · exact ⟨i, ks, List.mem_singleton.mp hp, hi, hk⟩
theorem dGet_ok : ∀ {m : List (D × D)} {x : D}, (∀ p ∈ m, ∃ (i : Nat) (ks : List String), p = (.int i, ksD ks) ∧ i ≤ 2 ∧ ksGood ks) → x ∈ m.map (·.1) → ∃ (i : Nat) (ks : List String), x = .int i ∧ i ≤ 2 ∧ ksGood ks ∧ dGet m x = some (ksD ks)
  | [], _, _, hx => by cases hx
  | (k, v) :: m, x, h, hx => by
    obtain ⟨i, ks, e, hi, hk⟩ := h (k, v) List.mem_cons_self
    cases e
    by_cases e : D.int i = x
    · exact ⟨i, ks, e.symm, hi, hk, by rw [dGet, if_pos e]⟩
    · rcases List.mem_cons.mp hx with e2 | hx
      · exact absurd e2.symm e
      · obtain ⟨j, ls, e1, e2, e3, e4⟩ := dGet_ok (fun p hp => h p (List.mem_cons_of_mem _ hp)) hx
        exact ⟨j, ls, e1, e2, e3, by rw [dGet, if_neg e]; exact e4⟩
theorem ans_srt {m : List (D × D)} (h : AnsOk m) : srtOk (m.map (·.1)) := by
  have q : ∀ d ∈ m.map (·.1), ∃ i : Nat, d = .int i := fun d hd => by
    obtain ⟨p, hp, rfl⟩ := List.mem_map.mp hd
    obtain ⟨i, _, e, _⟩ := h.2 p hp
    exact ⟨i, by rw [e]⟩
  refine ⟨pures_of fun d hd => ?_, by rw [List.length_map, sizeLine_eq]; have := h.len; omega, Nat.le_trans (depths_of (n := 0) fun d hd => ?_) (by decide), fun a ma b mb => ?_, .inr fun a ma => ?_⟩
  · obtain ⟨i, rfl⟩ := q d hd; rfl
  · obtain ⟨i, rfl⟩ := q d hd; exact Nat.le_refl _
  · obtain ⟨x, hx, rfl⟩ := List.mem_map.mp ma
    obtain ⟨y, hy, rfl⟩ := List.mem_map.mp mb
    obtain ⟨i, rfl⟩ := q x hx
    obtain ⟨j, rfl⟩ := q y hy
    rfl
  · obtain ⟨x, hx, rfl⟩ := List.mem_map.mp ma
    obtain ⟨i, rfl⟩ := q x hx
    exact ⟨fun z => (nomatch z), fun _ z => (nomatch z)⟩
theorem Tp.swap {t c : Nat} {p q : Nat × Cell} {R : Pl} {st : Sto} (g : Tp t c (p :: q :: R) st) : Tp t c (q :: p :: R) st := by
  obtain ⟨sd, ns, h1, h2, h3⟩ := g
  exact ⟨sd, ns, h1, h2, h3.perm (((List.Perm.swap _ _ _).cons _).cons _)⟩
def wI (b : Bool) (w : Nat) : Int := bif b then -(w : Int) else w
def psB : Ss := bodyS (headS (dropS 1 b_law_program_steps.body))
def e1B : Ss := elseS (headS (dropS 1 psB))
def e2B : Ss := elseS (headS (dropS 0 e1B))
def e3B : Ss := elseS (headS (dropS 0 e2B))
def e4B : Ss := elseS (headS (dropS 0 e3B))
def e5B : Ss := elseS (headS (dropS 0 e4B))
structure Cx where
  t : Nat
  c : Nat
  a : Nat
  f : Nat
  h : Hs
  b : Bool
  ks : List String
  w : Nat
  R : Pl
def Cx.env (C : Cx) (e6 e7 e8 e9 e10 e11 e12 e13 e14 e15 : Option D) : St' := [some (.loc C.t), some (hD C.h), some (.loc C.a), some (kN C.b C.ks), some (.int C.w), some (.loc C.f), e6, e7, e8, e9, e10, e11, e12, e13, e14, e15]
def Cx.EnvOk (C : Cx) (env : St') : Prop := ∃ e6 e7 e8 e9 e10 e11 e12 e13 e14 e15 : Option D, env = C.env e6 e7 e8 e9 e10 e11 e12 e13 e14 e15
structure Cx.Ok (C : Cx) (n : Nat) : Prop where
  ho : hOk C.h
  hk : ksGood C.ks
  hw : C.w ≤ 3
  hn : 3 ≤ C.w + n
  hb : C.b = true → 1 ≤ C.w
def Cx.At (C : Cx) (xs : List D) (m : List (D × D)) (st : Sto) : Prop := Tp C.t C.c ((C.f, .lst xs) :: (C.a, .dct false m) :: C.R) st
def Cx.Nx (C : Cx) (P : Post) (ss : List St) : Prop := ∀ (x : St) m' env st', stB C.h (wI C.b C.w) x = true → stOk C.h x → stH x ≤ 3 - C.w → stC x ≤ cS C.w → AnsOk m' → C.At (stsD ss ++ [x.d]) m' st' → C.EnvOk env → P.nx env st'
theorem wI_abs (b : Bool) (w : Nat) : (wI b w).natAbs = w := by
  cases b with
  | false => exact Int.natAbs_natCast w
  | true => show (-(w : Int)).natAbs = w; omega
theorem wI_up {b : Bool} {w : Nat} (h : b = true → 1 ≤ w) : aroundI (wI b w) false = wI b (w + 1) := by
  unfold aroundI
  rw [wI_abs]
  cases b with
  | false =>
    have e : decide (wI false w < 0) = false := decide_eq_false (by show ¬ ((w : Int) < 0); omega)
    rw [e]
    rfl
  | true =>
    have := h rfl
    have e : decide (wI true w < 0) = true := decide_eq_true (by show -(w : Int) < 0; omega)
    rw [e]
    rfl
theorem wI_each (b : Bool) (w : Nat) : aroundI (wI b w) true = wI true (w + 1) := by
  unfold aroundI
  rw [wI_abs]
  rfl
theorem len_D (ss : List St) : (stsD ss).length = ss.length := by rw [stsD_map, List.length_map]
theorem ps_put {n : Nat} {C : Cx} {P : Post} {ss : List St} {m : List (D × D)} {st : Sto} {kd : Int} {e6 e8 e9 e10 e11 e12 e13 e14 e15 : Option D} (O : C.Ok n) (hl : ss.length < 100) (hm : AnsOk m) (g : C.At (stsD ss) m st) (nx : C.Nx P ss) :
    wpSs (Lr_law_program_steps n) e5B (C.env e6 (some (.int kd)) e8 e9 e10 e11 e12 e13 e14 e15) st P := by
  obtain ⟨t, c, a, f, h, b, ks, w, R⟩ := C
  have ho : hOk h := O.ho
  have hk : ksGood ks := O.hk
  have hz := line_gt
  have hlen := ho.len
  have hl2 := len_D ss
  have eh : (h.map Tb.d).length = h.length := List.length_map ..
  conv => whnf
  refine ⟨?_⟩
  conv => whnf
  refine ⟨t, c, _, _, rfl, ⟨by rw [eh]; omega, by rw [eh]; omega⟩, g, fun v st1 p q g1 => ?_⟩
  rw [eh] at q
  obtain ⟨j, rfl⟩ : ∃ j : Nat, v = j := ⟨v.toNat, by omega⟩
  have hj : j < h.length := by omega
  have kg := ks_get ho hj
  conv => whnf
  refine ⟨?_⟩
  conv => whnf
  refine ⟨h, j, rfl, ⟨ho, hj⟩, ?_⟩
  conv => whnf
  refine ⟨?_⟩
  have inr : inR 0 (h.length - 1) (j : Int) = true := by
    unfold inR
    rw [decide_eq_true (show (0 : Int) ≤ j by omega), decide_eq_true (show (j : Int) ≤ h.length - 1 by omega)]; rfl
  obtain ⟨ls, hls, ew⟩ : ∃ ls : List String, ls.length ≤ 8 ∧ (∀ Q : D → Sto → Prop, ∀ X : EX, Q (ksD ls) st1 → wpE (Lr_law_program_steps n) (.ife (.cmp .is_ (.v 3) .non) (.tup .nil) (.v 3)) (Cx.env ⟨t, c, a, f, h, b, ks, w, R⟩ e6 (some (.int kd)) e8 e9 e10 e11 (some (.int j)) (some (ksD (ksOf h j))) e14 e15) st1 Q X) := by
    cases b with
    | true => exact ⟨ks, hk.1.2, fun Q X hq => hq⟩
    | false => exact ⟨[], by simp, fun Q X hq => ⟨Nat.zero_le _, hq⟩⟩
  refine asg_i (ew _ _ ?_)
  conv => whnf
  refine ⟨?_⟩
  conv => whnf
  refine ifB_intro (fun c1 => ?_) (fun c1 => ?_)
  · conv => whnf
    refine ⟨?_⟩
    conv => whnf
    refine ⟨onSome_i g1.get trivial, ?_⟩
    conv => whnf
    refine onSome_i (at_tb hj) ?_
    have ht : h[j].ok := ho.tbs _ (List.getElem_mem hj)
    have ekey : ∀ (acc : List D) (K : List D → Sto → Prop), (∀ ks2 : List String, (∀ k ∈ ks2, k = "number" ∨ k = "text") → ks2.length ≤ 8 → K (ks2.map D.str) st1) → True := fun _ _ _ => trivial
    conv => whnf
    refine lcGo_ind (f := fun j : Nat => D.int j) (fun done todo acc st2 => done ++ todo = h[j].key ∧ st2 = st1 ∧ ∃ ks2 : List String, ks2.length = done.length ∧ (∀ k ∈ ks2, k = "number" ∨ k = "text") ∧ acc = (ks2.map D.str).reverse) h[j].key [] ⟨rfl, rfl, [], rfl, by simp, rfl⟩ ?_ ?_
    · rintro done i todo acc st2 kk ⟨e, rfl, ks2, hl2', hk2, rfl⟩ hn
      have hi : i < h[j].cols.length := ht.key i (by rw [← e]; simp)
      have hi2 : i < (ksOf h j).length := by rw [ks_len hj]; exact hi
      have l := congrArg List.length e
      rw [List.length_append, List.length_cons] at l
      have kl := ht.keyl
      conv => whnf
      refine onSome_i (a := .str (ksOf h j)[i]) (atI_n (by rw [List.getElem?_map, List.getElem?_eq_getElem hi2]; rfl)) ?_
      refine ⟨by rw [List.length_reverse, List.length_map]; omega, ?_⟩
      exact hn _ _ ⟨by rw [List.append_assoc]; exact e, rfl, ks2 ++ [(ksOf h j)[i]], by simp [hl2'], fun k mk => by
        rcases List.mem_append.mp mk with mk | mk
        · exact hk2 k mk
        · rw [List.mem_singleton.mp mk]; exact kg.2 _ (List.getElem_mem hi2), by rw [List.map_append, List.reverse_append]; rfl⟩
    · rintro acc st2 ⟨e, rfl, ks2, hl2', hk2, rfl⟩
      have kl := ht.keyl
      rw [List.nil_append] at hl2'
      rw [List.reverse_reverse]
      conv => whnf
      refine ⟨t, c, ls, ks2, _, rfl, ⟨hls, by omega, hk2⟩, g1, fun row st3 g3 => ?_⟩
      conv => whnf
      refine ⟨(show 3 ≤ sizeLine by omega), ?_⟩
      conv => whnf
      refine onSome_i g3.get ?_
      conv => whnf
      refine ⟨by rw [hl2]; omega, ?_⟩
      refine nx (.take j row) m _ _ (by unfold stB; exact inr) (by unfold stOk; trivial) (by unfold stH; omega) (by unfold stC; exact cS_pos _) hm ?_ ⟨_, _, _, _, _, _, _, _, _, _, rfl⟩
      rw [St.d]
      exact g3.set
  · conv => whnf
    refine ⟨?_⟩
    conv => whnf
    refine ⟨onSome_i g1.get trivial, ?_⟩
    conv => whnf
    refine ⟨t, c, ls, _, _, rfl, ⟨hls, kg.1.2, kg.2⟩, g1, fun row st3 g3 => ?_⟩
    conv => whnf
    refine ⟨(show 3 ≤ sizeLine by omega), ?_⟩
    conv => whnf
    refine onSome_i g3.get ?_
    conv => whnf
    refine ⟨by rw [hl2]; omega, ?_⟩
    refine nx (.put j row) m _ _ (by unfold stB; exact inr) (by unfold stOk; trivial) (by unfold stH; omega) (by unfold stC; exact cS_pos _) hm ?_ ⟨_, _, _, _, _, _, _, _, _, _, rfl⟩
    rw [St.d]
    exact g3.set
theorem ps_ask {n : Nat} {C : Cx} {P : Post} {ss : List St} {m : List (D × D)} {st : Sto} {e6 e7 e8 e9 e10 e11 e12 e13 e14 e15 : Option D} (O : C.Ok n) (eb : C.b = false) (hl : ss.length < 100) (hm : AnsOk m) (g : C.At (stsD ss) m st) (nx : C.Nx P ss) :
    wpSs (Lr_law_program_steps n) (thenS (headS (dropS 1 psB))) (C.env e6 e7 e8 e9 e10 e11 e12 e13 e14 e15) st P := by
  obtain ⟨t, c, a, f, h, b, ks, w, R⟩ := C
  cases (show b = false from eb)
  have ho : hOk h := O.ho
  have hz := line_gt
  have hl2 := len_D ss
  have hml := hm.len
  conv => whnf
  refine ⟨?_⟩
  conv => whnf
  refine ⟨Nat.zero_le _, ?_⟩
  conv => whnf
  refine ⟨t, c, h, _, rfl, ho, g, fun q st1 hq g1 => ?_⟩
  obtain ⟨ls, ek, kg⟩ := ans_good ho hq
  conv => whnf
  refine ⟨?_⟩
  conv => whnf
  refine ⟨t, c, _, _, rfl, ⟨by decide, by decide⟩, g1, fun v st2 p2 q2 g2 => ?_⟩
  obtain ⟨i, rfl⟩ : ∃ i : Nat, v = i := ⟨v.toNat, by omega⟩
  conv => whnf
  refine ⟨?_⟩
  conv => whnf
  refine ⟨h, q, rfl, ⟨ho, hq⟩, ?_⟩
  rw [ek]
  conv => whnf
  refine onSome_i g2.swap.get ?_
  conv => whnf
  refine ⟨rfl, by omega, ?_⟩
  have g3 := (g2.swap.set (y := .dct false (dPut m (.int i) (ksD ls)))).swap
  refine ⟨?_⟩
  conv => whnf
  refine ⟨onSome_i g3.get trivial, ?_⟩
  conv => whnf
  refine ⟨(show 3 ≤ sizeLine by omega), ?_⟩
  conv => whnf
  refine onSome_i g3.get ?_
  conv => whnf
  refine ⟨by rw [hl2]; omega, ?_⟩
  refine nx (.ask i q) (dPut m (.int i) (ksD ls)) _ _ ?_ (by unfold stOk; exact good_ok hq) (by unfold stH; omega) (by unfold stC; exact cS_pos _) (dPut_ok hm (by omega) kg) ?_ ⟨_, _, _, _, _, _, _, _, _, _, rfl⟩
  · rw [stB, ek]
    show (decide ((0 : Int) ≤ w) && (inR 0 7 i && true)) = true
    unfold inR
    rw [decide_eq_true (show (0 : Int) ≤ w by omega), decide_eq_true (show (0 : Int) ≤ i by omega), decide_eq_true (show (i : Int) ≤ 7 by omega)]
    rfl
  · rw [St.d]
    exact g3.set
theorem ps_when {n : Nat} {C : Cx} {P : Post} {ss : List St} {m : List (D × D)} {st : Sto} {e6 e7 e8 e9 e10 e11 e12 e13 e14 e15 : Option D} (O : C.Ok n) (hw : C.w < 3) (hl : ss.length < 100) (hm : AnsOk m) (g : C.At (stsD ss) m st) (nx : C.Nx P ss) :
    wpSs (Lr_law_program_steps n) (thenS (headS (dropS 0 e1B))) (C.env e6 e7 e8 e9 e10 e11 e12 e13 e14 e15) st P := by
  obtain ⟨t, c, a, f, h, b, ks, w, R⟩ := C
  have ho : hOk h := O.ho
  have hn : 3 ≤ w + n := O.hn
  have hw : w < 3 := hw
  obtain ⟨k, rfl⟩ : ∃ k, n = k + 1 := ⟨n - 1, by omega⟩
  have hz := line_gt
  have hl2 := len_D ss
  conv => whnf
  refine ⟨?_⟩
  conv => whnf
  refine ⟨t, c, _, _, rfl, ⟨by decide, by decide⟩, g, fun lo st1 p1 q1 g1 => ?_⟩
  conv => whnf
  refine ⟨?_⟩
  conv => whnf
  refine ⟨t, c, a, h, b, ks, w + 1, m, _, rfl, ⟨ho, O.hk, by omega, by omega, fun _ => by omega⟩, hm, g1.swap, fun su m2 st2 sb so sh sc am g2 => ?_⟩
  have g2 := g2.swap
  conv => whnf
  refine ⟨?_⟩
  conv => whnf
  refine ⟨onSome_i g2.get trivial, ?_⟩
  conv => whnf
  refine ⟨t, c, _, _, rfl, ⟨by decide, by decide⟩, g2, fun i st3 p3 q3 g3 => ?_⟩
  conv => whnf
  refine ⟨t, c, _, _, rfl, ⟨by decide, by decide⟩, g3, fun up st4 p4 q4 g4 => ?_⟩
  conv => whnf
  refine ⟨(show 5 ≤ sizeLine by omega), ?_⟩
  conv => whnf
  refine onSome_i g4.get ?_
  conv => whnf
  refine ⟨by rw [hl2]; omega, ?_⟩
  have hb : b = true → 1 ≤ w := O.hb
  have eu : aroundI (wI b w) false = wI b (w + 1) := wI_up hb
  have sb : stsB h (wI b (w + 1)) su = true := sb
  have cu := cS_up hw
  have cl := stsC_len su
  have cb : cB (w + 1) ≤ 51 := by
    match w, hw with
    | 0, _ => decide
    | 1, _ => decide
    | 2, _ => decide
  refine nx (.whn i lo (lo + up) su) _ _ _ ?_ (by unfold stOk; exact ⟨by omega, so⟩) (by unfold stH; show stsH su + 1 ≤ 3 - w; omega) (by unfold stC; show _ ≤ cS w; omega) am ?_ ⟨_, _, _, _, _, _, _, _, _, _, rfl⟩
  · show stB h (wI b w) _ = true
    rw [stB, eu, wI_abs, sb]
    unfold inR
    rw [decide_eq_true (show (0 : Int) ≤ i by omega), decide_eq_true (show i ≤ 7 by omega), decide_eq_true (show (0 : Int) ≤ lo by omega), decide_eq_true (show lo ≤ 400 by omega), decide_eq_true (show (0 : Int) ≤ lo + up by omega), decide_eq_true (show lo + up ≤ 400 by omega), decide_eq_true (show w + 1 ≤ 4 by omega)]
    rfl
  · rw [St.d]
    exact g4.set
theorem ps_try {n : Nat} {C : Cx} {P : Post} {ss : List St} {m : List (D × D)} {st : Sto} {e6 e7 e8 e9 e10 e11 e12 e13 e14 e15 : Option D} (O : C.Ok n) (hw : C.w < 3) (hl : ss.length < 100) (hm : AnsOk m) (g : C.At (stsD ss) m st) (nx : C.Nx P ss) :
    wpSs (Lr_law_program_steps n) (thenS (headS (dropS 0 e4B))) (C.env e6 e7 e8 e9 e10 e11 e12 e13 e14 e15) st P := by
  obtain ⟨t, c, a, f, h, b, ks, w, R⟩ := C
  have ho : hOk h := O.ho
  have hn : 3 ≤ w + n := O.hn
  have hw : w < 3 := hw
  obtain ⟨k, rfl⟩ : ∃ k, n = k + 1 := ⟨n - 1, by omega⟩
  have hz := line_gt
  have hl2 := len_D ss
  conv => whnf
  refine ⟨?_⟩
  conv => whnf
  refine ⟨t, c, a, h, b, ks, w + 1, m, _, rfl, ⟨ho, O.hk, by omega, by omega, fun _ => by omega⟩, hm, g.swap, fun su m2 st2 sb so sh sc am g2 => ?_⟩
  have g2 := g2.swap
  have hb : b = true → 1 ≤ w := O.hb
  have eu : aroundI (wI b w) false = wI b (w + 1) := wI_up hb
  have sb : stsB h (wI b (w + 1)) su = true := sb
  have cu := cS_up hw
  have cl := stsC_len su
  have hl3 := len_D su
  have cb : cB (w + 1) ≤ 51 := by
    match w, hw with
    | 0, _ => decide
    | 1, _ => decide
    | 2, _ => decide
  conv => whnf
  refine ⟨?_⟩
  conv => whnf
  refine ⟨onSome_i g2.get trivial, ?_⟩
  conv => whnf
  refine ⟨(show 1 ≤ sizeLine by omega), ?_⟩
  conv => whnf
  refine ⟨(show 1 ≤ sizeLine by omega), ?_⟩
  conv => whnf
  refine ⟨t, c, _, _, rfl, ⟨by decide, by decide⟩, g2, fun v st3 p3 q3 g3 => ?_⟩
  have fin : ∀ su2 : List St, stsB h (wI b (w + 1)) su2 = true → stsOk h su2 → stsH su2 ≤ 3 - (w + 1) → stsC su2 ≤ cB (w + 1) + 1 → su2.length ≤ 52 → ∀ env, Cx.EnvOk ⟨t, c, a, f, h, b, ks, w, R⟩ env → P.nx env (st3.set f (.lst (stsD ss ++ [D.tup [.str "try", .tup (stsD su2)]]))) := fun su2 h1 h2 h3 h4 h5 env he => by
    refine nx (.try_ su2) _ _ _ ?_ (by unfold stOk; exact ⟨by omega, h2⟩) (by unfold stH; show stsH su2 + 1 ≤ 3 - w; omega) (by unfold stC; show _ ≤ cS w; omega) am ?_ he
    · show stB h (wI b w) _ = true
      rw [stB, eu, wI_abs, h1, decide_eq_true (show w + 1 ≤ 4 by omega)]
      rfl
    · rw [St.d]
      exact g3.set
  have put : ∀ bb : Bool, ∀ env, Cx.EnvOk ⟨t, c, a, f, h, b, ks, w, R⟩ env → (su.length + (bif bb then [D.tup [.str "quit"]] else []).length ≤ sizeLine) ∧ P.nx env (st3.set f (.lst (stsD ss ++ [D.tup [.str "try", .tup (stsD su ++ (bif bb then [D.tup [.str "quit"]] else []))]]))) := fun bb env he => by
    cases bb with
    | false =>
      refine ⟨by show su.length + 0 ≤ _; omega, ?_⟩
      rw [show (bif false then [D.tup [.str "quit"]] else []) = ([] : List D) from rfl, List.append_nil]
      exact fin su sb so sh (by omega) (by omega) env he
    | true =>
      refine ⟨by show su.length + 1 ≤ _; omega, ?_⟩
      have e : stsD su ++ [D.tup [.str "quit"]] = stsD (su ++ List.replicate 1 .quit) := by rw [pad_D]; rfl
      rw [show (bif true then [D.tup [.str "quit"]] else []) = [D.tup [.str "quit"]] from rfl, e]
      exact fin _ (pad_B sb 1) (ok_pad so 1) (h_pad sh 1) (by rw [pad_C]; omega) (by rw [List.length_append, List.length_replicate]; omega) env he
  conv => whnf
  refine ⟨by decide, ?_⟩
  conv => whnf
  have pt := put (decide (v = 0)) (Cx.env ⟨t, c, a, f, h, b, ks, w, R⟩ e6 e7 e8 e9 e10 (some (.tup (stsD su))) e12 e13 e14 e15) ⟨_, _, _, _, _, _, _, _, _, _, rfl⟩
  refine ⟨by rw [hl3]; exact pt.1, ?_⟩
  conv => whnf
  refine ⟨(show 2 ≤ sizeLine by omega), ?_⟩
  conv => whnf
  refine onSome_i g3.get ?_
  conv => whnf
  refine ⟨by rw [hl2]; omega, ?_⟩
  exact pt.2
theorem ps_each {n : Nat} {C : Cx} {P : Post} {ss : List St} {m : List (D × D)} {st : Sto} {e6 e7 e8 e9 e10 e11 e12 e13 e14 e15 : Option D} (O : C.Ok n) (hw : C.w < 3) (hl : ss.length < 100) (hm : AnsOk m) (h0 : 0 < m.length) (g : C.At (stsD ss) m st) (nx : C.Nx P ss) :
    wpSs (Lr_law_program_steps n) (thenS (headS (dropS 0 e2B))) (C.env e6 e7 e8 e9 e10 e11 e12 e13 e14 e15) st P := by
  obtain ⟨t, c, a, f, h, b, ks, w, R⟩ := C
  have ho : hOk h := O.ho
  have hn : 3 ≤ w + n := O.hn
  have hw : w < 3 := hw
  obtain ⟨k, rfl⟩ : ∃ k, n = k + 1 := ⟨n - 1, by omega⟩
  have hz := line_gt
  have hl2 := len_D ss
  have hml := hm.len
  have ga : st[a]? = some (.dct false m) := g.swap.get
  have gF := g.swap.set (y := .dctF false m)
  have fb : (st.set a (.dctF false m))[a]? = some (.dctF false m) := gF.get
  have back : (st.set a (.dctF false m)).set a (.dct false m) = st := by
    rw [List.set_set]
    exact set_same ga
  conv => whnf
  refine ⟨?_⟩
  conv => whnf
  refine onSome_i ga ?_
  conv => whnf
  refine onSome_i fb ?_
  conv => whnf
  refine lcGo_id (fun done todo acc st1 => done ++ todo = m.map (·.1) ∧ st1 = st.set a (.dctF false m) ∧ acc = done.reverse) (m.map (·.1)) ⟨rfl, rfl, rfl⟩ ?_ ?_
  · rintro done p todo acc st1 kk ⟨e, rfl, rfl⟩ hn
    have l := congrArg List.length e
    rw [List.length_append, List.length_cons, List.length_map] at l
    conv => whnf
    refine ⟨fb, ?_⟩
    conv => whnf
    refine ⟨by rw [List.length_reverse]; omega, hn _ _ ⟨by rw [List.append_assoc]; exact e, rfl, by simp⟩⟩
  · rintro acc st1 ⟨_, rfl, rfl⟩
    rw [List.reverse_reverse]
    conv => whnf
    refine ⟨fb, ?_⟩
    conv => whnf
    refine ⟨fb, ?_⟩
    dsimp only
    rw [back]
    conv => whnf
    refine ⟨ans_srt hm, ?_⟩
    conv => whnf
    have pm : (sortD (m.map (·.1))).Perm (m.map (·.1)) := by unfold sortD; exact List.mergeSort_perm _ _
    have pl : (sortD (m.map (·.1))).length = m.length := by rw [pm.length_eq, List.length_map]
    refine ⟨t, c, _, sortD (m.map (·.1)), _, rfl, .inl rfl, ⟨by rw [pl]; omega, by rw [pl]; omega⟩, g, fun x st1 mx g1 => ?_⟩
    obtain ⟨i, ls, rfl, hi, kg, ed⟩ := dGet_ok hm.2 (pm.mem_iff.mp mx)
    conv => whnf
    refine ⟨?_⟩
    conv => whnf
    refine ⟨onSome_i g1.get trivial, ?_⟩
    conv => whnf
    refine onSome_i g1.swap.get ?_
    conv => whnf
    have g2 : Tp t c ((st1.length, .dct false m) :: (f, .lst (stsD ss)) :: (a, .dct false m) :: R) (st1 ++ [.dct false m]) := g1.add
    refine onSome_i g2.tl.swap.get ?_
    conv => whnf
    refine ⟨rfl, ?_⟩
    refine onSome_i ed ?_
    conv => whnf
    refine ⟨t, c, st1.length, h, true, ls, w + 1, m, _, rfl, ⟨ho, kg, by omega, by omega, fun _ => by omega⟩, hm, g2, fun su m2 st2 sb so sh sc am g3 => ?_⟩
    have g4 := g3.tl
    have sb : stsB h (wI true (w + 1)) su = true := sb
    have cu := cS_up hw
    have cl := stsC_len su
    have cb : cB (w + 1) ≤ 51 := by
      match w, hw with
      | 0, _ => decide
      | 1, _ => decide
      | 2, _ => decide
    conv => whnf
    refine ⟨(show 3 ≤ sizeLine by omega), ?_⟩
    conv => whnf
    refine onSome_i g4.get ?_
    conv => whnf
    refine ⟨by rw [hl2]; omega, ?_⟩
    refine nx (.each i su) _ _ _ ?_ (by unfold stOk; exact ⟨by omega, so⟩) (by unfold stH; show stsH su + 1 ≤ 3 - w; omega) (by unfold stC; show _ ≤ cS w; omega) hm ?_ ⟨_, _, _, _, _, _, _, _, _, _, rfl⟩
    · show stB h (wI b w) _ = true
      rw [stB, wI_each, wI_abs, sb]
      unfold inR
      rw [decide_eq_true (show (0 : Int) ≤ i by omega), decide_eq_true (show (i : Int) ≤ 7 by omega), decide_eq_true (show w + 1 ≤ 4 by omega)]
      rfl
    · rw [St.d]
      exact g4.set
theorem ps_quit {n : Nat} {C : Cx} {P : Post} {ss : List St} {m : List (D × D)} {st : Sto} {e6 e7 e8 e9 e10 e11 e12 e13 e14 e15 : Option D} (O : C.Ok n) (hl : ss.length < 100) (hm : AnsOk m) (g : C.At (stsD ss) m st) (nx : C.Nx P ss) :
    wpSs (Lr_law_program_steps n) (thenS (headS (dropS 0 e3B))) (C.env e6 e7 e8 e9 e10 e11 e12 e13 e14 e15) st P := by
  obtain ⟨t, c, a, f, h, b, ks, w, R⟩ := C
  have hz := line_gt
  have hl2 := len_D ss
  conv => whnf
  refine ⟨?_⟩
  conv => whnf
  refine ⟨onSome_i g.get trivial, ?_⟩
  conv => whnf
  refine ⟨(show 1 ≤ sizeLine by omega), ?_⟩
  conv => whnf
  refine onSome_i g.get ?_
  conv => whnf
  refine ⟨by rw [hl2]; omega, ?_⟩
  refine nx .quit _ _ _ (by unfold stB; rfl) (by unfold stOk; trivial) (by unfold stH; omega) (by unfold stC; exact cS_pos _) hm ?_ ⟨_, _, _, _, _, _, _, _, _, _, rfl⟩
  rw [St.d]
  exact g.set
/-- one turn -/
theorem ps_turn {n : Nat} {C : Cx} {P : Post} {ss : List St} {m : List (D × D)} {st : Sto} {e6 e7 e8 e9 e10 e11 e12 e13 e14 e15 : Option D} (O : C.Ok n) (hl : ss.length < 100) (hm : AnsOk m) (g : C.At (stsD ss) m st) (nx : C.Nx P ss) :
    wpSs (Lr_law_program_steps n) psB (C.env e6 e7 e8 e9 e10 e11 e12 e13 e14 e15) st P := by
  conv => whnf
  refine ⟨?_⟩
  conv => whnf
  refine ⟨C.t, C.c, _, _, rfl, ⟨by decide, by decide⟩, g, fun kd st1 p1 q1 g1 => ?_⟩
  conv => whnf
  refine ⟨?_⟩
  have el5 : ∀ st', C.At (stsD ss) m st' → wpSs (Lr_law_program_steps n) e5B (C.env e6 (some (.int kd)) e8 e9 e10 e11 e12 e13 e14 e15) st' P := fun st' g' => ps_put O hl hm g' nx
  have el4 : ∀ st', C.At (stsD ss) m st' → wpSs (Lr_law_program_steps n) e4B (C.env e6 (some (.int kd)) e8 e9 e10 e11 e12 e13 e14 e15) st' P := fun st' g' => by
    conv => whnf
    refine ⟨?_⟩
    conv => whnf
    refine ifB_intro (fun c1 => ?_) (fun c1 => ?_)
    · conv => whnf
      refine ifB_intro (fun c2 => ?_) (fun c2 => ?_)
      · conv => whnf
        refine ⟨C.t, C.c, _, _, rfl, ⟨by decide, by decide⟩, g', fun v st2 p2 q2 g2 => ?_⟩
        conv => whnf
        refine ifB_intro (fun c3 => ?_) (fun c3 => ?_)
        · exact ps_try O (by have := of_decide_eq_true c2; omega) hl hm g2 nx
        · exact el5 st2 g2
      · exact el5 st' g'
    · exact el5 st' g'
  have el3 : ∀ st', C.At (stsD ss) m st' → wpSs (Lr_law_program_steps n) e3B (C.env e6 (some (.int kd)) e8 e9 e10 e11 e12 e13 e14 e15) st' P := fun st' g' => by
    conv => whnf
    refine ⟨?_⟩
    conv => whnf
    refine ifB_intro (fun c1 => ?_) (fun c1 => ?_)
    · conv => whnf
      refine ⟨C.t, C.c, _, _, rfl, ⟨by decide, by decide⟩, g', fun v st2 p2 q2 g2 => ?_⟩
      conv => whnf
      refine ifB_intro (fun c3 => ?_) (fun c3 => ?_)
      · exact ps_quit O hl hm g2 nx
      · exact el4 st2 g2
    · exact el4 st' g'
  have el2 : ∀ st', C.At (stsD ss) m st' → wpSs (Lr_law_program_steps n) e2B (C.env e6 (some (.int kd)) e8 e9 e10 e11 e12 e13 e14 e15) st' P := fun st' g' => by
    conv => whnf
    refine ⟨?_⟩
    conv => whnf
    refine ifB_intro (fun c1 => ?_) (fun c1 => ?_)
    · conv => whnf
      refine ifB_intro (fun c2 => ?_) (fun c2 => ?_)
      · conv => whnf
        refine onSome_i g'.swap.get ?_
        conv => whnf
        refine ifB_intro (fun c3 => ?_) (fun c3 => ?_)
        · exact ps_each O (by have := of_decide_eq_true c2; omega) hl hm (by have := of_decide_eq_true c3; omega) g' nx
        · exact el3 st' g'
      · exact el3 st' g'
    · exact el3 st' g'
  have el1 : ∀ st', C.At (stsD ss) m st' → wpSs (Lr_law_program_steps n) e1B (C.env e6 (some (.int kd)) e8 e9 e10 e11 e12 e13 e14 e15) st' P := fun st' g' => by
    conv => whnf
    refine ⟨?_⟩
    conv => whnf
    refine ifB_intro (fun c1 => ?_) (fun c1 => ?_)
    · conv => whnf
      refine ifB_intro (fun c2 => ?_) (fun c2 => ?_)
      · exact ps_when O (by have := of_decide_eq_true c2; omega) hl hm g' nx
      · exact el2 st' g'
    · exact el2 st' g'
  conv => whnf
  refine ifB_intro (fun c1 => ?_) (fun c1 => ?_)
  · obtain ⟨t, c, a, f, h, b, ks, w, R⟩ := C
    cases b with
    | true =>
      conv => whnf
      exact el1 st1 g1
    | false =>
      conv => whnf
      exact ps_ask O rfl hl hm g1 nx
  · exact el1 st1 g1
theorem sts_one (s : St) : stsD [s] = [s.d] := one_D s
theorem v_law_program_steps (n : Nat) (ds : List D) (st : Sto) (Q : D → Sto → Prop) (X : EX) (hs : CloS st.length st) (hd : Clos st.length ds) (h0 : (Lr_law_program_steps (n + 1)).call "_law_program_steps" ds st Q X) : b_law_program_steps.run (Lr_law_program_steps n) ds st (Gc st.length Q) (GcX st.length X) := by
  obtain ⟨t, c, a, h, b, ks, w, m, R, rfl, ⟨ho, hk, hw, hn, hb⟩, hm, g, hq⟩ := (show sPSteps n ds st Q X from h0)
  clear h0 hd
  have hz := line_gt
  have O : Cx.Ok ⟨t, c, a, st.length, h, b, ks, w, R⟩ n := ⟨ho, hk, hw, hn, hb⟩
  conv => whnf
  refine ⟨?_⟩
  conv => whnf
  refine ⟨Nat.zero_le _, ?_⟩
  conv => whnf
  refine ⟨?_⟩
  conv => whnf
  refine ⟨t, c, _, _, rfl, ⟨by decide, by decide⟩, g.add, fun v st1 p q g1 => ?_⟩
  conv => whnf
  refine ⟨⟨by omega, by omega⟩, ?_⟩
  conv => whnf
  refine forGo_ind (f := fun i : Nat => D.int (0 + (i : Nat))) (fun done todo env st2 => done ++ todo = List.range (1 + v).toNat ∧ ∃ ss m', ss.length = done.length ∧ stsB h (wI b w) ss = true ∧ stsOk h ss ∧ stsH ss ≤ 3 - w ∧ stsC ss ≤ done.length * cS w ∧ AnsOk m' ∧ Tp t c ((st.length, .lst (stsD ss)) :: (a, .dct false m') :: R) st2 ∧ Cx.EnvOk ⟨t, c, a, st.length, h, b, ks, w, R⟩ env) _ [] ⟨rfl, [], m, rfl, rfl, trivial, Nat.zero_le _, Nat.zero_le _, hm, g1, ⟨_, _, _, _, _, _, _, _, _, _, rfl⟩⟩ ?_ ?_
  · rintro done i todo env st2 kk ⟨e, ss, m', hl, sb, so, sh, sc, am, g2, e6, e7, e8, e9, e10, e11, e12, e13, e14, e15, rfl⟩ hn
    have l := congrArg List.length e
    rw [List.length_append, List.length_cons, List.length_range] at l
    refine ps_turn O (by omega) am g2 fun x m2 env st' xb xo xh xc am2 g3 he => ?_
    refine hn _ _ ⟨by rw [List.append_assoc]; exact e, ss ++ [x], m2, by simp [hl], ?_, ?_, ?_, ?_, am2, ?_, he⟩
    · rw [stsB_all, List.all_append, ← stsB_all, sb]
      show (true && (stB h _ x && true)) = true
      rw [show stB h (wI b w) x = true from xb]; rfl
    · exact stsOk_iff.mpr fun s ms => by
        rcases List.mem_append.mp ms with ms | ms
        · exact stsOk_iff.mp so s ms
        · rw [List.mem_singleton.mp ms]; exact xo
    · exact stsH_of fun s ms => by
        rcases List.mem_append.mp ms with ms | ms
        · exact Nat.le_trans (stsH_le ms) sh
        · rw [List.mem_singleton.mp ms]; exact xh
    · rw [stsC_app, stsC_one, List.length_append]
      show _ ≤ (done.length + 1) * cS w
      rw [Nat.succ_mul]
      exact Nat.add_le_add sc xc
    · have ee : stsD (ss ++ [x]) = stsD ss ++ [x.d] := by rw [stsD_map, stsD_map, List.map_append]; rfl
      rw [ee]
      exact g3
  · rintro env st2 ⟨e, ss, m', hl, sb, so, sh, sc, am, g2, e6, e7, e8, e9, e10, e11, e12, e13, e14, e15, rfl⟩
    conv => whnf
    refine ⟨?_⟩
    conv => whnf
    refine onSome_i g2.get ?_
    refine .now (hq ss m' st2 sb so sh ?_ am g2.tl)
    rw [List.nil_append, List.length_range] at sc
    rw [cB_cS]
    exact Nat.le_trans sc (Nat.mul_le_mul_right _ (by omega))
end K

set_option maxHeartbeats 0
namespace Hd
open PySem PySem.Spec PyProof.Rows L2 DL
def top (i : Nat) : Stmt := PySem.Challenge.pw_unringed_k43_programs.main.body.getD i (.Pass ⟨0, 0, 0, 0⟩)
def mth (i j : Nat) : Stmt := match top i with
  | .ClassDef _ _ _ b _ _ _ _ _ _ _ => b.getD j (.Pass ⟨0, 0, 0, 0⟩)
  | s => s
def tb (fns : List String) (ms : List (String × String)) (ns : List String) : Tab := ⟨fns, ms, ns, ["MOST_SIGNS", "MOST_DEPTH", "MOST_LEAVES", "MOST_WIDTH", "LEAST_NUMBER", "MOST_NUMBER", "LETTERS", "DIGITS", "COMPARING", "RECKONING", "MOST_DEEP", "JOINING", "MOST_ANSWERS", "MOST_ANSWER_ROWS", "MOST_STEPS", "MOST_WITHIN"], ["abs", "all", "bool", "dict", "int", "isinstance", "len", "list", "max", "range", "sorted", "str", "sum", "tuple"], []⟩
theorem ok_is_integer : okSs (tb [] [] []) (DL.b_is_integer.ns.map Str.ofString) (defScope (top 9)) true DL.b_is_integer.body (defBody (top 9)) = true := by kernel_rfl
theorem ok_is_number : okSs (tb ["is_integer"] [] []) (DL.b_is_number.ns.map Str.ofString) (defScope (top 10)) true DL.b_is_number.body (defBody (top 10)) = true := by kernel_rfl
theorem ok_is_text : okSs (tb [] [] []) (DL.b_is_text.ns.map Str.ofString) (defScope (top 11)) true DL.b_is_text.body (defBody (top 11)) = true := by kernel_rfl
theorem ok_kind_within : okSs (tb ["is_number", "is_text", "kind_within"] [] []) (DL.b_kind_within.ns.map Str.ofString) (defScope (top 16)) true DL.b_kind_within.body (defBody (top 16)) = true := by kernel_rfl
theorem ok_kind_of : okSs (tb ["kind_within"] [] []) (DL.b_kind_of.ns.map Str.ofString) (defScope (top 17)) true DL.b_kind_of.body (defBody (top 17)) = true := by kernel_rfl
theorem ok_is_within : okSs (tb ["is_within", "kind_within"] [] []) (DL.b_is_within.ns.map Str.ofString) (defScope (top 18)) true DL.b_is_within.body (defBody (top 18)) = true := by kernel_rfl
theorem ok_is_condition : okSs (tb ["is_within"] [] []) (DL.b_is_condition.ns.map Str.ofString) (defScope (top 19)) true DL.b_is_condition.body (defBody (top 19)) = true := by kernel_rfl
theorem ok_inner : okSs (tb [] [] []) (DL.b_inner.ns.map Str.ofString) (defScope (top 20)) true DL.b_inner.body (defBody (top 20)) = true := by kernel_rfl
theorem ok_depth_of : okSs (tb ["depth_of", "inner"] [] []) (DL.b_depth_of.ns.map Str.ofString) (defScope (top 21)) true DL.b_depth_of.body (defBody (top 21)) = true := by kernel_rfl
theorem ok_queries_in : okSs (tb [] [] []) (DL.b_queries_in.ns.map Str.ofString) (defScope (top 24)) true DL.b_queries_in.body (defBody (top 24)) = true := by kernel_rfl
theorem ok_kinds_of_table : okSs (tb [] [] []) (DL.b_kinds_of_table.ns.map Str.ofString) (defScope (top 26)) true DL.b_kinds_of_table.body (defBody (top 26)) = true := by kernel_rfl
theorem ok_kinds_of : okSs (tb ["agg_kind", "kind_of", "kinds_of", "kinds_of_table"] [] []) (DL.b_kinds_of.ns.map Str.ofString) (defScope (top 27)) true DL.b_kinds_of.body (defBody (top 27)) = true := by kernel_rfl
theorem ok_agg_kind : okSs (tb ["kind_of"] [] []) (DL.b_agg_kind.ns.map Str.ofString) (defScope (top 28)) true DL.b_agg_kind.body (defBody (top 28)) = true := by kernel_rfl
theorem ok_rebuilt : okSs (tb [] [] []) (DL.b_rebuilt.ns.map Str.ofString) (defScope (top 29)) true DL.b_rebuilt.body (defBody (top 29)) = true := by kernel_rfl
theorem ok_unfold : okSs (tb ["queries_in", "rebuilt", "unfold"] [] []) (DL.b_unfold.ns.map Str.ofString) (defScope (top 30)) true DL.b_unfold.body (defBody (top 30)) = true := by kernel_rfl
theorem ok_leaves_of : okSs (tb ["leaves_of", "queries_in"] [] []) (DL.b_leaves_of.ns.map Str.ofString) (defScope (top 31)) true DL.b_leaves_of.body (defBody (top 31)) = true := by kernel_rfl
theorem ok_depth_of_query : okSs (tb ["depth_of_query", "queries_in"] [] []) (DL.b_depth_of_query.ns.map Str.ofString) (defScope (top 32)) true DL.b_depth_of_query.body (defBody (top 32)) = true := by kernel_rfl
theorem ok_is_agg : okSs (tb ["depth_of", "kind_of"] [] []) (DL.b_is_agg.ns.map Str.ofString) (defScope (top 33)) true DL.b_is_agg.body (defBody (top 33)) = true := by kernel_rfl
theorem ok_is_shown : okSs (tb ["depth_of", "kind_of"] [] []) (DL.b_is_shown.ns.map Str.ofString) (defScope (top 34)) true DL.b_is_shown.body (defBody (top 34)) = true := by kernel_rfl
theorem ok_is_asked : okSs (tb ["depth_of", "is_condition"] [] []) (DL.b_is_asked.ns.map Str.ofString) (defScope (top 35)) true DL.b_is_asked.body (defBody (top 35)) = true := by kernel_rfl
theorem ok_is_order : okSs (tb ["is_way"] [] []) (DL.b_is_order.ns.map Str.ofString) (defScope (top 36)) true DL.b_is_order.body (defBody (top 36)) = true := by kernel_rfl
theorem ok_is_way : okSs (tb ["is_integer"] [] []) (DL.b_is_way.ns.map Str.ofString) (defScope (top 37)) true DL.b_is_way.body (defBody (top 37)) = true := by kernel_rfl
theorem ok_Forms_init : okSs (tb [] [] []) (DL.b_Forms_init.ns.map Str.ofString) (defScope (mth 38 0)) true DL.b_Forms_init.body (defBody (mth 38 0)) = true := by kernel_rfl
theorem ok_Forms_kinds : okSs (tb ["is_integer", "kinds_of", "kinds_of_table"] [("Forms", "_step_kinds")] []) (DL.b_Forms_kinds.ns.map Str.ofString) (defScope (mth 38 1)) true DL.b_Forms_kinds.body (defBody (mth 38 1)) = true := by kernel_rfl
theorem ok_Forms_step_kinds : okSs (tb ["agg_kind", "is_asked", "is_integer", "is_order", "kind_of"] [("Forms", "_are_grouped"), ("Forms", "_are_shown"), ("Forms", "_both_kinds"), ("Forms", "kinds")] []) (DL.b_Forms_step_kinds.ns.map Str.ofString) (defScope (mth 38 2)) true DL.b_Forms_step_kinds.body (defBody (mth 38 2)) = true := by kernel_rfl
theorem ok_Forms_both_kinds : okSs (tb ["is_asked"] [("Forms", "kinds")] []) (DL.b_Forms_both_kinds.ns.map Str.ofString) (defScope (mth 38 3)) true DL.b_Forms_both_kinds.body (defBody (mth 38 3)) = true := by kernel_rfl
theorem ok_Forms_are_shown : okSs (tb ["is_shown"] [] []) (DL.b_Forms_are_shown.ns.map Str.ofString) (defScope (mth 38 4)) true DL.b_Forms_are_shown.body (defBody (mth 38 4)) = true := by kernel_rfl
theorem ok_Forms_are_grouped : okSs (tb ["is_agg", "is_integer"] [] []) (DL.b_Forms_are_grouped.ns.map Str.ofString) (defScope (mth 38 5)) true DL.b_Forms_are_grouped.body (defBody (mth 38 5)) = true := by kernel_rfl
theorem ok_Forms_is_query : okSs (tb ["depth_of_query", "leaves_of", "unfold"] [("Forms", "kinds")] []) (DL.b_Forms_is_query.ns.map Str.ofString) (defScope (mth 38 6)) true DL.b_Forms_is_query.body (defBody (mth 38 6)) = true := by kernel_rfl
theorem ok_is_query : okSs (tb [] [("Forms", "is_query")] ["Forms"]) (DL.b_is_query.ns.map Str.ofString) (defScope (top 39)) true DL.b_is_query.body (defBody (top 39)) = true := by kernel_rfl
theorem ok_is_step : okSs (tb ["are_steps", "around", "is_integer", "is_query"] [] []) (DL.b_is_step.ns.map Str.ofString) (defScope (top 45)) true DL.b_is_step.body (defBody (top 45)) = true := by kernel_rfl
theorem ok_around : okSs (tb [] [] []) (DL.b_around.ns.map Str.ofString) (defScope (top 46)) true DL.b_around.body (defBody (top 46)) = true := by kernel_rfl
theorem ok_are_steps : okSs (tb ["is_step"] [] []) (DL.b_are_steps.ns.map Str.ofString) (defScope (top 47)) true DL.b_are_steps.body (defBody (top 47)) = true := by kernel_rfl
theorem ok_count_steps : okSs (tb ["count_steps"] [] []) (DL.b_count_steps.ns.map Str.ofString) (defScope (top 48)) true DL.b_count_steps.body (defBody (top 48)) = true := by kernel_rfl
theorem ok_is_program : okSs (tb ["are_steps", "count_steps"] [] []) (DL.b_is_program.ns.map Str.ofString) (defScope (top 49)) true DL.b_is_program.body (defBody (top 49)) = true := by kernel_rfl
theorem ok_law_tape : okSs (tb [] [] []) (DL.b_law_tape.ns.map Str.ofString) (defScope (top 51)) true DL.b_law_tape.body (defBody (top 51)) = true := by kernel_rfl
theorem ok_law_draw : okSs (tb [] [] []) (DL.b_law_draw.ns.map Str.ofString) (defScope (top 52)) true DL.b_law_draw.body (defBody (top 52)) = true := by kernel_rfl
theorem ok_law_pick : okSs (tb ["_law_draw"] [] []) (DL.b_law_pick.ns.map Str.ofString) (defScope (top 53)) true DL.b_law_pick.body (defBody (top 53)) = true := by kernel_rfl
theorem ok_law_same : okSs (tb ["_law_same"] [] []) (DL.b_law_same.ns.map Str.ofString) (defScope (top 54)) true DL.b_law_same.body (defBody (top 54)) = true := by kernel_rfl
theorem ok_law_item : okSs (tb ["_law_draw", "_law_pick"] [] []) (DL.b_law_item.ns.map Str.ofString) (defScope (top 55)) true DL.b_law_item.body (defBody (top 55)) = true := by kernel_rfl
theorem ok_law_house : okSs (tb ["_law_draw", "_law_pick"] [] []) (DL.b_law_house.ns.map Str.ofString) (defScope (top 56)) true DL.b_law_house.body (defBody (top 56)) = true := by kernel_rfl
theorem ok_law_kinds : okSs (tb [] [] []) (DL.b_law_kinds.ns.map Str.ofString) (defScope (top 57)) true DL.b_law_kinds.body (defBody (top 57)) = true := by kernel_rfl
theorem ok_law_side : okSs (tb ["_law_draw", "_law_item", "_law_pick"] [] []) (DL.b_law_side.ns.map Str.ofString) (defScope (top 58)) true DL.b_law_side.body (defBody (top 58)) = true := by kernel_rfl
theorem ok_law_condition : okSs (tb ["_law_condition", "_law_draw", "_law_pick", "_law_side"] [] []) (DL.b_law_condition.ns.map Str.ofString) (defScope (top 59)) true DL.b_law_condition.body (defBody (top 59)) = true := by kernel_rfl
theorem ok_law_asked : okSs (tb ["_law_condition", "_law_draw", "_law_kinds"] [] []) (DL.b_law_asked.ns.map Str.ofString) (defScope (top 60)) true DL.b_law_asked.body (defBody (top 60)) = true := by kernel_rfl
theorem ok_law_answer_kinds : okSs (tb ["_law_kinds"] [] []) (DL.b_law_answer_kinds.ns.map Str.ofString) (defScope (top 61)) true DL.b_law_answer_kinds.body (defBody (top 61)) = true := by kernel_rfl
theorem ok_law_es : okSs (tb ["_law_draw", "_law_side"] [] []) (DL.b_law_es.ns.map Str.ofString) (defScope (top 62)) true DL.b_law_es.body (defBody (top 62)) = true := by kernel_rfl
theorem ok_law_program_steps : okSs (tb ["_law_answer_kinds", "_law_asked", "_law_draw", "_law_es", "_law_kinds", "_law_pick", "_law_program_steps"] [] []) (DL.b_law_program_steps.ns.map Str.ofString) (defScope (top 63)) true DL.b_law_program_steps.body (defBody (top 63)) = true := by kernel_rfl
theorem ok_law_program : okSs (tb ["_law_answer_kinds", "_law_asked", "_law_draw", "_law_program_steps"] [] []) (DL.b_law_program.ns.map Str.ofString) (defScope (top 64)) true DL.b_law_program.body (defBody (top 64)) = true := by kernel_rfl
theorem ok_law_count : okSs (tb ["_law_count"] [] []) (DL.b_law_count.ns.map Str.ofString) (defScope (top 65)) true DL.b_law_count.body (defBody (top 65)) = true := by kernel_rfl
theorem ok_law_deep : okSs (tb ["_law_draw"] [] []) (DL.b_law_deep.ns.map Str.ofString) (defScope (top 66)) true DL.b_law_deep.body (defBody (top 66)) = true := by kernel_rfl
theorem ok_law_bad : okSs (tb ["_law_draw", "_law_pick"] [] []) (DL.b_law_bad.ns.map Str.ofString) (defScope (top 67)) true DL.b_law_bad.body (defBody (top 67)) = true := by kernel_rfl
theorem ok_law_into : okSs (tb ["_law_draw", "_law_into"] [] []) (DL.b_law_into.ns.map Str.ofString) (defScope (top 68)) true DL.b_law_into.body (defBody (top 68)) = true := by kernel_rfl
theorem ok_law : okSs (tb ["_law_bad", "_law_count", "_law_deep", "_law_house", "_law_into", "_law_pick", "_law_program", "_law_same", "_law_tape", "is_program"] [] []) (DL.b_law.ns.map Str.ofString) (defScope (top 69)) true DL.b_law.body (defBody (top 69)) = true := by kernel_rfl
def dOf (n : Str) (st : Stmt) : He.DefD := ⟨(n, none), n, n, defArgs st, defBody st, defScope st, [], []⟩
def dOfM (c m q : Str) (st : Stmt) : He.DefD := ⟨(c, some m), m, q, defArgs st, defBody st, defScope st, [], []⟩
def fn0 : List He.DefD := [dOf "is_integer" (top 9), dOf "is_number" (top 10), dOf "is_text" (top 11), dOf "kind_within" (top 16), dOf "kind_of" (top 17), dOf "is_within" (top 18), dOf "is_condition" (top 19), dOf "inner" (top 20), dOf "depth_of" (top 21), dOf "queries_in" (top 24), dOf "kinds_of_table" (top 26), dOf "kinds_of" (top 27), dOf "agg_kind" (top 28), dOf "rebuilt" (top 29), dOf "unfold" (top 30), dOf "leaves_of" (top 31), dOf "depth_of_query" (top 32), dOf "is_agg" (top 33), dOf "is_shown" (top 34), dOf "is_asked" (top 35), dOf "is_order" (top 36), dOf "is_way" (top 37), dOfM "Forms" "__init__" "Forms.__init__" (mth 38 0), dOfM "Forms" "kinds" "Forms.kinds" (mth 38 1), dOfM "Forms" "_step_kinds" "Forms._step_kinds" (mth 38 2), dOfM "Forms" "_both_kinds" "Forms._both_kinds" (mth 38 3), dOfM "Forms" "_are_shown" "Forms._are_shown" (mth 38 4), dOfM "Forms" "_are_grouped" "Forms._are_grouped" (mth 38 5), dOfM "Forms" "is_query" "Forms.is_query" (mth 38 6), dOf "is_query" (top 39)]
def fn1 : List He.DefD := [dOf "is_step" (top 45), dOf "around" (top 46), dOf "are_steps" (top 47), dOf "count_steps" (top 48), dOf "is_program" (top 49), dOf "_law_tape" (top 51), dOf "_law_draw" (top 52), dOf "_law_pick" (top 53), dOf "_law_same" (top 54), dOf "_law_item" (top 55), dOf "_law_house" (top 56), dOf "_law_kinds" (top 57), dOf "_law_side" (top 58), dOf "_law_condition" (top 59), dOf "_law_asked" (top 60), dOf "_law_answer_kinds" (top 61), dOf "_law_es" (top 62), dOf "_law_program_steps" (top 63), dOf "_law_program" (top 64), dOf "_law_count" (top 65), dOf "_law_deep" (top 66), dOf "_law_bad" (top 67), dOf "_law_into" (top 68), dOf "law" (top 69)]
def fn : List He.DefD := fn0 ++ fn1
def fa0 : List He.Fa := [.glo "is_integer", .glo "is_number", .glo "is_text", .glo "kind_within", .glo "kind_of", .glo "is_within", .glo "is_condition", .glo "inner", .glo "depth_of", .glo "queries_in", .glo "kinds_of_table", .glo "kinds_of", .glo "agg_kind", .glo "rebuilt", .glo "unfold", .glo "leaves_of", .glo "depth_of_query", .glo "is_agg", .glo "is_shown", .glo "is_asked", .glo "is_order", .glo "is_way", .glo "is_query", .glo "is_step", .glo "around", .glo "are_steps", .glo "count_steps", .glo "is_program", .glo "_law_tape", .glo "_law_draw"]
def fa1 : List He.Fa := [.glo "_law_pick", .glo "_law_same", .glo "_law_item", .glo "_law_house", .glo "_law_kinds", .glo "_law_side", .glo "_law_condition", .glo "_law_asked", .glo "_law_answer_kinds", .glo "_law_es", .glo "_law_program_steps", .glo "_law_program", .glo "_law_count", .glo "_law_deep", .glo "_law_bad", .glo "_law_into", .glo "law", .glo "Forms", .cls "Forms", .meth "Forms" "kinds", .meth "Forms" "_step_kinds", .meth "Forms" "_both_kinds", .meth "Forms" "_are_shown", .meth "Forms" "_are_grouped", .meth "Forms" "is_query", .mkr "Forms", .noat "Forms" "_house", .noat "Forms" "_most", .noat "Forms" "_views", .free "abs"]
def fa2 : List He.Fa := [.free "all", .free "bool", .free "dict", .free "int", .free "isinstance", .free "len", .free "list", .free "max", .free "range", .free "sorted", .free "str", .free "sum", .free "tuple", .int "MOST_SIGNS" 12, .int "MOST_DEPTH" 8, .int "MOST_LEAVES" 6, .int "MOST_WIDTH" 48, .int "LEAST_NUMBER" (-2147483648), .int "MOST_NUMBER" 2147483647, .str "LETTERS" "abcdefghijklmnopqrstuvwxyz", .str "DIGITS" "0123456789", .glo "COMPARING", .glo "RECKONING", .int "MOST_DEEP" 100, .glo "JOINING", .int "MOST_ANSWERS" 8, .int "MOST_ANSWER_ROWS" 400, .int "MOST_STEPS" 40, .int "MOST_WITHIN" 4]
def fa : List He.Fa := fa0 ++ fa1 ++ fa2
abbrev R : PySem.W.OpenRow := PySem.W.OpenLaw.row PySem.Challenge.rw_unringed_k43_programs
def exs : List (String × List String) := [("COMPARING", ["=", "!=", "<", "<=", ">", ">="]), ("RECKONING", ["+", "-", "*", "/", "mod"]), ("JOINING", ["cross", "union", "minus", "both", "some", "none"])]
def exi : List (String × String) := []
def ex (K : PySem.W.Frag) : Bool := (exs.all fun p => DL.strsB K p.1 p.2) && (exi.all fun p => DL.oexB K p.1 p.2)
abbrev hk : PySem.W.Hook := DL.hookE 5 fa fn ex
def ob (s : PySem.W.SharedT) : He.AlD × Bool := DL.obsEG 5 fa fn ex (HandSHeadRun.getT s)
theorem ob_eq (s : PySem.W.SharedT) : ob s = hk.obs s.abs := DL.obsEG_eq (HandSHeadRun.getT_eq s)
def names0 : List Str := ["MOST_SIGNS", "MOST_DEPTH", "MOST_LEAVES", "MOST_WIDTH", "LEAST_NUMBER", "MOST_NUMBER", "LETTERS", "DIGITS", "is_integer", "is_number", "is_text", "COMPARING", "RECKONING", "MOST_DEEP", "kind_within", "kind_of", "is_within", "is_condition", "inner", "depth_of", "JOINING", "queries_in", "kinds_of_table", "kinds_of", "agg_kind", "rebuilt", "unfold", "leaves_of", "depth_of_query", "is_agg"]
def names1 : List Str := ["is_shown", "is_asked", "is_order", "is_way", "Forms", "is_query", "MOST_ANSWERS", "MOST_ANSWER_ROWS", "MOST_STEPS", "MOST_WITHIN", "is_step", "around", "are_steps", "count_steps", "is_program", "_law_tape", "_law_draw", "_law_pick", "_law_same", "_law_item", "_law_house", "_law_kinds", "_law_side", "_law_condition", "_law_asked", "_law_answer_kinds", "_law_es", "_law_program_steps", "_law_program", "_law_count"]
def names2 : List Str := ["_law_deep", "_law_bad", "_law_into"]
def names : List Str := names0 ++ names1 ++ names2
theorem run (w : World) : HandSHeadRun.RunEq R (PySem.W.view R.prog [69]) hk ob 4000 names w := by
  intro os
  kernel_rfl
theorem sc_is_integer : FnScope ["value", "low", "high"] ["value", "low", "high"] (defScope (top 9)) := ⟨rfl, rfl, rfl, by decide +kernel, rfl, by decide +kernel, by decide +kernel⟩
theorem sc_is_number : FnScope ["value"] ["value"] (defScope (top 10)) := ⟨rfl, rfl, rfl, by decide +kernel, rfl, by decide +kernel, by decide +kernel⟩
theorem sc_is_text : FnScope ["value", "sign"] ["value"] (defScope (top 11)) := ⟨rfl, rfl, rfl, by decide +kernel, rfl, by decide +kernel, by decide +kernel⟩
theorem sc_kind_within : FnScope ["kinds", "e", "left"] ["kinds", "e", "left"] (defScope (top 16)) := ⟨rfl, rfl, rfl, by decide +kernel, rfl, by decide +kernel, by decide +kernel⟩
theorem sc_kind_of : FnScope ["kinds", "e"] ["kinds", "e"] (defScope (top 17)) := ⟨rfl, rfl, rfl, by decide +kernel, rfl, by decide +kernel, by decide +kernel⟩
theorem sc_is_within : FnScope ["kinds", "c", "left", "kind"] ["kinds", "c", "left"] (defScope (top 18)) := ⟨rfl, rfl, rfl, by decide +kernel, rfl, by decide +kernel, by decide +kernel⟩
theorem sc_is_condition : FnScope ["kinds", "c"] ["kinds", "c"] (defScope (top 19)) := ⟨rfl, rfl, rfl, by decide +kernel, rfl, by decide +kernel, by decide +kernel⟩
theorem sc_inner : FnScope ["node"] ["node"] (defScope (top 20)) := ⟨rfl, rfl, rfl, by decide +kernel, rfl, by decide +kernel, by decide +kernel⟩
theorem sc_depth_of : FnScope ["node", "one"] ["node"] (defScope (top 21)) := ⟨rfl, rfl, rfl, by decide +kernel, rfl, by decide +kernel, by decide +kernel⟩
theorem sc_queries_in : FnScope ["q"] ["q"] (defScope (top 24)) := ⟨rfl, rfl, rfl, by decide +kernel, rfl, by decide +kernel, by decide +kernel⟩
theorem sc_kinds_of_table : FnScope ["house", "t", "_", "kind"] ["house", "t"] (defScope (top 26)) := ⟨rfl, rfl, rfl, by decide +kernel, rfl, by decide +kernel, by decide +kernel⟩
theorem sc_kinds_of : FnScope ["house", "q", "kinds", "e", "column", "agg"] ["house", "q"] (defScope (top 27)) := ⟨rfl, rfl, rfl, by decide +kernel, rfl, by decide +kernel, by decide +kernel⟩
theorem sc_agg_kind : FnScope ["kinds", "agg"] ["kinds", "agg"] (defScope (top 28)) := ⟨rfl, rfl, rfl, by decide +kernel, rfl, by decide +kernel, by decide +kernel⟩
theorem sc_rebuilt : FnScope ["q", "parts"] ["q", "parts"] (defScope (top 29)) := ⟨rfl, rfl, rfl, by decide +kernel, rfl, by decide +kernel, by decide +kernel⟩
theorem sc_unfold : FnScope ["house", "q", "one"] ["house", "q"] (defScope (top 30)) := ⟨rfl, rfl, rfl, by decide +kernel, rfl, by decide +kernel, by decide +kernel⟩
theorem sc_leaves_of : FnScope ["q", "one"] ["q"] (defScope (top 31)) := ⟨rfl, rfl, rfl, by decide +kernel, rfl, by decide +kernel, by decide +kernel⟩
theorem sc_depth_of_query : FnScope ["q", "one"] ["q"] (defScope (top 32)) := ⟨rfl, rfl, rfl, by decide +kernel, rfl, by decide +kernel, by decide +kernel⟩
theorem sc_is_agg : FnScope ["kinds", "value", "most", "kind"] ["kinds", "value", "most"] (defScope (top 33)) := ⟨rfl, rfl, rfl, by decide +kernel, rfl, by decide +kernel, by decide +kernel⟩
theorem sc_is_shown : FnScope ["kinds", "value", "most"] ["kinds", "value", "most"] (defScope (top 34)) := ⟨rfl, rfl, rfl, by decide +kernel, rfl, by decide +kernel, by decide +kernel⟩
theorem sc_is_asked : FnScope ["kinds", "value", "most"] ["kinds", "value", "most"] (defScope (top 35)) := ⟨rfl, rfl, rfl, by decide +kernel, rfl, by decide +kernel, by decide +kernel⟩
theorem sc_is_order : FnScope ["kinds", "value", "one"] ["kinds", "value"] (defScope (top 36)) := ⟨rfl, rfl, rfl, by decide +kernel, rfl, by decide +kernel, by decide +kernel⟩
theorem sc_is_way : FnScope ["kinds", "value"] ["kinds", "value"] (defScope (top 37)) := ⟨rfl, rfl, rfl, by decide +kernel, rfl, by decide +kernel, by decide +kernel⟩
theorem sc_Forms_init : FnScope ["self", "house", "views", "most"] ["self", "house", "views", "most"] (defScope (mth 38 0)) := ⟨rfl, rfl, rfl, by decide +kernel, rfl, by decide +kernel, by decide +kernel⟩
theorem sc_Forms_kinds : FnScope ["self", "value", "left", "found"] ["self", "value", "left"] (defScope (mth 38 1)) := ⟨rfl, rfl, rfl, by decide +kernel, rfl, by decide +kernel, by decide +kernel⟩
theorem sc_Forms_step_kinds : FnScope ["self", "value", "left", "kinds", "e", "column", "agg"] ["self", "value", "left"] (defScope (mth 38 2)) := ⟨rfl, rfl, rfl, by decide +kernel, rfl, by decide +kernel, by decide +kernel⟩
theorem sc_Forms_both_kinds : FnScope ["self", "value", "kinds", "left", "others"] ["self", "value", "kinds", "left"] (defScope (mth 38 3)) := ⟨rfl, rfl, rfl, by decide +kernel, rfl, by decide +kernel, by decide +kernel⟩
theorem sc_Forms_are_shown : FnScope ["self", "kinds", "value", "e"] ["self", "kinds", "value"] (defScope (mth 38 4)) := ⟨rfl, rfl, rfl, by decide +kernel, rfl, by decide +kernel, by decide +kernel⟩
theorem sc_Forms_are_grouped : FnScope ["self", "kinds", "columns", "aggs", "agg", "column"] ["self", "kinds", "columns", "aggs"] (defScope (mth 38 5)) := ⟨rfl, rfl, rfl, by decide +kernel, rfl, by decide +kernel, by decide +kernel⟩
theorem sc_Forms_is_query : FnScope ["self", "value", "deep", "whole"] ["self", "value", "deep"] (defScope (mth 38 6)) := ⟨rfl, rfl, rfl, by decide +kernel, rfl, by decide +kernel, by decide +kernel⟩
theorem sc_is_query : FnScope ["house", "value"] ["house", "value"] (defScope (top 39)) := ⟨rfl, rfl, rfl, by decide +kernel, rfl, by decide +kernel, by decide +kernel⟩
theorem sc_is_step : FnScope ["house", "step", "within", "word"] ["house", "step", "within"] (defScope (top 45)) := ⟨rfl, rfl, rfl, by decide +kernel, rfl, by decide +kernel, by decide +kernel⟩
theorem sc_around : FnScope ["within", "is_each", "many"] ["within", "is_each"] (defScope (top 46)) := ⟨rfl, rfl, rfl, by decide +kernel, rfl, by decide +kernel, by decide +kernel⟩
theorem sc_are_steps : FnScope ["house", "steps", "within", "step"] ["house", "steps", "within"] (defScope (top 47)) := ⟨rfl, rfl, rfl, by decide +kernel, rfl, by decide +kernel, by decide +kernel⟩
theorem sc_count_steps : FnScope ["steps", "many", "step"] ["steps"] (defScope (top 48)) := ⟨rfl, rfl, rfl, by decide +kernel, rfl, by decide +kernel, by decide +kernel⟩
theorem sc_is_program : FnScope ["house", "program"] ["house", "program"] (defScope (top 49)) := ⟨rfl, rfl, rfl, by decide +kernel, rfl, by decide +kernel, by decide +kernel⟩
theorem sc_law_tape : FnScope ["script", "seed", "cell"] ["script"] (defScope (top 51)) := ⟨rfl, rfl, rfl, by decide +kernel, rfl, by decide +kernel, by decide +kernel⟩
theorem sc_law_draw : FnScope ["tape", "many", "cells", "number"] ["tape", "many"] (defScope (top 52)) := ⟨rfl, rfl, rfl, by decide +kernel, rfl, by decide +kernel, by decide +kernel⟩
theorem sc_law_pick : FnScope ["tape", "row"] ["tape", "row"] (defScope (top 53)) := ⟨rfl, rfl, rfl, by decide +kernel, rfl, by decide +kernel, by decide +kernel⟩
theorem sc_law_same : FnScope ["told", "due", "k"] ["told", "due"] (defScope (top 54)) := ⟨rfl, rfl, rfl, by decide +kernel, rfl, by decide +kernel, by decide +kernel⟩
theorem sc_law_item : FnScope ["tape", "kind"] ["tape", "kind"] (defScope (top 55)) := ⟨rfl, rfl, rfl, by decide +kernel, rfl, by decide +kernel, by decide +kernel⟩
theorem sc_law_house : FnScope ["tape", "great", "wide", "tables", "t", "many", "columns", "key", "k"] ["tape", "great"] (defScope (top 56)) := ⟨rfl, rfl, rfl, by decide +kernel, rfl, by decide +kernel, by decide +kernel⟩
theorem sc_law_kinds : FnScope ["house", "t", "column"] ["house", "t"] (defScope (top 57)) := ⟨rfl, rfl, rfl, by decide +kernel, rfl, by decide +kernel, by decide +kernel⟩
theorem sc_law_side : FnScope ["tape", "kinds", "kind", "places", "one", "k"] ["tape", "kinds", "kind"] (defScope (top 58)) := ⟨rfl, rfl, rfl, by decide +kernel, rfl, by decide +kernel, by decide +kernel⟩
theorem sc_law_condition : FnScope ["tape", "kinds", "deep", "kind", "which", "sign"] ["tape", "kinds", "deep"] (defScope (top 59)) := ⟨rfl, rfl, rfl, by decide +kernel, rfl, by decide +kernel, by decide +kernel⟩
theorem sc_law_asked : FnScope ["tape", "house", "kinds", "t", "form"] ["tape", "house", "kinds"] (defScope (top 60)) := ⟨rfl, rfl, rfl, by decide +kernel, rfl, by decide +kernel, by decide +kernel⟩
theorem sc_law_answer_kinds : FnScope ["house", "q"] ["house", "q"] (defScope (top 61)) := ⟨rfl, rfl, rfl, by decide +kernel, rfl, by decide +kernel, by decide +kernel⟩
theorem sc_law_es : FnScope ["tape", "kinds", "due", "found", "kind"] ["tape", "kinds", "due"] (defScope (top 62)) := ⟨rfl, rfl, rfl, by decide +kernel, rfl, by decide +kernel, by decide +kernel⟩
theorem sc_law_program_steps : FnScope ["tape", "house", "answers", "kinds", "within", "found", "k", "kind", "q", "n", "low", "steps", "t", "all_kinds", "row", "one"] ["tape", "house", "answers", "kinds", "within"] (defScope (top 63)) := ⟨rfl, rfl, rfl, by decide +kernel, rfl, by decide +kernel, by decide +kernel⟩
theorem sc_law_program : FnScope ["tape", "house", "answers", "q", "steps"] ["tape", "house"] (defScope (top 64)) := ⟨rfl, rfl, rfl, by decide +kernel, rfl, by decide +kernel, by decide +kernel⟩
theorem sc_law_count : FnScope ["steps", "many", "step"] ["steps"] (defScope (top 65)) := ⟨rfl, rfl, rfl, by decide +kernel, rfl, by decide +kernel, by decide +kernel⟩
theorem sc_law_deep : FnScope ["tape", "many", "word", "step", "k"] ["tape", "many", "word"] (defScope (top 66)) := ⟨rfl, rfl, rfl, by decide +kernel, rfl, by decide +kernel, by decide +kernel⟩
theorem sc_law_bad : FnScope ["tape", "house", "t", "wrong"] ["tape", "house"] (defScope (top 67)) := ⟨rfl, rfl, rfl, by decide +kernel, rfl, by decide +kernel, by decide +kernel⟩
theorem sc_law_into : FnScope ["tape", "steps", "bad", "k", "one"] ["tape", "steps", "bad"] (defScope (top 68)) := ⟨rfl, rfl, rfl, by decide +kernel, rfl, by decide +kernel, by decide +kernel⟩
theorem sc_law : FnScope ["script", "tape", "turn", "house", "program", "many", "word", "deep", "odd", "full", "wrong"] ["script"] (defScope (top 69)) := ⟨rfl, rfl, rfl, by decide +kernel, rfl, by decide +kernel, by decide +kernel⟩
theorem facts {P : Program} {w : World} {K : PySem.W.Frag} {h : Heap} {mg : Str → Option Value} {f : Addr} (X : K.In h) (G : h.Ns mainGlobals mg) (hfa : mg ("law" : Str) = some (.ref f)) (c : He.SaysD fa fn K) (cx : ex K = true) :
    ∃ fd : FuncData, (∀ (s : Shared) (v : Value), BindsTo s fd ⟨[v], []⟩ [("script", v)]) ∧ ∀ base : Heap, K.In base → base.Ns mainGlobals mg → FnOk P w K mg base (L2.CX P w) 230 f fd ["script"] (spD ⟨K, mg, P, w⟩ (_root_.K.L.call "law") 1) := by
  have hfree : ∀ x ∈ (tb [] [] []).free, mg (Str.ofString x) = none := (all_cons (He.free_ok X G (c.fact 59 rfl)) (all_cons (He.free_ok X G (c.fact 60 rfl)) (all_cons (He.free_ok X G (c.fact 61 rfl)) (all_cons (He.free_ok X G (c.fact 62 rfl)) (all_cons (He.free_ok X G (c.fact 63 rfl)) (all_cons (He.free_ok X G (c.fact 64 rfl)) (all_cons (He.free_ok X G (c.fact 65 rfl)) (all_cons (He.free_ok X G (c.fact 66 rfl)) (all_cons (He.free_ok X G (c.fact 67 rfl)) (all_cons (He.free_ok X G (c.fact 68 rfl)) (all_cons (He.free_ok X G (c.fact 69 rfl)) (all_cons (He.free_ok X G (c.fact 70 rfl)) (all_cons (He.free_ok X G (c.fact 71 rfl)) (all_cons (He.free_ok X G (c.fact 72 rfl)) all_nil))))))))))))))
  have hglob : ∀ (L : Lib), L.glob = _root_.K.L.glob → ∀ x ∈ (tb [] [] []).globs, GlobOk ⟨K, mg, P, w⟩ L x := fun L eL => (all_cons (glob_intF X G (c.fact 73 rfl) (by rw [eL] <;> rfl)) (all_cons (glob_intF X G (c.fact 74 rfl) (by rw [eL] <;> rfl)) (all_cons (glob_intF X G (c.fact 75 rfl) (by rw [eL] <;> rfl)) (all_cons (glob_intF X G (c.fact 76 rfl) (by rw [eL] <;> rfl)) (all_cons (glob_intF X G (c.fact 77 rfl) (by rw [eL] <;> rfl)) (all_cons (glob_intF X G (c.fact 78 rfl) (by rw [eL] <;> rfl)) (all_cons (glob_strF X G (c.fact 79 rfl) (by rw [eL] <;> rfl)) (all_cons (glob_strF X G (c.fact 80 rfl) (by rw [eL] <;> rfl)) (all_cons (glob_strsF X G (c.fact 81 rfl) (List.all_eq_true.mp (Bool.and_eq_true_iff.mp cx).1 ("COMPARING", ["=", "!=", "<", "<=", ">", ">="]) (by decide)) (by rw [eL] <;> rfl)) (all_cons (glob_strsF X G (c.fact 82 rfl) (List.all_eq_true.mp (Bool.and_eq_true_iff.mp cx).1 ("RECKONING", ["+", "-", "*", "/", "mod"]) (by decide)) (by rw [eL] <;> rfl)) (all_cons (glob_intF X G (c.fact 83 rfl) (by rw [eL] <;> rfl)) (all_cons (glob_strsF X G (c.fact 84 rfl) (List.all_eq_true.mp (Bool.and_eq_true_iff.mp cx).1 ("JOINING", ["cross", "union", "minus", "both", "some", "none"]) (by decide)) (by rw [eL] <;> rfl)) (all_cons (glob_intF X G (c.fact 85 rfl) (by rw [eL] <;> rfl)) (all_cons (glob_intF X G (c.fact 86 rfl) (by rw [eL] <;> rfl)) (all_cons (glob_intF X G (c.fact 87 rfl) (by rw [eL] <;> rfl)) (all_cons (glob_intF X G (c.fact 88 rfl) (by rw [eL] <;> rfl)) all_nil))))))))))))))))
  have hsub : ∀ (L : Lib), L.sub = _root_.K.L.sub → SubOk ⟨K, mg, P, w⟩ L := fun L eL x y b A B e => by rw [eL] at e; cases e
  have hattr : ∀ (L : Lib), L.attr = _root_.K.L.attr → AttrOk ⟨K, mg, P, w⟩ L := fun L eL x y A e m => by
    rw [eL] at e
    have hin := _root_.K.attr_in x y e
    have all : ∀ p ∈ _root_.K.attrs, ∀ A, mg (Str.ofString p.1) = some (.ref A) → L2.NoAttr K A (Str.ofString p.2) := (all_cons (fun A m => by have z := (He.glo_ok X G (c.fact 47 rfl)).symm.trans m; cases z; exact He.noat_ok (c.fact 56 rfl)) (all_cons (fun A m => by have z := (He.glo_ok X G (c.fact 47 rfl)).symm.trans m; cases z; exact He.noat_ok (c.fact 57 rfl)) (all_cons (fun A m => by have z := (He.glo_ok X G (c.fact 47 rfl)).symm.trans m; cases z; exact He.noat_ok (c.fact 58 rfl)) all_nil)))
    exact all _ hin A m
  obtain ⟨fd_is_integer, F_is_integer⟩ := c.def_ 0 (d := dOf "is_integer" (top 9)) rfl
  obtain ⟨fd_is_number, F_is_number⟩ := c.def_ 1 (d := dOf "is_number" (top 10)) rfl
  obtain ⟨fd_is_text, F_is_text⟩ := c.def_ 2 (d := dOf "is_text" (top 11)) rfl
  obtain ⟨fd_kind_within, F_kind_within⟩ := c.def_ 3 (d := dOf "kind_within" (top 16)) rfl
  obtain ⟨fd_kind_of, F_kind_of⟩ := c.def_ 4 (d := dOf "kind_of" (top 17)) rfl
  obtain ⟨fd_is_within, F_is_within⟩ := c.def_ 5 (d := dOf "is_within" (top 18)) rfl
  obtain ⟨fd_is_condition, F_is_condition⟩ := c.def_ 6 (d := dOf "is_condition" (top 19)) rfl
  obtain ⟨fd_inner, F_inner⟩ := c.def_ 7 (d := dOf "inner" (top 20)) rfl
  obtain ⟨fd_depth_of, F_depth_of⟩ := c.def_ 8 (d := dOf "depth_of" (top 21)) rfl
  obtain ⟨fd_queries_in, F_queries_in⟩ := c.def_ 9 (d := dOf "queries_in" (top 24)) rfl
  obtain ⟨fd_kinds_of_table, F_kinds_of_table⟩ := c.def_ 10 (d := dOf "kinds_of_table" (top 26)) rfl
  obtain ⟨fd_kinds_of, F_kinds_of⟩ := c.def_ 11 (d := dOf "kinds_of" (top 27)) rfl
  obtain ⟨fd_agg_kind, F_agg_kind⟩ := c.def_ 12 (d := dOf "agg_kind" (top 28)) rfl
  obtain ⟨fd_rebuilt, F_rebuilt⟩ := c.def_ 13 (d := dOf "rebuilt" (top 29)) rfl
  obtain ⟨fd_unfold, F_unfold⟩ := c.def_ 14 (d := dOf "unfold" (top 30)) rfl
  obtain ⟨fd_leaves_of, F_leaves_of⟩ := c.def_ 15 (d := dOf "leaves_of" (top 31)) rfl
  obtain ⟨fd_depth_of_query, F_depth_of_query⟩ := c.def_ 16 (d := dOf "depth_of_query" (top 32)) rfl
  obtain ⟨fd_is_agg, F_is_agg⟩ := c.def_ 17 (d := dOf "is_agg" (top 33)) rfl
  obtain ⟨fd_is_shown, F_is_shown⟩ := c.def_ 18 (d := dOf "is_shown" (top 34)) rfl
  obtain ⟨fd_is_asked, F_is_asked⟩ := c.def_ 19 (d := dOf "is_asked" (top 35)) rfl
  obtain ⟨fd_is_order, F_is_order⟩ := c.def_ 20 (d := dOf "is_order" (top 36)) rfl
  obtain ⟨fd_is_way, F_is_way⟩ := c.def_ 21 (d := dOf "is_way" (top 37)) rfl
  obtain ⟨fd_Forms_init, F_Forms_init⟩ := c.def_ 22 (d := dOfM "Forms" "__init__" "Forms.__init__" (mth 38 0)) rfl
  obtain ⟨fd_Forms_kinds, F_Forms_kinds⟩ := c.def_ 23 (d := dOfM "Forms" "kinds" "Forms.kinds" (mth 38 1)) rfl
  obtain ⟨fd_Forms_step_kinds, F_Forms_step_kinds⟩ := c.def_ 24 (d := dOfM "Forms" "_step_kinds" "Forms._step_kinds" (mth 38 2)) rfl
  obtain ⟨fd_Forms_both_kinds, F_Forms_both_kinds⟩ := c.def_ 25 (d := dOfM "Forms" "_both_kinds" "Forms._both_kinds" (mth 38 3)) rfl
  obtain ⟨fd_Forms_are_shown, F_Forms_are_shown⟩ := c.def_ 26 (d := dOfM "Forms" "_are_shown" "Forms._are_shown" (mth 38 4)) rfl
  obtain ⟨fd_Forms_are_grouped, F_Forms_are_grouped⟩ := c.def_ 27 (d := dOfM "Forms" "_are_grouped" "Forms._are_grouped" (mth 38 5)) rfl
  obtain ⟨fd_Forms_is_query, F_Forms_is_query⟩ := c.def_ 28 (d := dOfM "Forms" "is_query" "Forms.is_query" (mth 38 6)) rfl
  obtain ⟨fd_is_query, F_is_query⟩ := c.def_ 29 (d := dOf "is_query" (top 39)) rfl
  obtain ⟨fd_is_step, F_is_step⟩ := c.def_ 30 (d := dOf "is_step" (top 45)) rfl
  obtain ⟨fd_around, F_around⟩ := c.def_ 31 (d := dOf "around" (top 46)) rfl
  obtain ⟨fd_are_steps, F_are_steps⟩ := c.def_ 32 (d := dOf "are_steps" (top 47)) rfl
  obtain ⟨fd_count_steps, F_count_steps⟩ := c.def_ 33 (d := dOf "count_steps" (top 48)) rfl
  obtain ⟨fd_is_program, F_is_program⟩ := c.def_ 34 (d := dOf "is_program" (top 49)) rfl
  obtain ⟨fd_law_tape, F_law_tape⟩ := c.def_ 35 (d := dOf "_law_tape" (top 51)) rfl
  obtain ⟨fd_law_draw, F_law_draw⟩ := c.def_ 36 (d := dOf "_law_draw" (top 52)) rfl
  obtain ⟨fd_law_pick, F_law_pick⟩ := c.def_ 37 (d := dOf "_law_pick" (top 53)) rfl
  obtain ⟨fd_law_same, F_law_same⟩ := c.def_ 38 (d := dOf "_law_same" (top 54)) rfl
  obtain ⟨fd_law_item, F_law_item⟩ := c.def_ 39 (d := dOf "_law_item" (top 55)) rfl
  obtain ⟨fd_law_house, F_law_house⟩ := c.def_ 40 (d := dOf "_law_house" (top 56)) rfl
  obtain ⟨fd_law_kinds, F_law_kinds⟩ := c.def_ 41 (d := dOf "_law_kinds" (top 57)) rfl
  obtain ⟨fd_law_side, F_law_side⟩ := c.def_ 42 (d := dOf "_law_side" (top 58)) rfl
  obtain ⟨fd_law_condition, F_law_condition⟩ := c.def_ 43 (d := dOf "_law_condition" (top 59)) rfl
  obtain ⟨fd_law_asked, F_law_asked⟩ := c.def_ 44 (d := dOf "_law_asked" (top 60)) rfl
  obtain ⟨fd_law_answer_kinds, F_law_answer_kinds⟩ := c.def_ 45 (d := dOf "_law_answer_kinds" (top 61)) rfl
  obtain ⟨fd_law_es, F_law_es⟩ := c.def_ 46 (d := dOf "_law_es" (top 62)) rfl
  obtain ⟨fd_law_program_steps, F_law_program_steps⟩ := c.def_ 47 (d := dOf "_law_program_steps" (top 63)) rfl
  obtain ⟨fd_law_program, F_law_program⟩ := c.def_ 48 (d := dOf "_law_program" (top 64)) rfl
  obtain ⟨fd_law_count, F_law_count⟩ := c.def_ 49 (d := dOf "_law_count" (top 65)) rfl
  obtain ⟨fd_law_deep, F_law_deep⟩ := c.def_ 50 (d := dOf "_law_deep" (top 66)) rfl
  obtain ⟨fd_law_bad, F_law_bad⟩ := c.def_ 51 (d := dOf "_law_bad" (top 67)) rfl
  obtain ⟨fd_law_into, F_law_into⟩ := c.def_ 52 (d := dOf "_law_into" (top 68)) rfl
  obtain ⟨fd_law, F_law⟩ := c.def_ 53 (d := dOf "law" (top 69)) rfl
  have e := hfa.symm.trans (He.glo_ok X G (c.fact 46 (f := .glo "law") rfl))
  cases e
  refine ⟨fd_law, fun s v => FunD.bindsA (ps := ["script"]) F_law (fun _ _ _ _ _ _ us hl => match us, hl with | [_], _ => rfl) s [v] rfl, fun base _ _ => ?_⟩
  have hexc : ∀ (L : Lib), L.exf = _root_.K.L.exf → ∀ k : Nat, 2 ≤ k → ∀ x ∈ (tb [] [] []).excs, ExcAny ⟨K, mg, P, w⟩ L k base x := fun L eL k hk => all_nil
  have c_law_draw : CallOk ⟨K, mg, P, w⟩ _root_.K.L base 3 "_law_draw" := call_ok (st := (top 52)) F_law_draw (He.glo_ok X G (c.fact 29 rfl)) sc_law_draw rfl (mkLib (T := (tb [] [] [])) all_nil all_nil all_nil (hattr _root_.K.L rfl) hfree (hexc _root_.K.L rfl _ (by omega)) (hsub _root_.K.L rfl) (hglob _root_.K.L rfl)) ok_law_draw _root_.K.v_law_draw _root_.K.len_law_draw (fun _ _ _ _ _ _ us hl => match us, hl with | [_, _], _ => rfl)
  have c_law_pick : CallOk ⟨K, mg, P, w⟩ _root_.K.L base 4 "_law_pick" := call_ok (st := (top 53)) F_law_pick (He.glo_ok X G (c.fact 30 rfl)) sc_law_pick rfl (mkLib (T := (tb ["_law_draw"] [] [])) (all_cons (c_law_draw.mono (by decide)) all_nil) all_nil all_nil (hattr _root_.K.L rfl) hfree (hexc _root_.K.L rfl _ (by omega)) (hsub _root_.K.L rfl) (hglob _root_.K.L rfl)) ok_law_pick _root_.K.v_law_pick _root_.K.len_law_pick (fun _ _ _ _ _ _ us hl => match us, hl with | [_, _], _ => rfl)
  have c_law_bad : CallOk ⟨K, mg, P, w⟩ _root_.K.L base 5 "_law_bad" := call_ok (st := (top 67)) F_law_bad (He.glo_ok X G (c.fact 44 rfl)) sc_law_bad rfl (mkLib (T := (tb ["_law_draw", "_law_pick"] [] [])) (all_cons (c_law_draw.mono (by decide)) (all_cons (c_law_pick.mono (by decide)) all_nil)) all_nil all_nil (hattr _root_.K.L rfl) hfree (hexc _root_.K.L rfl _ (by omega)) (hsub _root_.K.L rfl) (hglob _root_.K.L rfl)) ok_law_bad _root_.K.v_law_bad _root_.K.len_law_bad (fun _ _ _ _ _ _ us hl => match us, hl with | [_, _], _ => rfl)
  have r_law_count : ∀ n, CallOk ⟨K, mg, P, w⟩ (_root_.K.Lr_law_count n) base (2 + n) "_law_count" := rec_ok (st := (top 65)) (T := (tb ["_law_count"] [] [])) (Ls := _root_.K.Lr_law_count) F_law_count (He.glo_ok X G (c.fact 42 rfl)) sc_law_count rfl rfl (fun n h => (mkLib (T := (tb ["_law_count"] [] [])) (all_cons h all_nil) all_nil all_nil (hattr (_root_.K.Lr_law_count n) rfl) hfree (hexc (_root_.K.Lr_law_count n) rfl _ (by omega)) (hsub (_root_.K.Lr_law_count n) rfl) (hglob (_root_.K.Lr_law_count n) rfl))) ok_law_count _root_.K.v_law_count _root_.K.len_law_count (fun _ _ _ _ _ _ us hl => match us, hl with | [_], _ => rfl)
  have c_law_count : CallOk ⟨K, mg, P, w⟩ _root_.K.L base 14 "_law_count" := (r_law_count 12).to rfl
  have c_law_deep : CallOk ⟨K, mg, P, w⟩ _root_.K.L base 4 "_law_deep" := call_ok (st := (top 66)) F_law_deep (He.glo_ok X G (c.fact 43 rfl)) sc_law_deep rfl (mkLib (T := (tb ["_law_draw"] [] [])) (all_cons (c_law_draw.mono (by decide)) all_nil) all_nil all_nil (hattr _root_.K.L rfl) hfree (hexc _root_.K.L rfl _ (by omega)) (hsub _root_.K.L rfl) (hglob _root_.K.L rfl)) ok_law_deep _root_.K.v_law_deep _root_.K.len_law_deep (fun _ _ _ _ _ _ us hl => match us, hl with | [_, _, _], _ => rfl)
  have c_law_house : CallOk ⟨K, mg, P, w⟩ _root_.K.L base 5 "_law_house" := call_ok (st := (top 56)) F_law_house (He.glo_ok X G (c.fact 33 rfl)) sc_law_house rfl (mkLib (T := (tb ["_law_draw", "_law_pick"] [] [])) (all_cons (c_law_draw.mono (by decide)) (all_cons (c_law_pick.mono (by decide)) all_nil)) all_nil all_nil (hattr _root_.K.L rfl) hfree (hexc _root_.K.L rfl _ (by omega)) (hsub _root_.K.L rfl) (hglob _root_.K.L rfl)) ok_law_house _root_.K.v_law_house _root_.K.len_law_house (fun _ _ _ _ _ _ us hl => match us, hl with | [_, _], _ => rfl)
  have r_law_into : ∀ n, CallOk ⟨K, mg, P, w⟩ (_root_.K.Lr_law_into n) base (3 + n) "_law_into" := rec_ok (st := (top 68)) (T := (tb ["_law_draw", "_law_into"] [] [])) (Ls := _root_.K.Lr_law_into) F_law_into (He.glo_ok X G (c.fact 45 rfl)) sc_law_into rfl rfl (fun n h => (mkLib (T := (tb ["_law_draw", "_law_into"] [] [])) (all_cons ((c_law_draw.mono (by omega)).to rfl) (all_cons h all_nil)) all_nil all_nil (hattr (_root_.K.Lr_law_into n) rfl) hfree (hexc (_root_.K.Lr_law_into n) rfl _ (by omega)) (hsub (_root_.K.Lr_law_into n) rfl) (hglob (_root_.K.Lr_law_into n) rfl))) ok_law_into _root_.K.v_law_into _root_.K.len_law_into (fun _ _ _ _ _ _ us hl => match us, hl with | [_, _, _], _ => rfl)
  have c_law_into : CallOk ⟨K, mg, P, w⟩ _root_.K.L base 9 "_law_into" := (r_law_into 6).to rfl
  have c_law_kinds : CallOk ⟨K, mg, P, w⟩ _root_.K.L base 3 "_law_kinds" := call_ok (st := (top 57)) F_law_kinds (He.glo_ok X G (c.fact 34 rfl)) sc_law_kinds rfl (mkLib (T := (tb [] [] [])) all_nil all_nil all_nil (hattr _root_.K.L rfl) hfree (hexc _root_.K.L rfl _ (by omega)) (hsub _root_.K.L rfl) (hglob _root_.K.L rfl)) ok_law_kinds _root_.K.v_law_kinds _root_.K.len_law_kinds (fun _ _ _ _ _ _ us hl => match us, hl with | [_, _], _ => rfl)
  have c_law_answer_kinds : CallOk ⟨K, mg, P, w⟩ _root_.K.L base 4 "_law_answer_kinds" := call_ok (st := (top 61)) F_law_answer_kinds (He.glo_ok X G (c.fact 38 rfl)) sc_law_answer_kinds rfl (mkLib (T := (tb ["_law_kinds"] [] [])) (all_cons (c_law_kinds.mono (by decide)) all_nil) all_nil all_nil (hattr _root_.K.L rfl) hfree (hexc _root_.K.L rfl _ (by omega)) (hsub _root_.K.L rfl) (hglob _root_.K.L rfl)) ok_law_answer_kinds _root_.K.v_law_answer_kinds _root_.K.len_law_answer_kinds (fun _ _ _ _ _ _ us hl => match us, hl with | [_, _], _ => rfl)
  have c_law_item : CallOk ⟨K, mg, P, w⟩ _root_.K.L base 5 "_law_item" := call_ok (st := (top 55)) F_law_item (He.glo_ok X G (c.fact 32 rfl)) sc_law_item rfl (mkLib (T := (tb ["_law_draw", "_law_pick"] [] [])) (all_cons (c_law_draw.mono (by decide)) (all_cons (c_law_pick.mono (by decide)) all_nil)) all_nil all_nil (hattr _root_.K.L rfl) hfree (hexc _root_.K.L rfl _ (by omega)) (hsub _root_.K.L rfl) (hglob _root_.K.L rfl)) ok_law_item _root_.K.v_law_item _root_.K.len_law_item (fun _ _ _ _ _ _ us hl => match us, hl with | [_, _], _ => rfl)
  have c_law_side : CallOk ⟨K, mg, P, w⟩ _root_.K.L base 6 "_law_side" := call_ok (st := (top 58)) F_law_side (He.glo_ok X G (c.fact 35 rfl)) sc_law_side rfl (mkLib (T := (tb ["_law_draw", "_law_item", "_law_pick"] [] [])) (all_cons (c_law_draw.mono (by decide)) (all_cons (c_law_item.mono (by decide)) (all_cons (c_law_pick.mono (by decide)) all_nil))) all_nil all_nil (hattr _root_.K.L rfl) hfree (hexc _root_.K.L rfl _ (by omega)) (hsub _root_.K.L rfl) (hglob _root_.K.L rfl)) ok_law_side _root_.K.v_law_side _root_.K.len_law_side (fun _ _ _ _ _ _ us hl => match us, hl with | [_, _, _], _ => rfl)
  have r_law_condition : ∀ n, CallOk ⟨K, mg, P, w⟩ (_root_.K.Lr_law_condition n) base (6 + n) "_law_condition" := rec_ok (st := (top 59)) (T := (tb ["_law_condition", "_law_draw", "_law_pick", "_law_side"] [] [])) (Ls := _root_.K.Lr_law_condition) F_law_condition (He.glo_ok X G (c.fact 36 rfl)) sc_law_condition rfl rfl (fun n h => (mkLib (T := (tb ["_law_condition", "_law_draw", "_law_pick", "_law_side"] [] [])) (all_cons h (all_cons ((c_law_draw.mono (by omega)).to rfl) (all_cons ((c_law_pick.mono (by omega)).to rfl) (all_cons ((c_law_side.mono (by omega)).to rfl) all_nil)))) all_nil all_nil (hattr (_root_.K.Lr_law_condition n) rfl) hfree (hexc (_root_.K.Lr_law_condition n) rfl _ (by omega)) (hsub (_root_.K.Lr_law_condition n) rfl) (hglob (_root_.K.Lr_law_condition n) rfl))) ok_law_condition _root_.K.v_law_condition _root_.K.len_law_condition (fun _ _ _ _ _ _ us hl => match us, hl with | [_, _, _], _ => rfl)
  have c_law_condition : CallOk ⟨K, mg, P, w⟩ _root_.K.L base 8 "_law_condition" := (r_law_condition 2).to rfl
  have c_law_asked : CallOk ⟨K, mg, P, w⟩ _root_.K.L base 9 "_law_asked" := call_ok (st := (top 60)) F_law_asked (He.glo_ok X G (c.fact 37 rfl)) sc_law_asked rfl (mkLib (T := (tb ["_law_condition", "_law_draw", "_law_kinds"] [] [])) (all_cons (c_law_condition.mono (by decide)) (all_cons (c_law_draw.mono (by decide)) (all_cons (c_law_kinds.mono (by decide)) all_nil))) all_nil all_nil (hattr _root_.K.L rfl) hfree (hexc _root_.K.L rfl _ (by omega)) (hsub _root_.K.L rfl) (hglob _root_.K.L rfl)) ok_law_asked _root_.K.v_law_asked _root_.K.len_law_asked (fun _ _ _ _ _ _ us hl => match us, hl with | [_, _, _], _ => rfl)
  have c_law_es : CallOk ⟨K, mg, P, w⟩ _root_.K.L base 7 "_law_es" := call_ok (st := (top 62)) F_law_es (He.glo_ok X G (c.fact 39 rfl)) sc_law_es rfl (mkLib (T := (tb ["_law_draw", "_law_side"] [] [])) (all_cons (c_law_draw.mono (by decide)) (all_cons (c_law_side.mono (by decide)) all_nil)) all_nil all_nil (hattr _root_.K.L rfl) hfree (hexc _root_.K.L rfl _ (by omega)) (hsub _root_.K.L rfl) (hglob _root_.K.L rfl)) ok_law_es _root_.K.v_law_es _root_.K.len_law_es (fun _ _ _ _ _ _ us hl => match us, hl with | [_, _, _], _ => rfl)
  have r_law_program_steps : ∀ n, CallOk ⟨K, mg, P, w⟩ (_root_.K.Lr_law_program_steps n) base (9 + n) "_law_program_steps" := rec_ok (st := (top 63)) (T := (tb ["_law_answer_kinds", "_law_asked", "_law_draw", "_law_es", "_law_kinds", "_law_pick", "_law_program_steps"] [] [])) (Ls := _root_.K.Lr_law_program_steps) F_law_program_steps (He.glo_ok X G (c.fact 40 rfl)) sc_law_program_steps rfl rfl (fun n h => (mkLib (T := (tb ["_law_answer_kinds", "_law_asked", "_law_draw", "_law_es", "_law_kinds", "_law_pick", "_law_program_steps"] [] [])) (all_cons ((c_law_answer_kinds.mono (by omega)).to rfl) (all_cons ((c_law_asked.mono (by omega)).to rfl) (all_cons ((c_law_draw.mono (by omega)).to rfl) (all_cons ((c_law_es.mono (by omega)).to rfl) (all_cons ((c_law_kinds.mono (by omega)).to rfl) (all_cons ((c_law_pick.mono (by omega)).to rfl) (all_cons h all_nil))))))) all_nil all_nil (hattr (_root_.K.Lr_law_program_steps n) rfl) hfree (hexc (_root_.K.Lr_law_program_steps n) rfl _ (by omega)) (hsub (_root_.K.Lr_law_program_steps n) rfl) (hglob (_root_.K.Lr_law_program_steps n) rfl))) ok_law_program_steps _root_.K.v_law_program_steps _root_.K.len_law_program_steps (fun _ _ _ _ _ _ us hl => match us, hl with | [_, _, _, _, _], _ => rfl)
  have c_law_program_steps : CallOk ⟨K, mg, P, w⟩ _root_.K.L base 13 "_law_program_steps" := (r_law_program_steps 4).to rfl
  have c_law_program : CallOk ⟨K, mg, P, w⟩ _root_.K.L base 14 "_law_program" := call_ok (st := (top 64)) F_law_program (He.glo_ok X G (c.fact 41 rfl)) sc_law_program rfl (mkLib (T := (tb ["_law_answer_kinds", "_law_asked", "_law_draw", "_law_program_steps"] [] [])) (all_cons (c_law_answer_kinds.mono (by decide)) (all_cons (c_law_asked.mono (by decide)) (all_cons (c_law_draw.mono (by decide)) (all_cons (c_law_program_steps.mono (by decide)) all_nil)))) all_nil all_nil (hattr _root_.K.L rfl) hfree (hexc _root_.K.L rfl _ (by omega)) (hsub _root_.K.L rfl) (hglob _root_.K.L rfl)) ok_law_program _root_.K.v_law_program _root_.K.len_law_program (fun _ _ _ _ _ _ us hl => match us, hl with | [_, _], _ => rfl)
  have r_law_same : ∀ n, CallOk ⟨K, mg, P, w⟩ (_root_.K.Lr_law_same n) base (2 + n) "_law_same" := rec_ok (st := (top 54)) (T := (tb ["_law_same"] [] [])) (Ls := _root_.K.Lr_law_same) F_law_same (He.glo_ok X G (c.fact 31 rfl)) sc_law_same rfl rfl (fun n h => (mkLib (T := (tb ["_law_same"] [] [])) (all_cons h all_nil) all_nil all_nil (hattr (_root_.K.Lr_law_same n) rfl) hfree (hexc (_root_.K.Lr_law_same n) rfl _ (by omega)) (hsub (_root_.K.Lr_law_same n) rfl) (hglob (_root_.K.Lr_law_same n) rfl))) ok_law_same _root_.K.v_law_same _root_.K.len_law_same (fun _ _ _ _ _ _ us hl => match us, hl with | [_, _], _ => rfl)
  have c_law_same : CallOk ⟨K, mg, P, w⟩ _root_.K.L base 4 "_law_same" := (r_law_same 2).to rfl
  have c_law_tape : CallOk ⟨K, mg, P, w⟩ _root_.K.L base 3 "_law_tape" := call_ok (st := (top 51)) F_law_tape (He.glo_ok X G (c.fact 28 rfl)) sc_law_tape rfl (mkLib (T := (tb [] [] [])) all_nil all_nil all_nil (hattr _root_.K.L rfl) hfree (hexc _root_.K.L rfl _ (by omega)) (hsub _root_.K.L rfl) (hglob _root_.K.L rfl)) ok_law_tape _root_.K.v_law_tape _root_.K.len_law_tape (fun _ _ _ _ _ _ us hl => match us, hl with | [_], _ => rfl)
  have c_around : CallOk ⟨K, mg, P, w⟩ _root_.K.L base 3 "around" := call_ok (st := (top 46)) F_around (He.glo_ok X G (c.fact 24 rfl)) sc_around rfl (mkLib (T := (tb [] [] [])) all_nil all_nil all_nil (hattr _root_.K.L rfl) hfree (hexc _root_.K.L rfl _ (by omega)) (hsub _root_.K.L rfl) (hglob _root_.K.L rfl)) ok_around _root_.K.v_around _root_.K.len_around (fun _ _ _ _ _ _ us hl => match us, hl with | [_, _], _ => rfl)
  have c_is_integer : CallOk ⟨K, mg, P, w⟩ _root_.K.L base 3 "is_integer" := call_ok (st := (top 9)) F_is_integer (He.glo_ok X G (c.fact 0 rfl)) sc_is_integer rfl (mkLib (T := (tb [] [] [])) all_nil all_nil all_nil (hattr _root_.K.L rfl) hfree (hexc _root_.K.L rfl _ (by omega)) (hsub _root_.K.L rfl) (hglob _root_.K.L rfl)) ok_is_integer _root_.K.v_is_integer _root_.K.len_is_integer (fun _ _ _ _ _ _ us hl => match us, hl with | [_, _, _], _ => rfl)
  have c_Forms_init : NewOk ⟨K, mg, P, w⟩ _root_.K.L 4 base "Forms" := new_okF (q := "Forms.__init__") (st := (mth 38 0)) F_Forms_init (He.glo_ok X G (c.fact 47 rfl)) (He.cls_ok (c.fact 48 rfl)) (He.mkr_ok (c.fact 55 rfl)) sc_Forms_init rfl (mkLib (T := (tb [] [] [])) all_nil all_nil all_nil (hattr _root_.K.L rfl) hfree (hexc _root_.K.L rfl _ (by omega)) (hsub _root_.K.L rfl) (hglob _root_.K.L rfl)) ok_Forms_init _root_.K.v_Forms_init _root_.K.len_Forms_init (fun _ _ _ _ _ _ us hl => match us, hl with | [_, _, _, _], _ => rfl)
  have c_inner : CallOk ⟨K, mg, P, w⟩ _root_.K.L base 3 "inner" := call_ok (st := (top 20)) F_inner (He.glo_ok X G (c.fact 7 rfl)) sc_inner rfl (mkLib (T := (tb [] [] [])) all_nil all_nil all_nil (hattr _root_.K.L rfl) hfree (hexc _root_.K.L rfl _ (by omega)) (hsub _root_.K.L rfl) (hglob _root_.K.L rfl)) ok_inner _root_.K.v_inner _root_.K.len_inner (fun _ _ _ _ _ _ us hl => match us, hl with | [_], _ => rfl)
  have r_depth_of : ∀ n, CallOk ⟨K, mg, P, w⟩ (_root_.K.Lr_depth_of n) base (3 + n) "depth_of" := rec_ok (st := (top 21)) (T := (tb ["depth_of", "inner"] [] [])) (Ls := _root_.K.Lr_depth_of) F_depth_of (He.glo_ok X G (c.fact 8 rfl)) sc_depth_of rfl rfl (fun n h => (mkLib (T := (tb ["depth_of", "inner"] [] [])) (all_cons h (all_cons ((c_inner.mono (by omega)).to rfl) all_nil)) all_nil all_nil (hattr (_root_.K.Lr_depth_of n) rfl) hfree (hexc (_root_.K.Lr_depth_of n) rfl _ (by omega)) (hsub (_root_.K.Lr_depth_of n) rfl) (hglob (_root_.K.Lr_depth_of n) rfl))) ok_depth_of _root_.K.v_depth_of _root_.K.len_depth_of (fun _ _ _ _ _ _ us hl => match us, hl with | [_], _ => rfl)
  have c_depth_of : CallOk ⟨K, mg, P, w⟩ _root_.K.L base 11 "depth_of" := (r_depth_of 8).to rfl
  have c_is_number : CallOk ⟨K, mg, P, w⟩ _root_.K.L base 4 "is_number" := call_ok (st := (top 10)) F_is_number (He.glo_ok X G (c.fact 1 rfl)) sc_is_number rfl (mkLib (T := (tb ["is_integer"] [] [])) (all_cons (c_is_integer.mono (by decide)) all_nil) all_nil all_nil (hattr _root_.K.L rfl) hfree (hexc _root_.K.L rfl _ (by omega)) (hsub _root_.K.L rfl) (hglob _root_.K.L rfl)) ok_is_number _root_.K.v_is_number _root_.K.len_is_number (fun _ _ _ _ _ _ us hl => match us, hl with | [_], _ => rfl)
  have c_is_text : CallOk ⟨K, mg, P, w⟩ _root_.K.L base 3 "is_text" := call_ok (st := (top 11)) F_is_text (He.glo_ok X G (c.fact 2 rfl)) sc_is_text rfl (mkLib (T := (tb [] [] [])) all_nil all_nil all_nil (hattr _root_.K.L rfl) hfree (hexc _root_.K.L rfl _ (by omega)) (hsub _root_.K.L rfl) (hglob _root_.K.L rfl)) ok_is_text _root_.K.v_is_text _root_.K.len_is_text (fun _ _ _ _ _ _ us hl => match us, hl with | [_], _ => rfl)
  have r_kind_within : ∀ n, CallOk ⟨K, mg, P, w⟩ (_root_.K.Lr_kind_within n) base (4 + n) "kind_within" := rec_ok (st := (top 16)) (T := (tb ["is_number", "is_text", "kind_within"] [] [])) (Ls := _root_.K.Lr_kind_within) F_kind_within (He.glo_ok X G (c.fact 3 rfl)) sc_kind_within rfl rfl (fun n h => (mkLib (T := (tb ["is_number", "is_text", "kind_within"] [] [])) (all_cons ((c_is_number.mono (by omega)).to rfl) (all_cons ((c_is_text.mono (by omega)).to rfl) (all_cons h all_nil))) all_nil all_nil (hattr (_root_.K.Lr_kind_within n) rfl) hfree (hexc (_root_.K.Lr_kind_within n) rfl _ (by omega)) (hsub (_root_.K.Lr_kind_within n) rfl) (hglob (_root_.K.Lr_kind_within n) rfl))) ok_kind_within _root_.K.v_kind_within _root_.K.len_kind_within (fun _ _ _ _ _ _ us hl => match us, hl with | [_, _, _], _ => rfl)
  have c_kind_within : CallOk ⟨K, mg, P, w⟩ _root_.K.L base 105 "kind_within" := (r_kind_within 101).to rfl
  have c_kind_of : CallOk ⟨K, mg, P, w⟩ _root_.K.L base 106 "kind_of" := call_ok (st := (top 17)) F_kind_of (He.glo_ok X G (c.fact 4 rfl)) sc_kind_of rfl (mkLib (T := (tb ["kind_within"] [] [])) (all_cons (c_kind_within.mono (by decide)) all_nil) all_nil all_nil (hattr _root_.K.L rfl) hfree (hexc _root_.K.L rfl _ (by omega)) (hsub _root_.K.L rfl) (hglob _root_.K.L rfl)) ok_kind_of _root_.K.v_kind_of _root_.K.len_kind_of (fun _ _ _ _ _ _ us hl => match us, hl with | [_, _], _ => rfl)
  have c_is_agg : CallOk ⟨K, mg, P, w⟩ _root_.K.L base 107 "is_agg" := call_ok (st := (top 33)) F_is_agg (He.glo_ok X G (c.fact 17 rfl)) sc_is_agg rfl (mkLib (T := (tb ["depth_of", "kind_of"] [] [])) (all_cons (c_depth_of.mono (by decide)) (all_cons (c_kind_of.mono (by decide)) all_nil)) all_nil all_nil (hattr _root_.K.L rfl) hfree (hexc _root_.K.L rfl _ (by omega)) (hsub _root_.K.L rfl) (hglob _root_.K.L rfl)) ok_is_agg _root_.K.v_is_agg _root_.K.len_is_agg (fun _ _ _ _ _ _ us hl => match us, hl with | [_, _, _], _ => rfl)
  have c_Forms_are_grouped : MethOk ⟨K, mg, P, w⟩ _root_.K.L 108 base ("Forms", "_are_grouped") := meth_okF (q := "Forms._are_grouped") (st := (mth 38 5)) F_Forms_are_grouped (He.glo_ok X G (c.fact 47 rfl)) (He.meth_ok (c.fact 53 rfl)) sc_Forms_are_grouped rfl (mkLib (T := (tb ["is_agg", "is_integer"] [] [])) (all_cons (c_is_agg.mono (by decide)) (all_cons (c_is_integer.mono (by decide)) all_nil)) all_nil all_nil (hattr _root_.K.L rfl) hfree (hexc _root_.K.L rfl _ (by omega)) (hsub _root_.K.L rfl) (hglob _root_.K.L rfl)) ok_Forms_are_grouped _root_.K.v_Forms_are_grouped _root_.K.len_Forms_are_grouped (fun _ _ _ _ _ _ us hl => match us, hl with | [_, _, _, _], _ => rfl)
  have c_is_shown : CallOk ⟨K, mg, P, w⟩ _root_.K.L base 107 "is_shown" := call_ok (st := (top 34)) F_is_shown (He.glo_ok X G (c.fact 18 rfl)) sc_is_shown rfl (mkLib (T := (tb ["depth_of", "kind_of"] [] [])) (all_cons (c_depth_of.mono (by decide)) (all_cons (c_kind_of.mono (by decide)) all_nil)) all_nil all_nil (hattr _root_.K.L rfl) hfree (hexc _root_.K.L rfl _ (by omega)) (hsub _root_.K.L rfl) (hglob _root_.K.L rfl)) ok_is_shown _root_.K.v_is_shown _root_.K.len_is_shown (fun _ _ _ _ _ _ us hl => match us, hl with | [_, _, _], _ => rfl)
  have c_Forms_are_shown : MethOk ⟨K, mg, P, w⟩ _root_.K.L 108 base ("Forms", "_are_shown") := meth_okF (q := "Forms._are_shown") (st := (mth 38 4)) F_Forms_are_shown (He.glo_ok X G (c.fact 47 rfl)) (He.meth_ok (c.fact 52 rfl)) sc_Forms_are_shown rfl (mkLib (T := (tb ["is_shown"] [] [])) (all_cons (c_is_shown.mono (by decide)) all_nil) all_nil all_nil (hattr _root_.K.L rfl) hfree (hexc _root_.K.L rfl _ (by omega)) (hsub _root_.K.L rfl) (hglob _root_.K.L rfl)) ok_Forms_are_shown _root_.K.v_Forms_are_shown _root_.K.len_Forms_are_shown (fun _ _ _ _ _ _ us hl => match us, hl with | [_, _, _], _ => rfl)
  have r_is_within : ∀ n, CallOk ⟨K, mg, P, w⟩ (_root_.K.Lr_is_within n) base (105 + n) "is_within" := rec_ok (st := (top 18)) (T := (tb ["is_within", "kind_within"] [] [])) (Ls := _root_.K.Lr_is_within) F_is_within (He.glo_ok X G (c.fact 5 rfl)) sc_is_within rfl rfl (fun n h => (mkLib (T := (tb ["is_within", "kind_within"] [] [])) (all_cons h (all_cons ((c_kind_within.mono (by omega)).to rfl) all_nil)) all_nil all_nil (hattr (_root_.K.Lr_is_within n) rfl) hfree (hexc (_root_.K.Lr_is_within n) rfl _ (by omega)) (hsub (_root_.K.Lr_is_within n) rfl) (hglob (_root_.K.Lr_is_within n) rfl))) ok_is_within _root_.K.v_is_within _root_.K.len_is_within (fun _ _ _ _ _ _ us hl => match us, hl with | [_, _, _], _ => rfl)
  have c_is_within : CallOk ⟨K, mg, P, w⟩ _root_.K.L base 206 "is_within" := (r_is_within 101).to rfl
  have c_is_condition : CallOk ⟨K, mg, P, w⟩ _root_.K.L base 207 "is_condition" := call_ok (st := (top 19)) F_is_condition (He.glo_ok X G (c.fact 6 rfl)) sc_is_condition rfl (mkLib (T := (tb ["is_within"] [] [])) (all_cons (c_is_within.mono (by decide)) all_nil) all_nil all_nil (hattr _root_.K.L rfl) hfree (hexc _root_.K.L rfl _ (by omega)) (hsub _root_.K.L rfl) (hglob _root_.K.L rfl)) ok_is_condition _root_.K.v_is_condition _root_.K.len_is_condition (fun _ _ _ _ _ _ us hl => match us, hl with | [_, _], _ => rfl)
  have c_is_asked : CallOk ⟨K, mg, P, w⟩ _root_.K.L base 208 "is_asked" := call_ok (st := (top 35)) F_is_asked (He.glo_ok X G (c.fact 19 rfl)) sc_is_asked rfl (mkLib (T := (tb ["depth_of", "is_condition"] [] [])) (all_cons (c_depth_of.mono (by decide)) (all_cons (c_is_condition.mono (by decide)) all_nil)) all_nil all_nil (hattr _root_.K.L rfl) hfree (hexc _root_.K.L rfl _ (by omega)) (hsub _root_.K.L rfl) (hglob _root_.K.L rfl)) ok_is_asked _root_.K.v_is_asked _root_.K.len_is_asked (fun _ _ _ _ _ _ us hl => match us, hl with | [_, _, _], _ => rfl)
  have c_agg_kind : CallOk ⟨K, mg, P, w⟩ _root_.K.L base 107 "agg_kind" := call_ok (st := (top 28)) F_agg_kind (He.glo_ok X G (c.fact 12 rfl)) sc_agg_kind rfl (mkLib (T := (tb ["kind_of"] [] [])) (all_cons (c_kind_of.mono (by decide)) all_nil) all_nil all_nil (hattr _root_.K.L rfl) hfree (hexc _root_.K.L rfl _ (by omega)) (hsub _root_.K.L rfl) (hglob _root_.K.L rfl)) ok_agg_kind _root_.K.v_agg_kind _root_.K.len_agg_kind (fun _ _ _ _ _ _ us hl => match us, hl with | [_, _], _ => rfl)
  have c_is_way : CallOk ⟨K, mg, P, w⟩ _root_.K.L base 4 "is_way" := call_ok (st := (top 37)) F_is_way (He.glo_ok X G (c.fact 21 rfl)) sc_is_way rfl (mkLib (T := (tb ["is_integer"] [] [])) (all_cons (c_is_integer.mono (by decide)) all_nil) all_nil all_nil (hattr _root_.K.L rfl) hfree (hexc _root_.K.L rfl _ (by omega)) (hsub _root_.K.L rfl) (hglob _root_.K.L rfl)) ok_is_way _root_.K.v_is_way _root_.K.len_is_way (fun _ _ _ _ _ _ us hl => match us, hl with | [_, _], _ => rfl)
  have c_is_order : CallOk ⟨K, mg, P, w⟩ _root_.K.L base 5 "is_order" := call_ok (st := (top 36)) F_is_order (He.glo_ok X G (c.fact 20 rfl)) sc_is_order rfl (mkLib (T := (tb ["is_way"] [] [])) (all_cons (c_is_way.mono (by decide)) all_nil) all_nil all_nil (hattr _root_.K.L rfl) hfree (hexc _root_.K.L rfl _ (by omega)) (hsub _root_.K.L rfl) (hglob _root_.K.L rfl)) ok_is_order _root_.K.v_is_order _root_.K.len_is_order (fun _ _ _ _ _ _ us hl => match us, hl with | [_, _], _ => rfl)
  have c_kinds_of_table : CallOk ⟨K, mg, P, w⟩ _root_.K.L base 3 "kinds_of_table" := call_ok (st := (top 26)) F_kinds_of_table (He.glo_ok X G (c.fact 10 rfl)) sc_kinds_of_table rfl (mkLib (T := (tb [] [] [])) all_nil all_nil all_nil (hattr _root_.K.L rfl) hfree (hexc _root_.K.L rfl _ (by omega)) (hsub _root_.K.L rfl) (hglob _root_.K.L rfl)) ok_kinds_of_table _root_.K.v_kinds_of_table _root_.K.len_kinds_of_table (fun _ _ _ _ _ _ us hl => match us, hl with | [_, _], _ => rfl)
  have r_kinds_of : ∀ n, CallOk ⟨K, mg, P, w⟩ (_root_.K.Lr_kinds_of n) base (107 + n) "kinds_of" := rec_ok (st := (top 27)) (T := (tb ["agg_kind", "kind_of", "kinds_of", "kinds_of_table"] [] [])) (Ls := _root_.K.Lr_kinds_of) F_kinds_of (He.glo_ok X G (c.fact 11 rfl)) sc_kinds_of rfl rfl (fun n h => (mkLib (T := (tb ["agg_kind", "kind_of", "kinds_of", "kinds_of_table"] [] [])) (all_cons ((c_agg_kind.mono (by omega)).to rfl) (all_cons ((c_kind_of.mono (by omega)).to rfl) (all_cons h (all_cons ((c_kinds_of_table.mono (by omega)).to rfl) all_nil)))) all_nil all_nil (hattr (_root_.K.Lr_kinds_of n) rfl) hfree (hexc (_root_.K.Lr_kinds_of n) rfl _ (by omega)) (hsub (_root_.K.Lr_kinds_of n) rfl) (hglob (_root_.K.Lr_kinds_of n) rfl))) ok_kinds_of _root_.K.v_kinds_of _root_.K.len_kinds_of (fun _ _ _ _ _ _ us hl => match us, hl with | [_, _], _ => rfl)
  have c_kinds_of : CallOk ⟨K, mg, P, w⟩ _root_.K.L base 108 "kinds_of" := (r_kinds_of 1).to rfl
  have r_Forms_kinds : ∀ n, MethOk ⟨K, mg, P, w⟩ (_root_.K.Lr_Forms_kinds n) (208 + n * (2 + 1)) base ("Forms", "kinds") := rec_methS (s := 2) (q := "Forms.kinds") (st := (mth 38 1)) (T := (tb ["is_integer", "kinds_of", "kinds_of_table"] [("Forms", "_step_kinds")] [])) (Ls := _root_.K.Lr_Forms_kinds) F_Forms_kinds (He.glo_ok X G (c.fact 47 rfl)) (He.meth_ok (c.fact 49 rfl)) sc_Forms_kinds rfl rfl (fun n h => by
    have b_Forms_both_kinds : MethOk ⟨K, mg, P, w⟩ (_root_.K.Lr_Forms_kinds n) (208 + n * (2 + 1) + 0 + 1) base ("Forms", "_both_kinds") := meth_okF (q := "Forms._both_kinds") (st := (mth 38 3)) (T := (tb ["is_asked"] [("Forms", "kinds")] [])) F_Forms_both_kinds (He.glo_ok X G (c.fact 47 rfl)) (He.meth_ok (c.fact 51 rfl)) sc_Forms_both_kinds rfl (mkLib (T := (tb ["is_asked"] [("Forms", "kinds")] [])) (all_cons ((c_is_asked.mono (by omega)).to rfl) all_nil) (all_cons (h.mono (by omega)) all_nil) all_nil (hattr (_root_.K.Lr_Forms_kinds n) rfl) hfree (hexc (_root_.K.Lr_Forms_kinds n) rfl _ (by omega)) (hsub (_root_.K.Lr_Forms_kinds n) rfl) (hglob (_root_.K.Lr_Forms_kinds n) rfl)) ok_Forms_both_kinds (_root_.K.v_Forms_both_kinds n) (_root_.K.len_Forms_both_kinds n) (fun _ _ _ _ _ _ us hl => match us, hl with | [_, _, _, _], _ => rfl)
    have b_Forms_step_kinds : MethOk ⟨K, mg, P, w⟩ (_root_.K.Lr_Forms_kinds n) (208 + n * (2 + 1) + 1 + 1) base ("Forms", "_step_kinds") := meth_okF (q := "Forms._step_kinds") (st := (mth 38 2)) (T := (tb ["agg_kind", "is_asked", "is_integer", "is_order", "kind_of"] [("Forms", "_are_grouped"), ("Forms", "_are_shown"), ("Forms", "_both_kinds"), ("Forms", "kinds")] [])) F_Forms_step_kinds (He.glo_ok X G (c.fact 47 rfl)) (He.meth_ok (c.fact 50 rfl)) sc_Forms_step_kinds rfl (mkLib (T := (tb ["agg_kind", "is_asked", "is_integer", "is_order", "kind_of"] [("Forms", "_are_grouped"), ("Forms", "_are_shown"), ("Forms", "_both_kinds"), ("Forms", "kinds")] [])) (all_cons ((c_agg_kind.mono (by omega)).to rfl) (all_cons ((c_is_asked.mono (by omega)).to rfl) (all_cons ((c_is_integer.mono (by omega)).to rfl) (all_cons ((c_is_order.mono (by omega)).to rfl) (all_cons ((c_kind_of.mono (by omega)).to rfl) all_nil))))) (all_cons ((c_Forms_are_grouped.mono (by omega)).to rfl) (all_cons ((c_Forms_are_shown.mono (by omega)).to rfl) (all_cons (b_Forms_both_kinds.mono (by omega)) (all_cons (h.mono (by omega)) all_nil)))) all_nil (hattr (_root_.K.Lr_Forms_kinds n) rfl) hfree (hexc (_root_.K.Lr_Forms_kinds n) rfl _ (by omega)) (hsub (_root_.K.Lr_Forms_kinds n) rfl) (hglob (_root_.K.Lr_Forms_kinds n) rfl)) ok_Forms_step_kinds (_root_.K.v_Forms_step_kinds n) (_root_.K.len_Forms_step_kinds n) (fun _ _ _ _ _ _ us hl => match us, hl with | [_, _, _], _ => rfl)
    exact (mkLib (T := (tb ["is_integer", "kinds_of", "kinds_of_table"] [("Forms", "_step_kinds")] [])) (all_cons ((c_is_integer.mono (by omega)).to rfl) (all_cons ((c_kinds_of.mono (by omega)).to rfl) (all_cons ((c_kinds_of_table.mono (by omega)).to rfl) all_nil))) (all_cons (b_Forms_step_kinds.mono (by omega)) all_nil) all_nil (hattr (_root_.K.Lr_Forms_kinds n) rfl) hfree (hexc (_root_.K.Lr_Forms_kinds n) rfl _ (by omega)) (hsub (_root_.K.Lr_Forms_kinds n) rfl) (hglob (_root_.K.Lr_Forms_kinds n) rfl))) ok_Forms_kinds _root_.K.v_Forms_kinds _root_.K.len_Forms_kinds (fun _ _ _ _ _ _ us hl => match us, hl with | [_, _, _], _ => rfl)
  have c_Forms_kinds : MethOk ⟨K, mg, P, w⟩ _root_.K.L 214 base ("Forms", "kinds") := (r_Forms_kinds 2).to rfl
  have c_queries_in : CallOk ⟨K, mg, P, w⟩ _root_.K.L base 3 "queries_in" := call_ok (st := (top 24)) F_queries_in (He.glo_ok X G (c.fact 9 rfl)) sc_queries_in rfl (mkLib (T := (tb [] [] [])) all_nil all_nil all_nil (hattr _root_.K.L rfl) hfree (hexc _root_.K.L rfl _ (by omega)) (hsub _root_.K.L rfl) (hglob _root_.K.L rfl)) ok_queries_in _root_.K.v_queries_in _root_.K.len_queries_in (fun _ _ _ _ _ _ us hl => match us, hl with | [_], _ => rfl)
  have r_depth_of_query : ∀ n, CallOk ⟨K, mg, P, w⟩ (_root_.K.Lr_depth_of_query n) base (3 + n) "depth_of_query" := rec_ok (st := (top 32)) (T := (tb ["depth_of_query", "queries_in"] [] [])) (Ls := _root_.K.Lr_depth_of_query) F_depth_of_query (He.glo_ok X G (c.fact 16 rfl)) sc_depth_of_query rfl rfl (fun n h => (mkLib (T := (tb ["depth_of_query", "queries_in"] [] [])) (all_cons h (all_cons ((c_queries_in.mono (by omega)).to rfl) all_nil)) all_nil all_nil (hattr (_root_.K.Lr_depth_of_query n) rfl) hfree (hexc (_root_.K.Lr_depth_of_query n) rfl _ (by omega)) (hsub (_root_.K.Lr_depth_of_query n) rfl) (hglob (_root_.K.Lr_depth_of_query n) rfl))) ok_depth_of_query _root_.K.v_depth_of_query _root_.K.len_depth_of_query (fun _ _ _ _ _ _ us hl => match us, hl with | [_], _ => rfl)
  have c_depth_of_query : CallOk ⟨K, mg, P, w⟩ _root_.K.L base 5 "depth_of_query" := (r_depth_of_query 2).to rfl
  have r_leaves_of : ∀ n, CallOk ⟨K, mg, P, w⟩ (_root_.K.Lr_leaves_of n) base (3 + n) "leaves_of" := rec_ok (st := (top 31)) (T := (tb ["leaves_of", "queries_in"] [] [])) (Ls := _root_.K.Lr_leaves_of) F_leaves_of (He.glo_ok X G (c.fact 15 rfl)) sc_leaves_of rfl rfl (fun n h => (mkLib (T := (tb ["leaves_of", "queries_in"] [] [])) (all_cons h (all_cons ((c_queries_in.mono (by omega)).to rfl) all_nil)) all_nil all_nil (hattr (_root_.K.Lr_leaves_of n) rfl) hfree (hexc (_root_.K.Lr_leaves_of n) rfl _ (by omega)) (hsub (_root_.K.Lr_leaves_of n) rfl) (hglob (_root_.K.Lr_leaves_of n) rfl))) ok_leaves_of _root_.K.v_leaves_of _root_.K.len_leaves_of (fun _ _ _ _ _ _ us hl => match us, hl with | [_], _ => rfl)
  have c_leaves_of : CallOk ⟨K, mg, P, w⟩ _root_.K.L base 5 "leaves_of" := (r_leaves_of 2).to rfl
  have c_rebuilt : CallOk ⟨K, mg, P, w⟩ _root_.K.L base 3 "rebuilt" := call_ok (st := (top 29)) F_rebuilt (He.glo_ok X G (c.fact 13 rfl)) sc_rebuilt rfl (mkLib (T := (tb [] [] [])) all_nil all_nil all_nil (hattr _root_.K.L rfl) hfree (hexc _root_.K.L rfl _ (by omega)) (hsub _root_.K.L rfl) (hglob _root_.K.L rfl)) ok_rebuilt _root_.K.v_rebuilt _root_.K.len_rebuilt (fun _ _ _ _ _ _ us hl => match us, hl with | [_, _], _ => rfl)
  have r_unfold : ∀ n, CallOk ⟨K, mg, P, w⟩ (_root_.K.Lr_unfold n) base (3 + n) "unfold" := rec_ok (st := (top 30)) (T := (tb ["queries_in", "rebuilt", "unfold"] [] [])) (Ls := _root_.K.Lr_unfold) F_unfold (He.glo_ok X G (c.fact 14 rfl)) sc_unfold rfl rfl (fun n h => (mkLib (T := (tb ["queries_in", "rebuilt", "unfold"] [] [])) (all_cons ((c_queries_in.mono (by omega)).to rfl) (all_cons ((c_rebuilt.mono (by omega)).to rfl) (all_cons h all_nil))) all_nil all_nil (hattr (_root_.K.Lr_unfold n) rfl) hfree (hexc (_root_.K.Lr_unfold n) rfl _ (by omega)) (hsub (_root_.K.Lr_unfold n) rfl) (hglob (_root_.K.Lr_unfold n) rfl))) ok_unfold _root_.K.v_unfold _root_.K.len_unfold (fun _ _ _ _ _ _ us hl => match us, hl with | [_, _], _ => rfl)
  have c_unfold : CallOk ⟨K, mg, P, w⟩ _root_.K.L base 5 "unfold" := (r_unfold 2).to rfl
  have c_Forms_is_query : MethOk ⟨K, mg, P, w⟩ _root_.K.L 215 base ("Forms", "is_query") := meth_okF (q := "Forms.is_query") (st := (mth 38 6)) F_Forms_is_query (He.glo_ok X G (c.fact 47 rfl)) (He.meth_ok (c.fact 54 rfl)) sc_Forms_is_query rfl (mkLib (T := (tb ["depth_of_query", "leaves_of", "unfold"] [("Forms", "kinds")] [])) (all_cons (c_depth_of_query.mono (by decide)) (all_cons (c_leaves_of.mono (by decide)) (all_cons (c_unfold.mono (by decide)) all_nil))) (all_cons (c_Forms_kinds.mono (by decide)) all_nil) all_nil (hattr _root_.K.L rfl) hfree (hexc _root_.K.L rfl _ (by omega)) (hsub _root_.K.L rfl) (hglob _root_.K.L rfl)) ok_Forms_is_query _root_.K.v_Forms_is_query _root_.K.len_Forms_is_query (fun _ _ _ _ _ _ us hl => match us, hl with | [_, _, _], _ => rfl)
  have c_is_query : CallOk ⟨K, mg, P, w⟩ _root_.K.L base 216 "is_query" := call_ok (st := (top 39)) F_is_query (He.glo_ok X G (c.fact 22 rfl)) sc_is_query rfl (mkLib (T := (tb [] [("Forms", "is_query")] ["Forms"])) all_nil (all_cons (c_Forms_is_query.mono (by decide)) all_nil) (all_cons (c_Forms_init.mono (by decide)) all_nil) (hattr _root_.K.L rfl) hfree (hexc _root_.K.L rfl _ (by omega)) (hsub _root_.K.L rfl) (hglob _root_.K.L rfl)) ok_is_query _root_.K.v_is_query _root_.K.len_is_query (fun _ _ _ _ _ _ us hl => match us, hl with | [_, _], _ => rfl)
  have r_are_steps : ∀ n, CallOk ⟨K, mg, P, w⟩ (_root_.K.Lr_are_steps n) base (216 + n * (1 + 1)) "are_steps" := rec_okS (s := 1) (st := (top 47)) (T := (tb ["is_step"] [] [])) (Ls := _root_.K.Lr_are_steps) F_are_steps (He.glo_ok X G (c.fact 25 rfl)) sc_are_steps rfl rfl (fun n h => by
    have b_is_step : CallOk ⟨K, mg, P, w⟩ (_root_.K.Lr_are_steps n) base (216 + n * (1 + 1) + 0 + 1) "is_step" := call_ok (st := (top 45)) (T := (tb ["are_steps", "around", "is_integer", "is_query"] [] [])) F_is_step (He.glo_ok X G (c.fact 23 rfl)) sc_is_step rfl (mkLib (T := (tb ["are_steps", "around", "is_integer", "is_query"] [] [])) (all_cons (h.mono (by omega)) (all_cons ((c_around.mono (by omega)).to rfl) (all_cons ((c_is_integer.mono (by omega)).to rfl) (all_cons ((c_is_query.mono (by omega)).to rfl) all_nil)))) all_nil all_nil (hattr (_root_.K.Lr_are_steps n) rfl) hfree (hexc (_root_.K.Lr_are_steps n) rfl _ (by omega)) (hsub (_root_.K.Lr_are_steps n) rfl) (hglob (_root_.K.Lr_are_steps n) rfl)) ok_is_step (_root_.K.v_is_step n) (_root_.K.len_is_step n) (fun _ _ _ _ _ _ us hl => match us, hl with | [_, _, _], _ => rfl)
    exact (mkLib (T := (tb ["is_step"] [] [])) (all_cons (b_is_step.mono (by omega)) all_nil) all_nil all_nil (hattr (_root_.K.Lr_are_steps n) rfl) hfree (hexc (_root_.K.Lr_are_steps n) rfl _ (by omega)) (hsub (_root_.K.Lr_are_steps n) rfl) (hglob (_root_.K.Lr_are_steps n) rfl))) ok_are_steps _root_.K.v_are_steps _root_.K.len_are_steps (fun _ _ _ _ _ _ us hl => match us, hl with | [_, _, _], _ => rfl)
  have c_are_steps : CallOk ⟨K, mg, P, w⟩ _root_.K.L base 228 "are_steps" := (r_are_steps 6).to rfl
  have r_count_steps : ∀ n, CallOk ⟨K, mg, P, w⟩ (_root_.K.Lr_count_steps n) base (2 + n) "count_steps" := rec_ok (st := (top 48)) (T := (tb ["count_steps"] [] [])) (Ls := _root_.K.Lr_count_steps) F_count_steps (He.glo_ok X G (c.fact 26 rfl)) sc_count_steps rfl rfl (fun n h => (mkLib (T := (tb ["count_steps"] [] [])) (all_cons h all_nil) all_nil all_nil (hattr (_root_.K.Lr_count_steps n) rfl) hfree (hexc (_root_.K.Lr_count_steps n) rfl _ (by omega)) (hsub (_root_.K.Lr_count_steps n) rfl) (hglob (_root_.K.Lr_count_steps n) rfl))) ok_count_steps _root_.K.v_count_steps _root_.K.len_count_steps (fun _ _ _ _ _ _ us hl => match us, hl with | [_], _ => rfl)
  have c_count_steps : CallOk ⟨K, mg, P, w⟩ _root_.K.L base 14 "count_steps" := (r_count_steps 12).to rfl
  have c_is_program : CallOk ⟨K, mg, P, w⟩ _root_.K.L base 229 "is_program" := call_ok (st := (top 49)) F_is_program (He.glo_ok X G (c.fact 27 rfl)) sc_is_program rfl (mkLib (T := (tb ["are_steps", "count_steps"] [] [])) (all_cons (c_are_steps.mono (by decide)) (all_cons (c_count_steps.mono (by decide)) all_nil)) all_nil all_nil (hattr _root_.K.L rfl) hfree (hexc _root_.K.L rfl _ (by omega)) (hsub _root_.K.L rfl) (hglob _root_.K.L rfl)) ok_is_program _root_.K.v_is_program _root_.K.len_is_program (fun _ _ _ _ _ _ us hl => match us, hl with | [_, _], _ => rfl)
  exact def_ok F_law sc_law rfl (mkLib (T := (tb ["_law_bad", "_law_count", "_law_deep", "_law_house", "_law_into", "_law_pick", "_law_program", "_law_same", "_law_tape", "is_program"] [] [])) (all_cons (c_law_bad.mono (by decide)) (all_cons (c_law_count.mono (by decide)) (all_cons (c_law_deep.mono (by decide)) (all_cons (c_law_house.mono (by decide)) (all_cons (c_law_into.mono (by decide)) (all_cons (c_law_pick.mono (by decide)) (all_cons (c_law_program.mono (by decide)) (all_cons (c_law_same.mono (by decide)) (all_cons (c_law_tape.mono (by decide)) (all_cons (c_is_program.mono (by decide)) all_nil)))))))))) all_nil all_nil (hattr _root_.K.L rfl) hfree (hexc _root_.K.L rfl _ (by omega)) (hsub _root_.K.L rfl) (hglob _root_.K.L rfl)) ok_law _root_.K.v_law
end Hd
open PySem PySem.W PySem.Calls PyProof.Rows
theorem PySem.Challenge.cw_unringed_k43_programs_holds : PySem.Challenge.rw_unringed_k43_programs.Holds := by
  w_on; o_law
  refine HandSHeadRun.head_any (r := OpenLaw.row PySem.Challenge.rw_unringed_k43_programs) (q := view (OpenLaw.row PySem.Challenge.rw_unringed_k43_programs).prog [69]) (H := Hd.hk) (ob := Hd.ob) (M := 4000) (loose := Hd.names) (d := HandSHeadRun.topDef (OpenLaw.row PySem.Challenge.rw_unringed_k43_programs).prog 69) (kwd := []) Hd.ob_eq
    (by kernel_rfl) (fun s => by kernel_rfl) Hd.run (by kernel_rfl) (by kernel_rfl) (by kernel_rfl) (by rfl) (by first | assumption | decide +kernel) (by decide +kernel) ⟨rfl, rfl, rfl, rfl, rfl, by decide +kernel⟩ ?hw ?hc
  case hw => w_witness2
  case hc =>
    refine L2.walk_ofE (l := PySem.Challenge.rw_unringed_k43_programs) (n := 63) (k := 230) (x := "script") (CX := DL.CX1) rfl (by decide) (by kernel_rfl) ⟨rfl, by decide, by decide⟩ ?F (fun _ _ _ _ z => by obtain ⟨_, _, _, z⟩ := z; exact z)
    intro w mg fa h Y G hmg0
    obtain ⟨K, KX, c, cx⟩ := Y
    have hmg : mg ("law" : PySem.Str) = some (.ref fa) := by
      have e : (HandSHeadRun.topDef (OpenLaw.row PySem.Challenge.rw_unringed_k43_programs).prog 69).name = ("law" : PySem.Str) := by kernel_rfl
      rw [← e]
      exact hmg0
    obtain ⟨fd, hb, hF⟩ := Hd.facts (P := (PySem.Challenge.rw_unringed_k43_programs).prog) (w := w) KX G hmg c cx
    exact ⟨K, fd, DL.spD ⟨K, mg, _, w⟩ (_root_.K.L.call "law") 1, KX, hb, fun H a ns hl hO hS => DL.law_sp hO hS (_root_.K.law_in ns hl), fun base b1 b2 => DL.fn_cx1 (hF base b1 b2)⟩

