import PyProof.Rows.All
import Wide.All
import OpenK.AllK
import Wide.FinOn
import HandS.ForMost
import HandS.ForExc
import HandS.Deep
import HandS.Zip
import HandS.Defaults
import KE.SortData
import KE.DataFind
import HandS.SortInts
import HandS.Style
import HandS.TupLe
import HandS.TupAny
import HandS.IsInst
import HandS.Wide
import HandS.More
import HandS.TupLen
import HandS.Rev
import HandS.TryOnly
import HandS.Small
import HandS.HeadHook2
import HandS.HeadEnd
import KE.KStateDown
import Lean
import HandS.Base
import HandS.Call
import HandS.Ends
import HandS.Words
import HandS.WordsExc
import HandS.Head0
import HandS.Head1
import HandS.Head2
import HandS.HeadHook1
import PySem.Challenge.RW_unringed_k01_items_and_bags
set_option Elab.async false
set_option linter.all false
set_option maxRecDepth 100000
set_option maxHeartbeats 1000000
/-! DLCore: data D, the store of the changeable objects, and how both lie in the hand layer's heap. -/
namespace DL
open PySem PySem.Spec PyProof.Rows L2

/-- a value: tuples and lists that nobody changes as data, a changeable object by its place in the store -/
inductive D where
  | non | bl (b : Bool) | int (i : Int) | str (s : String) | tup (xs : List D) | lst (xs : List D) | loc (n : Nat) | gl (x : String) | ty (x : String) | scr (xs : List Int) | kt (xs : List String)
deriving Inhabited

/-- what stands at a place of the store -/
inductive Cell where
  | lst (xs : List D) | dct (t : Bool) (kvs : List (D × D)) | obj (c : String) (fs : List (String × D))
deriving Inhabited
abbrev Sto := List Cell
/-- where the store's objects stand; what is hidden: objects that no value names -/
abbrev Lay := List Addr × List Addr
def Lay.off (r : Lay) (a : Addr) : Prop := a ∉ r.1 ∧ a ∉ r.2
abbrev St' := List (Option D)

/-- an exception: its class's name, its fields -/
structure Xc where
  cls : String
  fs : List (String × D)

/-- what is fixed: the written part, the module's names -/
structure Ct where
  K : PySem.W.Frag
  mg : Str → Option Value
  P : Program
  w : World

/-- a tuple of the written part -/
def KTup (K : PySem.W.Frag) (a : Addr) (xs : List V) : Prop :=
  ∃ (o : Obj) (its : Array Value) (n : Nat), K.lookup a = some o ∧ o.cls = .type "tuple" ∧ o.data = .seq its n ∧ its.size ≤ sizeLine ∧ Vals xs its.toList
/-- a tuple, a list that nobody changes -/
def TupAt (C : Ct) (r : Lay) (H : Hp) (a : Addr) (vs : List V) : Prop := H a = some (.tup vs) ∧ r.off a
def LstAt (C : Ct) (r : Lay) (H : Hp) (a : Addr) (vs : List V) : Prop := H a = some (.lst vs) ∧ r.off a
/-- the script -/
def KLst (K : PySem.W.Frag) (a : Addr) (xs : List V) : Prop :=
  ∃ (o : Obj) (its : Array Value) (n : Nat), K.lookup a = some o ∧ o.cls = .type "list" ∧ o.dict = none ∧ o.data = .seq its n ∧ its.size ≤ sizeLine ∧ Vals xs its.toList
def ScrAt (C : Ct) (r : Lay) (H : Hp) (a : Addr) (vs : List V) : Prop := ((∃ o, H a = some (.frz o (.lst vs))) ∧ r.off a) ∨ KLst C.K a vs
theorem TupAt.sq {C : Ct} {r : Lay} {H : Hp} {a : Addr} {vs : List V} (h : TupAt C r H a vs) : SqT C.K H a vs := .of h.1
theorem KTup.sq {K : PySem.W.Frag} {H : Hp} {a : Addr} {vs : List V} (h : KTup K a vs) : SqT K H a vs := .inr h
theorem LstAt.sq {C : Ct} {r : Lay} {H : Hp} {a : Addr} {vs : List V} (h : LstAt C r H a vs) : SqL C.K H a vs := .of h.1
theorem ScrAt.sq {C : Ct} {r : Lay} {H : Hp} {a : Addr} {vs : List V} (h : ScrAt C r H a vs) : SqL C.K H a vs := h.elim (fun h => .inl (.inr h.1)) .inr
mutual
inductive RD (C : Ct) (r : Lay) (H : Hp) : D → V → Prop
  | non : RD C r H .non .non
  | bl (b : Bool) : RD C r H (.bl b) (.bl b)
  | int (i : Int) : RD C r H (.int i) (.int i)
  | str (s : String) : RD C r H (.str s) (.str (Str.ofString s))
  | tup {a : Addr} {xs : List D} {vs : List V} : TupAt C r H a vs → RDs C r H xs vs → RD C r H (.tup xs) (.ref a)
  | lst {a : Addr} {xs : List D} {vs : List V} : LstAt C r H a vs → RDs C r H xs vs → RD C r H (.lst xs) (.ref a)
  | loc {n : Nat} {a : Addr} : r.1[n]? = some a → RD C r H (.loc n) (.ref a)
  | gl {x : String} {a : Addr} : C.mg (Str.ofString x) = some (.ref a) → RD C r H (.gl x) (.ref a)
  | ty (x : String) : RD C r H (.ty x) (.ty x)
  | scr {a : Addr} (xs : List Int) : ScrAt C r H a (xs.map V.int) → RD C r H (.scr xs) (.ref a)
  | kt {a : Addr} (xs : List String) : KTup C.K a (xs.map fun x => V.str (Str.ofString x)) → RD C r H (.kt xs) (.ref a)
inductive RDs (C : Ct) (r : Lay) (H : Hp) : List D → List V → Prop
  | nil : RDs C r H [] []
  | cons {x : D} {xs : List D} {v : V} {vs : List V} : RD C r H x v → RDs C r H xs vs → RDs C r H (x :: xs) (v :: vs)
end

section
variable {C : Ct} {r r' r2 : Lay} {H H' H2 : Hp}

theorem RDs.length : ∀ {xs : List D} {vs : List V}, RDs C r H xs vs → xs.length = vs.length
  | _, _, .nil => rfl
  | _, _, .cons _ t => by simp [RDs.length t]
theorem RDs.get : ∀ {xs : List D} {vs : List V} {i : Nat} {x : D}, RDs C r H xs vs → xs[i]? = some x → ∃ v, vs[i]? = some v ∧ RD C r H x v
  | _, _, _, _, .nil, e => by simp at e
  | _, _, 0, _, .cons q _, e => by simp at e; subst e; exact ⟨_, rfl, q⟩
  | _, _, i + 1, x, .cons _ t, e => by
    obtain ⟨v, h1, h2⟩ := RDs.get (i := i) (x := x) t (by simpa using e)
    exact ⟨v, by simpa using h1, h2⟩
theorem RDs.getV : ∀ {xs : List D} {vs : List V} {i : Nat} {v : V}, RDs C r H xs vs → vs[i]? = some v → ∃ x, xs[i]? = some x ∧ RD C r H x v
  | _, _, _, _, .nil, e => by simp at e
  | _, _, 0, _, .cons q _, e => by simp at e; subst e; exact ⟨_, rfl, q⟩
  | _, _, i + 1, v, .cons _ t, e => by
    obtain ⟨x, h1, h2⟩ := RDs.getV (i := i) (v := v) t (by simpa using e)
    exact ⟨x, by simpa using h1, h2⟩
theorem RDs.append : ∀ {xs ys : List D} {vs us : List V}, RDs C r H xs vs → RDs C r H ys us → RDs C r H (xs ++ ys) (vs ++ us)
  | _, _, _, _, .nil, s => s
  | _, _, _, _, .cons q t, s => .cons q (RDs.append t s)
theorem RDs.take : ∀ {xs : List D} {vs : List V} (n : Nat), RDs C r H xs vs → RDs C r H (xs.take n) (vs.take n)
  | _, _, 0, _ => .nil
  | _, _, _ + 1, .nil => .nil
  | _, _, n + 1, .cons q t => .cons q (RDs.take n t)
theorem RDs.drop : ∀ {xs : List D} {vs : List V} (n : Nat), RDs C r H xs vs → RDs C r H (xs.drop n) (vs.drop n)
  | _, _, 0, q => q
  | _, _, _ + 1, .nil => .nil
  | _, _, n + 1, .cons _ t => RDs.drop n t
theorem RDs.set {x : D} {v : V} (q : RD C r H x v) : ∀ {xs : List D} {vs : List V} (i : Nat), RDs C r H xs vs → RDs C r H (xs.set i x) (vs.set i v)
  | _, _, _, .nil => .nil
  | _, _, 0, .cons _ t => .cons q t
  | _, _, i + 1, .cons p t => .cons p (RDs.set q i t)
theorem RDs.eraseIdx : ∀ {xs : List D} {vs : List V} (i : Nat), RDs C r H xs vs → RDs C r H (xs.eraseIdx i) (vs.eraseIdx i)
  | _, _, _, .nil => .nil
  | _, _, 0, .cons _ t => t
  | _, _, i + 1, .cons p t => .cons p (RDs.eraseIdx i t)
theorem RDs.reverse : ∀ {xs : List D} {vs : List V}, RDs C r H xs vs → RDs C r H xs.reverse vs.reverse
  | _, _, .nil => .nil
  | _, _, .cons q t => by rw [List.reverse_cons, List.reverse_cons]; exact (RDs.reverse t).append (.cons q .nil)
theorem RDs.ints : ∀ ns : List Int, RDs C r H (ns.map D.int) (ns.map V.int)
  | [] => .nil
  | n :: ns => .cons (.int n) (RDs.ints ns)

/-- later: everything that the store doesn't hold stays, the store grows by new objects -/
structure Fut (r : Lay) (H : Hp) (r' : Lay) (H' : Hp) : Prop where
  keep : ∀ a o, H a = some o → a ∉ r.1 → H' a = some o
  ext : r.1 <+: r'.1
  hid : r'.2 = r.2
  new : ∀ a ∈ r'.1, a ∈ r.1 ∨ H a = none
theorem Fut.refl : Fut r H r H := ⟨fun _ _ h _ => h, List.prefix_rfl, rfl, fun _ h => .inl h⟩
theorem Fut.notin (f : Fut r H r' H') {a : Addr} {o : HO} (h : H a = some o) (n : a ∉ r.1) : a ∉ r'.1 := fun m => by
  rcases f.new a m with q | q
  · exact n q
  · rw [h] at q; cases q
theorem Fut.off (f : Fut r H r' H') {a : Addr} {o : HO} (h : H a = some o) (n : r.off a) : r'.off a := ⟨f.notin h n.1, by rw [f.hid]; exact n.2⟩
theorem Fut.trans (f : Fut r H r' H') (g : Fut r' H' r2 H2) : Fut r H r2 H2 where
  keep := fun a o h n => g.keep a o (f.keep a o h n) (f.notin h n)
  ext := f.ext.trans g.ext
  hid := g.hid.trans f.hid
  new := fun a m => by
    rcases g.new a m with q | q
    · exact f.new a q
    · by_cases n : a ∈ r.1
      · exact .inl n
      · cases e : H a with
        | none => exact .inr rfl
        | some o => rw [f.keep a o e n] at q; cases q
theorem prefix_get {l l' : List Addr} {a : Addr} {n : Nat} (p : l <+: l') (h : l[n]? = some a) : l'[n]? = some a := by
  obtain ⟨t, rfl⟩ := p
  have hl : n < l.length := (List.getElem?_eq_some_iff.mp h).1
  rw [List.getElem?_append_left hl]
  exact h

/-- the same, where what is hidden may change -/
structure FutW (r : Lay) (H : Hp) (r' : Lay) (H' : Hp) : Prop where
  keep : ∀ a o, H a = some o → r.off a → H' a = some o
  ext : r.1 <+: r'.1
  offs : ∀ a o, H a = some o → r.off a → r'.off a
theorem Fut.w (f : Fut r H r' H') : FutW r H r' H' := ⟨fun a o h n => f.keep a o h n.1, f.ext, fun a o h n => f.off h n⟩
theorem FutW.trans (f : FutW r H r' H') (g : FutW r' H' r2 H2) : FutW r H r2 H2 :=
  ⟨fun a o h n => g.keep a o (f.keep a o h n) (f.offs a o h n), f.ext.trans g.ext, fun a o h n => g.offs a o (f.keep a o h n) (f.offs a o h n)⟩
theorem FutW.refl : FutW r H r H := ⟨fun _ _ h _ => h, List.prefix_rfl, fun _ _ _ n => n⟩
theorem TupAt.futW {a : Addr} {vs : List V} (h : TupAt C r H a vs) (f : FutW r H r' H') : TupAt C r' H' a vs := ⟨f.keep a _ h.1 h.2, f.offs a _ h.1 h.2⟩
theorem LstAt.futW {a : Addr} {vs : List V} (h : LstAt C r H a vs) (f : FutW r H r' H') : LstAt C r' H' a vs := ⟨f.keep a _ h.1 h.2, f.offs a _ h.1 h.2⟩
theorem ScrAt.futW {a : Addr} {vs : List V} (h : ScrAt C r H a vs) (f : FutW r H r' H') : ScrAt C r' H' a vs := by
  rcases h with ⟨⟨o, h⟩, n⟩ | h
  · exact .inl ⟨⟨o, f.keep a _ h n⟩, f.offs a _ h n⟩
  · exact .inr h
theorem TupAt.fut {a : Addr} {vs : List V} (h : TupAt C r H a vs) (f : Fut r H r' H') : TupAt C r' H' a vs := h.futW f.w
theorem LstAt.fut {a : Addr} {vs : List V} (h : LstAt C r H a vs) (f : Fut r H r' H') : LstAt C r' H' a vs := h.futW f.w
theorem ScrAt.fut {a : Addr} {vs : List V} (h : ScrAt C r H a vs) (f : Fut r H r' H') : ScrAt C r' H' a vs := h.futW f.w
mutual
theorem RD.futW (f : FutW r H r' H') : ∀ {d : D} {v : V}, RD C r H d v → RD C r' H' d v
  | _, _, .non => .non
  | _, _, .bl b => .bl b
  | _, _, .int i => .int i
  | _, _, .str s => .str s
  | _, _, .tup h t => .tup (h.futW f) (RDs.futW f t)
  | _, _, .lst h t => .lst (h.futW f) (RDs.futW f t)
  | _, _, .loc h => .loc (prefix_get f.ext h)
  | _, _, .gl h => .gl h
  | _, _, .ty x => .ty x
  | _, _, .scr xs h => .scr xs (h.futW f)
  | _, _, .kt xs h => .kt xs h
theorem RDs.futW (f : FutW r H r' H') : ∀ {d : List D} {v : List V}, RDs C r H d v → RDs C r' H' d v
  | _, _, .nil => .nil
  | _, _, .cons h t => .cons (RD.futW f h) (RDs.futW f t)
end
theorem RD.fut (f : Fut r H r' H') {d : D} {v : V} (h : RD C r H d v) : RD C r' H' d v := h.futW f.w
theorem RDs.fut (f : Fut r H r' H') {d : List D} {v : List V} (h : RDs C r H d v) : RDs C r' H' d v := h.futW f.w

/-! ### cells -/
/-- fields by name -/
inductive RFs (C : Ct) (r : Lay) (H : Hp) : List (String × D) → List (Str × V) → Prop
  | nil : RFs C r H [] []
  | cons {f : String} {x : D} {v : V} {xs : List (String × D)} {vs : List (Str × V)} : RD C r H x v → RFs C r H xs vs → RFs C r H ((f, x) :: xs) ((Str.ofString f, v) :: vs)
theorem RFs.futW (f : FutW r H r' H') : ∀ {d : List (String × D)} {v : List (Str × V)}, RFs C r H d v → RFs C r' H' d v
  | _, _, .nil => .nil
  | _, _, .cons h t => .cons (h.futW f) (RFs.futW f t)
theorem RFs.fut (f : Fut r H r' H') {d : List (String × D)} {v : List (Str × V)} (h : RFs C r H d v) : RFs C r' H' d v := h.futW f.w

/-- a key of a dict that is an int or a text; one that is a tuple of such -/
def keyD : Key → D → Prop
  | .inl i, d => d = .int i
  | .inr x, d => ∃ s : String, d = .str s ∧ x = Str.ofString s
inductive keysD : List Key → List D → Prop
  | nil : keysD [] []
  | cons {k : Key} {d : D} {ks : List Key} {ds : List D} : keyD k d → keysD ks ds → keysD (k :: ks) (d :: ds)
def keyTD (ks : List Key) (d : D) : Prop := ∃ ds, d = .tup ds ∧ keysD ks ds
inductive RKs {κ : Type} (p : κ → D → Prop) (C : Ct) (r : Lay) (H : Hp) : List (D × D) → List (κ × V) → Prop
  | nil : RKs p C r H [] []
  | cons {k : κ} {d x : D} {v : V} {xs : List (D × D)} {vs : List (κ × V)} : p k d → RD C r H x v → RKs p C r H xs vs → RKs p C r H ((d, x) :: xs) ((k, v) :: vs)
theorem RKs.futW {κ : Type} {p : κ → D → Prop} (f : FutW r H r' H') : ∀ {d : List (D × D)} {v : List (κ × V)}, RKs p C r H d v → RKs p C r' H' d v
  | _, _, .nil => .nil
  | _, _, .cons k h t => .cons k (h.futW f) (RKs.futW f t)
theorem RKs.fut {κ : Type} {p : κ → D → Prop} (f : Fut r H r' H') {d : List (D × D)} {v : List (κ × V)} (h : RKs p C r H d v) : RKs p C r' H' d v := h.futW f.w
theorem RKs.length {κ : Type} {p : κ → D → Prop} : ∀ {d : List (D × D)} {v : List (κ × V)}, RKs p C r H d v → d.length = v.length
  | _, _, .nil => rfl
  | _, _, .cons _ _ t => by simp [RKs.length t]

def CellR (C : Ct) (r : Lay) (H : Hp) (a : Addr) : Cell → Prop
  | .lst xs => ∃ vs, H a = some (.lst vs) ∧ RDs C r H xs vs
  | .dct false kvs => ∃ vs, H a = some (.dK vs) ∧ RKs keyD C r H kvs vs
  | .dct true kvs => ∃ vs, H a = some (.dT vs) ∧ RKs keyTD C r H kvs vs
  | .obj c fs => ∃ A dx vs, C.mg (Str.ofString c) = some (.ref A) ∧ H a = some (.ins A dx vs) ∧ RFs C r H fs vs

/-- the store lies in the heap -/
structure Rel (C : Ct) (r : Lay) (st : Sto) (H : Hp) : Prop where
  len : r.1.length = st.length
  nd : r.1.Nodup
  hid : ∀ a ∈ r.2, a ∉ r.1 ∧ ∃ o, H a = some o
  cells : ∀ (n : Nat) (c : Cell) (a : Addr), st[n]? = some c → r.1[n]? = some a → CellR C r H a c

theorem CellR.some {a : Addr} {c : Cell} (h : CellR C r H a c) : ∃ o, H a = some o ∧ Mut (some o) := by
  cases c with
  | lst xs => obtain ⟨vs, h, _⟩ := h; exact ⟨_, h, trivial⟩
  | dct t kvs => cases t <;> (obtain ⟨vs, h, _⟩ := h; exact ⟨_, h, trivial⟩)
  | obj c fs => obtain ⟨A, dx, vs, _, h, _⟩ := h; exact ⟨_, h, trivial⟩
theorem CellR.futW {a : Addr} {c : Cell} (h : CellR C r H a c) (f : FutW r H r' H') (e : H' a = H a) : CellR C r' H' a c := by
  cases c with
  | lst xs => obtain ⟨vs, h, q⟩ := h; exact ⟨vs, e.trans h, q.futW f⟩
  | dct t kvs => cases t <;> (obtain ⟨vs, h, q⟩ := h; exact ⟨vs, e.trans h, q.futW f⟩)
  | obj c fs => obtain ⟨A, dx, vs, g, h, q⟩ := h; exact ⟨A, dx, vs, g, e.trans h, q.futW f⟩
theorem CellR.fut {a : Addr} {c : Cell} (h : CellR C r H a c) (f : Fut r H r' H') (e : H' a = H a) : CellR C r' H' a c := h.futW f.w e
theorem Rel.at_ {st : Sto} {n : Nat} {c : Cell} (R : Rel C r st H) (h : st[n]? = some c) : ∃ a, r.1[n]? = some a ∧ CellR C r H a c := by
  have hl : n < r.1.length := by rw [R.len]; exact (List.getElem?_eq_some_iff.mp h).1
  exact ⟨r.1[n], List.getElem?_eq_getElem hl, R.cells n c _ h (List.getElem?_eq_getElem hl)⟩
theorem Rel.mem_some {st : Sto} {a : Addr} (R : Rel C r st H) (h : a ∈ r.1) : ∃ o, H a = some o ∧ Mut (some o) := by
  obtain ⟨n, hn, e⟩ := List.mem_iff_getElem.mp h
  have hl : n < st.length := by rw [← R.len]; exact hn
  exact (R.cells n _ a (List.getElem?_eq_getElem hl) (by rw [List.getElem?_eq_getElem hn, e])).some
theorem Rel.free {st : Sto} {a : Addr} (R : Rel C r st H) (h : H a = none) : r.off a := by
  refine ⟨fun m => ?_, fun m => ?_⟩
  · obtain ⟨o, e, _⟩ := R.mem_some m
    rw [h] at e; cases e
  · obtain ⟨_, o, e⟩ := R.hid a m
    rw [h] at e; cases e
theorem Rel.get_inj {st : Sto} {m n : Nat} {a : Addr} (R : Rel C r st H) (h : r.1[m]? = some a) (h' : r.1[n]? = some a) : m = n := by
  obtain ⟨l1, e1⟩ := List.getElem?_eq_some_iff.mp h
  obtain ⟨l2, e2⟩ := List.getElem?_eq_some_iff.mp h'
  exact (List.getElem_inj R.nd).mp (e1.trans e2.symm)

/-- a new object that is not the store's -/
theorem Fut.frz {p : Addr} {o : HO} (h : H p = none) : Fut r H r (upd H p o) :=
  ⟨fun a u e _ => by rw [upd_ne (ne_of_none e h)]; exact e, List.prefix_rfl, rfl, fun _ m => .inl m⟩
theorem Rel.frz {st : Sto} {p : Addr} {o : HO} (R : Rel C r st H) (h : H p = none) : Rel C r st (upd H p o) :=
  ⟨R.len, R.nd, fun a m => let ⟨h1, u, e⟩ := R.hid a m; ⟨h1, u, by rw [upd_ne (ne_of_none e h)]; exact e⟩, fun n c a h1 h2 => (R.cells n c a h1 h2).fut (Fut.frz h) (upd_ne fun e => by
    subst e
    exact (R.free h).1 (List.mem_of_getElem? h2))⟩
/-- a new object of the store -/
theorem Fut.push {p : Addr} {o : HO} (h : H p = none) : Fut r H (r.1 ++ [p], r.2) (upd H p o) :=
  ⟨fun a u e _ => by rw [upd_ne (ne_of_none e h)]; exact e, ⟨[p], rfl⟩, rfl, fun a m => by
    rcases List.mem_append.mp m with q | q
    · exact .inl q
    · simp at q; subst q; exact .inr h⟩
theorem Rel.push {st : Sto} {p : Addr} {o : HO} {c : Cell} (R : Rel C r st H) (h : H p = none)
    (new : Fut r H (r.1 ++ [p], r.2) (upd H p o) → CellR C (r.1 ++ [p], r.2) (upd H p o) p c) : Rel C (r.1 ++ [p], r.2) (st ++ [c]) (upd H p o) := by
  refine ⟨by simp [R.len], ?_, fun a m => ?_, fun n c' a h1 h2 => ?_⟩
  · show (r.1 ++ [p]).Nodup
    rw [List.nodup_append]
    refine ⟨R.nd, by simp, fun a ha b hb => ?_⟩
    simp at hb
    subst hb
    intro e
    subst e
    exact (R.free h).1 ha
  · obtain ⟨h1, u, e⟩ := R.hid a m
    refine ⟨fun q => ?_, u, by rw [upd_ne (ne_of_none e h)]; exact e⟩
    rcases List.mem_append.mp q with q | q
    · exact h1 q
    · simp at q; subst q; rw [h] at e; cases e
  · replace h2 : (r.1 ++ [p])[n]? = some a := h2
    by_cases hn : n < st.length
    · rw [List.getElem?_append_left hn] at h1
      rw [List.getElem?_append_left (by rw [R.len]; exact hn)] at h2
      exact (R.cells n c' a h1 h2).fut (Fut.push h) (upd_ne fun e => by
        subst e
        exact (R.free h).1 (List.mem_of_getElem? h2))
    · have e : n = st.length := by
        have := (List.getElem?_eq_some_iff.mp h1).1
        simp at this
        omega
      subst e
      simp at h1
      rw [← R.len] at h2
      simp at h2
      subst h1; subst h2
      exact new (Fut.push h)
/-- an object of the store is written -/
theorem Fut.set {n : Nat} {a : Addr} {o : HO} (h : r.1[n]? = some a) : Fut r H r (upd H a o) :=
  ⟨fun b u e m => by
    rw [upd_ne (fun z => m (by subst z; exact List.mem_of_getElem? h))]
    exact e, List.prefix_rfl, rfl, fun _ m => .inl m⟩
theorem Rel.set {st : Sto} {n : Nat} {a : Addr} {o : HO} {c : Cell} (R : Rel C r st H) (h : r.1[n]? = some a) (new : CellR C r (upd H a o) a c) : Rel C r (st.set n c) (upd H a o) := by
  refine ⟨by simp [R.len], R.nd, fun b m => ?_, fun m c' b h1 h2 => ?_⟩
  · obtain ⟨h1, u, e⟩ := R.hid b m
    exact ⟨h1, u, by rw [upd_ne (fun z => h1 (by subst z; exact List.mem_of_getElem? h))]; exact e⟩
  by_cases e : m = n
  · subst e
    rw [h] at h2
    cases h2
    have hl : m < st.length := by rw [← R.len]; exact (List.getElem?_eq_some_iff.mp h).1
    rw [List.getElem?_set_self hl] at h1
    cases h1
    exact new
  · rw [List.getElem?_set_ne (Ne.symm e)] at h1
    exact (R.cells m c' b h1 h2).fut (Fut.set h) (upd_ne fun z => by
      subst z
      exact e (R.get_inj h2 h))

/-! ### what is hidden -/
/-- a new object is hidden -/
theorem FutW.hide {p : Addr} {o : HO} (h : H p = none) : FutW r H (r.1, p :: r.2) (upd H p o) :=
  ⟨fun a u e _ => by rw [upd_ne (ne_of_none e h)]; exact e, List.prefix_rfl, fun a u e n => ⟨n.1, fun m => by
    rcases List.mem_cons.mp m with q | q
    · subst q; rw [h] at e; cases e
    · exact n.2 q⟩⟩
theorem Rel.hide {st : Sto} {p : Addr} {o : HO} (R : Rel C r st H) (h : H p = none) : Rel C (r.1, p :: r.2) st (upd H p o) :=
  ⟨R.len, R.nd, fun a m => by
    rcases List.mem_cons.mp m with q | q
    · subst q; exact ⟨(R.free h).1, o, upd_same⟩
    · obtain ⟨h1, u, e⟩ := R.hid a q
      exact ⟨h1, u, by rw [upd_ne (ne_of_none e h)]; exact e⟩, fun n c a h1 h2 => (R.cells n c a h1 h2).futW (FutW.hide h) (upd_ne fun e => by
    subst e
    exact (R.free h).1 (List.mem_of_getElem? h2))⟩
/-- what is hidden is written -/
theorem FutW.setH {p : Addr} {o : HO} (h : p ∈ r.2) : FutW r H r (upd H p o) :=
  ⟨fun a u e n => by rw [upd_ne (fun z => n.2 (by subst z; exact h))]; exact e, List.prefix_rfl, fun a u e n => n⟩
theorem Rel.setH {st : Sto} {p : Addr} {o : HO} (R : Rel C r st H) (h : p ∈ r.2) : Rel C r st (upd H p o) :=
  ⟨R.len, R.nd, fun a m => by
    obtain ⟨h1, u, e⟩ := R.hid a m
    by_cases q : a = p
    · subst q; exact ⟨h1, o, upd_same⟩
    · exact ⟨h1, u, by rw [upd_ne q]; exact e⟩, fun n c a h1 h2 => (R.cells n c a h1 h2).futW (FutW.setH h) (upd_ne fun e => by
    subst e
    exact (R.hid _ h).1 (List.mem_of_getElem? h2))⟩
/-- what was hidden is data -/
theorem FutW.show_ {p : Addr} {hs : List Addr} (e : r.2 = p :: hs) : FutW r H (r.1, hs) H :=
  ⟨fun _ _ h _ => h, List.prefix_rfl, fun a o _ n => ⟨n.1, fun m => n.2 (by rw [e]; exact List.mem_cons_of_mem _ m)⟩⟩
theorem Rel.show_ {st : Sto} {p : Addr} {hs : List Addr} (R : Rel C r st H) (e : r.2 = p :: hs) : Rel C (r.1, hs) st H :=
  ⟨R.len, R.nd, fun a m => R.hid a (by rw [e]; exact List.mem_cons_of_mem _ m), fun n c a h1 h2 => (R.cells n c a h1 h2).futW (FutW.show_ e) rfl⟩
/-- what was hidden is the store's -/
theorem FutW.adopt {p : Addr} {hs : List Addr} (e : r.2 = p :: hs) : FutW r H (r.1 ++ [p], hs) H :=
  ⟨fun _ _ h _ => h, ⟨[p], rfl⟩, fun a o _ n => ⟨fun m => by
    rcases List.mem_append.mp m with q | q
    · exact n.1 q
    · simp at q; subst q; exact n.2 (by rw [e]; exact List.mem_cons_self), fun m => n.2 (by rw [e]; exact List.mem_cons_of_mem _ m)⟩⟩
theorem Rel.adopt {st : Sto} {p : Addr} {hs : List Addr} {c : Cell} (R : Rel C r st H) (e : r.2 = p :: hs) (hp : p ∉ hs) (new : CellR C (r.1 ++ [p], hs) H p c) : Rel C (r.1 ++ [p], hs) (st ++ [c]) H := by
  have hp1 : p ∉ r.1 := (R.hid p (by rw [e]; exact List.mem_cons_self)).1
  refine ⟨by simp [R.len], ?_, fun a m => ?_, fun n c' a h1 h2 => ?_⟩
  · show (r.1 ++ [p]).Nodup
    rw [List.nodup_append]
    refine ⟨R.nd, by simp, fun a ha b hb => ?_⟩
    simp at hb
    subst hb
    intro e
    subst e
    exact hp1 ha
  · obtain ⟨h1, u, e2⟩ := R.hid a (by rw [e]; exact List.mem_cons_of_mem _ m)
    refine ⟨fun q => ?_, u, e2⟩
    rcases List.mem_append.mp q with q | q
    · exact h1 q
    · simp at q; subst q; exact hp m
  · replace h2 : (r.1 ++ [p])[n]? = some a := h2
    by_cases hn : n < st.length
    · rw [List.getElem?_append_left hn] at h1
      rw [List.getElem?_append_left (by rw [R.len]; exact hn)] at h2
      exact (R.cells n c' a h1 h2).futW (FutW.adopt e) rfl
    · have e : n = st.length := by
        have := (List.getElem?_eq_some_iff.mp h1).1
        simp at this
        omega
      subst e
      simp at h1
      rw [← R.len] at h2
      simp at h2
      subst h1; subst h2
      exact new

/-! ### the frame's names -/
def REp (C : Ct) (r : Lay) (H : Hp) (P : Nat → Prop) (env : St') (s : L2.St) : Prop :=
  env.length = s.length ∧ ∀ (i : Nat) (d : D), P i → env[i]? = some (some d) → ∃ v, s[i]? = some (some v) ∧ RD C r H d v
theorem REp.futW {P : Nat → Prop} {env : St'} {s : L2.St} (h : REp C r H P env s) (f : FutW r H r' H') : REp C r' H' P env s :=
  ⟨h.1, fun i d p e => let ⟨v, h1, h2⟩ := h.2 i d p e; ⟨v, h1, h2.futW f⟩⟩
theorem REp.set {P : Nat → Prop} {env : St'} {s : L2.St} (h : REp C r H P env s) (i : Nat) {d : D} {v : V} (q : RD C r H d v) : REp C r H (fun j => P j ∨ j = i) (env.set i (some d)) (s.set i (some v)) := by
  refine ⟨by simp [h.1], fun j e p hj => ?_⟩
  by_cases ij : i = j
  · subst ij
    have hl : i < env.length := by
      have := (List.getElem?_eq_some_iff.mp hj).1
      simpa using this
    rw [List.getElem?_set_self hl] at hj
    cases hj
    exact ⟨v, by rw [List.getElem?_set_self (by rw [← h.1]; exact hl)], q⟩
  · rw [List.getElem?_set_ne ij] at hj
    obtain ⟨u, h1, h2⟩ := h.2 j e (p.resolve_right (Ne.symm ij)) hj
    exact ⟨u, by rw [List.getElem?_set_ne ij]; exact h1, h2⟩
def RE (C : Ct) (r : Lay) (H : Hp) (env : St') (s : L2.St) : Prop :=
  env.length = s.length ∧ ∀ (i : Nat) (d : D), env[i]? = some (some d) → ∃ v, s[i]? = some (some v) ∧ RD C r H d v
theorem RE.fut {env : St'} {s : L2.St} (h : RE C r H env s) (f : Fut r H r' H') : RE C r' H' env s :=
  ⟨h.1, fun i d e => let ⟨v, h1, h2⟩ := h.2 i d e; ⟨v, h1, h2.fut f⟩⟩
theorem RE.set {env : St'} {s : L2.St} (h : RE C r H env s) (i : Nat) {d : D} {v : V} (q : RD C r H d v) : RE C r H (env.set i (some d)) (s.set i (some v)) := by
  refine ⟨by simp [h.1], fun j e hj => ?_⟩
  by_cases ij : i = j
  · subst ij
    have hl : i < env.length := by
      have := (List.getElem?_eq_some_iff.mp hj).1
      simpa using this
    rw [List.getElem?_set_self hl] at hj
    cases hj
    exact ⟨v, by rw [List.getElem?_set_self (by rw [← h.1]; exact hl)], q⟩
  · rw [List.getElem?_set_ne ij] at hj
    obtain ⟨u, h1, h2⟩ := h.2 j e hj
    exact ⟨u, by rw [List.getElem?_set_ne ij]; exact h1, h2⟩
end
end DL

set_option maxHeartbeats 1000000
/-! DLSyn: the programs that are read, and what must hold so that they reach an end (wp). -/
namespace DL
open PySem PySem.Spec PyProof.Rows L2

inductive Bop where
  | add | sub | mul | fdiv | mod | pow | band | bor | bxor | shl | shr
deriving DecidableEq
inductive Uop where
  | neg | inv
deriving DecidableEq
inductive Cop where
  | eq | ne | lt | le | gt | ge | is_ | isnot | in_ | notin
deriving DecidableEq
/-- built-in functions -/
inductive Bi where
  | len | int_ | str_ | repr_ | tuple_ | list_ | sorted_ | all_ | any_ | sum_ | max1 | min1 | max2 | min2 | abs_ | ord_ | type_ | dict1 | bool_ | set_
deriving DecidableEq
/-- types that isinstance asks for -/
inductive TyN where
  | non | bool | int | str | tuple | list | dict
deriving DecidableEq
def TyN.nm : TyN → String
  | .non => "NoneType" | .bool => "bool" | .int => "int" | .str => "str" | .tuple => "tuple" | .list => "list" | .dict => "dict"
/-- an instance of u is one of t -/
def TyN.sub : TyN → TyN → Bool
  | .non, .non => true | .bool, .bool => true | .bool, .int => true | .int, .int => true | .str, .str => true | .tuple, .tuple => true | .list, .list => true | .dict, .dict => true
  | _, _ => false
/-- methods of built-in types -/
inductive Bm where
  | append | extend | pop0 | pop1 | remove | index | count | get1 | get2 | setdefault | join | split1 | find | reverse | insert | update | clear | dpop1
deriving DecidableEq
inductive MTy where
  | list | str | dict
def MTy.nm : MTy → String
  | .list => "list" | .str => "str" | .dict => "dict"
def Bm.ty : Bm → MTy
  | .append | .extend | .pop0 | .pop1 | .remove | .index | .count | .reverse | .insert => .list
  | .join | .split1 | .find => .str
  | _ => .dict
def Bm.nm : Bm → String
  | .append => "append" | .extend => "extend" | .pop0 => "pop" | .pop1 => "pop" | .remove => "remove" | .index => "index" | .count => "count" | .get1 => "get" | .get2 => "get" | .setdefault => "setdefault" | .join => "join" | .split1 => "split"
  | .find => "find" | .reverse => "reverse" | .insert => "insert" | .update => "update" | .clear => "clear" | .dpop1 => "pop"

mutual
inductive E where
  | non | bl (b : Bool) | int (i : Int) | str (s : String)
  | v (i : Nat) | g (x : String)
  | tup (es : Es) | lst (m : Bool) (es : Es) | dct (t : Bool) (ks vs : Es)
  | bin (o : Bop) (a b : E) | un (o : Uop) (a : E)
  | cmp (o : Cop) (a b : E) | cmp2 (o o' : Cop) (a b c : E)
  | and_ (es : Es) | or_ (es : Es) | not_ (a : E) | ife (c a b : E)
  | ix (a i : E) | sl (m : Bool) (a : E) (lo hi : Eo) | rev (m : Bool) (a : E)
  | isi (a : E) (t : TyN)
  | call (f : String) (es : Es) | new (c : String) (es : Es)
  | fld (o : E) (f : String) | meth (m : String) (o : E) (es : Es) | bm (b : Bm) (o : E) (es : Es)
  | bi (m : Bool) (f : Bi) (es : Es)
  | lc (m : Bool) (elt : E) (t : T) (it : It) (c : Eo)
  | lc2 (m : Bool) (elt : E) (t : T) (it : It) (c : Eo) (t2 : T) (it2 : It) (c2 : Eo)
  | dc (k v : E) (t : T) (it : It) (c : Eo)
inductive Es where
  | nil | cons (e : E) (es : Es)
inductive Eo where
  | none | some (e : E)
/-- targets: names and tuples of names -/
inductive T where
  | v (i : Nat) | tup (ts : Ts)
inductive Ts where
  | nil | cons (t : T) (ts : Ts)
/-- what a for walks -/
inductive It where
  | e (x : E) | range1 (a : E) | range2 (a b : E) | range3 (a b c : E) | zip (a b : E) | enum (a : E) | rev (a : E) | items (a : E) | values (a : E)
end

/-- further targets of an assignment -/
inductive Tg where
  | t (t : T) | ix (a i : E) | fld (o : E) (f : String)

mutual
inductive S where
  | asg (t : Tg) (e : E) | par (i j : Nat) (es : Es) | aug (o : Bop) (t : Tg) (e : E) | ex (e : E) | ret (e : E) | ret0
  | ite (c : E) (a b : Ss) | for_ (t : T) (it : It) (body : Ss) | while_ (c : E) (body : Ss)
  | brk | cont | pass | raise (c : String) (es : Es) | try_ (body : Ss) (hs : Hs) | del (a i : E)
inductive Ss where
  | nil | cons (s : S) (ss : Ss) | stop (ss : Ss)
/-- except clauses: the class, the slot of the name, the suite -/
inductive Hs where
  | nil | cons (c : String) (n : Option Nat) (body : Ss) (hs : Hs)
end

def Es.of : List E → Es
  | [] => .nil
  | e :: es => .cons e (Es.of es)
def Ss.of : List S → Ss
  | [] => .nil
  | e :: es => .cons e (Ss.of es)
def Ts.of : List T → Ts
  | [] => .nil
  | e :: es => .cons e (Ts.of es)

/-! ### values -/
mutual
def D.beq : D → D → Bool
  | .non, .non => true
  | .bl a, .bl b => a == b
  | .int a, .int b => a == b
  | .str a, .str b => a == b
  | .tup a, .tup b => D.beqs a b
  | .lst a, .lst b => D.beqs a b
  | .loc a, .loc b => a == b
  | .gl a, .gl b => a == b
  | .ty a, .ty b => a == b
  | .scr a, .scr b => decide (a = b)
  | .kt a, .kt b => decide (a = b)
  | _, _ => false
def D.beqs : List D → List D → Bool
  | [], [] => true
  | x :: xs, y :: ys => D.beq x y && D.beqs xs ys
  | _, _ => false
end
mutual
theorem D.beq_iff : ∀ a b : D, D.beq a b = true ↔ a = b
  | .non, b => by cases b <;> simp [D.beq]
  | .bl a, b => by cases b <;> simp [D.beq]
  | .int a, b => by cases b <;> simp [D.beq]
  | .str a, b => by cases b <;> simp [D.beq]
  | .loc a, b => by cases b <;> simp [D.beq]
  | .gl a, b => by cases b <;> simp [D.beq]
  | .ty a, b => by cases b <;> simp [D.beq]
  | .scr a, b => by cases b <;> simp [D.beq]
  | .kt a, b => by cases b <;> simp [D.beq]
  | .tup a, b => by cases b <;> simp [D.beq, D.beqs_iff a]
  | .lst a, b => by cases b <;> simp [D.beq, D.beqs_iff a]
theorem D.beqs_iff : ∀ a b : List D, D.beqs a b = true ↔ a = b
  | [], b => by cases b <;> simp [D.beqs]
  | x :: xs, b => by cases b <;> simp [D.beqs, D.beq_iff x, D.beqs_iff xs]
end
instance : DecidableEq D := fun a b => decidable_of_iff _ (D.beq_iff a b)

mutual
/-- a == b, of data -/
def D.eqv : D → D → Bool
  | .non, .non => true
  | .bl a, .bl b => a == b
  | .bl a, .int j => (if a then 1 else 0) == j
  | .int i, .bl b => i == (if b then 1 else 0)
  | .int a, .int b => a == b
  | .str a, .str b => a == b
  | .tup a, .tup b => D.eqvs a b
  | .lst a, .lst b => D.eqvs a b
  | _, _ => false
def D.eqvs : List D → List D → Bool
  | [], [] => true
  | x :: xs, y :: ys => D.eqv x y && D.eqvs xs ys
  | _, _ => false
end
mutual
/-- no changeable object, no class in it -/
def D.pure : D → Bool
  | .loc _ | .gl _ | .ty _ | .scr _ | .kt _ => false
  | .tup xs | .lst xs => D.pures xs
  | _ => true
def D.pures : List D → Bool
  | [] => true
  | x :: xs => D.pure x && D.pures xs
end
mutual
def D.depth : D → Nat
  | .tup xs | .lst xs => D.depths xs + 1
  | _ => 0
def D.depths : List D → Nat
  | [] => 0
  | x :: xs => max (D.depth x) (D.depths xs)
end
/-- an item of an order: an int or a text -/
def D.flat : D → Bool
  | .int _ | .str _ => true
  | _ => false

/-- a < b of texts -/
def ltS (a b : String) : Bool := decide (a.toList.map Char.toNat < b.toList.map Char.toNat)
mutual
/-- a < b of data, where it is told: ints, texts, tuples of such (none: not told) -/
def D.lt : D → D → Option Bool
  | .int a, .int b => some (decide (a < b))
  | .str a, .str b => some (ltS a b)
  | .tup a, .tup b => D.lts a b
  | _, _ => none
def D.lts : List D → List D → Option Bool
  | [], [] => some false
  | [], _ :: _ => some true
  | _ :: _, [] => some false
  | x :: xs, y :: ys => (match D.lts xs ys with
    | none => none
    | some t => if D.eqv x y then some t else D.lt x y)
end

/-! as the library's data -/
mutual
def toP : D → PyData
  | .bl b => .bool b
  | .int i => .int i
  | .str s => .str (Str.ofString s)
  | .tup xs => .tuple (toPs xs)
  | .lst xs => .list (toPs xs)
  | _ => .none
def toPs : List D → List PyData
  | [] => []
  | x :: xs => toP x :: toPs xs
end
/-- sorted: what it asks, what it gives -/
def srtOk (xs : List D) : Prop := D.pures xs = true ∧ xs.length ≤ sizeLine ∧ D.depths xs ≤ 60 ∧ PySem.W.AllAlike (xs.map toP) ∧ PySem.W.Sortable (xs.map toP)
noncomputable def sortD (xs : List D) : List D := xs.mergeSort (PySem.W.dataLe false toP)
/-- the items of a list, a tuple -/
def seqOf (st : Sto) : D → Option (List D)
  | .tup xs => some xs
  | .lst xs => some xs
  | .loc n => (match st[n]? with
    | some (.lst xs) => some xs
    | _ => none)
  | _ => none
def cutD {α : Type} (xs : List α) (lo hi : Option Int) : List α := (xs.drop (HT.sIx xs.length 0 lo)).take (HT.sIx xs.length xs.length hi - HT.sIx xs.length 0 lo)

/-! ### small readings -/
def onBl : D → (Bool → Prop) → Prop
  | .bl b, k => k b
  | _, _ => False
def onInt : D → (Int → Prop) → Prop
  | .int i, k => k i
  | _, _ => False
def onStr : D → (String → Prop) → Prop
  | .str s, k => k s
  | _, _ => False
def onSome {α : Type} : Option α → (α → Prop) → Prop
  | some a, k => k a
  | none, _ => False
def onLst : Cell → (List D → Prop) → Prop
  | .lst xs, k => k xs
  | _, _ => False
def onDct : Cell → (Bool → List (D × D) → Prop) → Prop
  | .dct t xs, k => k t xs
  | _, _ => False
def ifB : Bool → Prop → Prop → Prop
  | true, p, _ => p
  | false, _, q => q
def getS : St' → Nat → (D → Prop) → Prop
  | [], _, _ => False
  | x :: _, 0, k => onSome x k
  | _ :: xs, n + 1, k => getS xs n k
def setS : St' → Nat → D → St'
  | [], _, _ => []
  | _ :: xs, 0, d => some d :: xs
  | x :: xs, n + 1, d => x :: setS xs n d
theorem setS_eq : ∀ (env : St') (i : Nat) (d : D), setS env i d = env.set i (some d)
  | [], _, _ => rfl
  | _ :: _, 0, _ => rfl
  | x :: xs, n + 1, d => by rw [setS, setS_eq xs n d]; rfl
theorem getS_iff : ∀ {env : St'} {i : Nat} {k : D → Prop}, getS env i k → ∃ d, env[i]? = some (some d) ∧ k d
  | some d :: _, 0, k, h => ⟨d, rfl, h⟩
  | none :: _, 0, _, h => h.elim
  | x :: xs, n + 1, k, h => by
    obtain ⟨d, e, h⟩ := getS_iff (env := xs) (i := n) (k := k) h
    exact ⟨d, by simpa using e, h⟩
  | [], _, _, h => h.elim
theorem ifB_intro {b : Bool} {p q : Prop} (h1 : b = true → p) (h2 : b = false → q) : ifB b p q := by
  cases b with
  | true => exact h1 rfl
  | false => exact h2 rfl
theorem ifB_t {b : Bool} {p q : Prop} (h : b = true) (hp : p) : ifB b p q := by subst h; exact hp
theorem ifB_f {b : Bool} {p q : Prop} (h : b = false) (hq : q) : ifB b p q := by subst h; exact hq

/-- fields -/
def getF : List (String × D) → String → (D → Prop) → Prop
  | [], _, _ => False
  | (g, d) :: fs, f, k => ifB (decide (g = f)) (k d) (getF fs f k)
def putF' : List (String × D) → String → D → List (String × D)
  | [], f, d => [(f, d)]
  | (g, x) :: fs, f, d => if g = f then (g, d) :: fs else (g, x) :: putF' fs f d

/-- dicts: keys are data without truth values -/
def dGet : List (D × D) → D → Option D
  | [], _ => none
  | (k, v) :: r, d => if k = d then some v else dGet r d
def dPut (m : List (D × D)) (d x : D) : List (D × D) :=
  if (m.any fun p => decide (p.1 = d)) = true then m.map (fun p => if p.1 = d then (p.1, x) else p) else m ++ [(d, x)]
def dDel (m : List (D × D)) (d : D) : List (D × D) := m.filter fun p => decide (p.1 ≠ d)
/-- a key: an int, a text; a tuple of such -/
def D.key1 : D → Bool
  | .int _ | .str _ => true
  | _ => false
def D.key (t : Bool) (d : D) : Bool :=
  match t with
  | false => D.key1 d
  | true => (match d with
    | .tup xs => xs.all D.key1
    | _ => false)

/-! ### operators -/
def big64 (i : Int) : Bool := decide (-(2 ^ 64) < i ∧ i < 2 ^ 64)
def wpBin (o : Bop) (x y : D) (st : Sto) (Q : D → Sto → Prop) : Prop :=
  match o with
  | .add => (match x, y with
    | .int i, .int j => Q (.int (i + j)) st
    | .str a, .str b => a.length + b.length ≤ sizeLine ∧ Q (.str (a ++ b)) st
    | .tup a, .tup b => a.length + b.length ≤ sizeLine ∧ Q (.tup (a ++ b)) st
    | .lst a, .lst b => a.length + b.length ≤ sizeLine ∧ Q (.lst (a ++ b)) st
    | _, _ => False)
  | .sub => (match x, y with
    | .int i, .int j => Q (.int (i - j)) st
    | _, _ => False)
  | .mul => (match x, y with
    | .int i, .int j => (big64 i || big64 j) = true ∧ Q (.int (i * j)) st
    | .lst a, .int k => (-(2 ^ 63) ≤ k ∧ k < 2 ^ 63 ∧ a.length * k.toNat ≤ sizeLine) ∧ Q (.lst (List.replicate k.toNat a).flatten) st
    | _, _ => False)
  | .fdiv => (match x, y with
    | .int i, .int j => (0 < j ∧ j < 1073741824) ∧ Q (.int (i / j)) st
    | _, _ => False)
  | .mod => (match x, y with
    | .int i, .int j => 0 < j ∧ Q (.int (i % j)) st
    | _, _ => False)
  | .pow => (match x, y with
    | .int i, .int j => (0 ≤ j ∧ j ≤ 1000000 ∧ i.natAbs < 2 ^ 64) ∧ Q (.int (i ^ j.toNat)) st
    | _, _ => False)
  | .band => (match x, y with
    | .int i, .int j => Q (.int (Builtin.bitAnd i j)) st
    | _, _ => False)
  | .bor => (match x, y with
    | .int i, .int j => Q (.int (Builtin.bitOr i j)) st
    | _, _ => False)
  | .bxor => (match x, y with
    | .int i, .int j => Q (.int (Builtin.bitXor i j)) st
    | _, _ => False)
  | .shl => (match x, y with
    | .int i, .int j => (0 ≤ j ∧ j ≤ 1000000 ∧ i.natAbs < 2 ^ 64) ∧ Q (.int (i * 2 ^ j.toNat)) st
    | _, _ => False)
  | .shr => (match x, y with
    | .int i, .int j => 0 ≤ j ∧ Q (.int (i / 2 ^ j.toNat)) st
    | _, _ => False)
def wpUn (o : Uop) (x : D) (Q : D → Prop) : Prop :=
  match o with
  | .neg => onInt x fun i => Q (.int (-i))
  | .inv => onInt x fun i => Q (.int (Builtin.bitNot i))

/-- data to compare: what the store has of it is taken out -/
def flatOf (st : Sto) : D → D
  | .loc n => (match st[n]? with
    | some (.lst xs) => .lst xs
    | _ => .loc n)
  | d => d
def cmpD (x : D) : Bool := D.pure x && decide (D.depth x ≤ 60)
def wpOrd (f : Bool → Bool) (a b : D) (Q : D → Prop) : Prop :=
  match a, b with
  | .int i, .int j => Q (.bl (f (decide (i < j))))
  | .str s, .str t => Q (.bl (f (ltS s t)))
  | .tup xs, .tup ys => (cmpD (.tup xs) = true ∧ cmpD (.tup ys) = true) ∧ onSome (D.lts xs ys) fun c => Q (.bl (f c))
  | _, _ => False
def wpIn (neg : Bool) (x y : D) (st : Sto) (Q : D → Prop) : Prop :=
  match y with
  | .str z => onStr x fun s => (match s.toList with
    | [c] => Q (.bl (neg != decide (c ∈ z.toList)))
    | _ => False)
  | .tup ys => (cmpD x = true ∧ cmpD (.lst ys) = true) ∧ Q (.bl (neg != ys.any fun z => D.eqv z x))
  | .lst ys => (cmpD x = true ∧ cmpD (.lst ys) = true) ∧ Q (.bl (neg != ys.any fun z => D.eqv z x))
  | .kt ys => cmpD x = true ∧ Q (.bl (neg != ys.any fun z => D.eqv (.str z) x))
  | .loc n => onSome st[n]? fun c => (match c with
    | .lst ys => (cmpD x = true ∧ cmpD (.lst ys) = true) ∧ Q (.bl (neg != ys.any fun z => D.eqv z x))
    | .dct t kvs => D.key t x = true ∧ Q (.bl (neg != (dGet kvs x).isSome))
    | _ => False)
  | _ => False
def isNonD : D → Bool
  | .non => true
  | _ => false
def wpCmp (o : Cop) (x y : D) (st : Sto) (Q : D → Prop) : Prop :=
  match o with
  | .eq => (match x, y with
    | .int i, .int j => Q (.bl (decide (i = j)))
    | .str i, .str j => Q (.bl (decide (i = j)))
    | x, y => (cmpD (flatOf st x) = true ∧ cmpD (flatOf st y) = true) ∧ Q (.bl (D.eqv (flatOf st x) (flatOf st y))))
  | .ne => (match x, y with
    | .int i, .int j => Q (.bl (!decide (i = j)))
    | .str i, .str j => Q (.bl (!decide (i = j)))
    | x, y => (cmpD (flatOf st x) = true ∧ cmpD (flatOf st y) = true) ∧ Q (.bl (!D.eqv (flatOf st x) (flatOf st y))))
  | .lt => wpOrd (fun c => c) x y Q
  | .gt => wpOrd (fun c => c) y x Q
  | .le => (match x, y with
    | .int i, .int j => Q (.bl (decide (i ≤ j)))
    | x, y => wpOrd (fun c => !c) y x Q)
  | .ge => (match x, y with
    | .int i, .int j => Q (.bl (decide (j ≤ i)))
    | x, y => wpOrd (fun c => !c) x y Q)
  | .is_ => (match x, y with
    | .bl a, .bl b => Q (.bl (a == b))
    | .ty a, .ty b => Q (.bl (decide (a = b)))
    | x, .non => Q (.bl (isNonD x))
    | _, _ => False)
  | .isnot => (match x, y with
    | .bl a, .bl b => Q (.bl (!(a == b)))
    | .ty a, .ty b => Q (.bl (!decide (a = b)))
    | x, .non => Q (.bl (!isNonD x))
    | _, _ => False)
  | .in_ => wpIn false x y st Q
  | .notin => wpIn true x y st Q

def wpIx (a i : D) (st : Sto) (Q : D → Prop) : Prop :=
  match a with
  | .tup xs => onInt i fun i => onSome (atI xs i) Q
  | .lst xs => onInt i fun i => onSome (atI xs i) Q
  | .scr xs => onInt i fun i => onSome (atI xs i) fun n => Q (.int n)
  | .kt xs => onInt i fun i => onSome (atI xs i) fun n => Q (.str n)
  | .str s => onInt i fun i => s.length ≤ sizeLine ∧ onSome (atI s.toList i) fun c => Q (.str (String.ofList [c]))
  | .loc n => onSome st[n]? fun c => (match c with
    | .lst xs => onInt i fun i => onSome (atI xs i) Q
    | .dct t kvs => D.key t i = true ∧ onSome (dGet kvs i) Q
    | _ => False)
  | _ => False
/-- a new list: data, or in the store -/
def newL (m : Bool) (xs : List D) (st : Sto) (Q : D → Sto → Prop) : Prop :=
  match m with
  | false => Q (.lst xs) st
  | true => Q (.loc st.length) (st ++ [.lst xs])
def wpSl (m : Bool) (a : D) (lo hi : Option Int) (st : Sto) (Q : D → Sto → Prop) : Prop :=
  match a with
  | .tup xs => Q (.tup (cutD xs lo hi)) st
  | .str s => s.length ≤ sizeLine ∧ Q (.str (String.ofList (cutD s.toList lo hi))) st
  | .lst xs => newL m (cutD xs lo hi) st Q
  | .loc n => onSome st[n]? fun c => onLst c fun xs => newL m (cutD xs lo hi) st Q
  | _ => False
def wpRev (m : Bool) (a : D) (st : Sto) (Q : D → Sto → Prop) : Prop :=
  match a with
  | .tup xs => Q (.tup xs.reverse) st
  | .lst xs => newL m xs.reverse st Q
  | .loc n => onSome st[n]? fun c => onLst c fun xs => newL m xs.reverse st Q
  | _ => False
/-- isinstance: the kinds that are told -/
def tyOf (st : Sto) : D → Option TyN
  | .non => some .non
  | .bl _ => some .bool
  | .int _ => some .int
  | .str _ => some .str
  | .tup _ => some .tuple
  | .lst _ => some .list
  | .scr _ => some .list
  | .kt _ => some .tuple
  | .loc n => (match st[n]? with
    | some (.lst _) => some .list
    | some (.dct _ _) => some .dict
    | _ => none)
  | _ => none

def isBlD : D → Bool
  | .bl _ => true
  | _ => false
def blD : D → Bool
  | .bl b => b
  | _ => false
def wpBi (m : Bool) (f : Bi) (ds : List D) (st : Sto) (Q : D → Sto → Prop) : Prop :=
  match f with
  | .len => (match ds with
    | [.str s] => s.length ≤ sizeLine ∧ Q (.int s.length) st
    | [.tup xs] => Q (.int xs.length) st
    | [.lst xs] => Q (.int xs.length) st
    | [.scr xs] => Q (.int xs.length) st
    | [.kt xs] => Q (.int xs.length) st
    | [.loc n] => onSome st[n]? fun c => (match c with
      | .lst xs => Q (.int xs.length) st
      | .dct _ kvs => Q (.int kvs.length) st
      | _ => False)
    | _ => False)
  | .int_ => (match ds with
    | [.int i] => Q (.int i) st
    | [.bl b] => Q (.int (if b then 1 else 0)) st
    | _ => False)
  | .tuple_ => (match ds with
    | [.tup xs] => Q (.tup xs) st
    | [.lst xs] => Q (.tup xs) st
    | [.loc n] => onSome st[n]? fun c => onLst c fun xs => Q (.tup xs) st
    | _ => False)
  | .list_ => (match ds with
    | [.tup xs] => newL m xs st Q
    | [.lst xs] => newL m xs st Q
    | [.loc n] => onSome st[n]? fun c => (match c with
      | .lst xs => newL m xs st Q
      | _ => False)
    | _ => False)
  | .all_ => (match ds with
    | [.lst xs] => (xs.all isBlD) = true ∧ Q (.bl (xs.all blD)) st
    | _ => False)
  | .any_ => (match ds with
    | [.lst xs] => (xs.all isBlD) = true ∧ Q (.bl (xs.any blD)) st
    | _ => False)
  | .max2 => (match ds with
    | [.int i, .int j] => Q (.int (max i j)) st
    | _ => False)
  | .min2 => (match ds with
    | [.int i, .int j] => Q (.int (min i j)) st
    | _ => False)
  | .abs_ => (match ds with
    | [.int i] => Q (.int (if i < 0 then -i else i)) st
    | _ => False)
  | .sorted_ => (match ds with
    | [d] => onSome (seqOf st d) fun xs => srtOk xs ∧ newL m (sortD xs) st Q
    | _ => False)
  | .repr_ => (match ds with
    | [.bl b] => Q (.str (match b with | true => "True" | false => "False")) st
    | _ => False)
  | .ord_ => (match ds with
    | [.str s] => (match s.toList with
      | [c] => Q (.int c.toNat) st
      | _ => False)
    | _ => False)
  | _ => False

/-- what may leave: class and fields -/
abbrev EX := Xc → Sto → Prop
structure Lib where
  call : String → List D → Sto → (D → Sto → Prop) → EX → Prop
  meth : String → String → List D → Sto → (D → Sto → Prop) → EX → Prop
  glob : String → Option D
  exf : String → Option (List String)
  sub : String → String → Option Bool

/-- the object is of the method's type -/
def bmTy (f : Bm) (o : D) (st : Sto) : Prop :=
  match f.ty with
  | .list => (match o with
    | .loc n => onSome st[n]? fun c => onLst c fun _ => True
    | _ => False)
  | .str => (match o with
    | .str _ => True
    | _ => False)
  | .dict => (match o with
    | .loc n => onSome st[n]? fun c => onDct c fun _ _ => True
    | _ => False)
def wpBm (f : Bm) (o : D) (ds : List D) (st : Sto) (Q : D → Sto → Prop) : Prop :=
  match f with
  | .append => (match o, ds with
    | .loc n, [d] => onSome st[n]? fun c => onLst c fun xs => xs.length < sizeLine ∧ Q .non (st.set n (.lst (xs ++ [d])))
    | _, _ => False)
  | .extend => (match o, ds with
    | .loc n, [d] => onSome st[n]? fun c => onLst c fun xs => (match d with
      | .lst ys => xs.length + ys.length ≤ sizeLine ∧ Q .non (st.set n (.lst (xs ++ ys)))
      | .loc m => onSome st[m]? fun c => onLst c fun ys => xs.length + ys.length ≤ sizeLine ∧ Q .non (st.set n (.lst (xs ++ ys)))
      | _ => False)
    | _, _ => False)
  | .pop0 => (match o, ds with
    | .loc n, [] => onSome st[n]? fun c => onLst c fun xs => onSome xs.getLast? fun d => Q d (st.set n (.lst xs.dropLast))
    | _, _ => False)
  | .pop1 => (match o, ds with
    | .loc n, [d] => onInt d fun i => onSome st[n]? fun c => onLst c fun xs => (-(2 ^ 63) ≤ i ∧ i < 2 ^ 63) ∧ onSome (ixN xs.length i) fun k => onSome xs[k]? fun d => Q d (st.set n (.lst (xs.eraseIdx k)))
    | _, _ => False)
  | .get2 => (match o, ds with
    | .loc n, [k, x] => onSome st[n]? fun c => onDct c fun t kvs => D.key t k = true ∧ Q ((dGet kvs k).getD x) st
    | _, _ => False)
  | .get1 => (match o, ds with
    | .loc n, [k] => onSome st[n]? fun c => onDct c fun t kvs => D.key t k = true ∧ Q ((dGet kvs k).getD .non) st
    | _, _ => False)
  | .remove => (match o, ds with
    | .loc n, [d] => onSome st[n]? fun c => onLst c fun xs => cmpD d = true ∧ cmpD (.lst xs) = true ∧ onSome (xs.findIdx? fun y => D.eqv y d) fun j => Q .non (st.set n (.lst (xs.eraseIdx j)))
    | _, _ => False)
  | .join => (match o, ds with
    | .str z, [d] => onSome (seqOf st d) fun xs => ∃ ys : List String, xs = ys.map D.str ∧ (ys.map (·.length)).sum + ys.length * z.length ≤ 16777216 ∧ Q (.str (String.intercalate z ys)) st
    | _, _ => False)
  | _ => False

/-! ### what is walked -/
def strItems (s : String) : List D := s.toList.map fun c => .str (String.ofList [c])
/-- the items, and what must stay while they are walked -/
def itOf (d : D) (st : Sto) (k : List D → List (Nat × Cell) → Prop) : Prop :=
  match d with
  | .tup xs => k xs []
  | .lst xs => k xs []
  | .scr xs => k (xs.map D.int) []
  | .kt xs => k (xs.map D.str) []
  | .str s => s.length ≤ sizeLine ∧ k (strItems s) []
  | .loc n => onSome st[n]? fun c => (match c with
    | .lst xs => k xs [(n, .lst xs)]
    | _ => False)
  | _ => False
def seqK (d : D) (st : Sto) (k : List D → List (Nat × Cell) → Prop) : Prop :=
  match d with
  | .tup xs => k xs []
  | .lst xs => k xs []
  | .loc n => onSome st[n]? fun c => onLst c fun xs => k xs [(n, .lst xs)]
  | _ => False
def lstK (d : D) (st : Sto) (k : List D → List (Nat × Cell) → Prop) : Prop :=
  match d with
  | .lst xs => k xs []
  | .loc n => onSome st[n]? fun c => onLst c fun xs => k xs [(n, .lst xs)]
  | _ => False
def zipK (x y : D) (st : Sto) (k : List D → List D → List (Nat × Cell) → Prop) : Prop :=
  match x with
  | .tup xs => (match y with
    | .tup ys => k xs ys []
    | _ => False)
  | x => lstK x st fun xs s1 => lstK y st fun ys s2 => k xs ys (s1 ++ s2)
def rangeD (lo : Int) (n : Nat) : List D := (List.range n).map fun i => .int (lo + (i : Nat))

/-! ### targets -/
mutual
def wpT : T → D → St' → (St' → Prop) → Prop
  | .v i, d, env, k => k (setS env i d)
  | .tup ts, d, env, k => (match d with
    | .tup xs => wpTs ts xs env k
    | _ => False)
def wpTs : Ts → List D → St' → (St' → Prop) → Prop
  | .nil, xs, env, k => (match xs with
    | [] => k env
    | _ => False)
  | .cons t ts, xs, env, k => (match xs with
    | x :: xs => wpT t x env fun env => wpTs ts xs env k
    | [] => False)
end

/-- what must stay while it is walked -/
def stayOk : List (Nat × Cell) → Sto → Prop → Prop
  | [], _, p => p
  | (n, c) :: l, st, p => st[n]? = some c ∧ stayOk l st p
/-- a comprehension's turns -/
def lcGo (stay : List (Nat × Cell)) (bind : D → (St' → Prop) → Prop) (c : St' → Sto → (Bool → Sto → Prop) → Prop) (elt : St' → Sto → (D → Sto → Prop) → Prop) : List D → List D → Sto → (List D → Sto → Prop) → Prop
  | [], acc, st, Q => stayOk stay st (Q acc.reverse st)
  | x :: xs, acc, st, Q => stayOk stay st (bind x fun env => c env st fun b st => ifB b (elt env st fun d st => acc.length < sizeLine ∧ lcGo stay bind c elt xs (d :: acc) st Q) (lcGo stay bind c elt xs acc st Q))

mutual
def wpE (L : Lib) : E → St' → Sto → (D → Sto → Prop) → EX → Prop
  | .non, _, st, Q, _ => Q .non st
  | .bl b, _, st, Q, _ => Q (.bl b) st
  | .int i, _, st, Q, _ => Q (.int i) st
  | .str s, _, st, Q, _ => Q (.str s) st
  | .v i, env, st, Q, _ => getS env i fun d => Q d st
  | .g x, _, st, Q, _ => onSome (L.glob x) fun d => Q d st
  | .tup es, env, st, Q, X => wpEs L es env st (fun ds st => ds.length ≤ sizeLine ∧ Q (.tup ds) st) X
  | .lst m es, env, st, Q, X => wpEs L es env st (fun ds st => ds.length ≤ sizeLine ∧ newL m ds st Q) X
  | .dct t ks vs, env, st, Q, X => wpEs L ks env st (fun ds st => wpEs L vs env st (fun us st => (ds.all (D.key t)) = true ∧ ds.length = us.length ∧ ds.length ≤ 1000 ∧ Q (.loc st.length) (st ++ [.dct t ((ds.zip us).foldl (fun m p => dPut m p.1 p.2) [])])) X) X
  | .bin o a b, env, st, Q, X => wpE L a env st (fun x st => wpE L b env st (fun y st => wpBin o x y st Q) X) X
  | .un o a, env, st, Q, X => wpE L a env st (fun x st => wpUn o x fun d => Q d st) X
  | .cmp o a b, env, st, Q, X => wpE L a env st (fun x st => wpE L b env st (fun y st => wpCmp o x y st fun d => Q d st) X) X
  | .cmp2 o o' a b c, env, st, Q, X => wpE L a env st (fun x st => wpE L b env st (fun y st => wpCmp o x y st fun d => onBl d fun t => ifB t (wpE L c env st (fun z st => wpCmp o' y z st fun d => Q d st) X) (Q (.bl false) st)) X) X
  | .and_ es, env, st, Q, X => wpAnd L es env st Q X
  | .or_ es, env, st, Q, X => wpOr L es env st Q X
  | .not_ a, env, st, Q, X => wpE L a env st (fun x st => onBl x fun b => Q (.bl (!b)) st) X
  | .ife c a b, env, st, Q, X => wpE L c env st (fun x st => onBl x fun t => ifB t (wpE L a env st Q X) (wpE L b env st Q X)) X
  | .ix a i, env, st, Q, X => wpE L a env st (fun x st => wpE L i env st (fun y st => wpIx x y st fun d => Q d st) X) X
  | .sl m a lo hi, env, st, Q, X => wpE L a env st (fun x st => wpEo L lo env st (fun l st => wpEo L hi env st (fun h st => wpSl m x l h st Q) X) X) X
  | .rev m a, env, st, Q, X => wpE L a env st (fun x st => wpRev m x st Q) X
  | .isi a t, env, st, Q, X => wpE L a env st (fun x st => onSome (tyOf st x) fun u => Q (.bl (TyN.sub u t)) st) X
  | .call f es, env, st, Q, X => wpEs L es env st (fun ds st => L.call f ds st Q X) X
  | .new c es, env, st, Q, X => wpEs L es env st (fun ds st => L.meth c "__init__" (.loc st.length :: ds) (st ++ [.obj c []]) (fun d st' => (match d with
      | .non => Q (.loc st.length) st'
      | _ => False)) X) X
  | .fld o f, env, st, Q, X => wpE L o env st (fun x st => (match x with
      | .loc n => onSome st[n]? fun c => (match c with
        | .obj _ fs => getF fs f fun d => Q d st
        | _ => False)
      | _ => False)) X
  | .meth m o es, env, st, Q, X => wpE L o env st (fun x st => (match x with
      | .loc n => onSome st[n]? fun c => (match c with
        | .obj c _ => wpEs L es env st (fun ds st => L.meth c m (.loc n :: ds) st Q X) X
        | _ => False)
      | _ => False)) X
  | .bm b o es, env, st, Q, X => wpE L o env st (fun x st => bmTy b x st ∧ wpEs L es env st (fun ds st => wpBm b x ds st Q) X) X
  | .bi m f es, env, st, Q, X => wpEs L es env st (fun ds st => wpBi m f ds st Q) X
  | .lc m elt t it c, env, st, Q, X => wpIt L it env st (fun xs stay st => lcGo stay (fun d k => wpT t d env k) (fun env st k => wpC L c env st (fun b st => k b st) fun _ _ => False) (fun env st k => wpE L elt env st k fun _ _ => False) xs [] st fun ds st => newL m ds st Q) X
  | .lc2 .., _, _, _, _ => False
  | .dc .., _, _, _, _ => False
def wpEs (L : Lib) : Es → St' → Sto → (List D → Sto → Prop) → EX → Prop
  | .nil, _, st, Q, _ => Q [] st
  | .cons e es, env, st, Q, X => wpE L e env st (fun d st => wpEs L es env st (fun ds st => Q (d :: ds) st) X) X
def wpEo (L : Lib) : Eo → St' → Sto → (Option Int → Sto → Prop) → EX → Prop
  | .none, _, st, Q, _ => Q none st
  | .some e, env, st, Q, X => wpE L e env st (fun d st => onInt d fun i => Q (some i) st) X
/-- a comprehension's test -/
def wpC (L : Lib) : Eo → St' → Sto → (Bool → Sto → Prop) → EX → Prop
  | .none, _, st, Q, _ => Q true st
  | .some e, env, st, Q, X => wpE L e env st (fun d st => onBl d fun b => Q b st) X
def wpAnd (L : Lib) : Es → St' → Sto → (D → Sto → Prop) → EX → Prop
  | .nil, _, _, _, _ => False
  | .cons e .nil, env, st, Q, X => wpE L e env st Q X
  | .cons e es, env, st, Q, X => wpE L e env st (fun d st => onBl d fun b => ifB b (wpAnd L es env st Q X) (Q (.bl false) st)) X
def wpOr (L : Lib) : Es → St' → Sto → (D → Sto → Prop) → EX → Prop
  | .nil, _, _, _, _ => False
  | .cons e .nil, env, st, Q, X => wpE L e env st Q X
  | .cons e es, env, st, Q, X => wpE L e env st (fun d st => onBl d fun b => ifB b (Q (.bl true) st) (wpOr L es env st Q X)) X
def wpIt (L : Lib) : It → St' → Sto → (List D → List (Nat × Cell) → Sto → Prop) → EX → Prop
  | .e x, env, st, Q, X => wpE L x env st (fun d st => itOf d st fun xs stay => Q xs stay st) X
  | .range1 a, env, st, Q, X => wpE L a env st (fun d st => onInt d fun n => (-(2 ^ 62) ≤ n ∧ n < 2 ^ 62) ∧ Q (rangeD 0 n.toNat) [] st) X
  | .range2 a b, env, st, Q, X => wpE L a env st (fun d st => onInt d fun lo => wpE L b env st (fun d st => onInt d fun hi => (-(2 ^ 62) ≤ lo ∧ lo < 2 ^ 62 ∧ -(2 ^ 62) ≤ hi ∧ hi < 2 ^ 62) ∧ Q (rangeD lo (hi - lo).toNat) [] st) X) X
  | .zip a b, env, st, Q, X => wpE L a env st (fun x st => wpE L b env st (fun y st => zipK x y st fun xs ys stay => Q ((xs.zip ys).map fun p => .tup [p.1, p.2]) stay st) X) X
  | .enum a, env, st, Q, X => wpE L a env st (fun x st => lstK x st fun xs s1 => Q (xs.zipIdx.map fun p => .tup [.int p.2, p.1]) s1 st) X
  | .rev a, env, st, Q, X => wpE L a env st (fun x st => seqK x st fun xs s1 => Q xs.reverse s1 st) X
  | .items a, env, st, Q, X => wpE L a env st (fun x st => (match x with
      | .loc n => onSome st[n]? fun c => onDct c fun t kvs => Q (kvs.map fun p => .tup [p.1, p.2]) [(n, .dct t kvs)] st
      | _ => False)) X
  | .values a, env, st, Q, X => wpE L a env st (fun x st => (match x with
      | .loc n => onSome st[n]? fun c => onDct c fun t kvs => Q (kvs.map (·.2)) [(n, .dct t kvs)] st
      | _ => False)) X
  | .range3 .., _, _, _, _ => False
end

/-! ### statements -/
/-- a place where evaluation halts -/
structure Stop (p : Prop) : Prop where
  go : p
structure Post where
  nx : St' → Sto → Prop
  rt : D → Sto → Prop
  bk : St' → Sto → Prop := fun _ _ => False
  ct : St' → Sto → Prop := fun _ _ => False
  ex : Xc → St' → Sto → Prop

def wpSet (o i v : D) (st : Sto) (Q : Sto → Prop) : Prop :=
  match o with
  | .loc n => onSome st[n]? fun c => (match c with
    | .lst xs => onInt i fun i => onSome (ixN xs.length i) fun j => Q (st.set n (.lst (xs.set j v)))
    | .dct t kvs => D.key t i = true ∧ kvs.length < sizeLine ∧ Q (st.set n (.dct t (dPut kvs i v)))
    | _ => False)
  | _ => False
def wpFldS (o : D) (f : String) (v : D) (st : Sto) (Q : Sto → Prop) : Prop :=
  match o with
  | .loc n => onSome st[n]? fun c => (match c with
    | .obj c fs => fs.length < 900 ∧ Q (st.set n (.obj c (putF' fs f v)))
    | _ => False)
  | _ => False
def wpTg (L : Lib) : Tg → D → St' → Sto → (St' → Sto → Prop) → EX → Prop
  | .t t, d, env, st, k, _ => wpT t d env fun env => k env st
  | .ix a i, d, env, st, k, X => wpE L a env st (fun o st => wpE L i env st (fun i st => wpSet o i d st fun st => k env st) X) X
  | .fld o f, d, env, st, k, X => wpE L o env st (fun o st => wpFldS o f d st fun st => k env st) X
/-- x op= e: of a list in the store the items are put behind it -/
def wpAug (o : Bop) (x y : D) (st : Sto) (Q : D → Sto → Prop) : Prop :=
  match o with
  | .add => onInt x fun i => onInt y fun j => Q (.int (i + j)) st
  | .sub => onInt x fun i => onInt y fun j => Q (.int (i - j)) st
  | _ => False
def wpAugS (L : Lib) (o : Bop) : Tg → E → St' → Sto → (St' → Sto → Prop) → EX → Prop
  | .t (.v i), e, env, st, k, X => getS env i fun x => wpE L e env st (fun y st => wpAug o x y st fun d st => k (setS env i d) st) X
  | .t (.tup _), _, _, _, _, _ => False
  | .ix a i, e, env, st, k, X => wpE L a env st (fun a st => wpE L i env st (fun i st => (match a with
      | .loc n => wpIx (.loc n) i st fun x => wpE L e env st (fun y st => wpAug o x y st fun d st => wpSet (.loc n) i d st fun st => k env st) X
      | _ => False)) X) X
  | .fld a f, e, env, st, k, X => wpE L a env st (fun a st => (match a with
      | .loc n => onSome st[n]? fun c => (match c with
        | .obj _ fs => getF fs f fun x => wpE L e env st (fun y st => wpAug o x y st fun d st => wpFldS a f d st fun st => k env st) X
        | _ => False)
      | _ => False)) X

def forGo (stay : List (Nat × Cell)) (bind : D → St' → (St' → Prop) → Prop) (body : St' → Sto → Post → Prop) : List D → St' → Sto → Post → Prop
  | [], env, st, P => stayOk stay st (P.nx env st)
  | x :: xs, env, st, P => stayOk stay st (bind x env fun env => body env st { P with nx := fun env st => forGo stay bind body xs env st P, ct := fun env st => forGo stay bind body xs env st P, bk := P.nx })
def whileGo (c : St' → Sto → (Bool → Sto → Prop) → (Xc → St' → Sto → Prop) → Prop) (body : St' → Sto → Post → Prop) : Nat → St' → Sto → Post → Prop
  | 0, _, _, _ => False
  | n + 1, env, st, P => c env st (fun b st => ifB b (body env st { P with nx := fun env st => whileGo c body n env st P, ct := fun env st => whileGo c body n env st P, bk := P.nx }) (P.nx env st)) P.ex

mutual
def wpS (L : Lib) : S → St' → Sto → Post → Prop
  | .asg t e, env, st, P => wpE L e env st (fun d st => wpTg L t d env st P.nx fun x st => P.ex x env st) fun x st => P.ex x env st
  | .par i j es, env, st, P => wpEs L es env st (fun ds st => (match ds with
      | [a, b] => P.nx (setS (setS env i a) j b) st
      | _ => False)) fun x st => P.ex x env st
  | .aug o t e, env, st, P => wpAugS L o t e env st P.nx fun x st => P.ex x env st
  | .ex e, env, st, P => wpE L e env st (fun _ st => P.nx env st) fun x st => P.ex x env st
  | .ret e, env, st, P => wpE L e env st P.rt fun x st => P.ex x env st
  | .ret0, _, st, P => P.rt .non st
  | .ite c a b, env, st, P => wpE L c env st (fun d st => onBl d fun t => ifB t (wpSs L a env st P) (wpSs L b env st P)) fun x st => P.ex x env st
  | .for_ t it body, env, st, P => wpIt L it env st (fun xs stay st => forGo stay (wpT t) (fun env st P => wpSs L body env st P) xs env st P) fun x st => P.ex x env st
  | .while_ c body, env, st, P => ∃ n, whileGo (fun env st k X => wpE L c env st (fun d st => onBl d fun b => k b st) fun x st => X x env st) (fun env st P => wpSs L body env st P) n env st P
  | .brk, env, st, P => P.bk env st
  | .cont, env, st, P => P.ct env st
  | .pass, env, st, P => P.nx env st
  | .raise c es, env, st, P => wpEs L es env st (fun ds st => onSome (L.exf c) fun fs => fs.length = ds.length ∧ P.ex ⟨c, fs.zip ds⟩ env st) fun x st => P.ex x env st
  | .try_ body hs, env, st, P => wpSs L body env st { P with ex := fun x env st => wpHs L hs x env st P }
  | .del a i, env, st, P => wpE L a env st (fun a st => wpE L i env st (fun i st => (match a with
      | .loc n => onSome st[n]? fun c => onDct c fun t kvs => D.key t i = true ∧ (dGet kvs i).isSome = true ∧ P.nx env (st.set n (.dct t (dDel kvs i)))
      | _ => False)) fun x st => P.ex x env st) fun x st => P.ex x env st
def wpSs (L : Lib) : Ss → St' → Sto → Post → Prop
  | .nil, env, st, P => P.nx env st
  | .cons s ss, env, st, P => wpS L s env st { P with nx := fun env st => wpSs L ss env st P }
  | .stop ss, env, st, P => Stop (wpSs L ss env st P)
def wpHs (L : Lib) : Hs → Xc → St' → Sto → Post → Prop
  | .nil, x, env, st, P => P.ex x env st
  | .cons c _ body hs, x, env, st, P => onSome (L.sub x.cls c) fun b => ifB b (wpSs L body env st { P with ex := fun _ _ _ => False }) (wpHs L hs x env st P)
end

/-- a def: the slots' number, the parameters' number, the body -/
structure Fd where
  ps : List String
  ns : List String
  body : Ss
def Fd.env (f : Fd) (ds : List D) : St' := ds.map some ++ List.replicate (f.ns.length - ds.length) none
/-- what a call of it does -/
def Fd.run (f : Fd) (L : Lib) (ds : List D) (st : Sto) (Q : D → Sto → Prop) (X : EX) : Prop :=
  wpSs L f.body (f.env ds) st { nx := fun _ st => Q .non st, rt := Q, ex := fun x _ st => X x st }
end DL

set_option maxHeartbeats 1000000
/-! DLOps: the operators, by values. -/
namespace DL
open PySem PySem.Spec PyProof.Rows L2

/-- what is wanted of a value and a store is what is wanted in the heap -/
def Kp (C : Ct) (r : Lay) (H : Hp) (Q' : D → Sto → Prop) (Q : VK) : Prop :=
  ∀ (r' : Lay) (st' : Sto) (H' : Hp) (d : D) (v : V), Fut r H r' H' → Rel C r' st' H' → RD C r' H' d v → Q' d st' → Q v H'
theorem Kp.now {C : Ct} {r : Lay} {H : Hp} {Q' : D → Sto → Prop} {Q : VK} {st : Sto} {d : D} {v : V} (k : Kp C r H Q' Q) (R : Rel C r st H) (q : RD C r H d v) (h : Q' d st) : Q v H := k r st H d v .refl R q h
/-- a new tuple -/
theorem Kp.newT {C : Ct} {r : Lay} {H : Hp} {Q' : D → Sto → Prop} {Q : VK} {st : Sto} {xs : List D} {vs : List V} (k : Kp C r H Q' Q) (R : Rel C r st H) (q : RDs C r H xs vs) (h : Q' (.tup xs) st) :
    ∀ p, H p = none → Q (.ref p) (upd H p (.tup vs)) := fun p hp =>
  k r st _ _ _ (Fut.frz hp) (R.frz hp) (.tup ⟨upd_same, R.free hp⟩ (q.fut (Fut.frz hp))) h
/-- a new list, data or in the store -/
theorem Kp.newL {C : Ct} {r : Lay} {H : Hp} {Q' : D → Sto → Prop} {Q : VK} {st : Sto} {m : Bool} {xs : List D} {vs : List V} (k : Kp C r H Q' Q) (R : Rel C r st H) (q : RDs C r H xs vs) (h : newL m xs st Q') :
    ∀ p, H p = none → Q (.ref p) (upd H p (.lst vs)) := fun p hp => by
  cases m with
  | false => exact k r st _ _ _ (Fut.frz hp) (R.frz hp) (.lst ⟨upd_same, R.free hp⟩ (q.fut (Fut.frz hp))) h
  | true =>
    have h2 : Q' (.loc st.length) (st ++ [.lst xs]) := h
    refine k (r.1 ++ [p], r.2) (st ++ [.lst xs]) _ (.loc st.length) _ (Fut.push hp) (R.push (c := .lst xs) hp fun f => ⟨vs, upd_same, q.fut f⟩) (.loc ?_) h2
    show (r.1 ++ [p])[st.length]? = _
    rw [← R.len]
    simp
theorem Kp.mono {C : Ct} {r r' : Lay} {H H' : Hp} {Q' : D → Sto → Prop} {Q : VK} (k : Kp C r H Q' Q) (f : Fut r H r' H') : Kp C r' H' Q' Q := fun r2 st2 H2 d v g R q h => k r2 st2 H2 d v (f.trans g) R q h

section
variable {C : Ct} {r : Lay} {H : Hp}
/-- a list that is read -/
theorem seq_at {st : Sto} {d : D} {xs : List D} {v : V} (R : Rel C r st H) (q : RD C r H d v) (e : seqOf st d = some xs) :
    ∃ a vs, v = .ref a ∧ RDs C r H xs vs ∧ ((∃ ys, d = .tup ys ∧ TupAt C r H a vs) ∨ SqL C.K H a vs) := by
  cases q with
  | tup h t => cases e; exact ⟨_, _, rfl, t, .inl ⟨_, rfl, h⟩⟩
  | lst h t => cases e; exact ⟨_, _, rfl, t, .inr h.sq⟩
  | @loc n a h =>
    have e : (match st[n]? with
      | some (.lst xs) => some xs
      | _ => none) = some xs := e
    cases hc : st[n]? with
    | none => rw [hc] at e; cases e
    | some c =>
      rw [hc] at e
      cases c with
      | lst ys =>
        cases e
        obtain ⟨vs, h1, h2⟩ := R.cells n _ a hc h
        exact ⟨a, vs, rfl, h2, .inr (SqL.of h1)⟩
      | _ => cases e
  | _ => cases e
theorem cell_at {st : Sto} {n : Nat} {c : Cell} {v : V} (R : Rel C r st H) (q : RD C r H (.loc n) v) (e : st[n]? = some c) : ∃ a, v = .ref a ∧ r.1[n]? = some a ∧ CellR C r H a c := by
  cases q with
  | loc h => exact ⟨_, rfl, h, R.cells n c _ e h⟩
theorem onSome_iff {α : Type} {o : Option α} {k : α → Prop} (h : onSome o k) : ∃ a, o = some a ∧ k a := by
  cases o with
  | none => exact h.elim
  | some a => exact ⟨a, rfl, h⟩
theorem onInt_iff {d : D} {k : Int → Prop} (h : onInt d k) : ∃ i, d = .int i ∧ k i := by
  cases d <;> first | exact ⟨_, rfl, h⟩ | exact h.elim
theorem onBl_iff {d : D} {k : Bool → Prop} (h : onBl d k) : ∃ b, d = .bl b ∧ k b := by
  cases d <;> first | exact ⟨_, rfl, h⟩ | exact h.elim
theorem onStr_iff {d : D} {k : String → Prop} (h : onStr d k) : ∃ b, d = .str b ∧ k b := by
  cases d <;> first | exact ⟨_, rfl, h⟩ | exact h.elim
theorem onLst_iff {d : Cell} {k : List D → Prop} (h : onLst d k) : ∃ b, d = .lst b ∧ k b := by
  cases d <;> first | exact ⟨_, rfl, h⟩ | exact h.elim
theorem onDct_iff {d : Cell} {k : Bool → List (D × D) → Prop} (h : onDct d k) : ∃ t b, d = .dct t b ∧ k t b := by
  cases d <;> first | exact ⟨_, _, rfl, h⟩ | exact h.elim
theorem ifB_iff {b : Bool} {p q : Prop} (h : ifB b p q) : if b = true then p else q := by
  cases b with
  | true => rw [if_pos rfl]; exact h
  | false => rw [if_neg (by decide)]; exact h
end

/-! ### texts -/
theorem ofS_cps (s : String) : (Str.ofString s).cps.toList = s.toList.map Char.toNat := by rw [Str.ofString_eq_toList]
theorem ofS_len (s : String) : (Str.ofString s).length = s.length := by
  rw [Str.ofString_eq_toList]
  show (List.map Char.toNat s.toList).toArray.size = _
  rw [List.size_toArray, List.length_map, String.length_toList]
theorem ofS_mk {x : Str} {l : List Char} (h : x.cps.toList = l.map Char.toNat) : x = Str.ofString (String.ofList l) := by
  rw [Str.ofString_eq_toList, String.toList_ofList, ← h]
theorem toNat_inj' {a b : Char} (h : a.toNat = b.toNat) : a = b := by
  apply Char.ext
  exact UInt32.toNat_inj.mp h
theorem map_toNat_inj : ∀ {a b : List Char}, a.map Char.toNat = b.map Char.toNat → a = b
  | [], [], _ => rfl
  | [], _ :: _, h => by cases h
  | _ :: _, [], h => by cases h
  | x :: a, y :: b, h => by
    simp only [List.map_cons, List.cons.injEq] at h
    rw [toNat_inj' h.1, map_toNat_inj h.2]
theorem ofS_inj {a b : String} (h : Str.ofString a = Str.ofString b) : a = b := by
  have e := congrArg (fun x : Str => x.cps.toList) h
  simp only [ofS_cps] at e
  exact String.toList_inj.mp (map_toNat_inj e)
theorem ofS_eq (a b : String) : (Str.ofString a = Str.ofString b) ↔ a = b := ⟨ofS_inj, fun h => by rw [h]⟩
theorem ofS_append (a b : String) : Str.ofString a ++ Str.ofString b = Str.ofString (a ++ b) := by
  have e : (Str.ofString a ++ Str.ofString b).cps.toList = (a ++ b).toList.map Char.toNat := by
    show ((Str.ofString a).cps ++ (Str.ofString b).cps).toList = _
    rw [Array.toList_append, ofS_cps, ofS_cps, String.toList_append, List.map_append]
  rw [ofS_mk e, String.ofList_toList]

/-! ### data -/
theorem toPs_map : ∀ xs : List D, toPs xs = xs.map toP
  | [] => rfl
  | x :: xs => by rw [toPs, toPs_map xs]; rfl
section
variable {C : Ct} {r : Lay} {H : Hp}
mutual
theorem RD.dp : ∀ {d : D} {v : V}, D.pure d = true → RD C r H d v → Dp C.K H v (toP d)
  | _, _, _, .non => .non
  | _, _, _, .bl b => .bl b
  | _, _, _, .int i => .int i
  | _, _, _, .str s => .str _
  | _, _, p, .tup h t => .tup h.sq (RDs.dp (by simpa [D.pure] using p) t)
  | _, _, p, .lst h t => .lst h.sq (RDs.dp (by simpa [D.pure] using p) t)
  | _, _, p, .loc _ => by cases p
  | _, _, p, .gl _ => by cases p
  | _, _, p, .ty _ => by cases p
  | _, _, p, .scr _ _ => by cases p
  | _, _, p, .kt _ _ => by cases p
theorem RDs.dp : ∀ {d : List D} {v : List V}, D.pures d = true → RDs C r H d v → DpAll C.K H v (toPs d)
  | _, _, _, .nil => .nil
  | _, _, p, .cons h t => by
    rw [D.pures, Bool.and_eq_true] at p
    exact .cons (RD.dp p.1 h) (RDs.dp p.2 t)
end
end
mutual
theorem toP_depth : ∀ d : D, (toP d).depth = d.depth
  | .non | .bl _ | .int _ | .str _ | .loc _ | .gl _ | .ty _ | .scr _ | .kt _ => by simp [toP, PyData.depth, D.depth]
  | .tup xs => by simp [toP, PyData.depth, D.depth, toPs_depth xs]
  | .lst xs => by simp [toP, PyData.depth, D.depth, toPs_depth xs]
theorem toPs_depth : ∀ d : List D, PyData.depthAll (toPs d) = D.depths d
  | [] => by simp [toPs, PyData.depthAll, D.depths]
  | x :: xs => by simp [toPs, PyData.depthAll, D.depths, toP_depth x, toPs_depth xs]
end
theorem strOk_ofS (s : String) : PyData.strOk (Str.ofString s) = true := by
  unfold PyData.strOk
  rw [Str.ofString_eq_toList]
  rw [Array.all_eq_true_iff_forall_mem]
  intro x hx
  simp only [List.mem_toArray, List.mem_map] at hx
  obtain ⟨c, _, rfl⟩ := hx
  have hc := c.valid
  simp only [UInt32.isValidChar, Nat.isValidChar] at hc
  apply decide_eq_true
  show c.val.toNat < _
  omega
mutual
theorem toP_lay : ∀ d : D, (toP d).canLay0 = true
  | .non | .bl _ | .int _ | .loc _ | .gl _ | .ty _ | .scr _ | .kt _ => by simp [toP, PyData.canLay0]
  | .str s => by simp only [toP, PyData.canLay0]; exact strOk_ofS s
  | .tup xs => by simp [toP, PyData.canLay0, toPs_lay xs]
  | .lst xs => by simp [toP, PyData.canLay0, toPs_lay xs]
theorem toPs_lay : ∀ d : List D, PyData.canLayAll0 (toPs d) = true
  | [] => by simp [toPs, PyData.canLayAll0]
  | x :: xs => by simp [toPs, PyData.canLayAll0, toP_lay x, toPs_lay xs]
end
theorem toP_shaped {d : D} (h : d.depth ≤ 64) : SeqAt.shaped (toP d) = true := by
  unfold SeqAt.shaped
  rw [Bool.and_eq_true]
  exact ⟨toP_lay d, decide_eq_true (by rw [toP_depth]; exact h)⟩
mutual
theorem toP_eqv : ∀ a b : D, D.pure a = true → D.pure b = true → PyData.eqv (toP a) (toP b) = D.eqv a b
  | .non, b, _, hb => by cases b <;> first | rfl | cases hb
  | .bl x, b, _, hb => by cases b <;> first | rfl | cases hb
  | .int x, b, _, hb => by cases b <;> first | rfl | cases hb
  | .str x, b, _, hb => by
    cases b <;> first | rfl | cases hb | skip
    rename_i y
    show (Str.ofString x == Str.ofString y) = (x == y)
    by_cases e : x = y
    · subst e; simp
    · have : Str.ofString x ≠ Str.ofString y := fun h => e (ofS_inj h)
      rw [beq_eq_false_iff_ne.mpr e, beq_eq_false_iff_ne.mpr this]
  | .tup xs, b, ha, hb => by
    cases b <;> first | rfl | cases hb | skip
    rename_i ys
    simp only [toP, PyData.eqv, D.eqv]
    exact toPs_eqv xs ys (by simpa [D.pure] using ha) (by simpa [D.pure] using hb)
  | .lst xs, b, ha, hb => by
    cases b <;> first | rfl | cases hb | skip
    rename_i ys
    simp only [toP, PyData.eqv, D.eqv]
    exact toPs_eqv xs ys (by simpa [D.pure] using ha) (by simpa [D.pure] using hb)
  | .loc _, _, ha, _ => by cases ha
  | .gl _, _, ha, _ => by cases ha
  | .ty _, _, ha, _ => by cases ha
  | .scr _, _, ha, _ => by cases ha
  | .kt _, _, ha, _ => by cases ha
theorem toPs_eqv : ∀ a b : List D, D.pures a = true → D.pures b = true → PyData.eqvAll (toPs a) (toPs b) = D.eqvs a b
  | [], [], _, _ => by simp [toPs, PyData.eqvAll, D.eqvs]
  | [], _ :: _, _, _ => by simp [toPs, PyData.eqvAll, D.eqvs]
  | _ :: _, [], _, _ => by simp [toPs, PyData.eqvAll, D.eqvs]
  | x :: xs, y :: ys, ha, hb => by
    rw [D.pures, Bool.and_eq_true] at ha hb
    simp only [toPs, PyData.eqvAll, D.eqvs]
    rw [toP_eqv x y ha.1 hb.1, toPs_eqv xs ys ha.2 hb.2]
end

theorem RDs.rep {C : Ct} {r : Lay} {H : Hp} {xs : List D} {vs : List V} (h : RDs C r H xs vs) : ∀ k : Nat, RDs C r H (List.replicate k xs).flatten (List.replicate k vs).flatten
  | 0 => .nil
  | k + 1 => by
    rw [List.replicate_succ, List.replicate_succ, List.flatten_cons, List.flatten_cons]
    exact h.append (RDs.rep h k)
section
variable {C : Ct} {X : Cx}

/-! ### + - * .. -/
def Bop.op : Bop → Operator
  | .add => .Add | .sub => .Sub | .mul => .Mult | .fdiv => .FloorDiv | .mod => .Mod | .pow => .Pow | .band => .BitAnd | .bor => .BitOr | .bxor => .BitXor | .shl => .LShift | .shr => .RShift
def rBin (C : Ct) (o : Bop) : R2 := fun x y H Q => ∃ r st dx dy Q', Rel C r st H ∧ RD C r H dx x ∧ RD C r H dy y ∧ wpBin o dx dy st Q' ∧ Kp C r H Q' Q
theorem mulOk {i j : Int} (h : (big64 i || big64 j) = true) : IntMulOk i j := by
  rw [Bool.or_eq_true] at h
  rcases h with h | h
  · obtain ⟨h1, h2⟩ := of_decide_eq_true h
    exact .of_left (intBits_le_64 h1 h2)
  · obtain ⟨h1, h2⟩ := of_decide_eq_true h
    exact .of_right (intBits_le_64 h1 h2)
theorem or_bin (hK : X.K = C.K) (o : Bop) : OpR X (binaryOp o.op) (rBin C o) := by
  intro pins s σ H x y v u Q I rx ry h
  obtain ⟨r, st, dx, dy, Q', R, qx, qy, hw, k⟩ := h
  cases o with
  | add =>
    cases qx <;> cases qy <;> first | exact hw.elim | skip
    · exact op_add pins s σ H _ _ v u Q I rx ry ⟨_, _, rfl, rfl, k.now R (.int _) hw⟩
    · refine op_add_str pins s σ H _ _ v u Q I rx ry ⟨_, _, rfl, rfl, ?_, ?_⟩
      · rw [ofS_len, ofS_len]; exact hw.1
      · rw [ofS_append]; exact k.now R (.str _) hw.2
    · rename_i a xs vs ha ta b ys us hb tb
      refine op_catA pins s σ H _ _ v u Q I rx ry ⟨_, _, vs, us, rfl, rfl, by rw [hK]; exact ha.sq, by rw [hK]; exact hb.sq, ?_, fun e => ?_, fun _ e => ?_, fun _ _ => ?_⟩
      · rw [← ta.length, ← tb.length]; exact hw.1
      · subst e; cases ta; exact k.now R (.tup hb tb) hw.2
      · subst e
        cases tb
        refine k.now R (.tup ha ta) ?_
        have := hw.2
        rw [List.append_nil] at this
        exact this
      · exact k.newT R (ta.append tb) hw.2
    · rename_i a xs vs ha ta b ys us hb tb
      refine op_cat pins s σ H _ _ v u Q I rx ry ⟨_, _, vs, us, rfl, rfl, ha.1, hb.1, ?_, k.newL (m := false) R (ta.append tb) hw.2⟩
      rw [← ta.length, ← tb.length]
      exact hw.1
  | sub =>
    cases qx <;> cases qy <;> first | exact hw.elim | skip
    exact op_sub pins s σ H _ _ v u Q I rx ry ⟨_, _, rfl, rfl, k.now R (.int _) hw⟩
  | mul =>
    cases qx <;> cases qy <;> first | exact hw.elim | skip
    · obtain ⟨t, rfl⟩ := rx
      obtain ⟨t', rfl⟩ := ry
      exact mul_int ⟨.int _, H, I.tok _, ⟨_, rfl⟩, k.now R (.int _) hw.2⟩ (mulOk hw.1)
    · rename_i a xs vs ha ta j
      obtain ⟨⟨h1, h2, hz⟩, hw⟩ := hw
      exact op_rep pins s σ H _ _ v u Q I rx ry ⟨_, _, vs, rfl, rfl, ha.1, h1, h2, by rw [← ta.length]; exact hz, k.newL (m := false) R (RDs.rep ta j.toNat) hw⟩
  | fdiv =>
    cases qx <;> cases qy <;> first | exact hw.elim | skip
    exact op_fdiv pins s σ H _ _ v u Q I rx ry ⟨_, _, rfl, rfl, hw.1, k.now R (.int _) hw.2⟩
  | mod =>
    cases qx <;> cases qy <;> first | exact hw.elim | skip
    exact op_mod pins s σ H _ _ v u Q I rx ry ⟨_, _, rfl, rfl, hw.1, k.now R (.int _) hw.2⟩
  | pow =>
    cases qx <;> cases qy <;> first | exact hw.elim | skip
    exact op_pow pins s σ H _ _ v u Q I rx ry ⟨_, _, rfl, rfl, hw.1, k.now R (.int _) hw.2⟩
  | band =>
    cases qx <;> cases qy <;> first | exact hw.elim | skip
    exact op_and pins s σ H _ _ v u Q I rx ry ⟨_, _, rfl, rfl, k.now R (.int _) hw⟩
  | bor =>
    cases qx <;> cases qy <;> first | exact hw.elim | skip
    exact op_or pins s σ H _ _ v u Q I rx ry ⟨_, _, rfl, rfl, k.now R (.int _) hw⟩
  | bxor =>
    cases qx <;> cases qy <;> first | exact hw.elim | skip
    exact op_xor pins s σ H _ _ v u Q I rx ry ⟨_, _, rfl, rfl, k.now R (.int _) hw⟩
  | shl =>
    cases qx <;> cases qy <;> first | exact hw.elim | skip
    exact op_shl pins s σ H _ _ v u Q I rx ry ⟨_, _, rfl, rfl, hw.1, k.now R (.int _) hw.2⟩
  | shr =>
    cases qx <;> cases qy <;> first | exact hw.elim | skip
    exact op_shr pins s σ H _ _ v u Q I rx ry ⟨_, _, rfl, rfl, hw.1, k.now R (.int _) hw.2⟩
end
end DL

set_option maxHeartbeats 1000000
/-! DLCmp: comparisons, by values. -/
namespace DL
open PySem PySem.Spec PyProof.Rows L2

section
variable {C : Ct} {X : Cx} {r : Lay} {H : Hp}

/-- data with what the store has of it -/
theorem RD.flat {st : Sto} {d : D} {v : V} (R : Rel C r st H) (q : RD C r H d v) (p : D.pure (flatOf st d) = true) : Dp C.K H v (toP (flatOf st d)) := by
  cases q with
  | @loc n a h =>
    have p : D.pure (match st[n]? with
      | some (.lst xs) => .lst xs
      | _ => .loc n) = true := p
    show Dp C.K H (.ref a) (toP (match st[n]? with
      | some (.lst xs) => .lst xs
      | _ => .loc n))
    cases hc : st[n]? with
    | none => rw [hc] at p; cases p
    | some c =>
      rw [hc] at p
      cases c with
      | lst xs =>
        obtain ⟨vs, h1, h2⟩ := R.cells n _ a hc h
        exact .lst (SqL.of h1) (h2.dp (by simpa [D.pure] using p))
      | _ => cases p
  | non => exact RD.dp (r := r) p .non
  | bl b => exact RD.dp (r := r) p (.bl b)
  | int b => exact RD.dp (r := r) p (.int b)
  | str b => exact RD.dp (r := r) p (.str b)
  | tup h t => exact RD.dp p (.tup h t)
  | lst h t => exact RD.dp p (.lst h t)
  | gl h => cases p
  | ty x => cases p
  | scr xs h => cases p
  | kt xs h => cases p
theorem cmpD_iff {d : D} (h : cmpD d = true) : D.pure d = true ∧ d.depth ≤ 60 := by
  unfold cmpD at h
  rw [Bool.and_eq_true] at h
  exact ⟨h.1, of_decide_eq_true h.2⟩

theorem RD.scal {d : D} {v : V} (q : RD C r H d v) : True := trivial

/-! ### order -/
mutual
theorem D.depth_mem : ∀ {x : D} {xs : List D}, x ∈ xs → x.depth ≤ D.depths xs
  | x, y :: ys, h => by
    rw [D.depths]
    rcases List.mem_cons.mp h with e | h
    · subst e; exact Nat.le_max_left _ _
    · exact Nat.le_trans (D.depth_mem h) (Nat.le_max_right _ _)
end
theorem D.pure_mem : ∀ {x : D} {xs : List D}, D.pures xs = true → x ∈ xs → D.pure x = true
  | x, y :: ys, p, h => by
    rw [D.pures, Bool.and_eq_true] at p
    rcases List.mem_cons.mp h with e | h
    · subst e; exact p.1
    · exact D.pure_mem p.2 h
/-- the order that op asks -/
def ordV : CmpOp → D → D → Option Bool
  | .Lt, a, b => D.lt a b
  | .Gt, a, b => D.lt b a
  | .LtE, a, b => (D.lt b a).map fun c => !c
  | .GtE, a, b => (D.lt a b).map fun c => !c
  | _, _, _ => none
def ordZ : CmpOp → Nat → Nat → Bool
  | .Lt, m, n => decide (m < n)
  | .Gt, m, n => decide (m > n)
  | .LtE, m, n => decide (m ≤ n)
  | .GtE, m, n => decide (m ≥ n)
  | _, _, _ => false
mutual
theorem D.eqv_comm : ∀ a b : D, D.eqv a b = D.eqv b a
  | .non, b => by cases b <;> rfl
  | .bl a, b => by
    cases b <;> first | rfl | skip
    · exact Bool.beq_comm
    · exact Bool.beq_comm
  | .int a, b => by
    cases b <;> first | rfl | skip
    · exact Bool.beq_comm
    · exact Bool.beq_comm
  | .str a, b => by
    cases b <;> first | rfl | skip
    exact Bool.beq_comm
  | .tup a, b => by
    cases b <;> first | rfl | skip
    exact D.eqvs_comm a _
  | .lst a, b => by
    cases b <;> first | rfl | skip
    exact D.eqvs_comm a _
  | .loc a, b => by cases b <;> rfl
  | .gl a, b => by cases b <;> rfl
  | .ty a, b => by cases b <;> rfl
  | .scr a, b => by cases b <;> rfl
  | .kt a, b => by cases b <;> rfl
theorem D.eqvs_comm : ∀ a b : List D, D.eqvs a b = D.eqvs b a
  | [], b => by cases b <;> rfl
  | x :: xs, [] => rfl
  | x :: xs, y :: ys => by rw [D.eqvs, D.eqvs, D.eqv_comm x y, D.eqvs_comm xs ys]
end
theorem lexAt_shift (e r' : Nat → Bool) (z : Bool) : ∀ (k i : Nat), Ob.lexAt e r' z (i + 1) k = Ob.lexAt (fun j => e (j + 1)) (fun j => r' (j + 1)) z i k
  | 0, _ => rfl
  | k + 1, i => by
    rw [Ob.lexAt_succ, Ob.lexAt_succ, lexAt_shift e r' z k (i + 1)]
/-- the order of two tuples, from the first place on -/
theorem lts_lex : ∀ (op : CmpOp) (xs ys : List D) (c : Bool), ordV op (.tup xs) (.tup ys) = some c →
    (∀ j, (h1 : j < xs.length) → (h2 : j < ys.length) → D.eqv xs[j] ys[j] = false → ∃ b, ordV op xs[j] ys[j] = some b) ∧
    Ob.lexAt (fun j => D.eqv (xs.getD j .non) (ys.getD j .non)) (fun j => (ordV op (xs.getD j .non) (ys.getD j .non)).getD false) (ordZ op xs.length ys.length) 0 (min xs.length ys.length) = c := by
  intro op xs
  induction xs with
  | nil =>
    intro ys c h
    refine ⟨fun j h1 => absurd h1 (Nat.not_lt_zero _), ?_⟩
    rw [show min ([] : List D).length ys.length = 0 by simp, Ob.lexAt_zero]
    cases ys <;> cases op <;> simp_all [ordV, ordZ, D.lt, D.lts]
  | cons x xs ih =>
    intro ys c h
    cases ys with
    | nil =>
      refine ⟨fun j _ h2 => absurd h2 (Nat.not_lt_zero _), ?_⟩
      rw [show min (x :: xs).length ([] : List D).length = 0 by simp, Ob.lexAt_zero]
      cases op <;> simp_all [ordV, ordZ, D.lt, D.lts]
    | cons y ys =>
      have key : ∃ t, ordV op (.tup xs) (.tup ys) = some t ∧ (if D.eqv x y = true then some t else ordV op x y) = some c := by
        cases op with
        | Lt =>
          simp only [ordV, D.lt, D.lts] at h ⊢
          cases e : D.lts xs ys with
          | none => rw [e] at h; cases h
          | some t => rw [e] at h; exact ⟨t, rfl, h⟩
        | Gt =>
          simp only [ordV, D.lt, D.lts] at h ⊢
          cases e : D.lts ys xs with
          | none => rw [e] at h; cases h
          | some t => rw [e] at h; rw [D.eqv_comm x y]; exact ⟨t, rfl, h⟩
        | LtE =>
          simp only [ordV, D.lt, D.lts] at h ⊢
          cases e : D.lts ys xs with
          | none => rw [e] at h; cases h
          | some t =>
            rw [e] at h
            rw [D.eqv_comm x y]
            refine ⟨_, rfl, ?_⟩
            dsimp only at h
            split at h <;> rename_i q <;> simp only [q] <;> simpa using h
        | GtE =>
          simp only [ordV, D.lt, D.lts] at h ⊢
          cases e : D.lts xs ys with
          | none => rw [e] at h; cases h
          | some t =>
            rw [e] at h
            refine ⟨_, rfl, ?_⟩
            dsimp only at h
            split at h <;> rename_i q <;> simp only [q] <;> simpa using h
        | _ => cases h
      obtain ⟨t, e1, e2⟩ := key
      obtain ⟨i1, i2⟩ := ih ys t e1
      refine ⟨fun j h1 h2 he => ?_, ?_⟩
      · cases j with
        | zero =>
          have he : D.eqv x y = false := he
          rw [he, if_neg (by decide)] at e2
          exact ⟨c, e2⟩
        | succ j => exact i1 j (by simpa using h1) (by simpa using h2) he
      · have em : min (x :: xs).length (y :: ys).length = min xs.length ys.length + 1 := by simp only [List.length_cons]; omega
        have ez : ordZ op (x :: xs).length (y :: ys).length = ordZ op xs.length ys.length := by cases op <;> simp [ordZ]
        rw [em, Ob.lexAt_succ, lexAt_shift, ez]
        show (if D.eqv x y = true then _ else (ordV op x y).getD false) = c
        by_cases q : D.eqv x y = true
        · rw [if_pos q] at e2 ⊢
          rw [← Option.some.inj e2]
          exact i2
        · rw [if_neg q] at e2 ⊢
          rw [e2]; rfl
theorem depth_ord {op : CmpOp} {a b : D} {c : Bool} (h : ordV op a b = some c) : (∃ i j, a = .int i ∧ b = .int j) ∨ (∃ i j, a = .str i ∧ b = .str j) ∨ ∃ i j, a = .tup i ∧ b = .tup j := by
  cases op <;> first | cases h | skip
  all_goals
    cases a <;> cases b <;> first | exact .inl ⟨_, _, rfl, rfl⟩ | exact .inr (.inl ⟨_, _, rfl, rfl⟩) | exact .inr (.inr ⟨_, _, rfl, rfl⟩) | (simp [ordV, D.lt] at h)

theorem ord_str {op : CmpOp} {a b : String} {c : Bool} {A : Around} {s : Shared} (h : ordV op (.str a) (.str b) = some c) (t u : Tok) : Ob.RcOp op A s (.str (Str.ofString a) t) (.str (Str.ofString b) u) c := by
  intro prog w E Q q
  have e : ∀ x y : String, decide ((Str.ofString x).cps.toList < (Str.ofString y).cps.toList) = ltS x y := fun x y => by rw [ofS_cps, ofS_cps]; rfl
  cases op <;> first | cases h | skip
  · exact PySem.P.lt_str (by rw [e]; exact q)
  · exact PySem.P.le_str (by rw [e]; exact q)
  · exact PySem.P.gt_str (by rw [e]; exact q)
  · exact PySem.P.ge_str (by rw [e]; exact q)
theorem ord_int {op : CmpOp} {a b : Int} {c : Bool} {A : Around} {s : Shared} (h : ordV op (.int a) (.int b) = some c) (t u : Tok) : Ob.RcOp op A s (.int a t) (.int b u) c := by
  cases op <;> first | cases h | skip
  · exact Ob.RcOp.lt_int a b t u
  · have e : (!decide (b < a)) = decide (a ≤ b) := by by_cases z : b < a <;> simp [z] <;> omega
    show Ob.RcOp .LtE A s (.int a t) (.int b u) (!decide (b < a))
    rw [e]
    exact Ob.RcOp.le_int a b t u
  · exact Ob.RcOp.gt_int a b t u
  · have e : (!decide (a < b)) = decide (b ≤ a) := by by_cases z : a < b <;> simp [z] <;> omega
    show Ob.RcOp .GtE A s (.int a t) (.int b u) (!decide (a < b))
    rw [e]
    exact Ob.RcOp.ge_int a b t u
theorem RDs.val {xs : List D} {vs : List V} {its : List Value} (q : RDs C r H xs vs) (rv : Vals vs its) {j : Nat} (h1 : j < its.toArray.size) :
    ∃ (h : j < xs.length) (v : V), RD C r H xs[j] v ∧ RelV v its.toArray[j] := by
  have hl : j < xs.length := by
    rw [q.length, rv.length]
    simpa using h1
  obtain ⟨v, e1, q1⟩ := q.get (List.getElem?_eq_getElem hl)
  obtain ⟨u, e2, r2⟩ := rv.get e1
  refine ⟨hl, v, q1, ?_⟩
  have e3 : its.toArray[j] = u := by
    rw [List.getElem?_eq_getElem (by simpa using h1)] at e2
    have := Option.some.inj e2
    simpa using this
  rw [e3]
  exact r2
theorem getD_at {α : Type} {xs : List α} {j : Nat} {d : α} (h : j < xs.length) : xs.getD j d = xs[j] := by
  simp [List.getD, h]
theorem eqAt_data {pins : List (Addr × Obj)} {σ : L2.St} {s : Shared} {a b : D} {x y : V} {v u : Value} {A : Around} (hK : X.K = C.K) (I : Inv X pins σ H s) (pa : D.pure a = true) (pb : D.pure b = true)
    (qa : RD C r H a x) (qb : RD C r H b y) (ra : RelV x v) (rb : RelV y u) (hu : A.units + min a.depth b.depth < cLine) : SeqAt.EqAt A s v u (D.eqv a b) := by
  obtain ⟨as, r1⟩ := Dp.reads I (toP a) x v (by rw [hK]; exact qa.dp pa) ra
  obtain ⟨bs, r2⟩ := Dp.reads I (toP b) y u (by rw [hK]; exact qb.dp pb) rb
  have h := SeqAt.eqAt_reads (toP a) (toP b) A s v u as bs r1 r2 (toP_lay a) (toP_lay b) (by rw [toP_depth, toP_depth]; exact hu)
  rw [toP_eqv a b pa pb] at h
  exact h
theorem ord_rc {pins : List (Addr × Obj)} {σ : L2.St} {s : Shared} (hK : X.K = C.K) (I : Inv X pins σ H s) (op : CmpOp) : ∀ (n : Nat) (a b : D) (c : Bool) (x y : V) (v u : Value) (A : Around), a.depth ≤ n → ordV op a b = some c →
    D.pure a = true → D.pure b = true → RD C r H a x → RD C r H b y → RelV x v → RelV y u → A.units + n < cLine → Ob.RcOp op A s v u c := by
  intro n
  induction n with
  | zero =>
    intro a b c x y v u A hd ho pa pb qa qb ra rb hu
    rcases depth_ord ho with ⟨i, j, rfl, rfl⟩ | ⟨i, j, rfl, rfl⟩ | ⟨i, j, rfl, rfl⟩
    · cases qa; cases qb
      obtain ⟨t, rfl⟩ := ra
      obtain ⟨t', rfl⟩ := rb
      exact ord_int ho t t'
    · cases qa; cases qb
      obtain ⟨t, rfl⟩ := ra
      obtain ⟨t', rfl⟩ := rb
      exact ord_str ho t t'
    · rw [D.depth] at hd; omega
  | succ n ih =>
    intro a b c x y v u A hd ho pa pb qa qb ra rb hu
    rcases depth_ord ho with ⟨i, j, rfl, rfl⟩ | ⟨i, j, rfl, rfl⟩ | ⟨xs, ys, rfl, rfl⟩
    · cases qa; cases qb
      obtain ⟨t, rfl⟩ := ra
      obtain ⟨t', rfl⟩ := rb
      exact ord_int ho t t'
    · cases qa; cases qb
      obtain ⟨t, rfl⟩ := ra
      obtain ⟨t', rfl⟩ := rb
      exact ord_str ho t t'
    · have pxs : D.pures xs = true := by simpa [D.pure] using pa
      have pys : D.pures ys = true := by simpa [D.pure] using pb
      have hdx : D.depths xs ≤ n := by rw [D.depth] at hd; omega
      obtain ⟨o1, o2⟩ := lts_lex op xs ys c ho
      cases qa with
      | @tup aa _ vs ha ta =>
        cases qb with
        | @tup bb _ us hb tb =>
          cases ra; cases rb
          obtain ⟨its, rv, t1, z1⟩ := I.tuple (by rw [hK]; exact ha.sq)
          obtain ⟨its2, rv2, t2, z2⟩ := I.tuple (by rw [hK]; exact hb.sq)
          have l1 : its.toArray.size = xs.length := by rw [List.size_toArray, ← rv.length, ta.length]
          have l2 : its2.toArray.size = ys.length := by rw [List.size_toArray, ← rv2.length, tb.length]
          have he : ∀ j (h1 : j < its.toArray.size) (h2 : j < its2.toArray.size), SeqAt.EqAt A.in1 s its.toArray[j] its2.toArray[j] (D.eqv (xs.getD j .non) (ys.getD j .non)) := fun j h1 h2 => by
            obtain ⟨k1, v1, q1, r1⟩ := ta.val rv h1
            obtain ⟨k2, v2, q2, r2⟩ := tb.val rv2 h2
            rw [getD_at k1, getD_at k2]
            refine eqAt_data hK I (D.pure_mem pxs (List.getElem_mem k1)) (D.pure_mem pys (List.getElem_mem k2)) q1 q2 r1 r2 ?_
            have := D.depth_mem (List.getElem_mem k1)
            show A.units + 1 + _ < _
            omega
          have hr : ∀ j (h1 : j < its.toArray.size) (h2 : j < its2.toArray.size), D.eqv (xs.getD j .non) (ys.getD j .non) = false → Ob.RcOp op A.in1 s its.toArray[j] its2.toArray[j] ((ordV op (xs.getD j .non) (ys.getD j .non)).getD false) := fun j h1 h2 hne => by
            obtain ⟨k1, v1, q1, r1⟩ := ta.val rv h1
            obtain ⟨k2, v2, q2, r2⟩ := tb.val rv2 h2
            rw [getD_at k1, getD_at k2] at hne ⊢
            obtain ⟨b', hb'⟩ := o1 j k1 k2 hne
            rw [hb']
            refine ih xs[j] ys[j] b' v1 v2 _ _ A.in1 (Nat.le_trans (D.depth_mem (List.getElem_mem k1)) hdx) hb' (D.pure_mem pxs (List.getElem_mem k1)) (D.pure_mem pys (List.getElem_mem k2)) q1 q2 r1 r2 ?_
            show A.units + 1 + n < cLine
            omega
          have hu0 : A.units < cLine := by omega
          rw [← l1, ← l2] at o2
          cases op <;> first | cases ho | skip
          · rw [← o2]; exact Ob.RcOp.tuples_lt t1 t2 hu0 he hr
          · rw [← o2]; exact Ob.RcOp.tuples_le t1 t2 hu0 he hr
          · rw [← o2]; exact Ob.RcOp.tuples_gt t1 t2 hu0 he hr
          · rw [← o2]; exact Ob.RcOp.tuples_ge t1 t2 hu0 he hr
end

/-! ### the comparisons -/
def Cop.op : Cop → CmpOp
  | .eq => .Eq | .ne => .NotEq | .lt => .Lt | .le => .LtE | .gt => .Gt | .ge => .GtE | .is_ => .Is | .isnot => .IsNot | .in_ => .In | .notin => .NotIn
def rCmp (C : Ct) (o : Cop) : R2 := fun x y H Q => ∃ r st dx dy Q', Rel C r st H ∧ RD C r H dx x ∧ RD C r H dy y ∧ wpCmp o dx dy st (fun d => Q' d st) ∧ Kp C r H Q' Q
section
variable {C : Ct} {X : Cx}
theorem ord_run {r : Lay} {H : Hp} {pins : List (Addr × Obj)} {s : Shared} {σ : L2.St} {op : CmpOp} {a b : D} {x y : V} {v u : Value} {c : Bool} {st : Sto} {Q' : D → Sto → Prop} {Q : VK} (hK : X.K = C.K) (hu : X.A.units + 64 < cLine) (I : Inv X pins σ H s) (R : Rel C r st H)
    (hop : ∀ a b, compareOp op a b = richCompare op a b) (ho : ordV op a b = some c) (pa : cmpD a = true) (pb : cmpD b = true) (qa : RD C r H a x) (qb : RD C r H b y) (ra : RelV x v) (rb : RelV y u) (k : Kp C r H Q' Q) (h : Q' (.bl c) st) :
    wpAny (model X.prog X.w) X.A (compareOp op v u) (EP X pins σ Q) X.xe s := by
  rw [hop]
  obtain ⟨p1, d1⟩ := cmpD_iff pa
  obtain ⟨p2, _⟩ := cmpD_iff pb
  exact ord_rc hK I op 60 a b c x y v u X.A d1 ho p1 p2 qa qb ra rb (by omega) X.prog X.w X.xe _ ⟨.bl c, H, I, rfl, k.now R (.bl c) h⟩
theorem wpOrd_iff {f : Bool → Bool} {a b : D} {Q : D → Prop} (h : wpOrd f a b Q) : cmpD a = true ∧ cmpD b = true ∧ ∃ c, D.lt a b = some c ∧ Q (.bl (f c)) := by
  cases a <;> cases b <;> first | exact h.elim | skip
  · exact ⟨rfl, rfl, _, rfl, h⟩
  · exact ⟨rfl, rfl, _, rfl, h⟩
  · obtain ⟨⟨h1, h2⟩, h⟩ := h
    obtain ⟨c, e, q⟩ := onSome_iff h
    exact ⟨h1, h2, c, e, q⟩
theorem wpLe_iff {a b : D} {st : Sto} {Q : D → Prop} (h : wpCmp .le a b st Q) : cmpD a = true ∧ cmpD b = true ∧ ∃ c, ordV .LtE a b = some c ∧ Q (.bl c) := by
  have gen : wpOrd (fun c => !c) b a Q → cmpD a = true ∧ cmpD b = true ∧ ∃ c, ordV .LtE a b = some c ∧ Q (.bl c) := fun h => by
    obtain ⟨h1, h2, c, e, q⟩ := wpOrd_iff h
    exact ⟨h2, h1, _, by rw [ordV, e]; rfl, q⟩
  cases a <;> cases b <;> first | exact gen h | skip
  rename_i i j
  refine ⟨rfl, rfl, _, rfl, ?_⟩
  have e : (!decide (j < i)) = decide (i ≤ j) := by by_cases z : j < i <;> simp [z] <;> omega
  show Q (.bl (!decide (j < i)))
  rw [e]
  exact h
theorem wpGe_iff {a b : D} {st : Sto} {Q : D → Prop} (h : wpCmp .ge a b st Q) : cmpD a = true ∧ cmpD b = true ∧ ∃ c, ordV .GtE a b = some c ∧ Q (.bl c) := by
  have gen : wpOrd (fun c => !c) a b Q → cmpD a = true ∧ cmpD b = true ∧ ∃ c, ordV .GtE a b = some c ∧ Q (.bl c) := fun h => by
    obtain ⟨h1, h2, c, e, q⟩ := wpOrd_iff h
    exact ⟨h1, h2, _, by rw [ordV, e]; rfl, q⟩
  cases a <;> cases b <;> first | exact gen h | skip
  rename_i i j
  refine ⟨rfl, rfl, _, rfl, ?_⟩
  have e : (!decide (i < j)) = decide (j ≤ i) := by by_cases z : i < j <;> simp [z] <;> omega
  show Q (.bl (!decide (i < j)))
  rw [e]
  exact h
theorem wpEq_iff {a b : D} {st : Sto} {Q : D → Prop} (h : wpCmp .eq a b st Q) : cmpD (flatOf st a) = true ∧ cmpD (flatOf st b) = true ∧ Q (.bl (D.eqv (flatOf st a) (flatOf st b))) := by
  cases a <;> cases b <;> first | exact ⟨h.1.1, h.1.2, h.2⟩ | skip
  · rename_i i j
    refine ⟨rfl, rfl, ?_⟩
    show Q (.bl (i == j))
    rw [Bool.beq_eq_decide_eq]
    exact h
  · rename_i i j
    refine ⟨rfl, rfl, ?_⟩
    show Q (.bl (i == j))
    rw [Bool.beq_eq_decide_eq]
    exact h
theorem wpNe_iff {a b : D} {st : Sto} {Q : D → Prop} (h : wpCmp .ne a b st Q) : cmpD (flatOf st a) = true ∧ cmpD (flatOf st b) = true ∧ Q (.bl (!D.eqv (flatOf st a) (flatOf st b))) := by
  cases a <;> cases b <;> first | exact ⟨h.1.1, h.1.2, h.2⟩ | skip
  · rename_i i j
    refine ⟨rfl, rfl, ?_⟩
    show Q (.bl (!(i == j)))
    rw [Bool.beq_eq_decide_eq]
    exact h
  · rename_i i j
    refine ⟨rfl, rfl, ?_⟩
    show Q (.bl (!(i == j)))
    rw [Bool.beq_eq_decide_eq]
    exact h
/-- in a list, a tuple of data -/
theorem any_toP {x : D} : ∀ {ys : List D}, D.pures ys = true → D.pure x = true → ((toPs ys).any fun z => PyData.eqv z (toP x)) = ys.any fun z => D.eqv z x
  | [], _, _ => rfl
  | y :: ys, p, q => by
    rw [D.pures, Bool.and_eq_true] at p
    rw [toPs, List.any_cons, List.any_cons, toP_eqv y x p.1 q, any_toP p.2 q]
theorem in_seq {r : Lay} {H : Hp} {pins : List (Addr × Obj)} {s : Shared} {σ : L2.St} {x : D} {ys : List D} {vx : V} {a : Addr} {us : List V} {v : Value} {Q : VK} (neg : Bool) (hK : X.K = C.K) (hu : X.A.units + 65 < cLine) (I : Inv X pins σ H s)
    (px : cmpD x = true) (pl : cmpD (.lst ys) = true) (qx : RD C r H x vx) (rx : RelV vx v) (ty : RDs C r H ys us) (sq : SqL C.K H a us ∨ SqT C.K H a us) (h : Q (.bl (neg != ys.any fun z => D.eqv z x)) H) :
    wpAny (model X.prog X.w) X.A (compareOp (if neg then .NotIn else .In) v (.ref a)) (EP X pins σ Q) X.xe s := by
  obtain ⟨p1, d1⟩ := cmpD_iff px
  obtain ⟨p2, d2⟩ := cmpD_iff pl
  have p2 : D.pures ys = true := by simpa [D.pure] using p2
  have d2 : D.depths ys ≤ 59 := by rw [D.depth] at d2; omega
  obtain ⟨bs, r1⟩ := Dp.reads I (toP x) vx v (by rw [hK]; exact qx.dp p1) rx
  have hroom : X.A.units + 1 + min (PyData.depthAll (toPs ys)) (toP x).depth < cLine := by
    rw [toPs_depth]
    have : min (D.depths ys) (toP x).depth ≤ D.depths ys := Nat.min_le_left _ _
    omega
  have e := any_toP p2 p1
  rcases sq with sq | sq
  · obtain ⟨as, r2⟩ := Dp.reads I (.list (toPs ys)) (.ref a) (.ref a) (by rw [hK]; exact .lst sq (ty.dp p2)) rfl
    cases neg with
    | false => exact SeqAt.in_list_reads r2 r1 (toPs_lay ys) (toP_lay x) hroom ⟨.bl _, H, I, rfl, by rw [e]; simpa using h⟩
    | true => exact SeqAt.notIn_list_reads r2 r1 (toPs_lay ys) (toP_lay x) hroom ⟨.bl _, H, I, rfl, by rw [e]; simpa using h⟩
  · obtain ⟨as, r2⟩ := Dp.reads I (.tuple (toPs ys)) (.ref a) (.ref a) (by rw [hK]; exact .tup sq (ty.dp p2)) rfl
    cases neg with
    | false => exact SeqAt.in_tuple_reads r2 r1 (toPs_lay ys) (toP_lay x) hroom ⟨.bl _, H, I, rfl, by rw [e]; simpa using h⟩
    | true => exact SeqAt.notIn_tuple_reads r2 r1 (toPs_lay ys) (toP_lay x) hroom ⟨.bl _, H, I, rfl, by rw [e]; simpa using h⟩
end
end DL

set_option maxHeartbeats 1000000
/-! DLDict: dicts. -/
namespace DL
open PySem PySem.Spec PyProof.Rows L2
section
variable {C : Ct} {r : Lay} {H : Hp}
theorem keyD_eq {k k' : Key} {d d' : D} (h : keyD k d) (h' : keyD k' d') : k = k' ↔ d = d' := by
  cases k with
  | inl i =>
    cases k' with
    | inl j =>
      rw [show d = .int i from h, show d' = .int j from h']
      simp
    | inr y =>
      obtain ⟨s, rfl, rfl⟩ := h'
      rw [show d = .int i from h]
      simp
  | inr x =>
    obtain ⟨s, rfl, rfl⟩ := h
    cases k' with
    | inl j =>
      rw [show d' = .int j from h']
      simp
    | inr y =>
      obtain ⟨s', rfl, rfl⟩ := h'
      simp [ofS_eq]
theorem keysD_eq : ∀ {k k' : List Key} {d d' : List D}, keysD k d → keysD k' d' → (k = k' ↔ d = d')
  | _, _, _, _, .nil, .nil => by simp
  | _, _, _, _, .nil, .cons _ _ => by simp
  | _, _, _, _, .cons _ _, .nil => by simp
  | _, _, _, _, .cons h t, .cons h' t' => by simp [keyD_eq h h', keysD_eq t t']
theorem keyTD_eq {k k' : List Key} {d d' : D} (h : keyTD k d) (h' : keyTD k' d') : k = k' ↔ d = d' := by
  obtain ⟨ds, rfl, h⟩ := h
  obtain ⟨ds', rfl, h'⟩ := h'
  rw [keysD_eq h h']
  simp
/-- a key lies so -/
theorem key1_at {d : D} {y : V} (hk : D.key1 d = true) (q : RD C r H d y) : ∃ k, keyD k d ∧ y = kV k := by
  cases q <;> first | cases hk | skip
  · exact ⟨.inl _, rfl, rfl⟩
  · exact ⟨.inr _, ⟨_, rfl, rfl⟩, rfl⟩
theorem keys1_at : ∀ {ds : List D} {ys : List V}, ds.all D.key1 = true → RDs C r H ds ys → ∃ ks, keysD ks ds ∧ ys = ks.map kV
  | _, _, _, .nil => ⟨[], .nil, rfl⟩
  | _, _, h, .cons q t => by
    rw [List.all_cons, Bool.and_eq_true] at h
    obtain ⟨k, h1, rfl⟩ := key1_at h.1 q
    obtain ⟨ks, h2, rfl⟩ := keys1_at h.2 t
    exact ⟨k :: ks, .cons h1 h2, rfl⟩
theorem keyT_at {d : D} {y : V} (hk : D.key true d = true) (q : RD C r H d y) : ∃ k b, keyTD k d ∧ y = .ref b ∧ H b = some (.tup (k.map kV)) := by
  cases q <;> first | cases hk | skip
  rename_i a xs vs h t
  obtain ⟨ks, h1, rfl⟩ := keys1_at (show xs.all D.key1 = true from hk) t
  exact ⟨ks, a, ⟨_, rfl, h1⟩, rfl, h.1⟩
section
variable {κ : Type} [DecidableEq κ] {p : κ → D → Prop} (he : ∀ {k k' : κ} {d d' : D}, p k d → p k' d' → (k = k' ↔ d = d'))
include he
def ROp (C : Ct) (r : Lay) (H : Hp) (o : Option D) (u : Option V) : Prop := match o, u with
  | some x, some v => RD C r H x v
  | none, none => True
  | _, _ => False
theorem RKs.get {k : κ} {d : D} (hk : p k d) : ∀ {m : List (D × D)} {vs : List (κ × V)}, RKs p C r H m vs → ROp C r H (dGet m d) (valV vs k)
  | _, _, .nil => trivial
  | _, _, .cons (k := k0) (d := d0) hk0 q t => by
    by_cases e : k0 = k
    · have e2 := (he hk0 hk).mp e
      rw [valV_pos (p := (k0, _)) e, dGet, if_pos e2]
      exact q
    · have e2 : ¬ d0 = d := fun z => e ((he hk0 hk).mpr z)
      rw [valV_neg (p := (k0, _)) e, dGet, if_neg e2]
      exact RKs.get hk t
theorem RKs.any {k : κ} {d : D} (hk : p k d) : ∀ {m : List (D × D)} {vs : List (κ × V)}, RKs p C r H m vs → (m.any fun q => decide (q.1 = d)) = vs.any fun q => decide (q.1 = k)
  | _, _, .nil => rfl
  | _, _, .cons hk0 q t => by
    rw [List.any_cons, List.any_cons, RKs.any hk t, decide_eq_decide.mpr (he hk0 hk).symm]
theorem RKs.mapPut {k : κ} {d x : D} {v : V} (hk : p k d) (qx : RD C r H x v) : ∀ {m : List (D × D)} {vs : List (κ × V)}, RKs p C r H m vs →
    RKs p C r H (m.map fun q => if q.1 = d then (q.1, x) else q) (vs.map fun q => if q.1 = k then (q.1, v) else q)
  | _, _, .nil => .nil
  | _, _, .cons (k := k0) (d := d0) hk0 q t => by
    rw [List.map_cons, List.map_cons]
    by_cases e : k0 = k
    · have e2 := (he hk0 hk).mp e
      rw [if_pos e, if_pos e2]
      exact .cons hk0 qx (RKs.mapPut hk qx t)
    · have e2 : ¬ d0 = d := fun z => e ((he hk0 hk).mpr z)
      rw [if_neg e, if_neg e2]
      exact .cons hk0 q (RKs.mapPut hk qx t)
omit he in
theorem RKs.append : ∀ {m m' : List (D × D)} {vs vs' : List (κ × V)}, RKs p C r H m vs → RKs p C r H m' vs' → RKs p C r H (m ++ m') (vs ++ vs')
  | _, _, _, _, .nil, s => s
  | _, _, _, _, .cons a b c, s => .cons a b (RKs.append c s)
theorem RKs.put {k : κ} {d x : D} {v : V} (hk : p k d) (qx : RD C r H x v) {m : List (D × D)} {vs : List (κ × V)} (h : RKs p C r H m vs) : RKs p C r H (dPut m d x) (putK vs k v) := by
  unfold dPut putK
  rw [RKs.any he hk h]
  split
  · exact RKs.mapPut he hk qx h
  · exact RKs.append h (.cons hk qx .nil)
theorem RKs.del {k : κ} {d : D} (hk : p k d) : ∀ {m : List (D × D)} {vs : List (κ × V)}, RKs p C r H m vs → RKs p C r H (dDel m d) (dropK vs k)
  | _, _, .nil => .nil
  | _, _, .cons (k := k0) (d := d0) hk0 q t => by
    have ih := RKs.del hk t
    unfold dDel dropK at ih ⊢
    by_cases e : k0 = k
    · have e2 := (he hk0 hk).mp e
      rw [List.filter_cons_of_neg (by simp [e2]), List.filter_cons_of_neg (by simp [e])]
      exact ih
    · have e2 : ¬ d0 = d := fun z => e ((he hk0 hk).mpr z)
      rw [List.filter_cons_of_pos (by simp [e2]), List.filter_cons_of_pos (by simp [e])]
      exact .cons hk0 q ih
end
theorem dct_get {t : Bool} {a : Addr} {m : List (D × D)} {d : D} {y : V} (h : CellR C r H a (.dct t m)) (hk : D.key t d = true) (q : RD C r H d y) : ∃ o, DGet H a y o ∧ ROp C r H (dGet m d) o := by
  cases t with
  | false =>
    obtain ⟨vs, h1, h2⟩ := h
    obtain ⟨k, k1, rfl⟩ := key1_at hk q
    exact ⟨_, .inl ⟨vs, k, .inl h1, rfl, rfl⟩, h2.get keyD_eq k1⟩
  | true =>
    obtain ⟨vs, h1, h2⟩ := h
    obtain ⟨k, b, k1, rfl, k2⟩ := keyT_at hk q
    exact ⟨_, .inr ⟨vs, k, b, .inl h1, rfl, k2, rfl⟩, h2.get keyTD_eq k1⟩
theorem dct_put {t : Bool} {n : Nat} {a : Addr} {m : List (D × D)} {st : Sto} {d x : D} {y v : V} (R : Rel C r st H) (e : st[n]? = some (.dct t m)) (hr : r.1[n]? = some a) (hk : D.key t d = true) (hl : m.length < sizeLine) (q : RD C r H d y) (qx : RD C r H x v) :
    ∃ H', DPut H a y v H' ∧ Fut r H r H' ∧ Rel C r (st.set n (.dct t (dPut m d x))) H' := by
  have h := R.cells n _ a e hr
  cases t with
  | false =>
    obtain ⟨vs, h1, h2⟩ := h
    obtain ⟨k, k1, rfl⟩ := key1_at hk q
    refine ⟨_, .inl ⟨vs, k, h1, rfl, by rw [← h2.length]; exact hl, rfl⟩, Fut.set hr, R.set hr ⟨_, upd_same, RKs.put keyD_eq k1 (qx.fut (Fut.set hr)) (h2.fut (Fut.set hr))⟩⟩
  | true =>
    obtain ⟨vs, h1, h2⟩ := h
    obtain ⟨k, b, k1, rfl, k2⟩ := keyT_at hk q
    refine ⟨_, .inr ⟨vs, k, b, h1, rfl, k2, by rw [← h2.length]; exact hl, rfl⟩, Fut.set hr, R.set hr ⟨_, upd_same, RKs.put keyTD_eq k1 (qx.fut (Fut.set hr)) (h2.fut (Fut.set hr))⟩⟩
theorem dct_del {n : Nat} {a : Addr} {m : List (D × D)} {st : Sto} {d : D} {y : V} (R : Rel C r st H) (e : st[n]? = some (.dct false m)) (hr : r.1[n]? = some a) (hk : D.key1 d = true) (q : RD C r H d y) :
    ∃ k vs, H a = some (.dK vs) ∧ y = kV k ∧ ROp C r H (dGet m d) (valV vs k) ∧ Rel C r (st.set n (.dct false (dDel m d))) (upd H a (.dK (dropK vs k))) := by
  obtain ⟨vs, h1, h2⟩ := R.cells n _ a e hr
  obtain ⟨k, k1, rfl⟩ := key1_at hk q
  exact ⟨k, vs, h1, rfl, h2.get keyD_eq k1, R.set hr ⟨_, upd_same, RKs.del keyD_eq k1 (h2.fut (Fut.set hr))⟩⟩
end
end DL

set_option maxHeartbeats 1000000
/-! DLCmp2: the comparisons' rule; subscripts, slices, isinstance. -/
namespace DL
open PySem PySem.Spec PyProof.Rows L2
section
variable {C : Ct} {X : Cx}
theorem ofS_one {s : String} {c : Char} (h : s.toList = [c]) : Str.ofString s = ⟨#[c.toNat]⟩ := by
  rw [Str.ofString_eq_toList, h]
  rfl
theorem mem_toNat {c : Char} {l : List Char} : c.toNat ∈ l.map Char.toNat ↔ c ∈ l := by
  rw [List.mem_map]
  exact ⟨fun ⟨d, h, e⟩ => by rw [← toNat_inj' e]; exact h, fun h => ⟨c, h, rfl⟩⟩
theorem isNon {r : Lay} {H : Hp} {d : D} {v : V} (q : RD C r H d v) : decide (v = .non) = isNonD d := by
  cases q <;> simp [isNonD]
theorem ROp.isSome {r : Lay} {H : Hp} {o : Option D} {u : Option V} (h : ROp C r H o u) : o.isSome = u.isSome := by
  cases o <;> cases u <;> first | rfl | exact h.elim
theorem RDs.strs {r : Lay} {H : Hp} : ∀ ys : List String, RDs C r H (ys.map D.str) (ys.map fun x => V.str (Str.ofString x))
  | [] => .nil
  | y :: ys => .cons (.str y) (RDs.strs ys)
theorem pures_strs : ∀ ys : List String, D.pures (ys.map D.str) = true ∧ D.depths (ys.map D.str) = 0
  | [] => ⟨rfl, rfl⟩
  | y :: ys => by
    obtain ⟨h1, h2⟩ := pures_strs ys
    rw [List.map_cons, D.pures, D.depths, h1, h2]
    exact ⟨rfl, rfl⟩
theorem cmpD_strs (ys : List String) : cmpD (.lst (ys.map D.str)) = true := by
  obtain ⟨h1, h2⟩ := pures_strs ys
  unfold cmpD
  rw [D.pure, D.depth, h1, h2]
  rfl
theorem inStr_iff {neg : Bool} {x : D} {z : String} {st : Sto} {Q : D → Prop} (h : wpIn neg x (.str z) st Q) : ∃ a, x = .str a ∧ ∃ c, a.toList = [c] ∧ Q (.bl (neg != decide (c ∈ z.toList))) := by
  obtain ⟨a, rfl, h2⟩ := onStr_iff (show onStr x _ from h)
  refine ⟨a, rfl, ?_⟩
  cases e : a.toList with
  | nil => rw [e] at h2; exact h2.elim
  | cons c l =>
    rw [e] at h2
    cases l with
    | nil => exact ⟨c, rfl, h2⟩
    | cons _ _ => exact h2.elim
theorem or_cmp (hK : X.K = C.K) (hu : X.A.units + 65 < cLine) (o : Cop) : OpR X (compareOp o.op) (rCmp C o) := by
  intro pins s σ H x y v u Q I rx ry h
  obtain ⟨r, st, dx, dy, Q', R, qx, qy, hw, k⟩ := h
  have hu64 : X.A.units + 64 < cLine := by omega
  cases o with
  | eq =>
    obtain ⟨h1, h2, hq⟩ := wpEq_iff hw
    obtain ⟨p1, d1⟩ := cmpD_iff h1
    obtain ⟨p2, d2⟩ := cmpD_iff h2
    refine op_eqD hu64 pins s σ H x y v u Q I rx ry ⟨_, _, by rw [hK]; exact qx.flat R p1, by rw [hK]; exact qy.flat R p2, toP_shaped (by omega), toP_shaped (by omega), ?_⟩
    rw [toP_eqv _ _ p1 p2]
    exact k.now R (.bl _) hq
  | ne =>
    obtain ⟨h1, h2, hq⟩ := wpNe_iff hw
    obtain ⟨p1, d1⟩ := cmpD_iff h1
    obtain ⟨p2, d2⟩ := cmpD_iff h2
    refine op_neD hu64 pins s σ H x y v u Q I rx ry ⟨_, _, by rw [hK]; exact qx.flat R p1, by rw [hK]; exact qy.flat R p2, toP_shaped (by omega), toP_shaped (by omega), ?_⟩
    rw [toP_eqv _ _ p1 p2]
    exact k.now R (.bl _) hq
  | lt =>
    obtain ⟨h1, h2, c, e, hq⟩ := wpOrd_iff (show wpOrd (fun c => c) dx dy (fun d => Q' d st) from hw)
    exact ord_run hK hu64 I R (fun _ _ => rfl) (show ordV .Lt dx dy = some c from e) h1 h2 qx qy rx ry k hq
  | gt =>
    obtain ⟨h1, h2, c, e, hq⟩ := wpOrd_iff (show wpOrd (fun c => c) dy dx (fun d => Q' d st) from hw)
    exact ord_run hK hu64 I R (fun _ _ => rfl) (show ordV .Gt dx dy = some c from e) h2 h1 qx qy rx ry k hq
  | le =>
    obtain ⟨h1, h2, c, e, hq⟩ := wpLe_iff hw
    exact ord_run hK hu64 I R (fun _ _ => rfl) e h1 h2 qx qy rx ry k hq
  | ge =>
    obtain ⟨h1, h2, c, e, hq⟩ := wpGe_iff hw
    exact ord_run hK hu64 I R (fun _ _ => rfl) e h1 h2 qx qy rx ry k hq
  | is_ =>
    have non : dy = .non → Q' (.bl (isNonD dx)) st → wpAny (model X.prog X.w) X.A (compareOp .Is v u) (EP X pins σ Q) X.xe s := fun e hq => by
      subst e
      cases qy
      refine op_isN pins s σ H x .non v u Q I rx ry ⟨rfl, ?_⟩
      rw [isNon qx]
      exact k.now R (.bl _) hq
    cases qx <;> cases qy <;> first | exact non rfl hw | exact hw.elim | skip
    · refine op_isBl pins s σ H _ _ v u Q I rx ry ⟨_, _, rfl, rfl, ?_⟩
      rw [← Bool.beq_eq_decide_eq]
      exact k.now R (.bl _) hw
    · exact op_isTy pins s σ H _ _ v u Q I rx ry ⟨_, _, rfl, rfl, k.now R (.bl _) hw⟩
  | isnot =>
    have non : dy = .non → Q' (.bl (!isNonD dx)) st → wpAny (model X.prog X.w) X.A (compareOp .IsNot v u) (EP X pins σ Q) X.xe s := fun e hq => by
      subst e
      cases qy
      refine op_notN pins s σ H x .non v u Q I rx ry ⟨rfl, ?_⟩
      rw [isNon qx]
      exact k.now R (.bl _) hq
    cases qx <;> cases qy <;> first | exact non rfl hw | exact hw.elim | skip
    · refine op_notBl pins s σ H _ _ v u Q I rx ry ⟨_, _, rfl, rfl, ?_⟩
      rw [← Bool.beq_eq_decide_eq]
      exact k.now R (.bl _) hw
    · exact op_isNotTy pins s σ H _ _ v u Q I rx ry ⟨_, _, rfl, rfl, k.now R (.bl _) hw⟩
  | in_ =>
    cases qy with
    | str z =>
      obtain ⟨a, rfl, c, e, hw⟩ := inStr_iff (show wpIn false dx (.str z) st (fun d => Q' d st) from hw)
      cases qx
      · rw [ofS_one e] at rx
        refine op_in_sign pins s σ H _ _ v u Q I rx ry ⟨_, _, rfl, rfl, ?_⟩
        rw [ofS_cps]
        have e2 : decide (c.toNat ∈ z.toList.map Char.toNat) = decide (c ∈ z.toList) := decide_eq_decide.mpr mem_toNat
        rw [e2]
        rw [Bool.false_bne] at hw
        exact k.now R (.bl _) hw
    | tup h t =>
      cases ry
      obtain ⟨⟨h1, h2⟩, hw⟩ := (show (cmpD dx = true ∧ cmpD _ = true) ∧ Q' _ st from hw)
      exact in_seq false hK hu I h1 h2 qx rx t (.inr h.sq) (k.now R (.bl _) hw)
    | lst h t =>
      cases ry
      obtain ⟨⟨h1, h2⟩, hw⟩ := (show (cmpD dx = true ∧ cmpD _ = true) ∧ Q' _ st from hw)
      exact in_seq false hK hu I h1 h2 qx rx t (.inl h.sq) (k.now R (.bl _) hw)
    | @loc n a h =>
      cases ry
      obtain ⟨c, e, hw⟩ := onSome_iff (show onSome st[n]? _ from hw)
      cases c with
      | lst ys =>
        obtain ⟨⟨h1, h2⟩, hw⟩ := (show (cmpD dx = true ∧ cmpD _ = true) ∧ Q' _ st from hw)
        obtain ⟨vs, k1, k2⟩ := R.cells n _ a e h
        exact in_seq false hK hu I h1 h2 qx rx k2 (.inl (SqL.of k1)) (k.now R (.bl _) hw)
      | dct t kvs =>
        obtain ⟨hk, hw⟩ := (show D.key t dx = true ∧ Q' (.bl (false != (dGet kvs dx).isSome)) st from hw)
        obtain ⟨o, g, ro⟩ := dct_get (R.cells n _ a e h) hk qx
        refine d_in (by omega) I g rx fun s' I' => ⟨.bl _, H, I', rfl, ?_⟩
        rw [Bool.false_bne] at hw
        rw [← ROp.isSome ro]
        exact k.now R (.bl _) hw
      | obj _ _ => exact hw.elim
    | kt ys hk =>
      cases ry
      obtain ⟨h1, hw⟩ := (show cmpD dx = true ∧ Q' _ st from hw)
      refine in_seq false hK hu I h1 (cmpD_strs ys) qx rx (RDs.strs ys) (.inr hk.sq) ?_
      rw [List.any_map]
      exact k.now R (.bl _) hw
    | _ => exact hw.elim
  | notin =>
    cases qy with
    | str z =>
      obtain ⟨a, rfl, c, e, hw⟩ := inStr_iff (show wpIn true dx (.str z) st (fun d => Q' d st) from hw)
      cases qx
      · rw [ofS_one e] at rx
        refine op_notIn_sign pins s σ H _ _ v u Q I rx ry ⟨_, _, rfl, rfl, ?_⟩
        rw [ofS_cps]
        have e2 : decide (c.toNat ∈ z.toList.map Char.toNat) = decide (c ∈ z.toList) := decide_eq_decide.mpr mem_toNat
        rw [e2]
        rw [Bool.true_bne] at hw
        exact k.now R (.bl _) hw
    | tup h t =>
      cases ry
      obtain ⟨⟨h1, h2⟩, hw⟩ := (show (cmpD dx = true ∧ cmpD _ = true) ∧ Q' _ st from hw)
      exact in_seq true hK hu I h1 h2 qx rx t (.inr h.sq) (k.now R (.bl _) hw)
    | lst h t =>
      cases ry
      obtain ⟨⟨h1, h2⟩, hw⟩ := (show (cmpD dx = true ∧ cmpD _ = true) ∧ Q' _ st from hw)
      exact in_seq true hK hu I h1 h2 qx rx t (.inl h.sq) (k.now R (.bl _) hw)
    | @loc n a h =>
      cases ry
      obtain ⟨c, e, hw⟩ := onSome_iff (show onSome st[n]? _ from hw)
      cases c with
      | lst ys =>
        obtain ⟨⟨h1, h2⟩, hw⟩ := (show (cmpD dx = true ∧ cmpD _ = true) ∧ Q' _ st from hw)
        obtain ⟨vs, k1, k2⟩ := R.cells n _ a e h
        exact in_seq true hK hu I h1 h2 qx rx k2 (.inl (SqL.of k1)) (k.now R (.bl _) hw)
      | dct t kvs =>
        obtain ⟨hk, hw⟩ := (show D.key t dx = true ∧ Q' (.bl (true != (dGet kvs dx).isSome)) st from hw)
        obtain ⟨o, g, ro⟩ := dct_get (R.cells n _ a e h) hk qx
        refine d_notIn (by omega) I g rx fun s' I' => ⟨.bl _, H, I', rfl, ?_⟩
        rw [Bool.true_bne] at hw
        rw [← ROp.isSome ro]
        exact k.now R (.bl _) hw
      | obj _ _ => exact hw.elim
    | kt ys hk =>
      cases ry
      obtain ⟨h1, hw⟩ := (show cmpD dx = true ∧ Q' _ st from hw)
      refine in_seq true hK hu I h1 (cmpD_strs ys) qx rx (RDs.strs ys) (.inr hk.sq) ?_
      rw [List.any_map]
      exact k.now R (.bl _) hw
    | _ => exact hw.elim

/-! ### a op= b -/
def rAug (C : Ct) (o : Bop) : TIp := fun x y H Q => ∃ r st dx dy Q', Rel C r st H ∧ RD C r H dx x ∧ RD C r H dy y ∧ wpAug o dx dy st Q' ∧ Kp C r H Q' Q
end
end DL

set_option maxHeartbeats 1000000
/-! DLSort: sorted(..), of any data that can be ordered. -/
namespace DL
open PySem PySem.Spec PyProof.Rows L2
section
variable {prog : Program} {w : World} {A : Around} {E : Value → Shared → Prop} {s : Shared}
open PySem.W in
theorem sorted_gen {β : Type} {R : Value → β → Prop} {enc : β → PyData} {v : Value} {vs : List Value} {bs : List β} {Q : Value → Shared → Prop} (hL : bs.length ≤ sizeLine)
    (hcol : ∀ Q' : List Value → Shared → Prop, (∀ h' tk, (∀ b o, s.heap.get? b = some o → h'.get? b = some o) → Q' vs { s with heap := h', toks := tk }) → wpAny (model prog w) A.in1 (collect v) Q' E s)
    (e : EachIs R vs bs) (er : EachIs (fun v b => ∃ as, Reads s.heap v (enc b) as) vs bs) (hal : AllAlike (bs.map enc)) (hk : Sortable (bs.map enc)) (hu : ∀ b, b ∈ bs → A.units + 2 + (enc b).depth < cLine)
    (h : ∀ (out : List Value) (ep : Nat) (h1 h' : Heap) (tk : Nat), (∀ b o, s.heap.get? b = some o → h1.get? b = some o) → (∀ b o, h1.get? b = some o → h'.get? b = some o) → h'.get? h1.objs.size = some (seqObj "list" (List.toArray out) ep) → EachIs R out (bs.mergeSort (dataLe false enc)) → Q (.ref h1.objs.size) { s with heap := h', toks := tk }) :
    wpAny (model prog w) A (call (.builtin "sorted") [v]) Q E s := by
  refine Calls.call_function_entry kind_sorted plain_sorted entry_sorted (args_sorted1 _) ?_
  unfold Builtin.«sorted»
  refine wpAny_bind (m := checkCount "sorted" 1 1 _) (wpAny_pure ?_)
  refine wpAny_bind (hcol _ fun h1 tk1 k1 => ?_)
  have hvl : vs.length ≤ sizeLine := by rw [e.length]; exact hL
  refine wpAny_bind (wpAny_newList ?_ hvl)
  have hoL : (h1.push (seqObj "list" vs.toArray 0)).get? h1.objs.size = some (seqObj "list" vs.toArray 0) := Heap.get?_push_size _ rfl
  show wpAny _ _ _ _ _ { s with heap := h1.push (seqObj "list" vs.toArray 0), toks := tk1 }
  have kp : ∀ b o, h1.get? b = some o → b ≠ h1.objs.size ∧ (h1.push (seqObj "list" vs.toArray 0)).get? b = some o := fun b o q => ⟨Nat.ne_of_lt (Heap.lt_size q), Heap.get?_push_of_some _ q⟩
  have er' : EachIs (fun v b => ∃ as, Reads (sortingHeap (h1.push (seqObj "list" vs.toArray 0)) h1.objs.size vs) v (enc b) as) vs bs :=
    er.mono fun _ _ ⟨as, r⟩ => ⟨as, PyProof.Rows.Reads.keeps (fun b o q => sortingHeap_old (kp b o (k1 b o q)).1 (kp b o (k1 b o q)).2) r⟩
  refine wpAny_bind (wpAny_holding (wpAny_call_entry slot_list_sort ⟨_, hoL, rfl⟩ entry_list_sort
    (list_sort_vals (s := { s with heap := h1.push (seqObj "list" vs.toArray 0), toks := tk1 }) hoL
      (SortsAt.data (s := { s with heap := sortingHeap (h1.push (seqObj "list" vs.toArray 0)) h1.objs.size vs, toks := tk1 }) (each_map (R := fun v d => ∃ as, Reads (sortingHeap (h1.push (seqObj "list" vs.toArray 0)) h1.objs.size vs) v d as) enc er') hal hk (bound_map hu)) hvl ⟨_, rfl, ?_⟩) (args_list_sort _)))
  obtain ⟨ep, hat⟩ := sortedHeap_at (out := (sortVals (dataKind (sortingHeap (h1.push (seqObj "list" vs.toArray 0)) h1.objs.size vs) (bs.map enc)) false vs vs).toArray) hoL
  refine wpAny_pure ⟨_, rfl, h _ ep h1 _ tk1 k1 (fun b o q => ?_) hat (sortVals_data false e er' hal)⟩
  obtain ⟨z1, z2⟩ := kp b o q
  rw [sortedHeap_old z1 (Heap.lt_size z2)]
  exact z2
end
section
variable {X : Cx} {C : Ct} {r : Lay} {H : Hp}
/-- the values of a list of data -/
def RV (C : Ct) (r : Lay) (H : Hp) (v : Value) (d : D) : Prop := ∃ x, RelV x v ∧ RD C r H d x
theorem each_of : ∀ {xs : List D} {vs : List V} {us : List Value}, RDs C r H xs vs → Vals vs us → PySem.W.EachIs (RV C r H) us xs
  | _, _, _, .nil, .nil => .nil
  | _, _, _, .cons q t, .cons p u => .cons ⟨_, p, q⟩ (each_of t u)
theorem of_each : ∀ {xs : List D} {us : List Value}, PySem.W.EachIs (RV C r H) us xs → ∃ vs, RDs C r H xs vs ∧ Vals vs us
  | _, _, .nil => ⟨[], .nil, .nil⟩
  | _, _, .cons ⟨x, p, q⟩ t => let ⟨vs, h1, h2⟩ := of_each t; ⟨x :: vs, .cons q h1, .cons p h2⟩
theorem each_reads {pins : List (Addr × Obj)} {s : Shared} {σ : L2.St} (hK : X.K = C.K) (I : Inv X pins σ H s) : ∀ {xs : List D} {us : List Value}, D.pures xs = true → PySem.W.EachIs (RV C r H) us xs → PySem.W.EachIs (fun v b => ∃ as, Reads s.heap v (toP b) as) us xs
  | _, _, _, .nil => .nil
  | _, _, p, .cons ⟨x, h, q⟩ t => by
    rw [D.pures, Bool.and_eq_true] at p
    exact .cons (Dp.reads I _ _ _ (by rw [hK]; exact q.dp p.1) h) (each_reads hK I p.2 t)
theorem sortD_len (xs : List D) : (sortD xs).length = xs.length := List.length_mergeSort ..
/-- the rule by what is collected -/
theorem sorted_any {pins : List (Addr × Obj)} {s : Shared} {σ : L2.St} {v : Value} {us : List Value} {xs : List D} {Q : VK} (hK : X.K = C.K) (hu : X.A.units + 65 < cLine) (I : Inv X pins σ H s) (ok : srtOk xs)
    (hcol : ∀ (E : Value → Shared → Prop) (Q' : List Value → Shared → Prop), (∀ h' tk, (∀ b o, s.heap.get? b = some o → h'.get? b = some o) → Q' us { s with heap := h', toks := tk }) → wpAny (model X.prog X.w) X.A.in1 (collect v) Q' E s)
    (e : PySem.W.EachIs (RV C r H) us xs) (h : ∀ vs p, RDs C r H (sortD xs) vs → H p = none → Q (.ref p) (upd H p (.lst vs))) : wpAny (model X.prog X.w) X.A (call (.builtin "sorted") [v]) (EP X pins σ Q) X.xe s := by
  obtain ⟨pp, hz, hd, hal, hs⟩ := ok
  refine sorted_gen (enc := toP) hz (hcol _) e (each_reads hK I pp e) hal hs (fun b m => ?_) fun out ep h1 h' tk k1 k2 hat e2 => ?_
  · rw [toP_depth]
    have := D.depth_mem m
    omega
  · obtain ⟨vs, q1, q2⟩ := of_each e2
    have I1 : Inv X pins σ H { s with heap := h1 } := I.kept (t' := s.toks) k1
    have hlen : vs.length ≤ sizeLine := by
      rw [← q1.length]
      show (sortD xs).length ≤ _
      rw [sortD_len]; exact hz
    exact ⟨.ref _, upd H h1.objs.size (.lst vs), I1.laid (t' := tk) k2 (Nat.le_refl _) ⟨hlen, out, ep, q2, hat⟩, rfl, h vs _ q1 (I1.hok.fresh (Nat.le_refl _))⟩
theorem sorted_seq {pins : List (Addr × Obj)} {s : Shared} {σ : L2.St} {a : Addr} {vs : List V} {xs : List D} {Q : VK} (hK : X.K = C.K) (hu : X.A.units + 65 < cLine) (I : Inv X pins σ H s) (ok : srtOk xs) (sq : SqL X.K H a vs ∨ SqT X.K H a vs) (t : RDs C r H xs vs)
    (h : ∀ vs p, RDs C r H (sortD xs) vs → H p = none → Q (.ref p) (upd H p (.lst vs))) : wpAny (model X.prog X.w) X.A (call (.builtin "sorted") [.ref a]) (EP X pins σ Q) X.xe s := by
  rcases sq with sq | sq
  · obtain ⟨its, rv, p, hz⟩ := I.list sq
    obtain ⟨o, ho, hc, n, hd⟩ := p.isList
    have hlen := rv.length
    refine sorted_any (us := its) hK hu I ok (fun E Q' k => ?_) (each_of t rv) h
    exact wpAny_collect_seq a (.inl rfl) ho hc hd (fun h' kp => k h' s.toks kp) (by simp only [List.size_toArray]; omega)
  · obtain ⟨its, rv, p, hz⟩ := I.tuple sq
    obtain ⟨o, ho, hc, n, hd⟩ := p
    have hlen := rv.length
    refine sorted_any (us := its) hK hu I ok (fun E Q' k => ?_) (each_of t rv) h
    exact wpAny_collect_seq a (.inr rfl) ho hc hd (fun h' kp => k h' s.toks kp) (by simp only [List.size_toArray]; omega)
end
end DL

set_option maxHeartbeats 1000000
/-! DLIx: subscripts, slices, calls of built-in functions, methods of built-in types. -/
namespace DL
open PySem PySem.Spec PyProof.Rows L2
section
variable {C : Ct} {X : Cx}
def rIxC (C : Ct) : R2 := fun x y H Q => ∃ r st dx dy Q', Rel C r st H ∧ RD C r H dx x ∧ RD C r H dy y ∧ wpIx dx dy st (fun d => Q' d st) ∧ Kp C r H Q' Q
theorem atI_rd {r : Lay} {H : Hp} {xs : List D} {vs : List V} {i : Int} {d : D} (q : RDs C r H xs vs) (e : atI xs i = some d) : ∃ v, atI vs i = some v ∧ RD C r H d v := by
  unfold atI at e ⊢
  rw [← q.length]
  cases h : ixN xs.length i with
  | none => rw [h] at e; cases e
  | some j =>
    rw [h] at e
    obtain ⟨v, h1, h2⟩ := q.get (i := j) e
    exact ⟨v, h1, h2⟩
theorem atI_map {α β : Type} (f : α → β) {xs : List α} {i : Int} {a : α} (e : atI xs i = some a) : atI (xs.map f) i = some (f a) := by
  unfold atI at e ⊢
  rw [List.length_map]
  cases h : ixN xs.length i with
  | none => rw [h] at e; cases e
  | some j =>
    rw [h] at e
    have e : xs[j]? = some a := e
    show (xs.map f)[j]? = _
    rw [List.getElem?_map, e]
    rfl
theorem ofS_sign (c : Char) : Str.ofString (String.ofList [c]) = ⟨#[c.toNat]⟩ := ofS_one (String.toList_ofList)
theorem ix_any (hK : X.K = C.K) (hu : X.A.units + 65 < cLine) : IxR X (rIxC C) := by
  intro value slice pins s σ H x y v u Q I rx ry h hs
  obtain ⟨r, st, dx, dy, Q', R, qx, qy, hw, k⟩ := h
  cases qx with
  | tup h t =>
    obtain ⟨i, rfl, hw⟩ := onInt_iff (show onInt dy _ from hw)
    obtain ⟨d, e, hw⟩ := onSome_iff hw
    cases qy
    obtain ⟨z, e2, q⟩ := atI_rd t e
    exact ix_tup value slice pins s σ H _ _ v u Q I rx ry ⟨_, _, i, z, rfl, rfl, by rw [hK]; exact h.sq, e2, k.now R q hw⟩ hs
  | lst h t =>
    obtain ⟨i, rfl, hw⟩ := onInt_iff (show onInt dy _ from hw)
    obtain ⟨d, e, hw⟩ := onSome_iff hw
    cases qy
    obtain ⟨z, e2, q⟩ := atI_rd t e
    exact ix_list value slice pins s σ H _ _ v u Q I rx ry ⟨_, _, i, z, rfl, rfl, by rw [hK]; exact h.sq, e2, k.now R q hw⟩ hs
  | scr xs h =>
    obtain ⟨i, rfl, hw⟩ := onInt_iff (show onInt dy _ from hw)
    obtain ⟨d, e, hw⟩ := onSome_iff hw
    cases qy
    exact ix_list value slice pins s σ H _ _ v u Q I rx ry ⟨_, _, i, _, rfl, rfl, by rw [hK]; exact h.sq, atI_map V.int e, k.now R (.int _) hw⟩ hs
  | kt xs h =>
    obtain ⟨i, rfl, hw⟩ := onInt_iff (show onInt dy _ from hw)
    obtain ⟨d, e, hw⟩ := onSome_iff hw
    cases qy
    exact ix_tup value slice pins s σ H _ _ v u Q I rx ry ⟨_, _, i, _, rfl, rfl, by rw [hK]; exact h.sq, atI_map (fun x => V.str (Str.ofString x)) e, k.now R (.str _) hw⟩ hs
  | str z =>
    obtain ⟨i, rfl, hl, hw⟩ := onInt_iff (show onInt dy _ from hw)
    obtain ⟨c, e, hw⟩ := onSome_iff hw
    cases qy
    refine ix_str value slice pins s σ H _ _ v u Q I rx ry ⟨_, i, c.toNat, rfl, rfl, by rw [ofS_len]; exact hl, by rw [ofS_cps]; exact atI_map Char.toNat e, ?_⟩ hs
    rw [← ofS_sign]
    exact k.now R (.str _) hw
  | @loc n a h =>
    obtain ⟨c, e, hw⟩ := onSome_iff (show onSome st[n]? _ from hw)
    cases c with
    | lst ys =>
      obtain ⟨i, rfl, hw⟩ := onInt_iff (show onInt dy _ from hw)
      obtain ⟨d, e1, hw⟩ := onSome_iff hw
      cases qy
      obtain ⟨vs, k1, k2⟩ := R.cells n _ a e h
      obtain ⟨z, e2, q⟩ := atI_rd k2 e1
      exact ix_list value slice pins s σ H _ _ v u Q I rx ry ⟨_, _, i, z, rfl, rfl, SqL.of k1, e2, k.now R q hw⟩ hs
    | dct t kvs =>
      obtain ⟨hk, hw⟩ := (show D.key t dy = true ∧ onSome (dGet kvs dy) _ from hw)
      obtain ⟨d, e1, hw⟩ := onSome_iff hw
      obtain ⟨o, g, ro⟩ := dct_get (R.cells n _ a e h) hk qy
      rw [e1] at ro
      cases o with
      | none => exact ro.elim
      | some z =>
        cases rx
        exact tail_any (dict_typeIs I g) PySem.F.slot_dict_getitem.lookup (d_getItem (by omega) I g ry fun w' s' I' rw' => ⟨z, H, I', rw', k.now R ro hw⟩) hs
    | obj _ _ => exact hw.elim
  | _ => exact hw.elim

/-! ### slices -/
def rSlC (C : Ct) (m : Bool) : V → Option Int → Option Int → Hp → VK → Prop := fun x lo hi H Q => ∃ r st dx Q', Rel C r st H ∧ RD C r H dx x ∧ wpSl m dx lo hi st Q' ∧ Kp C r H Q' Q
theorem RDs.cut {r : Lay} {H : Hp} {xs : List D} {vs : List V} (q : RDs C r H xs vs) (lo hi : Option Int) : RDs C r H (cutD xs lo hi) (cutV vs lo hi) := by
  unfold cutD cutV
  rw [q.length]
  exact (q.drop _).take _
theorem cut_whole {α : Type} {xs : List α} {lo hi : Option Int} (h : HT.sIx xs.length 0 lo = 0 ∧ HT.sIx xs.length xs.length hi = xs.length) : cutD xs lo hi = xs := by
  unfold cutD
  rw [h.1, h.2]
  simp
theorem sl_any (hK : X.K = C.K) (m : Bool) : SlR X (rSlC C m) := by
  intro pins s σ H x v vl vu lo hi sl Q I rx hs pl pu h
  obtain ⟨r, st, dx, Q', R, qx, hw, k⟩ := h
  cases qx with
  | tup h t =>
    refine sl_tupA pins s σ H _ v vl vu lo hi sl Q I rx hs pl pu ⟨_, _, rfl, by rw [hK]; exact h.sq, fun e => ?_, fun _ => k.newT R (t.cut lo hi) hw⟩
    rw [← t.length] at e
    have hw : Q' (.tup (cutD _ lo hi)) st := hw
    rw [cut_whole e] at hw
    exact k.now R (.tup h t) hw
  | lst h t => exact sl_list pins s σ H _ v vl vu lo hi sl Q I rx hs pl pu ⟨_, _, rfl, by rw [hK]; exact h.sq, k.newL (m := m) R (t.cut lo hi) hw⟩
  | str z =>
    obtain ⟨hl, hw⟩ := (show _ ∧ Q' _ st from hw)
    refine sl_str pins s σ H _ v vl vu lo hi sl Q I rx hs pl pu ⟨_, rfl, by rw [ofS_len]; exact hl, ?_⟩
    have e : cutS (Str.ofString z) lo hi = Str.ofString (String.ofList (cutD z.toList lo hi)) := by
      refine ofS_mk ?_
      show ((Str.ofString z).cps.toList.drop _).take _ = _
      rw [ofS_cps, ofS_len]
      unfold cutD
      rw [String.length_toList, List.map_take, List.map_drop]
    rw [e]
    exact k.now R (.str _) hw
  | @loc n a h =>
    obtain ⟨c, e, hw⟩ := onSome_iff (show onSome st[n]? _ from hw)
    obtain ⟨ys, rfl, hw⟩ := onLst_iff hw
    obtain ⟨vs, k1, k2⟩ := R.cells n _ a e h
    exact sl_list pins s σ H _ v vl vu lo hi sl Q I rx hs pl pu ⟨_, _, rfl, SqL.of k1, k.newL (m := m) R (k2.cut lo hi) hw⟩
  | _ => exact hw.elim

/-! ### isinstance -/
theorem isi_base (K : PySem.W.Frag) : True := trivial
/-! ### built-in functions -/
def Bi.nm : Bi → String
  | .len => "len" | .int_ => "int" | .str_ => "str" | .repr_ => "repr" | .tuple_ => "tuple" | .list_ => "list" | .sorted_ => "sorted" | .all_ => "all" | .any_ => "any" | .sum_ => "sum" | .max1 => "max" | .min1 => "min" | .max2 => "max" | .min2 => "min"
  | .abs_ => "abs" | .ord_ => "ord" | .type_ => "type" | .dict1 => "dict" | .bool_ => "bool" | .set_ => "set"
def Bi.val : Bi → Value
  | .len => .builtin "len" | .int_ => .type "int" | .str_ => .type "str" | .repr_ => .builtin "repr" | .tuple_ => .type "tuple" | .list_ => .type "list" | .sorted_ => .builtin "sorted" | .all_ => .builtin "all" | .any_ => .builtin "any" | .sum_ => .builtin "sum"
  | .max1 => .builtin "max" | .min1 => .builtin "min" | .max2 => .builtin "max" | .min2 => .builtin "min" | .abs_ => .builtin "abs" | .ord_ => .builtin "ord" | .type_ => .type "type" | .dict1 => .type "dict" | .bool_ => .type "bool" | .set_ => .type "set"
def rBi (C : Ct) (m : Bool) (f : Bi) : List V → Hp → VK → Prop := fun xs H Q => ∃ r st ds Q', Rel C r st H ∧ RDs C r H ds xs ∧ wpBi m f ds st Q' ∧ Kp C r H Q' Q
theorem bls_of {r : Lay} {H : Hp} : ∀ {xs : List D} {vs : List V}, RDs C r H xs vs → (xs.all isBlD) = true → ∃ bs : List Bool, vs = bs.map V.bl ∧ xs = bs.map D.bl
  | _, _, .nil, _ => ⟨[], rfl, rfl⟩
  | _, _, .cons q t, h => by
    rw [List.all_cons, Bool.and_eq_true] at h
    obtain ⟨bs, h1, h2⟩ := bls_of t h.2
    cases q <;> first | cases h.1 | skip
    rename_i b
    exact ⟨b :: bs, by rw [h1]; rfl, by rw [h2]; rfl⟩
theorem ord_iff {m : Bool} {z : String} {st : Sto} {Q : D → Sto → Prop} (h : wpBi m .ord_ [.str z] st Q) : ∃ c, z.toList = [c] ∧ Q (.int c.toNat) st := by
  have h2 : (match z.toList with
    | [c] => Q (.int c.toNat) st
    | _ => False) := h
  cases e : z.toList with
  | nil => rw [e] at h2; exact h2.elim
  | cons c l =>
    rw [e] at h2
    cases l with
    | nil => exact ⟨c, rfl, h2⟩
    | cons _ _ => exact h2.elim
theorem cr_bi (hK : X.K = C.K) (hu : X.A.units + 65 < cLine) (hc : X.calm = true) (m : Bool) (f : Bi) : CallR X f.val (rBi C m f) := by
  intro pins s σ H xs us Q I rr h
  obtain ⟨r, st, ds, Q', R, q, hw, k⟩ := h
  cases f with
  | len =>
    cases q with
    | nil => exact hw.elim
    | cons q t =>
      cases t with
      | cons _ _ => cases q <;> exact hw.elim
      | nil =>
        cases q with
        | str z =>
          obtain ⟨hl, hw⟩ := (show _ ∧ Q' _ st from hw)
          refine call_len_str pins s σ H _ us Q I rr ⟨_, rfl, by rw [ofS_len]; exact hl, ?_⟩
          rw [ofS_len]
          exact k.now R (.int _) hw
        | tup h t =>
          refine call_len_seq pins s σ H _ us Q I rr ⟨_, _, rfl, .inr (by rw [hK]; exact h.sq), ?_⟩
          rw [← t.length]
          exact k.now R (.int _) hw
        | lst h t =>
          refine call_len_seq pins s σ H _ us Q I rr ⟨_, _, rfl, .inl (by rw [hK]; exact h.sq), ?_⟩
          rw [← t.length]
          exact k.now R (.int _) hw
        | scr xs h =>
          refine call_len_seq pins s σ H _ us Q I rr ⟨_, _, rfl, .inl (by rw [hK]; exact h.sq), ?_⟩
          rw [List.length_map]
          exact k.now R (.int _) hw
        | kt xs h =>
          refine call_len_seq pins s σ H _ us Q I rr ⟨_, _, rfl, .inr (by rw [hK]; exact h.sq), ?_⟩
          rw [List.length_map]
          exact k.now R (.int _) hw
        | @loc n a h =>
          obtain ⟨c, e, hw⟩ := onSome_iff (show onSome st[n]? _ from hw)
          cases c with
          | lst ys =>
            obtain ⟨vs, k1, k2⟩ := R.cells n _ a e h
            refine call_len_seq pins s σ H _ us Q I rr ⟨_, _, rfl, .inl (SqL.of k1), ?_⟩
            rw [← k2.length]
            exact k.now R (.int _) hw
          | dct t kvs =>
            cases t with
            | false =>
              obtain ⟨vs, k1, k2⟩ := R.cells n _ a e h
              obtain ⟨u, rfl, rx⟩ := vals1 rr
              cases rx
              refine d_len I (.inl k1) fun t s' I' => ⟨.int _, H, I', ⟨_, rfl⟩, ?_⟩
              rw [← k2.length]
              exact k.now R (.int _) hw
            | true =>
              obtain ⟨vs, k1, k2⟩ := R.cells n _ a e h
              refine call_len_dT pins s σ H _ us Q I rr ⟨_, _, rfl, k1, ?_⟩
              rw [← k2.length]
              exact k.now R (.int _) hw
          | obj _ _ => exact hw.elim
        | _ => exact hw.elim
  | int_ =>
    cases q with
    | nil => exact hw.elim
    | cons q t =>
      cases t with
      | cons _ _ => cases q <;> exact hw.elim
      | nil =>
        cases q with
        | int i => exact call_int1 pins s σ H _ us Q I rr (.inl ⟨i, rfl, k.now R (.int _) hw⟩)
        | bl b => exact call_int1 pins s σ H _ us Q I rr (.inr ⟨b, rfl, k.now R (.int _) hw⟩)
        | _ => exact hw.elim
  | tuple_ =>
    cases q with
    | nil => exact hw.elim
    | cons q t =>
      cases t with
      | cons _ _ => cases q <;> exact hw.elim
      | nil =>
        cases q with
        | tup h t => exact call_tuple_of pins s σ H _ us Q I rr ⟨_, _, rfl, .inr ⟨by rw [hK]; exact h.sq, k.now R (.tup h t) hw⟩⟩
        | lst h t => exact call_tuple_of pins s σ H _ us Q I rr ⟨_, _, rfl, .inl ⟨by rw [hK]; exact h.sq, k.newT R t hw⟩⟩
        | @loc n a h =>
          obtain ⟨c, e, hw⟩ := onSome_iff (show onSome st[n]? _ from hw)
          obtain ⟨ys, rfl, hw⟩ := onLst_iff hw
          obtain ⟨vs, k1, k2⟩ := R.cells n _ a e h
          exact call_tuple_of pins s σ H _ us Q I rr ⟨_, _, rfl, .inl ⟨SqL.of k1, k.newT R k2 hw⟩⟩
        | _ => exact hw.elim
  | list_ =>
    cases q with
    | nil => exact hw.elim
    | cons q t =>
      cases t with
      | cons _ _ => cases q <;> exact hw.elim
      | nil =>
        cases q with
        | tup h t => exact call_list_of pins s σ H _ us Q I rr ⟨_, _, rfl, .inr (by rw [hK]; exact h.sq), k.newL (m := m) R t hw⟩
        | lst h t => exact call_list_of pins s σ H _ us Q I rr ⟨_, _, rfl, .inl (by rw [hK]; exact h.sq), k.newL (m := m) R t hw⟩
        | @loc n a h =>
          obtain ⟨c, e, hw⟩ := onSome_iff (show onSome st[n]? _ from hw)
          cases c with
          | lst ys =>
            obtain ⟨vs, k1, k2⟩ := R.cells n _ a e h
            exact call_list_of pins s σ H _ us Q I rr ⟨_, _, rfl, .inl (SqL.of k1), k.newL (m := m) R k2 hw⟩
          | dct t kvs => exact hw.elim
          | obj _ _ => exact hw.elim
        | _ => exact hw.elim
  | all_ =>
    cases q with
    | nil => exact hw.elim
    | cons q t =>
      cases t with
      | cons _ _ => cases q <;> exact hw.elim
      | nil =>
        cases q with
        | lst h t =>
          obtain ⟨h1, hw⟩ := (show _ ∧ Q' _ st from hw)
          obtain ⟨bs, e1, e2⟩ := bls_of t h1
          subst e1 e2
          refine cr_all hc pins s σ H _ us Q I rr ⟨_, bs, rfl, by rw [hK]; exact h.sq, ?_⟩
          rw [List.all_map] at hw
          exact k.now R (.bl _) hw
        | _ => exact hw.elim
  | any_ =>
    cases q with
    | nil => exact hw.elim
    | cons q t =>
      cases t with
      | cons _ _ => cases q <;> exact hw.elim
      | nil =>
        cases q with
        | lst h t =>
          obtain ⟨h1, hw⟩ := (show _ ∧ Q' _ st from hw)
          obtain ⟨bs, e1, e2⟩ := bls_of t h1
          subst e1 e2
          refine cr_any hc pins s σ H _ us Q I rr ⟨_, bs, rfl, by rw [hK]; exact h.sq, ?_⟩
          rw [List.any_map] at hw
          exact k.now R (.bl _) hw
        | _ => exact hw.elim
  | max2 =>
    cases q with
    | nil => exact hw.elim
    | cons q t =>
      cases t with
      | nil => cases q <;> exact hw.elim
      | cons q2 t =>
        cases t with
        | cons _ _ => cases q <;> cases q2 <;> exact hw.elim
        | nil =>
          cases q <;> cases q2 <;> first | exact hw.elim | skip
          rename_i i j
          refine call_max2 hc pins s σ H _ us Q I rr ⟨i, j, rfl, ?_⟩
          have e : (if j > i then j else i) = max i j := by by_cases z : j > i <;> simp [z] <;> omega
          rw [e]
          exact k.now R (.int _) hw
  | min2 =>
    cases q with
    | nil => exact hw.elim
    | cons q t =>
      cases t with
      | nil => cases q <;> exact hw.elim
      | cons q2 t =>
        cases t with
        | cons _ _ => cases q <;> cases q2 <;> exact hw.elim
        | nil =>
          cases q <;> cases q2 <;> first | exact hw.elim | skip
          rename_i i j
          refine call_min2 hc pins s σ H _ us Q I rr ⟨i, j, rfl, ?_⟩
          have e : (if j < i then j else i) = min i j := by by_cases z : j < i <;> simp [z] <;> omega
          rw [e]
          exact k.now R (.int _) hw
  | abs_ =>
    cases q with
    | nil => exact hw.elim
    | cons q t =>
      cases t with
      | cons _ _ => cases q <;> exact hw.elim
      | nil =>
        cases q with
        | int i => exact call_abs pins s σ H _ us Q I rr ⟨i, rfl, k.now R (.int _) hw⟩
        | _ => exact hw.elim
  | ord_ =>
    cases q with
    | nil => exact hw.elim
    | cons q t =>
      cases t with
      | cons _ _ => cases q <;> exact hw.elim
      | nil =>
        cases q with
        | str z =>
          obtain ⟨c, e, hw⟩ := ord_iff hw
          refine call_ord pins s σ H _ us Q I rr ⟨_, rfl, by rw [ofS_one e]; rfl, ?_⟩
          rw [ofS_one e]
          exact k.now R (.int _) hw
        | _ => exact hw.elim
  | sorted_ =>
    cases q with
    | nil => exact hw.elim
    | cons q t =>
      cases t with
      | cons _ _ => cases q <;> exact hw.elim
      | nil =>
        obtain ⟨u, rfl, rx⟩ := vals1 rr
        cases q with
        | tup h t => cases rx; exact sorted_seq hK hu I hw.1 (.inr (by rw [hK]; exact h.sq)) t fun vs p q2 hp => (k.newL (m := m) R q2 hw.2) p hp
        | lst h t => cases rx; exact sorted_seq hK hu I hw.1 (.inl (by rw [hK]; exact h.sq)) t fun vs p q2 hp => (k.newL (m := m) R q2 hw.2) p hp
        | @loc n a h =>
          cases rx
          obtain ⟨xs, e, hw⟩ := onSome_iff (show onSome (seqOf st (.loc n)) _ from hw)
          have e : (match st[n]? with
            | some (.lst xs) => some xs
            | _ => none) = some xs := e
          cases e2 : st[n]? with
          | none => rw [e2] at e; cases e
          | some c =>
            rw [e2] at e
            cases c with
            | lst ys =>
              cases e
              obtain ⟨vs, k1, k2⟩ := R.cells n _ a e2 h
              exact sorted_seq hK hu I hw.1 (.inl (SqL.of k1)) k2 fun vs p q2 hp => (k.newL (m := m) R q2 hw.2) p hp
            | dct _ _ => cases e
            | obj _ _ => cases e
        | _ => exact hw.elim
  | repr_ =>
    cases q with
    | nil => exact hw.elim
    | cons q t =>
      cases t with
      | cons _ _ => cases q <;> exact hw.elim
      | nil =>
        obtain ⟨u, rfl, rx⟩ := vals1 rr
        cases q with
        | bl b =>
          cases (show u = Value.bool b from rx)
          refine PySem.P.repr_of_bool ⟨.str (if b = true then ("True" : Str) else ("False" : Str)), H, I.tok _, ⟨s.toks, ?_⟩, ?_⟩
          · cases b <;> rfl
          · cases b
            · exact k.now R (.str _) (show Q' (.str "False") st from hw)
            · exact k.now R (.str _) (show Q' (.str "True") st from hw)
        | _ => exact hw.elim
  | _ => exact hw.elim
end
end DL

set_option maxHeartbeats 1000000
/-! DLOk: whether a text is read rightly. -/
namespace DL
open PySem PySem.Spec PyProof.Rows L2

/-- what stands in the module: defs, methods (class, name), classes that are made, constants, built-in names that are free, exception classes -/
structure Tab where
  fns : List String
  meths : List (String × String)
  news : List String
  globs : List String
  free : List String
  excs : List String
deriving Inhabited

def visB (sc : Scope) (x : Str) : Bool := match sc.names.lookup x with
  | some .local | some .cell | some .free => true
  | _ => false
def locB (sc : Scope) (x : Str) : Bool := match sc.names.lookup x with
  | some .local | some .cell => true
  | _ => false
def glB (sc : Scope) (x : Str) : Bool := match sc.names.lookup x with
  | some .globalImplicit => true
  | _ => false
def okNm (x : Str) : Bool := !(x == ("__debug__" : Str)) && !(x == ("__classdict__" : Str)) && decide (x ≠ "__name__")
def Uop.op : Uop → UnaryOp
  | .neg => .USub
  | .inv => .Invert
/-- as many arguments -/
def Bm.ok : Bm → Nat → Bool
  | .append, 1 | .extend, 1 | .pop0, 0 | .pop1, 1 | .remove, 1 | .get1, 1 | .get2, 2 | .join, 1 => true
  | _, _ => false
def noStar : Expr → Bool
  | .Starred _ _ => false
  | _ => true
def noSet : Expr → Bool
  | .Set _ _ _ => false
  | _ => true
def noSlice : Expr → Bool
  | .Slice _ _ _ _ => false
  | _ => true
/-- no comprehension -/
def noComp : Expr → Bool
  | .ListComp _ _ _ _ | .SetComp _ _ _ _ | .DictComp _ _ _ _ _ => false
  | _ => true
/-- a call of nothing (super() among them) -/
def noCall0 : Expr → Bool
  | .Call _ [] _ _ => false
  | _ => true

mutual
def T.slots : T → List Nat
  | .v i => [i]
  | .tup ts => Ts.slots ts
def Ts.slots : Ts → List Nat
  | .nil => []
  | .cons t ts => T.slots t ++ Ts.slots ts
end
mutual
def okT (N : List Str) (sc : Scope) : T → Expr → Bool
  | .v i, ex => (match ex with
    | .Name x _ => decide (N[i]? = some x) && locB sc x
    | _ => false)
  | .tup ts, ex => (match ex with
    | .Tuple xs _ _ => okTs N sc ts xs
    | _ => false)
def okTs (N : List Str) (sc : Scope) : Ts → List Expr → Bool
  | .nil, xs => xs.isEmpty
  | .cons t ts, xs => (match xs with
    | x :: xs => okT N sc t x && noStar x && okTs N sc ts xs
    | [] => false)
end
def isNm : Expr → Bool
  | .Name _ _ => true
  | _ => false
def isTupE : Expr → Bool
  | .Tuple _ _ _ => true
  | _ => false
/-- the names of a block's own slots -/
def ownOf (N : List Str) (vs : List Nat) : List (Str × Nat) := vs.filterMap fun i => (N[i]?).map fun x => (x, i)

mutual
def okE (T : Tab) (N : List Str) (sc : Scope) (cm : Bool) : E → Expr → Bool
  | .non, ex => (match ex with
    | .Constant .none _ _ => true
    | _ => false)
  | .bl b, ex => (match ex with
    | .Constant (.bool c) _ _ => decide (b = c)
    | _ => false)
  | .int i, ex => (match ex with
    | .Constant (.int j) _ _ => decide (i = j)
    | _ => false)
  | .str s, ex => (match ex with
    | .Constant (.str x) _ _ => decide (x = Str.ofString s)
    | _ => false)
  | .v i, ex => (match ex with
    | .Name x _ => decide (N[i]? = some x) && visB sc x && okNm x
    | _ => false)
  | .g s, ex => (match ex with
    | .Name x _ => decide (x = Str.ofString s) && glB sc x && okNm x && T.globs.contains s
    | _ => false)
  | .tup es, ex => (match ex with
    | .Tuple xs _ _ => okEs T N sc cm es xs
    | _ => false)
  | .lst _ es, ex => (match ex with
    | .List xs _ => okEs T N sc cm es xs
    | _ => false)
  | .dct _ ks vs, ex => (match ks, vs, ex with
    | .nil, .nil, .Dict [] [] _ => true
    | _, _, _ => false)
  | .bin o a b, ex => (match ex with
    | .BinOp x op y _ => decide (op = o.op) && okE T N sc cm a x && okE T N sc cm b y
    | _ => false)
  | .un o a, ex => (match ex with
    | .UnaryOp op x _ => decide (op = o.op) && okE T N sc cm a x
    | _ => false)
  | .cmp o a b, ex => (match ex with
    | .Compare x [op] [y] _ => decide (op = o.op) && okE T N sc cm a x && okE T N sc cm b y && noSet y
    | _ => false)
  | .cmp2 o o' a b c, ex => (match ex with
    | .Compare x [op, op'] [y, z] _ => decide (op = o.op) && decide (op' = o'.op) && okE T N sc cm a x && okE T N sc cm b y && okE T N sc cm c z && noSet z
    | _ => false)
  | .and_ es, ex => (match ex with
    | .BoolOp .And xs _ => okEs T N sc cm es xs
    | _ => false)
  | .or_ es, ex => (match ex with
    | .BoolOp .Or xs _ => okEs T N sc cm es xs
    | _ => false)
  | .not_ a, ex => (match ex with
    | .UnaryOp .Not x _ => okE T N sc cm a x
    | _ => false)
  | .ife c a b, ex => (match ex with
    | .IfExp x y z _ => okE T N sc cm c x && okE T N sc cm a y && okE T N sc cm b z
    | _ => false)
  | .ix a i, ex => (match ex with
    | .Subscript x y _ => okE T N sc cm a x && okE T N sc cm i y && noSlice y
    | _ => false)
  | .sl _ a lo hi, ex => (match ex with
    | .Subscript x (.Slice l h none _) _ => okE T N sc cm a x && okEo T N sc cm lo l && okEo T N sc cm hi h
    | _ => false)
  | .rev _ a, ex => (match ex with
    | .Subscript x (.Slice none none (some (.UnaryOp .USub (.Constant (.int 1) _ _) _)) _) _ => okE T N sc cm a x
    | _ => false)
  | .isi a t, ex => (match ex with
    | .Call (.Name f _) [x, .Name c _] [] _ => decide (f = Str.ofString "isinstance") && glB sc f && decide (c = Str.ofString t.nm) && glB sc c && T.free.contains "isinstance" && T.free.contains t.nm &&
        decide (t ≠ .non) && okE T N sc cm a x && noStar x
    | _ => false)
  | .call f es, ex => (match ex with
    | .Call (.Name x _) xs [] _ => decide (x = Str.ofString f) && glB sc x && okNm x && cm && T.fns.contains f && okEs T N sc cm es xs
    | _ => false)
  | .new c es, ex => false
  | .fld o f, ex => false
  | .meth m o es, ex => false
  | .bm b o es, ex => (match ex with
    | .Call (.Attribute x a ap) xs [] cp => decide (a = Str.ofString b.nm) && okE T N sc cm o x && noCall0 x && okEs T N sc cm es xs && (ap.endLine == cp.line) && b.ok xs.length
    | _ => false)
  | .bi _ f es, ex => (match ex with
    | .Call (.Name x _) xs [] _ => decide (x = Str.ofString f.nm) && glB sc x && okNm x && cm && T.free.contains f.nm && !xs.isEmpty && okEs T N sc cm es xs
    | _ => false)
  | .lc _ elt t it c, ex => (match ex with
    | .ListComp x [⟨tg, iter, ifs, k⟩] scope _ => cm && decide (k = 0) && okIt T N sc cm it iter && noSet iter && (!itTup it || isTupE tg) && okT N scope t tg && blkC N sc scope (ownOf N t.slots) && decide ((ownOf N t.slots).map (·.2) = t.slots) && okE T N scope cm elt x && okC T N scope cm c ifs
    | _ => false)
  | .lc2 .., _ => false
  | .dc .., _ => false
def okEs (T : Tab) (N : List Str) (sc : Scope) (cm : Bool) : Es → List Expr → Bool
  | .nil, xs => xs.isEmpty
  | .cons e es, xs => (match xs with
    | x :: xs => okE T N sc cm e x && noStar x && okEs T N sc cm es xs
    | [] => false)
def okEo (T : Tab) (N : List Str) (sc : Scope) (cm : Bool) : Eo → Option Expr → Bool
  | .none, x => x.isNone
  | .some e, x => (match x with
    | some x => okE T N sc cm e x
    | none => false)
def okC (T : Tab) (N : List Str) (sc : Scope) (cm : Bool) : Eo → List Expr → Bool
  | .none, ys => ys.isEmpty
  | .some e, ys => (match ys with
    | [y] => okE T N sc cm e y
    | _ => false)
def okIt (T : Tab) (N : List Str) (sc : Scope) (cm : Bool) : It → Expr → Bool
  | .e a, ex => okE T N sc cm a ex
  | .range1 a, ex => (match ex with
    | .Call (.Name f _) [x] [] _ => decide (f = Str.ofString "range") && glB sc f && T.free.contains "range" && okE T N sc cm a x && noStar x
    | _ => false)
  | .range2 a b, ex => (match ex with
    | .Call (.Name f _) [x, y] [] _ => decide (f = Str.ofString "range") && glB sc f && T.free.contains "range" && okE T N sc cm a x && okE T N sc cm b y && noStar x && noStar y
    | _ => false)
  | .zip a b, ex => (match ex with
    | .Call (.Name f _) [x, y] [] _ => decide (f = Str.ofString "zip") && glB sc f && T.free.contains "zip" && okE T N sc cm a x && okE T N sc cm b y && noStar x && noStar y
    | _ => false)
  | .enum a, ex => (match ex with
    | .Call (.Name f _) [x] [] _ => decide (f = Str.ofString "enumerate") && glB sc f && T.free.contains "enumerate" && okE T N sc cm a x && noStar x
    | _ => false)
  | .rev a, ex => (match ex with
    | .Call (.Name f _) [x] [] _ => decide (f = Str.ofString "reversed") && glB sc f && T.free.contains "reversed" && okE T N sc cm a x && noStar x
    | _ => false)
  | _, _ => false
/-- these give tuples to a target of several names -/
def itTup : It → Bool
  | .zip .. | .enum .. | .items .. => true
  | _ => false
end
/-! ### statements -/
def isLoc (sc : Scope) (x : Str) : Bool := match sc.names.lookup x with
  | some .local => true
  | _ => false
/-- a comprehension that a plain name of the frame takes on its own line -/
def okLcN (sc : Scope) (l : Nat) : Expr → Expr → Bool
  | .Name y py, .ListComp _ _ scope p => isLoc sc y && py.line == p.line && !(scope.names.any fun (n, k) => n == y && (k == .local || k == .cell))
  | _, _ => false
def okTg (T : Tab) (N : List Str) (sc : Scope) (cm : Bool) : Tg → Expr → Bool
  | .t (.v i), ex => okT N sc (.v i) ex
  | .t (.tup ts), ex => cm && okT N sc (.tup ts) ex
  | .ix a i, ex => (match ex with
    | .Subscript x y _ => okE T N sc cm a x && okE T N sc cm i y && noSlice y
    | _ => false)
  | .fld _ _, _ => false
def okAug : Bop → Bool
  | .add | .sub => true
  | _ => false
def okAugT (T : Tab) (N : List Str) (sc : Scope) (cm : Bool) : Tg → Expr → Bool
  | .t (.v i), ex => (match ex with
    | .Name x _ => decide (N[i]? = some x) && locB sc x
    | _ => false)
  | .ix a i, ex => (match ex with
    | .Subscript x y _ => okE T N sc cm a x && okE T N sc cm i y && noSlice y
    | _ => false)
  | _, _ => false
def isNil : Es → Bool
  | .nil => true
  | _ => false
mutual
def okS (T : Tab) (N : List Str) (sc : Scope) (cm : Bool) : S → Stmt → Bool
  | .asg t e, s => (match s with
    | .Assign [tg] ex p => okTg T N sc cm t tg && okE T N sc cm e ex && (!isTupE tg || !isTupE ex) && (noComp ex || okLcN sc p.line tg ex || !isNm tg)
    | _ => false)
  | .par i j es, s => (match s with
    | .Assign [.Tuple [.Name x _, .Name y _] _ _] (.Tuple [a, b] _ _) _ => cm && decide (N[i]? = some x) && decide (N[j]? = some y) && decide (i ≠ j) && isLoc sc x && isLoc sc y && okEs T N sc cm es [a, b] && false
    | _ => false)
  | .aug o t e, s => (match s with
    | .AugAssign tg op ex _ => decide (op = o.op) && okAug o && okE T N sc cm e ex && okAugT T N sc cm t tg
    | _ => false)
  | .ex e, s => (match s with
    | .Expr ex _ => okE T N sc cm e ex && noComp ex
    | _ => false)
  | .ret e, s => (match s with
    | .Return (some ex) _ => okE T N sc cm e ex
    | _ => false)
  | .ret0, s => (match s with
    | .Return none _ => true
    | _ => false)
  | .ite c a b, s => (match s with
    | .If ex x y _ => okE T N sc cm c ex && okSs T N sc cm a x && okSs T N sc cm b y
    | _ => false)
  | .for_ t it body, s => (match s with
    | .For tg iter x [] _ => cm && okT N sc t tg && okIt T N sc cm it iter && noSet iter && (!itTup it || isTupE tg) && okSs T N sc cm body x
    | _ => false)
  | .while_ c body, s => (match s with
    | .While ex x [] _ => cm && okE T N sc cm c ex && okSs T N sc cm body x
    | _ => false)
  | .brk, s => (match s with
    | .Break _ => true
    | _ => false)
  | .cont, s => (match s with
    | .Continue _ => true
    | _ => false)
  | .pass, s => (match s with
    | .Pass _ => true
    | _ => false)
  | .raise c es, s => (match s with
    | .Raise (some (.Call (.Name x _) [] [] _)) none _ => cm && decide (x = Str.ofString c) && glB sc x && okNm x && T.excs.contains c && isNil es
    | _ => false)
  | .try_ body hs, s => (match s, hs with
    | .Try b [.ExceptHandler (some (.Name x _)) none (h :: hb) _] [] [] _, .cons c none suite .nil => cm && decide (x = Str.ofString c) && glB sc x && okNm x && T.excs.contains c && okSs T N sc cm body b && okSs T N sc false suite (h :: hb)
    | _, _ => false)
  | .del _ _, _ => false
def okSs (T : Tab) (N : List Str) (sc : Scope) (cm : Bool) : Ss → List Stmt → Bool
  | .nil, ss => ss.isEmpty
  | .cons s ss, xs => (match xs with
    | x :: xs => okS T N sc cm s x && okSs T N sc cm ss xs
    | [] => false)
  | .stop ss, xs => okSs T N sc cm ss xs
end
end DL

set_option maxHeartbeats 1000000
/-! DLSnd: what wp says of an expression is so. -/
namespace DL
open PySem PySem.Spec PyProof.Rows L2

/-! ### what is wanted -/
/-- an exception lies so -/
def XR (C : Ct) (r : Lay) (H : Hp) (x : Xc) (cls : Value) (dx : Option Addr) : Prop :=
  ∃ A, cls = .ref A ∧ C.mg (Str.ofString x.cls) = some (.ref A) ∧ ((x.fs = [] ∧ dx = none) ∨ ∃ d vs, dx = some d ∧ H d = some (.xd vs) ∧ RFs C r H x.fs vs)
def XW (C : Ct) (r : Lay) (H : Hp) (s : L2.St) (X' : EX) (W : WX) : Prop :=
  ∀ (r' : Lay) (st' : Sto) (H' : Hp) (x : Xc) (cls : Value) (dx : Option Addr), Fut r H r' H' → Rel C r' st' H' → XR C r' H' x cls dx → X' x st' → W cls dx s H'
theorem XW.mono {C : Ct} {r r' : Lay} {H H' : Hp} {s : L2.St} {X' : EX} {W : WX} (k : XW C r H s X' W) (f : Fut r H r' H') : XW C r' H' s X' W := fun r2 st2 H2 x c d g R q h => k r2 st2 H2 x c d (f.trans g) R q h
def Kps (C : Ct) (r : Lay) (H : Hp) (Q' : List D → Sto → Prop) (Q : List V → Hp → Prop) : Prop :=
  ∀ (r' : Lay) (st' : Sto) (H' : Hp) (d : List D) (v : List V), Fut r H r' H' → Rel C r' st' H' → RDs C r' H' d v → Q' d st' → Q v H'
def KpB (C : Ct) (r : Lay) (H : Hp) (Q' : Bool → Sto → Prop) (Q : Bool → Hp → Prop) : Prop :=
  ∀ (r' : Lay) (st' : Sto) (H' : Hp) (b : Bool), Fut r H r' H' → Rel C r' st' H' → Q' b st' → Q b H'
def KpO (C : Ct) (r : Lay) (H : Hp) (Q' : Option Int → Sto → Prop) (Q : Option Int → Hp → Prop) : Prop :=
  ∀ (r' : Lay) (st' : Sto) (H' : Hp) (b : Option Int), Fut r H r' H' → Rel C r' st' H' → Q' b st' → Q b H'
theorem KpB.mono {C : Ct} {r r' : Lay} {H H' : Hp} {Q' : Bool → Sto → Prop} {Q : Bool → Hp → Prop} (k : KpB C r H Q' Q) (f : Fut r H r' H') : KpB C r' H' Q' Q := fun r2 st2 H2 b g R h => k r2 st2 H2 b (f.trans g) R h
def rdE (C : Ct) (L : Lib) (W : WX) (e : E) : TE := fun σ H Q => ∃ r env st Q' X', Rel C r st H ∧ RE C r H env σ ∧ wpE L e env st Q' X' ∧ Kp C r H Q' Q ∧ XW C r H σ X' W
def rdEs (C : Ct) (L : Lib) (W : WX) (e : Es) : TA := fun σ H Q => ∃ r env st Q' X', Rel C r st H ∧ RE C r H env σ ∧ wpEs L e env st Q' X' ∧ Kps C r H Q' Q ∧ XW C r H σ X' W
def rdT (C : Ct) (L : Lib) (W : WX) (e : E) : TT := fun σ H Q => ∃ r env st Q' X', Rel C r st H ∧ RE C r H env σ ∧ wpE L e env st (fun d st => onBl d fun b => Q' b st) X' ∧ KpB C r H Q' Q ∧ XW C r H σ X' W
def rdEo (C : Ct) (L : Lib) (W : WX) (e : Eo) : L2.St → Hp → (Option Int → Hp → Prop) → Prop := fun σ H Q => ∃ r env st Q' X', Rel C r st H ∧ RE C r H env σ ∧ wpEo L e env st Q' X' ∧ KpO C r H Q' Q ∧ XW C r H σ X' W

theorem peI {X : Cx} {e : Expr} {t t' : TE} (h : PE X e t) (i : ∀ σ H Q, t' σ H Q → t σ H Q) : PE X e t' := ⟨fun pins s σ H Q I q => h.run pins s σ H Q I (i σ H Q q)⟩
theorem ptI {X : Cx} {e : Expr} {t t' : TT} (h : PT X e t) (i : ∀ σ H Q, t' σ H Q → t σ H Q) : PT X e t' := ⟨fun pins s σ H Q I q => h.run pins s σ H Q I (i σ H Q q)⟩
theorem pwI {X : Cx} {e : Expr} {t t' : TT} (h : PW X e t) (i : ∀ σ H Q, t' σ H Q → t σ H Q) : PW X e t' := ⟨fun wh pins s σ H Q I q => h.run wh pins s σ H Q I (i σ H Q q)⟩
theorem paI {X : Cx} {e : List Expr} {t t' : TA} (h : PA X e t) (i : ∀ σ H Q, t' σ H Q → t σ H Q) : PA X e t' := ⟨fun pos pins s σ H Q I q => h.run pos pins s σ H Q I (i σ H Q q)⟩

/-! ### the context -/
def ctOf (X : Cx) : Ct := ⟨X.K, X.mg, X.prog, X.w⟩
/-- a def's promise by its data -/
def spD (C : Ct) (S : List D → Sto → (D → Sto → Prop) → EX → Prop) (n : Nat) : Sp := fun vs H Q E => vs.length = n ∧ ∃ r st ds Q' X', Rel C r st H ∧ RDs C r H ds vs ∧ S ds st Q' X' ∧ Kp C r H Q' Q ∧
  ∀ (r' : Lay) (st' : Sto) (H' : Hp) (x : Xc) (cls : Value) (dx : Option Addr), Fut r H r' H' → Rel C r' st' H' → XR C r' H' x cls dx → X' x st' → E cls dx H'
structure LibOk (C : Ct) (L : Lib) (T : Tab) (k : Nat) (base : Heap) : Prop where
  call : ∀ f ∈ T.fns, ∃ a fd ps, C.mg (Str.ofString f) = some (.ref a) ∧ PySem.W.keepIn C.K (.ref a) = true ∧ Binds C.K fd ps [] ∧ FnOk C.P C.w C.K C.mg base (L2.CX C.P C.w) k a fd ps (spD C (L.call f) ps.length) ∧ ∀ ds st Q X, L.call f ds st Q X → ds.length = ps.length
  free : ∀ x ∈ T.free, C.mg (Str.ofString x) = none
  exc : ∀ c ∈ T.excs, L.exf c = some [] ∧ ∃ (A : Addr) (bm : List Value) (B n i : String), C.mg (Str.ofString c) = some (.ref A) ∧ PySem.W.keepIn C.K (.ref A) = true ∧ ExcBaseFacts B n i bm ∧ PySem.W.excIn C.K A bm n = true ∧
    PySem.W.subIn C.K (.ref A) (.type "BaseException") = some true ∧ PySem.W.typeIn C.K (.ref A) = some (.type "type")
  sub : ∀ c d b A B, L.sub c d = some b → C.mg (Str.ofString c) = some (.ref A) → C.mg (Str.ofString d) = some (.ref B) → PySem.W.exmOne C.K (.ref A) (.ref B) = some b
  glob : ∀ x ∈ T.globs, ∃ d u v, L.glob x = some d ∧ C.mg (Str.ofString x) = some u ∧ RelV v u ∧ ∀ (r : Lay) (H : Hp), RD C r H d v

/-- the names of a frame's scope stand so, or (in a comprehension's block) a free one is a cell -/
structure ScOk (s s0 : Scope) : Prop where
  lc : ∀ x, s0.names.lookup x = some .local → s.names.lookup x = some .local
  cl : ∀ x, s0.names.lookup x = some .cell → s.names.lookup x = some .cell
  fr : ∀ x, s0.names.lookup x = some .free → s.names.lookup x = some .free ∨ s.names.lookup x = some .cell
  gl : ∀ x, s0.names.lookup x = some .globalImplicit → s.names.lookup x = some .globalImplicit
theorem ScOk.refl {s : Scope} : ScOk s s := ⟨fun _ h => h, fun _ h => h, fun _ h => .inl h, fun _ h => h⟩
structure Good (L : Lib) (T : Tab) (k : Nat) (X : Cx) (sc : Scope) (W : WX) (cm : Bool) : Prop where
  nd : X.N.Nodup
  so : ScOk X.env.scope sc
  fn : ∀ x, sc.names.lookup x = some .cell → X.fn x = true
  calm : cm = true → X.calm = true ∧ Room k X.A
  un : X.A.units + 65 < cLine
  tk : Takes X W
  lib : LibOk (ctOf X) L T k X.base

/-! ### small facts of texts -/
theorem star_cons {e : Expr} {es : List Expr} {env : Env} (h : noStar e = true) : starEach (e :: es) env = (false, eval e env) :: starEach es env := by
  cases e <;> first | rfl | cases h
theorem any_star : ∀ {es : List Expr} {env : Env} {pos : Pos}, (∀ e ∈ es, noStar e = true) → (backTo pos (starEach es env)).any (·.1) = false
  | [], _, _, _ => rfl
  | e :: es, env, pos, h => by
    rw [star_cons (h e (by simp))]
    show (false || (backTo pos (starEach es env)).any (·.1)) = false
    rw [any_star fun x m => h x (by simp [m])]
    rfl
theorem okEs_star {T : Tab} {N : List Str} {sc : Scope} {cm : Bool} : ∀ {es : Es} {xs : List Expr}, okEs T N sc cm es xs = true → ∀ x ∈ xs, noStar x = true
  | .nil, xs, h => by
    cases xs with
    | nil => exact fun _ m => nomatch m
    | cons _ _ => cases h
  | .cons e es, xs, h => by
    cases xs with
    | nil => cases h
    | cons x xs =>
      have h : (okE T N sc cm e x && noStar x && okEs T N sc cm es xs) = true := h
      simp only [Bool.and_eq_true] at h
      intro y m
      rcases List.mem_cons.mp m with e | m
      · subst e; exact h.1.2
      · exact okEs_star h.2 y m
theorem behind_of {op : CmpOp} {e : Expr} (h : noSet e = true) : behindInMarks op e = false := by
  cases e <;> first | rfl | cases h
theorem plainIx_of {e : Expr} (h : noSlice e = true) : PlainIx e := fun o i => by
  cases e <;> first | rfl | cases h
theorem base_of {o : Expr} {f : Str} {env : Env} (h : noCall0 o = true) : attributeBase o f env (eval o env) = eval o env := by
  cases o <;> first | rfl | skip
  rename_i fn args kws pos
  cases args with
  | nil => cases h
  | cons _ _ => cases fn <;> rfl
theorem folded_of {e : Expr} {env : Env} (h : noSet e = true) (x : Value) : foldedSetIterable e env x = pure x := by
  cases e <;> first | rfl | cases h
theorem vis_of {s sc : Scope} (K : ScOk s sc) {x : Str} (h : visB sc x = true) : Vis s x := by
  unfold visB at h
  unfold Vis
  split at h <;> rename_i e
  · exact .inl (K.lc x e)
  · exact .inr (.inl (K.cl x e))
  · rcases K.fr x e with q | q
    · exact .inr (.inr q)
    · exact .inr (.inl q)
  · cases h
theorem loc_of {s sc : Scope} (K : ScOk s sc) {x : Str} (h : locB sc x = true) : L2.Loc s x := by
  unfold locB at h
  unfold L2.Loc
  split at h <;> rename_i e
  · exact .inl (K.lc x e)
  · exact .inr (K.cl x e)
  · cases h
theorem gl_of {X : Cx} {sc : Scope} (K : ScOk X.env.scope sc) {x : Str} (h : glB sc x = true) : Gl X x := by
  unfold glB at h
  show X.env.scope.names.lookup x = _
  split at h <;> rename_i e
  · exact K.gl x e
  · cases h
theorem fn_of {X : Cx} {sc : Scope} (K : ScOk X.env.scope sc) (F : ∀ x, sc.names.lookup x = some .cell → X.fn x = true) {x : Str} (h : locB sc x = true) : X.fn x = true ∨ X.env.scope.names.lookup x = some .local := by
  unfold locB at h
  split at h <;> rename_i e
  · exact .inr (K.lc x e)
  · exact .inl (F x e)
  · cases h
theorem okNm_of {x : Str} (h : okNm x = true) : (x == ("__debug__" : Str)) = false ∧ (x == ("__classdict__" : Str)) = false ∧ x ≠ "__name__" := by
  unfold okNm at h
  simp only [Bool.and_eq_true, Bool.not_eq_true', decide_eq_true_eq] at h
  exact ⟨h.1.1, h.1.2, h.2⟩

section
variable {X : Cx} {L : Lib} {T : Tab} {k : Nat} {sc : Scope} {W : WX} {cm : Bool}

/-! ### the rules, one by one -/
theorem sd_c {ex : Expr} {e : E} {d : D} {v : V} (h : PE X ex (tC v)) (hd : ∀ (r : Lay) (H : Hp), RD (ctOf X) r H d v) (hw : ∀ env st Q X', wpE L e env st Q X' → Q d st) : PE X ex (rdE (ctOf X) L W e) :=
  peI h fun σ H Q ⟨r, env, st, Q', X', R, Re, w, k, _⟩ => k.now R (hd r H) (hw _ _ _ _ w)
theorem sd_v {i : Nat} {x : Str} {p : Pos} (hN : X.N[i]? = some x) (hv : Vis X.env.scope x) (h1 : (x == ("__debug__" : Str)) = false) (h2 : (x == ("__classdict__" : Str)) = false) : PE X (.Name x p) (rdE (ctOf X) L W (.v i)) :=
  peI (pe_var hN hv h1 h2) fun σ H Q ⟨r, env, st, Q', X', R, Re, w, k, _⟩ => by
    obtain ⟨d, e, q⟩ := getS_iff (show getS env i fun d => Q' d st from w)
    obtain ⟨v, e2, qd⟩ := Re.2 i d e
    exact ⟨v, e2, k.now R qd q⟩
theorem sd_bin {o : Bop} {a b : E} {x y : Expr} {p : Pos} (ha : PE X x (rdE (ctOf X) L W a)) (hb : PE X y (rdE (ctOf X) L W b)) : PE X (.BinOp x o.op y p) (rdE (ctOf X) L W (.bin o a b)) :=
  peI (pe_op (or_bin (C := ctOf X) rfl o) ha hb) fun σ H Q ⟨r, env, st, Q', X', R, Re, w, k, xw⟩ =>
    ⟨r, env, st, _, X', R, Re, w, fun r1 st1 H1 d v f1 R1 q1 w1 => ⟨r1, env, st1, _, X', R1, Re.fut f1, w1, fun r2 st2 H2 d2 v2 f2 R2 q2 w2 =>
      ⟨r2, st2, d, d2, Q', R2, q1.fut f2, q2, w2, (k.mono f1).mono f2⟩, xw.mono f1⟩, xw⟩
theorem sd_cmp {o : Cop} {a b : E} {x y : Expr} {p : Pos} (hu : X.A.units + 65 < cLine) (hs : noSet y = true) (ha : PE X x (rdE (ctOf X) L W a)) (hb : PE X y (rdE (ctOf X) L W b)) : PE X (.Compare x [o.op] [y] p) (rdE (ctOf X) L W (.cmp o a b)) :=
  peI (pe_cmpR (or_cmp (C := ctOf X) rfl hu o) ha hb (behind_of hs)) fun σ H Q ⟨r, env, st, Q', X', R, Re, w, k, xw⟩ =>
    ⟨r, env, st, _, X', R, Re, w, fun r1 st1 H1 d v f1 R1 q1 w1 => ⟨r1, env, st1, _, X', R1, Re.fut f1, w1, fun r2 st2 H2 d2 v2 f2 R2 q2 w2 =>
      ⟨r2, st2, d, d2, Q', R2, q1.fut f2, q2, w2, (k.mono f1).mono f2⟩, xw.mono f1⟩, xw⟩
theorem st_cmp {o : Cop} {a b : E} {x y : Expr} {p : Pos} (hu : X.A.units + 65 < cLine) (hs : noSet y = true) (ha : PE X x (rdE (ctOf X) L W a)) (hb : PE X y (rdE (ctOf X) L W b)) : PT X (.Compare x [o.op] [y] p) (rdT (ctOf X) L W (.cmp o a b)) :=
  ptI (pt_cmpR (or_cmp (C := ctOf X) rfl hu o) ha hb (behind_of hs)) fun σ H Q ⟨r, env, st, Q', X', R, Re, w, k, xw⟩ =>
    ⟨r, env, st, _, X', R, Re, w, fun r1 st1 H1 d v f1 R1 q1 w1 => ⟨r1, env, st1, _, X', R1, Re.fut f1, w1, fun r2 st2 H2 d2 v2 f2 R2 q2 w2 =>
      ⟨r2, st2, d, d2, fun d st => onBl d fun b => Q' b st, R2, q1.fut f2, q2, w2, fun r3 st3 H3 d3 v3 f3 R3 q3 w3 => by
        obtain ⟨b, rfl, w3⟩ := onBl_iff w3
        cases q3
        exact ⟨b, rfl, k r3 st3 H3 b (f1.trans (f2.trans f3)) R3 w3⟩⟩, xw.mono f1⟩, xw⟩

theorem ifB_if {b : Bool} {p q : Prop} (h : ifB b p q) : if b = true then p else q := ifB_iff h
theorem sd_un {o : Uop} {a : E} {x : Expr} {p : Pos} (ha : PE X x (rdE (ctOf X) L W a)) : PE X (.UnaryOp o.op x p) (rdE (ctOf X) L W (.un o a)) := by
  cases o with
  | neg => exact peI (pe_un un_neg ha) fun σ H Q ⟨r, env, st, Q', X', R, Re, w, k, xw⟩ => ⟨r, env, st, _, X', R, Re, w, fun r1 st1 H1 d v f1 R1 q1 w1 => by
      obtain ⟨i, rfl, w1⟩ := onInt_iff (show onInt d _ from w1)
      cases q1
      exact ⟨i, rfl, k r1 st1 H1 _ _ f1 R1 (.int _) w1⟩, xw⟩
  | inv => exact peI (pe_un un_inv ha) fun σ H Q ⟨r, env, st, Q', X', R, Re, w, k, xw⟩ => ⟨r, env, st, _, X', R, Re, w, fun r1 st1 H1 d v f1 R1 q1 w1 => by
      obtain ⟨i, rfl, w1⟩ := onInt_iff (show onInt d _ from w1)
      cases q1
      exact ⟨i, rfl, k r1 st1 H1 _ _ f1 R1 (.int _) w1⟩, xw⟩
theorem ch_cmp {o o' : Cop} {a b c : E} {x y z : Expr} {σ : L2.St} {H : Hp} {Q : VK} (h : rdE (ctOf X) L W (.cmp2 o o' a b c) σ H Q) :
    tChain (rCmp (ctOf X) o) (rCmp (ctOf X) o') (rdE (ctOf X) L W a) (rdE (ctOf X) L W b) (rdE (ctOf X) L W c) σ H Q := by
  obtain ⟨r, env, st, Q', X', R, Re, w, k, xw⟩ := h
  refine ⟨r, env, st, _, X', R, Re, w, fun r1 st1 H1 d v f1 R1 q1 w1 => ⟨r1, env, st1, _, X', R1, Re.fut f1, w1, fun r2 st2 H2 d2 v2 f2 R2 q2 w2 => ?_, xw.mono f1⟩, xw⟩
  refine ⟨r2, st2, d, d2, fun z st => onBl z fun t => ifB t (wpE L c env st (fun z st => wpCmp o' d2 z st fun d => Q' d st) X') (Q' (.bl false) st), R2, q1.fut f2, q2, w2, fun r3 st3 H3 d3 v3 f3 R3 q3 w3 => ?_⟩
  obtain ⟨t, rfl, w3⟩ := onBl_iff (show onBl d3 _ from w3)
  cases q3
  refine ⟨t, rfl, ?_⟩
  cases t with
  | true =>
    rw [if_pos rfl]
    exact ⟨r3, env, st3, _, X', R3, Re.fut (f1.trans (f2.trans f3)), w3, fun r4 st4 H4 d4 v4 f4 R4 q4 w4 => ⟨r4, st4, d2, d4, Q', R4, q2.fut (f3.trans f4), q4, w4, k.mono (f1.trans (f2.trans (f3.trans f4)))⟩, xw.mono (f1.trans (f2.trans f3))⟩
  | false =>
    rw [if_neg (by decide)]
    exact k r3 st3 H3 _ _ (f1.trans (f2.trans f3)) R3 (.bl _) w3
theorem last_of {op op' : CmpOp} {y z : Expr} (h : noSet z = true) : lastMarks [op, op'] [y, z] = false := behind_of h
theorem sd_cmp2 {o o' : Cop} {a b c : E} {x y z : Expr} {p : Pos} (hu : X.A.units + 65 < cLine) (hs : noSet z = true) (ha : PE X x (rdE (ctOf X) L W a)) (hb : PE X y (rdE (ctOf X) L W b)) (hc : PE X z (rdE (ctOf X) L W c)) :
    PE X (.Compare x [o.op, o'.op] [y, z] p) (rdE (ctOf X) L W (.cmp2 o o' a b c)) :=
  peI (pe_chain (or_cmp (C := ctOf X) rfl hu o) (or_cmp (C := ctOf X) rfl hu o') ha hb hc (last_of hs)) fun σ H Q h => ch_cmp (x := x) (y := y) (z := z) h
theorem st_cmp2 {o o' : Cop} {a b c : E} {x y z : Expr} {p : Pos} (hu : X.A.units + 65 < cLine) (hs : noSet z = true) (ha : PE X x (rdE (ctOf X) L W a)) (hb : PE X y (rdE (ctOf X) L W b)) (hc : PE X z (rdE (ctOf X) L W c)) :
    PT X (.Compare x [o.op, o'.op] [y, z] p) (rdT (ctOf X) L W (.cmp2 o o' a b c)) :=
  ptI (pt_chain (or_cmp (C := ctOf X) rfl hu o) (or_cmp (C := ctOf X) rfl hu o') ha hb hc (last_of hs)) fun σ H Q ⟨r, env, st, Q', X', R, Re, w, k, xw⟩ =>
    ch_cmp (x := x) (y := y) (z := z) ⟨r, env, st, fun d st => onBl d fun b => Q' b st, X', R, Re, w, fun r1 st1 H1 d v f1 R1 q1 w1 => by
      obtain ⟨b, rfl, w1⟩ := onBl_iff w1
      cases q1
      exact ⟨b, rfl, k r1 st1 H1 b f1 R1 w1⟩, xw⟩
/-- a test by its value -/
theorem rdT_of {e : E} {x : Expr} {σ : L2.St} {H : Hp} {Q : Bool → Hp → Prop} (h : rdT (ctOf X) L W e σ H Q) : rdE (ctOf X) L W e σ H (fun v H1 => ∃ b, v = .bl b ∧ Q b H1) := by
  obtain ⟨r, env, st, Q', X', R, Re, w, k, xw⟩ := h
  exact ⟨r, env, st, _, X', R, Re, w, fun r1 st1 H1 d v f1 R1 q1 w1 => by
    obtain ⟨b, rfl, w1⟩ := onBl_iff w1
    cases q1
    exact ⟨b, rfl, k r1 st1 H1 b f1 R1 w1⟩, xw⟩
theorem sd_not {a : E} {x : Expr} {p : Pos} (ha : PE X x (rdE (ctOf X) L W a)) : PE X (.UnaryOp .Not x p) (rdE (ctOf X) L W (.not_ a)) :=
  peI (pe_not ha) fun σ H Q ⟨r, env, st, Q', X', R, Re, w, k, xw⟩ => ⟨r, env, st, _, X', R, Re, w, fun r1 st1 H1 d v f1 R1 q1 w1 => by
    obtain ⟨b, rfl, w1⟩ := onBl_iff (show onBl d _ from w1)
    cases q1
    exact ⟨b, rfl, k r1 st1 H1 _ _ f1 R1 (.bl _) w1⟩, xw⟩
theorem st_not {a : E} {x : Expr} {p : Pos} (ha : PT X x (rdT (ctOf X) L W a)) : PT X (.UnaryOp .Not x p) (rdT (ctOf X) L W (.not_ a)) :=
  ptI (pt_not ha) fun σ H Q ⟨r, env, st, Q', X', R, Re, w, k, xw⟩ => by
    have w' : wpE L a env st (fun x st => onBl x fun b => Q' (!b) st) X' := w
    exact ⟨r, env, st, fun b st => Q' (!b) st, X', R, Re, w', fun r1 st1 H1 b f1 R1 w1 => k r1 st1 H1 _ f1 R1 w1, xw⟩
theorem sd_ife {c a b : E} {x y z : Expr} {p : Pos} (hc : PT X x (rdT (ctOf X) L W c)) (ha : PE X y (rdE (ctOf X) L W a)) (hb : PE X z (rdE (ctOf X) L W b)) : PE X (.IfExp x y z p) (rdE (ctOf X) L W (.ife c a b)) :=
  peI (pe_ifExp hc ha hb) fun σ H Q ⟨r, env, st, Q', X', R, Re, w, k, xw⟩ => ⟨r, env, st, fun t st => ifB t (wpE L a env st Q' X') (wpE L b env st Q' X'), X', R, Re, w, fun r1 st1 H1 t f1 R1 w1 => by
    cases t with
    | true => rw [if_pos rfl]; exact ⟨r1, env, st1, Q', X', R1, Re.fut f1, w1, k.mono f1, xw.mono f1⟩
    | false => rw [if_neg (by decide)]; exact ⟨r1, env, st1, Q', X', R1, Re.fut f1, w1, k.mono f1, xw.mono f1⟩, xw⟩
/-! ### and, or -/
theorem sd_and1 {e : E} {x : Expr} {p : Pos} (h : PE X x (rdE (ctOf X) L W e)) : PE X (.BoolOp .And [x] p) (rdE (ctOf X) L W (.and_ (.cons e .nil))) := peI (pe_one h) fun _ _ _ q => q
theorem sd_or1 {e : E} {x : Expr} {p : Pos} (h : PE X x (rdE (ctOf X) L W e)) : PE X (.BoolOp .Or [x] p) (rdE (ctOf X) L W (.or_ (.cons e .nil))) := peI (pe_one h) fun _ _ _ q => q
theorem sd_and {e e2 : E} {es : Es} {x y : Expr} {xs : List Expr} {p : Pos} (h : PE X x (rdE (ctOf X) L W e)) (h2 : PE X (.BoolOp .And (y :: xs) p) (rdE (ctOf X) L W (.and_ (.cons e2 es)))) :
    PE X (.BoolOp .And (x :: y :: xs) p) (rdE (ctOf X) L W (.and_ (.cons e (.cons e2 es)))) :=
  peI (pe_and h h2) fun σ H Q ⟨r, env, st, Q', X', R, Re, w, k, xw⟩ => ⟨r, env, st, _, X', R, Re, w, fun r1 st1 H1 d v f1 R1 q1 w1 => by
    obtain ⟨b, rfl, w1⟩ := onBl_iff (show onBl d _ from w1)
    cases q1
    refine ⟨b, rfl, ?_⟩
    cases b with
    | true => rw [if_pos rfl]; exact ⟨r1, env, st1, Q', X', R1, Re.fut f1, w1, k.mono f1, xw.mono f1⟩
    | false => rw [if_neg (by decide)]; exact k r1 st1 H1 _ _ f1 R1 (.bl _) w1, xw⟩
theorem sd_or {e e2 : E} {es : Es} {x y : Expr} {xs : List Expr} {p : Pos} (h : PE X x (rdE (ctOf X) L W e)) (h2 : PE X (.BoolOp .Or (y :: xs) p) (rdE (ctOf X) L W (.or_ (.cons e2 es)))) :
    PE X (.BoolOp .Or (x :: y :: xs) p) (rdE (ctOf X) L W (.or_ (.cons e (.cons e2 es)))) :=
  peI (pe_or h h2) fun σ H Q ⟨r, env, st, Q', X', R, Re, w, k, xw⟩ => ⟨r, env, st, _, X', R, Re, w, fun r1 st1 H1 d v f1 R1 q1 w1 => by
    obtain ⟨b, rfl, w1⟩ := onBl_iff (show onBl d _ from w1)
    cases q1
    refine ⟨b, rfl, ?_⟩
    cases b with
    | true => rw [if_pos rfl]; exact k r1 st1 H1 _ _ f1 R1 (.bl _) w1
    | false => rw [if_neg (by decide)]; exact ⟨r1, env, st1, Q', X', R1, Re.fut f1, w1, k.mono f1, xw.mono f1⟩, xw⟩
theorem st_and1 {e : E} {x : Expr} {p : Pos} (h : PT X x (rdT (ctOf X) L W e)) : PW X (.BoolOp .And [x] p) (rdT (ctOf X) L W (.and_ (.cons e .nil))) := pwI (pw_and1 h) fun _ _ _ q => q
theorem st_or1 {e : E} {x : Expr} {p : Pos} (h : PT X x (rdT (ctOf X) L W e)) : PW X (.BoolOp .Or [x] p) (rdT (ctOf X) L W (.or_ (.cons e .nil))) := pwI (pw_or1 h) fun _ _ _ q => q
theorem st_and {e e2 : E} {es : Es} {x y : Expr} {xs : List Expr} {p : Pos} (h : PT X x (rdT (ctOf X) L W e)) (h2 : PW X (.BoolOp .And (y :: xs) p) (rdT (ctOf X) L W (.and_ (.cons e2 es)))) :
    PW X (.BoolOp .And (x :: y :: xs) p) (rdT (ctOf X) L W (.and_ (.cons e (.cons e2 es)))) :=
  pwI (pw_and h h2) fun σ H Q ⟨r, env, st, Q', X', R, Re, w, k, xw⟩ => by
    have w' : wpE L e env st (fun d st => onBl d fun b => ifB b (wpAnd L (.cons e2 es) env st (fun d st => onBl d fun b => Q' b st) X') (Q' false st)) X' := w
    refine ⟨r, env, st, fun b st => ifB b (wpAnd L (.cons e2 es) env st (fun d st => onBl d fun b => Q' b st) X') (Q' false st), X', R, Re, w', fun r1 st1 H1 b f1 R1 w1 => ?_, xw⟩
    cases b with
    | true => rw [if_pos rfl]; exact ⟨r1, env, st1, Q', X', R1, Re.fut f1, w1, k.mono f1, xw.mono f1⟩
    | false => rw [if_neg (by decide)]; exact k r1 st1 H1 _ f1 R1 w1
theorem st_or {e e2 : E} {es : Es} {x y : Expr} {xs : List Expr} {p : Pos} (h : PT X x (rdT (ctOf X) L W e)) (h2 : PW X (.BoolOp .Or (y :: xs) p) (rdT (ctOf X) L W (.or_ (.cons e2 es)))) :
    PW X (.BoolOp .Or (x :: y :: xs) p) (rdT (ctOf X) L W (.or_ (.cons e (.cons e2 es)))) :=
  pwI (pw_or h h2) fun σ H Q ⟨r, env, st, Q', X', R, Re, w, k, xw⟩ => by
    have w' : wpE L e env st (fun d st => onBl d fun b => ifB b (Q' true st) (wpOr L (.cons e2 es) env st (fun d st => onBl d fun b => Q' b st) X')) X' := w
    refine ⟨r, env, st, fun b st => ifB b (Q' true st) (wpOr L (.cons e2 es) env st (fun d st => onBl d fun b => Q' b st) X'), X', R, Re, w', fun r1 st1 H1 b f1 R1 w1 => ?_, xw⟩
    cases b with
    | true => rw [if_pos rfl]; exact k r1 st1 H1 _ f1 R1 w1
    | false => rw [if_neg (by decide)]; exact ⟨r1, env, st1, Q', X', R1, Re.fut f1, w1, k.mono f1, xw.mono f1⟩
/-! ### argument lists, displays -/
theorem sa_nil : PA X [] (rdEs (ctOf X) L W .nil) := paI pa_nil fun σ H Q ⟨r, env, st, Q', X', R, Re, w, k, _⟩ => k r st H [] [] .refl R .nil w
theorem sa_cons {e : E} {es : Es} {x : Expr} {xs : List Expr} (hs : noStar x = true) (h : PE X x (rdE (ctOf X) L W e)) (h2 : PA X xs (rdEs (ctOf X) L W es)) : PA X (x :: xs) (rdEs (ctOf X) L W (.cons e es)) :=
  paI (pa_cons h h2 (star_cons hs)) fun σ H Q ⟨r, env, st, Q', X', R, Re, w, k, xw⟩ => ⟨r, env, st, _, X', R, Re, w, fun r1 st1 H1 d v f1 R1 q1 w1 => ⟨r1, env, st1, _, X', R1, Re.fut f1, w1, fun r2 st2 H2 ds vs f2 R2 q2 w2 =>
    k r2 st2 H2 _ _ (f1.trans f2) R2 (.cons (q1.fut f2) q2) w2, xw.mono f1⟩, xw⟩
theorem sd_tup {es : Es} {xs : List Expr} {j : Nat} {p : Pos} (h : PA X xs (rdEs (ctOf X) L W es)) : PE X (.Tuple xs j p) (rdE (ctOf X) L W (.tup es)) :=
  peI (pe_tup h) fun σ H Q ⟨r, env, st, Q', X', R, Re, w, k, xw⟩ => ⟨r, env, st, _, X', R, Re, w, fun r1 st1 H1 ds vs f1 R1 q1 w1 => by
    refine ⟨by rw [← q1.length]; exact w1.1, (k.mono f1).newT R1 q1 w1.2⟩, xw⟩
theorem sd_lst {m : Bool} {es : Es} {xs : List Expr} {p : Pos} (h : PA X xs (rdEs (ctOf X) L W es)) : PE X (.List xs p) (rdE (ctOf X) L W (.lst m es)) :=
  peI (pe_lst h) fun σ H Q ⟨r, env, st, Q', X', R, Re, w, k, xw⟩ => ⟨r, env, st, _, X', R, Re, w, fun r1 st1 H1 ds vs f1 R1 q1 w1 => by
    refine ⟨by rw [← q1.length]; exact w1.1, (k.mono f1).newL (m := m) R1 q1 w1.2⟩, xw⟩
theorem sd_dct {t : Bool} {p : Pos} : PE X (.Dict [] [] p) (rdE (ctOf X) L W (.dct t .nil .nil)) := by
  cases t with
  | false =>
    refine peI pe_dnewK fun σ H Q ⟨r, env, st, Q', X', R, Re, w, k, xw⟩ p hp => ?_
    have w' : Q' (.loc st.length) (st ++ [.dct false []]) := w.2.2.2
    refine k (r.1 ++ [p], r.2) (st ++ [.dct false []]) _ (.loc st.length) _ (Fut.push hp) (R.push (c := .dct false []) hp fun f => ⟨[], upd_same, .nil⟩) (.loc ?_) w'
    show (r.1 ++ [p])[st.length]? = _
    rw [← R.len]
    simp
  | true =>
    refine peI pe_dnewT fun σ H Q ⟨r, env, st, Q', X', R, Re, w, k, xw⟩ p hp => ?_
    have w' : Q' (.loc st.length) (st ++ [.dct true []]) := w.2.2.2
    refine k (r.1 ++ [p], r.2) (st ++ [.dct true []]) _ (.loc st.length) _ (Fut.push hp) (R.push (c := .dct true []) hp fun f => ⟨[], upd_same, .nil⟩) (.loc ?_) w'
    show (r.1 ++ [p])[st.length]? = _
    rw [← R.len]
    simp
/-! ### subscripts, slices -/
theorem sd_ix {a i : E} {x y : Expr} {p : Pos} (hu : X.A.units + 65 < cLine) (hs : noSlice y = true) (ha : PE X x (rdE (ctOf X) L W a)) (hb : PE X y (rdE (ctOf X) L W i)) : PE X (.Subscript x y p) (rdE (ctOf X) L W (.ix a i)) :=
  peI (pe_ix (ix_any (C := ctOf X) rfl hu) ha hb (plainIx_of hs)) fun σ H Q ⟨r, env, st, Q', X', R, Re, w, k, xw⟩ =>
    ⟨r, env, st, _, X', R, Re, w, fun r1 st1 H1 d v f1 R1 q1 w1 => ⟨r1, env, st1, _, X', R1, Re.fut f1, w1, fun r2 st2 H2 d2 v2 f2 R2 q2 w2 =>
      ⟨r2, st2, d, d2, Q', R2, q1.fut f2, q2, w2, (k.mono f1).mono f2⟩, xw.mono f1⟩, xw⟩
theorem so_none : PO X none (rdEo (ctOf X) L W .none) := ⟨fun pins s σ H Q I ⟨r, env, st, Q', X', R, Re, w, k, _⟩ => po_none.run pins s σ H Q I (k r st H _ .refl R w)⟩
theorem so_some {e : E} {x : Expr} (h : PE X x (rdE (ctOf X) L W e)) : PO X (some x) (rdEo (ctOf X) L W (.some e)) := ⟨fun pins s σ H Q I ⟨r, env, st, Q', X', R, Re, w, k, xw⟩ =>
  (po_some h).run pins s σ H Q I ⟨r, env, st, _, X', R, Re, w, fun r1 st1 H1 d v f1 R1 q1 w1 => by
    obtain ⟨i, rfl, w1⟩ := onInt_iff (show onInt d _ from w1)
    cases q1
    exact ⟨i, rfl, k r1 st1 H1 _ f1 R1 w1⟩, xw⟩⟩
theorem sd_sl {m : Bool} {a : E} {lo hi : Eo} {x : Expr} {l h : Option Expr} {p p2 : Pos} (ha : PE X x (rdE (ctOf X) L W a)) (hl : PO X l (rdEo (ctOf X) L W lo)) (hh : PO X h (rdEo (ctOf X) L W hi)) :
    PE X (.Subscript x (.Slice l h none p2) p) (rdE (ctOf X) L W (.sl m a lo hi)) :=
  peI (pe_slice (sl_any (C := ctOf X) rfl m) ha hl hh) fun σ H Q ⟨r, env, st, Q', X', R, Re, w, k, xw⟩ =>
    ⟨r, env, st, _, X', R, Re, w, fun r1 st1 H1 d v f1 R1 q1 w1 => ⟨r1, env, st1, _, X', R1, Re.fut f1, w1, fun r2 st2 H2 o f2 R2 w2 =>
      ⟨r2, env, st2, _, X', R2, Re.fut (f1.trans f2), w2, fun r3 st3 H3 o2 f3 R3 w3 => ⟨r3, st3, d, Q', R3, q1.fut (f2.trans f3), w3, k.mono (f1.trans (f2.trans f3))⟩, xw.mono (f1.trans f2)⟩, xw.mono f1⟩, xw⟩
/-! ### calls -/
theorem sd_call {f : String} {es : Es} {xs : List Expr} {p p2 : Pos} {x : Str} (G : Good L T k X sc W cm) (hc : cm = true) (ex : x = Str.ofString f) (hg : Gl X x) (hd : (x == ("__debug__" : Str)) = false) (hf : f ∈ T.fns)
    (hok : okEs T X.N sc cm es xs = true) (h : PA X xs (rdEs (ctOf X) L W es)) : PE X (.Call (.Name x p2) xs [] p) (rdE (ctOf X) L W (.call f es)) := by
  have hs := okEs_star hok
  obtain ⟨a, fd, ps, hm, hk, hb, F, hlen⟩ := G.lib.call f hf
  subst ex
  obtain ⟨hcalm, hr⟩ := G.calm hc
  refine ⟨fun pins s σ H Q I ⟨r, env, st, Q', X', R, Re, w, k, xw⟩ => ?_⟩
  have key : ∀ r1 st1 H1 (ds : List D) vs, Fut r H r1 H1 → Rel (ctOf X) r1 st1 H1 → RDs (ctOf X) r1 H1 ds vs → L.call f ds st1 Q' X' → spD (ctOf X) (L.call f) ps.length vs H1 Q (WE W σ) := fun r1 st1 H1 ds vs f1 R1 q1 w1 =>
    ⟨by rw [← q1.length]; exact hlen _ _ _ _ w1, r1, st1, ds, Q', X', R1, q1, w1, k.mono f1, (xw.mono f1)⟩
  cases xs with
  | cons y ys => exact (pe_callS F hr hg hm hk hb (fun σ => passAt G.tk σ) h hd (star_cons (hs y (by simp))) (any_star fun z m => hs z (by simp [m]))).run pins s σ H Q I ⟨r, env, st, _, X', R, Re, w, fun r1 st1 H1 ds vs f1 R1 q1 w1 => key r1 st1 H1 ds vs f1 R1 q1 w1, xw⟩
  | nil =>
    cases es with
    | nil =>
      refine wpAny_Call_Name_kw (ld_glob I hg hm ?_ hd)
      exact PySem.W.callWith_K0 I.kIn hk (run_fnS (us := []) F hr hb (passAt G.tk σ) I .nil (key r st H [] [] .refl R .nil w))
    | cons e es => cases hok
end
end DL

set_option maxHeartbeats 1000000
/-! DLIt: what is walked; comprehensions; calls of built-in functions. -/
namespace DL
open PySem PySem.Spec PyProof.Rows L2

def StayP (stay : List (Nat × Cell)) (st : Sto) : Prop := ∀ p ∈ stay, st[p.1]? = some p.2
theorem stayOk_iff : ∀ {stay : List (Nat × Cell)} {st : Sto} {p : Prop}, stayOk stay st p → StayP stay st ∧ p
  | [], st, p, h => ⟨(fun _ m => nomatch m), h⟩
  | (n, c) :: l, st, p, h => by
    obtain ⟨h1, h2⟩ := h
    obtain ⟨h3, h4⟩ := stayOk_iff h2
    refine ⟨fun q m => ?_, h4⟩
    rcases List.mem_cons.mp m with e | m
    · subst e; exact h1
    · exact h3 q m
/-- J walks these items -/
def ItR (C : Ct) (J : L2.It) (r0 : Lay) (H0 : Hp) (xs : List D) (stay : List (Nat × Cell)) : Prop :=
  ∀ (i : Nat) (r : Lay) (st : Sto) (H : Hp), FutW r0 H0 r H → Rel C r st H → StayP stay st →
    (xs.length ≤ i → J.stop i H) ∧ ∀ d, xs[i]? = some d → J.go i H ∧ ∀ x H', J.yld i H x H' → Fut r H r H' ∧ Rel C r st H' ∧ RD C r H' d x
def KpI (C : Ct) (r : Lay) (H : Hp) (Q' : List D → List (Nat × Cell) → Sto → Prop) (R : L2.It → Hp → Prop) : Prop :=
  ∀ (r' : Lay) (st' : Sto) (H' : Hp) (xs : List D) (stay : List (Nat × Cell)) (J : L2.It), Fut r H r' H' → Rel C r' st' H' → ItR C J r' H' xs stay → Q' xs stay st' → R J H'
theorem KpI.mono {C : Ct} {r r' : Lay} {H H' : Hp} {Q' : List D → List (Nat × Cell) → Sto → Prop} {R : L2.It → Hp → Prop} (k : KpI C r H Q' R) (f : Fut r H r' H') : KpI C r' H' Q' R := fun r2 st2 H2 xs stay J g R h => k r2 st2 H2 xs stay J (f.trans g) R h
def rdIt (C : Ct) (L : Lib) (W : WX) (e : It) : TI := fun σ H R => ∃ r env st Q' X', Rel C r st H ∧ RE C r H env σ ∧ wpIt L e env st Q' X' ∧ KpI C r H Q' R ∧ XW C r H σ X' W
theorem piI {X : Cx} {tg e : Expr} {t t' : TI} (h : PI X tg e t) (i : ∀ σ H Q, t' σ H Q → t σ H Q) : PI X tg e t' := ⟨fun pins s σ H Q I q => h.run pins s σ H Q I (i σ H Q q)⟩
theorem piOr {X : Cx} {tg e : Expr} {t t' : TI} (h : PI X tg e t) (h' : PI X tg e t') : PI X tg e (fun σ H Q => t σ H Q ∨ t' σ H Q) := ⟨fun pins s σ H Q I q => by
  rcases q with q | q
  · exact h.run pins s σ H Q I q
  · exact h'.run pins s σ H Q I q⟩

section
variable {C : Ct} {r : Lay} {H : Hp}
theorem itr_list {a : Addr} {xs : List D} {vs : List V} (h : LstAt C r H a vs) (t : RDs C r H xs vs) : ItR C (Itl C.K a) r H xs [] := fun i r1 st1 H1 f R _ => by
  have h1 := (h.futW f).sq
  have t1 := t.futW f
  refine ⟨fun hi => ⟨vs, h1, by rw [← t1.length]; exact hi⟩, fun d e => ?_⟩
  obtain ⟨v, e1, q⟩ := t1.get e
  refine ⟨⟨vs, v, h1, e1⟩, fun x H' hy => ?_⟩
  obtain ⟨rfl, hy⟩ := hy
  have e2 := (hy vs h1).symm.trans e1
  cases e2
  exact ⟨.refl, R, q⟩
theorem itr_tup {a : Addr} {xs : List D} {vs : List V} (h : TupAt C r H a vs) (t : RDs C r H xs vs) : ItR C (Itt C.K a) r H xs [] := fun i r1 st1 H1 f R _ => by
  have h1 := (h.futW f).sq
  have t1 := t.futW f
  refine ⟨fun hi => ⟨vs, h1, by rw [← t1.length]; exact hi⟩, fun d e => ?_⟩
  obtain ⟨v, e1, q⟩ := t1.get e
  refine ⟨⟨vs, v, h1, e1⟩, fun x H' hy => ?_⟩
  obtain ⟨rfl, hy⟩ := hy
  have e2 := (hy vs h1).symm.trans e1
  cases e2
  exact ⟨.refl, R, q⟩
theorem itr_scr {a : Addr} {xs : List Int} (h : ScrAt C r H a (xs.map V.int)) : ItR C (Itl C.K a) r H (xs.map D.int) [] := fun i r1 st1 H1 f R _ => by
  have h1 := (h.futW f).sq
  have t1 : RDs C r1 H1 (xs.map D.int) (xs.map V.int) := RDs.ints xs
  refine ⟨fun hi => ⟨_, h1, by rw [← t1.length]; exact hi⟩, fun d e => ?_⟩
  obtain ⟨v, e1, q⟩ := t1.get e
  refine ⟨⟨_, v, h1, e1⟩, fun x H' hy => ?_⟩
  obtain ⟨rfl, hy⟩ := hy
  have e2 := (hy _ h1).symm.trans e1
  cases e2
  exact ⟨.refl, R, q⟩
theorem itr_kt {a : Addr} {xs : List String} (h : KTup C.K a (xs.map fun x => V.str (Str.ofString x))) : ItR C (Itt C.K a) r H (xs.map D.str) [] := fun i r1 st1 H1 f R _ => by
  have h1 := h.sq (H := H1)
  have t1 : RDs C r1 H1 (xs.map D.str) (xs.map fun x => V.str (Str.ofString x)) := RDs.strs xs
  refine ⟨fun hi => ⟨_, h1, by rw [← t1.length]; exact hi⟩, fun d e => ?_⟩
  obtain ⟨v, e1, q⟩ := t1.get e
  refine ⟨⟨_, v, h1, e1⟩, fun x H' hy => ?_⟩
  obtain ⟨rfl, hy⟩ := hy
  have e2 := (hy _ h1).symm.trans e1
  cases e2
  exact ⟨.refl, R, q⟩
theorem itr_loc {n : Nat} {a : Addr} {xs : List D} (hr : r.1[n]? = some a) : ItR C (Itl C.K a) r H xs [(n, .lst xs)] := fun i r1 st1 H1 f R hs => by
  have hr1 := prefix_get f.ext hr
  obtain ⟨vs, k1, t1⟩ := R.cells n _ a (hs (n, .lst xs) (by simp)) hr1
  have h1 : SqL C.K H1 a vs := SqL.of k1
  refine ⟨fun hi => ⟨vs, h1, by rw [← t1.length]; exact hi⟩, fun d e => ?_⟩
  obtain ⟨v, e1, q⟩ := t1.get e
  refine ⟨⟨vs, v, h1, e1⟩, fun x H' hy => ?_⟩
  obtain ⟨rfl, hy⟩ := hy
  have e2 := (hy vs h1).symm.trans e1
  cases e2
  exact ⟨.refl, R, q⟩
theorem itr_str {s : String} : ItR C (Its (Str.ofString s)) r H (strItems s) [] := fun i r1 st1 H1 f R _ => by
  have hl : (Str.ofString s).cps.size = s.toList.length := by
    rw [← Array.length_toList, ofS_cps, List.length_map]
  refine ⟨fun hi => ?_, fun d e => ?_⟩
  · show (Str.ofString s).cps.size ≤ i
    rw [hl]
    unfold strItems at hi
    rwa [List.length_map] at hi
  · unfold strItems at e
    rw [List.getElem?_map] at e
    cases ec : s.toList[i]? with
    | none => rw [ec] at e; cases e
    | some c =>
      rw [ec] at e
      cases e
      refine ⟨?_, fun x H' hy => ?_⟩
      · show i < (Str.ofString s).cps.size
        rw [hl]
        exact (List.getElem?_eq_some_iff.mp ec).1
      · obtain ⟨rfl, c', e1, rfl⟩ := hy
        refine ⟨.refl, R, ?_⟩
        have e2 : (Str.ofString s).cps.toList[i]? = some c.toNat := by rw [ofS_cps, List.getElem?_map, ec]; rfl
        rw [Array.getElem?_toList, e1] at e2
        cases e2
        rw [← ofS_sign]
        exact .str _
theorem itr_range (lo : Int) (n : Nat) : ItR C (Itr lo n) r H (rangeD lo n) [] := fun i r1 st1 H1 f R _ => by
  unfold rangeD
  refine ⟨fun hi => show n ≤ i by simpa using hi, fun d e => ?_⟩
  have hi : i < n := by
    have := (List.getElem?_eq_some_iff.mp e).1
    simpa using this
  rw [List.getElem?_map, List.getElem?_range hi] at e
  cases e
  refine ⟨hi, fun x H' hy => ?_⟩
  obtain ⟨rfl, rfl⟩ := hy
  exact ⟨.refl, R, .int _⟩
end

section
variable {X : Cx} {L : Lib} {T : Tab} {k : Nat} {sc : Scope} {W : WX} {cm : Bool} {tg : Expr}
/-- a list, a tuple, a text: its iterator -/
theorem iter_val {pins : List (Addr × Obj)} {s : Shared} {σ : L2.St} {H : Hp} {x : V} {v : Value} {R : L2.It → Hp → Prop} {E' : Value → Shared → Prop} (I : Inv X pins σ H s) (rx : RelV x v)
    (h : (∃ a xs, x = .ref a ∧ SqL X.K H a xs ∧ R (Itl X.K a) H) ∨ (∃ a xs, x = .ref a ∧ SqT X.K H a xs ∧ R (Itt X.K a) H) ∨ ∃ z, x = .str z ∧ R (Its z) H) : wpAny (model X.prog X.w) X.A (pyIter v) (PIE X pins σ tg R) E' s := by
  rcases h with ⟨a, xs, rfl, hq, q⟩ | ⟨a, xs, rfl, hq, q⟩ | ⟨z, rfl, q⟩
  · cases rx
    obtain ⟨its, rv, p, hz⟩ := I.list hq
    exact wpAny_pyIter_list p.isList (pi_one (tk := s.toks) I _ (turn_list a _) ⟨_, Heap.get?_push_size _ rfl, rfl, rfl⟩ q)
  · cases rx
    obtain ⟨its, rv, p, hz⟩ := I.tuple hq
    exact wpAny_pyIter_tuple (show s.heap.IsTuple a its.toArray from p) (pi_one (tk := s.toks) I _ (turn_tuple a _) ⟨_, Heap.get?_push_size _ rfl, rfl, rfl⟩ q)
  · obtain ⟨t, rfl⟩ := rx
    cases ha : z.cps.all (· < 128)
    · exact wpAny_pyIter_wide ha (pi_one (tk := s.toks) I _ (turn_str _ z t "str_iterator" (.inr rfl)) ⟨_, Heap.get?_push_size _ rfl, rfl, rfl⟩ q)
    · exact wpAny_pyIter_ascii ha (pi_one (tk := s.toks) I _ (turn_str _ z t "str_ascii_iterator" (.inl rfl)) ⟨_, Heap.get?_push_size _ rfl, rfl, rfl⟩ q)
theorem si_e {a : E} {x : Expr} (ha : PE X x (rdE (ctOf X) L W a)) : PI X tg x (rdIt (ctOf X) L W (.e a)) := by
  refine ⟨fun pins s σ H R I ⟨r, env, st, Q', X', Rl, Re, w, k, xw⟩ => ?_⟩
  have key : rdE (ctOf X) L W a σ H fun x H1 => (∃ a xs, x = .ref a ∧ SqL X.K H1 a xs ∧ R (Itl X.K a) H1) ∨ (∃ a xs, x = .ref a ∧ SqT X.K H1 a xs ∧ R (Itt X.K a) H1) ∨ ∃ z, x = .str z ∧ R (Its z) H1 :=
    ⟨r, env, st, _, X', Rl, Re, w, fun r1 st1 H1 d v f1 R1 q1 w1 => by
      have w1 : itOf d st1 fun xs stay => Q' xs stay st1 := w1
      cases q1 with
      | tup h t => exact .inr (.inl ⟨_, _, rfl, h.sq, k r1 st1 H1 _ _ _ f1 R1 (itr_tup h t) w1⟩)
      | lst h t => exact .inl ⟨_, _, rfl, h.sq, k r1 st1 H1 _ _ _ f1 R1 (itr_list h t) w1⟩
      | scr xs h => exact .inl ⟨_, _, rfl, h.sq, k r1 st1 H1 _ _ _ f1 R1 (itr_scr h) w1⟩
      | kt xs h => exact .inr (.inl ⟨_, _, rfl, h.sq, k r1 st1 H1 _ _ _ f1 R1 (itr_kt h) w1⟩)
      | str z => exact .inr (.inr ⟨_, rfl, k r1 st1 H1 _ _ _ f1 R1 itr_str w1.2⟩)
      | @loc n a h =>
        obtain ⟨c, e, w1⟩ := onSome_iff (show onSome st1[n]? _ from w1)
        cases c with
        | lst ys =>
          obtain ⟨vs, k1, k2⟩ := R1.cells n _ a e h
          exact .inl ⟨_, _, rfl, SqL.of k1, k r1 st1 H1 _ _ _ f1 R1 (itr_loc h) w1⟩
        | dct t kvs => exact w1.elim
        | obj _ _ => exact w1.elim
      | _ => exact w1.elim, xw⟩
  exact thn (ha.run pins s σ H _ I key) fun v s1 ⟨x, H1, I1, r1, q1⟩ => iter_val I1 r1 q1
theorem si_range1 {a : E} {x : Expr} {p p2 : Pos} (hg : Gl X "range") (hm : X.mg "range" = none) (hs : noStar x = true) (ha : PE X x (rdE (ctOf X) L W a)) : PI X tg (.Call (.Name "range" p2) [x] [] p) (rdIt (ctOf X) L W (.range1 a)) :=
  piI (pi_range1 hg hm (pa_cons ha pa_nil (star_cons hs)) (star_cons hs)) fun σ H Q ⟨r, env, st, Q', X', R, Re, w, k, xw⟩ => ⟨r, env, st, _, X', R, Re, w, fun r1 st1 H1 d v f1 R1 q1 w1 => by
    obtain ⟨n, rfl, ⟨h1, h2⟩, w1⟩ := onInt_iff (show onInt d _ from w1)
    cases q1
    exact ⟨n, rfl, h1, h2, k r1 st1 H1 _ _ _ f1 R1 (itr_range 0 n.toNat) w1⟩, xw⟩
theorem si_range2 {a b : E} {x y : Expr} {p p2 : Pos} (hg : Gl X "range") (hm : X.mg "range" = none) (hs : noStar x = true) (hs2 : noStar y = true) (ha : PE X x (rdE (ctOf X) L W a)) (hb : PE X y (rdE (ctOf X) L W b)) :
    PI X tg (.Call (.Name "range" p2) [x, y] [] p) (rdIt (ctOf X) L W (.range2 a b)) :=
  piI (pi_range2 hg hm (pa_cons ha (pa_cons hb pa_nil (star_cons hs2)) (star_cons hs)) (by rw [star_cons hs, star_cons hs2]; rfl) (star_cons hs2)) fun σ H Q ⟨r, env, st, Q', X', R, Re, w, k, xw⟩ => ⟨r, env, st, _, X', R, Re, w, fun r1 st1 H1 d v f1 R1 q1 w1 => by
    obtain ⟨lo, rfl, w1⟩ := onInt_iff (show onInt d _ from w1)
    cases q1
    refine ⟨r1, env, st1, _, X', R1, Re.fut f1, w1, fun r2 st2 H2 d2 v2 f2 R2 q2 w2 => ?_, xw.mono f1⟩
    obtain ⟨hi, rfl, hb, w2⟩ := onInt_iff (show onInt d2 _ from w2)
    cases q2
    exact ⟨lo, hi, rfl, hb, k r2 st2 H2 _ _ _ (f1.trans f2) R2 (itr_range lo _) w2⟩, xw⟩
/-! ### zip, enumerate, reversed -/
theorem stay_app {s1 s2 : List (Nat × Cell)} {st : Sto} (h : StayP (s1 ++ s2) st) : StayP s1 st ∧ StayP s2 st :=
  ⟨fun p m => h p (List.mem_append_left _ m), fun p m => h p (List.mem_append_right _ m)⟩
/-- a list that is walked, as it lies from now on -/
def LsR (C : Ct) (a : Addr) (r0 : Lay) (H0 : Hp) (xs : List D) (stay : List (Nat × Cell)) : Prop :=
  ∀ (r : Lay) (st : Sto) (H : Hp), FutW r0 H0 r H → Rel C r st H → StayP stay st → ∃ vs, SqL C.K H a vs ∧ RDs C r H xs vs
theorem lstK_iff {C : Ct} {r : Lay} {st : Sto} {H : Hp} {d : D} {v : V} {kk : List D → List (Nat × Cell) → Prop} (R : Rel C r st H) (q : RD C r H d v) (h : lstK d st kk) :
    ∃ a xs stay, v = .ref a ∧ LsR C a r H xs stay ∧ StayP stay st ∧ kk xs stay := by
  cases q with
  | lst h1 t => exact ⟨_, _, [], rfl, fun r1 st1 H1 f R1 _ => ⟨_, (h1.futW f).sq, t.futW f⟩, (fun _ m => nomatch m), h⟩
  | @loc n a hr =>
    obtain ⟨c, e, h⟩ := onSome_iff (show onSome st[n]? _ from h)
    obtain ⟨ys, rfl, h⟩ := onLst_iff h
    refine ⟨a, ys, _, rfl, fun r1 st1 H1 f R1 hs => ?_, fun p m => ?_, h⟩
    · obtain ⟨vs, k1, t1⟩ := R1.cells n _ a (hs (n, .lst ys) (by simp)) (prefix_get f.ext hr)
      exact ⟨vs, SqL.of k1, t1⟩
    · simp at m; subst m; exact e
  | _ => exact h.elim
theorem pair_new {C : Ct} {r : Lay} {st : Sto} {H : Hp} {p : Addr} {x y : D} {v u : V} (R : Rel C r st H) (hp : H p = none) (q : RD C r H x v) (q' : RD C r H y u) :
    Fut r H r (upd H p (.tup [v, u])) ∧ Rel C r st (upd H p (.tup [v, u])) ∧ RD C r (upd H p (.tup [v, u])) (.tup [x, y]) (.ref p) :=
  ⟨Fut.frz hp, R.frz hp, .tup ⟨upd_same, R.free hp⟩ (.cons (q.fut (Fut.frz hp)) (.cons (q'.fut (Fut.frz hp)) .nil))⟩
theorem zip_get {xs ys : List D} {i : Nat} {d : D} (e : ((xs.zip ys).map fun p => D.tup [p.1, p.2])[i]? = some d) : ∃ x y, xs[i]? = some x ∧ ys[i]? = some y ∧ d = .tup [x, y] := by
  rw [List.getElem?_map] at e
  cases ez : (xs.zip ys)[i]? with
  | none => rw [ez] at e; cases e
  | some p =>
    rw [ez] at e
    cases e
    obtain ⟨h1, h2⟩ := List.getElem?_zip_eq_some.mp ez
    exact ⟨_, _, h1, h2, rfl⟩
theorem itr_zip {C : Ct} {r : Lay} {H : Hp} {a b : Addr} {xs ys : List D} {s1 s2 : List (Nat × Cell)} (h1 : LsR C a r H xs s1) (h2 : LsR C b r H ys s2) :
    ItR C (Itz C.K a b) r H ((xs.zip ys).map fun p => .tup [p.1, p.2]) (s1 ++ s2) := fun i r1 st1 H1 f R hs => by
  obtain ⟨z1, z2⟩ := stay_app hs
  obtain ⟨vs, q1, t1⟩ := h1 r1 st1 H1 f R z1
  obtain ⟨us, q2, t2⟩ := h2 r1 st1 H1 f R z2
  refine ⟨fun hi => ⟨vs, us, q1, q2, ?_⟩, fun d e => ?_⟩
  · rw [List.length_map, List.length_zip] at hi
    rw [← t1.length, ← t2.length]
    omega
  · obtain ⟨x, y, e1, e2, rfl⟩ := zip_get e
    obtain ⟨v, e3, p1⟩ := t1.get e1
    obtain ⟨u, e4, p2⟩ := t2.get e2
    refine ⟨⟨vs, us, v, u, q1, q2, e3, e4⟩, fun z H' hy => ?_⟩
    obtain ⟨p, v', u', rfl, hp, rfl, g1, g2⟩ := hy
    have e5 := (g1 vs q1).symm.trans e3
    have e6 := (g2 us q2).symm.trans e4
    cases e5
    cases e6
    exact pair_new R hp p1 p2
theorem itr_zipT {C : Ct} {r : Lay} {H : Hp} {a b : Addr} {xs ys : List D} {vs us : List V} (h1 : TupAt C r H a vs) (h2 : TupAt C r H b us) (t1 : RDs C r H xs vs) (t2 : RDs C r H ys us) :
    ItR C (RZ.ItzT C.K a b) r H ((xs.zip ys).map fun p => .tup [p.1, p.2]) [] := fun i r1 st1 H1 f R hs => by
  have q1 := (h1.futW f).sq
  have q2 := (h2.futW f).sq
  replace t1 := t1.futW f
  replace t2 := t2.futW f
  refine ⟨fun hi => ⟨vs, us, q1, q2, ?_⟩, fun d e => ?_⟩
  · rw [List.length_map, List.length_zip] at hi
    rw [← t1.length, ← t2.length]
    omega
  · obtain ⟨x, y, e1, e2, rfl⟩ := zip_get e
    obtain ⟨v, e3, p1⟩ := t1.get e1
    obtain ⟨u, e4, p2⟩ := t2.get e2
    refine ⟨⟨vs, us, v, u, q1, q2, e3, e4⟩, fun z H' hy => ?_⟩
    obtain ⟨p, v', u', rfl, hp, rfl, g1, g2⟩ := hy
    have e5 := (g1 vs q1).symm.trans e3
    have e6 := (g2 us q2).symm.trans e4
    cases e5
    cases e6
    exact pair_new R hp p1 p2
theorem si_zip {a b : E} {x y : Expr} {elts : List Expr} {kk : Nat} {tp p p2 : Pos} (hg : Gl X "zip") (hm : X.mg "zip" = none) (hs : noStar x = true) (hs2 : noStar y = true) (ha : PE X x (rdE (ctOf X) L W a)) (hb : PE X y (rdE (ctOf X) L W b)) :
    PI X (.Tuple elts kk tp) (.Call (.Name "zip" p2) [x, y] [] p) (rdIt (ctOf X) L W (.zip a b)) :=
  piI (RZ.pi_zipA hg hm (pa_cons ha (pa_cons hb pa_nil (star_cons hs2)) (star_cons hs)) (star_cons hs) (any_star (fun e m => by simp at m; subst m; exact hs2))) fun σ H Q ⟨r, env, st, Q', X', R, Re, w, k, xw⟩ => ⟨r, env, st, _, X', R, Re, w, fun r1 st1 H1 d v f1 R1 q1 w1 => by
    refine ⟨r1, env, st1, _, X', R1, Re.fut f1, w1, fun r2 st2 H2 d2 v2 f2 R2 q2 w2 => ?_, xw.mono f1⟩
    have w2 : zipK d d2 st2 fun xs ys stay => Q' ((xs.zip ys).map fun p => .tup [p.1, p.2]) stay st2 := w2
    have q1' := q1.fut f2
    have ls : (lstK d st2 fun xs s1 => lstK d2 st2 fun ys s2 => Q' ((xs.zip ys).map fun p => .tup [p.1, p.2]) (s1 ++ s2) st2) → (∃ a b xs ys, [v, v2] = [V.ref a, V.ref b] ∧ ((SqL X.K H2 a xs ∧ SqL X.K H2 b ys ∧ Q (Itz X.K a b) H2) ∨ (SqT X.K H2 a xs ∧ SqT X.K H2 b ys ∧ Q (RZ.ItzT X.K a b) H2))) := fun w2 => by
      obtain ⟨aa, xs, s1, e1, l1, z1, w2⟩ := lstK_iff R2 q1' w2
      obtain ⟨bb, ys, s2, e2, l2, z2, w2⟩ := lstK_iff R2 q2 w2
      obtain ⟨vs, g1, _⟩ := l1 r2 st2 H2 .refl R2 z1
      obtain ⟨us, g2, _⟩ := l2 r2 st2 H2 .refl R2 z2
      exact ⟨aa, bb, vs, us, by rw [e1, e2], .inl ⟨g1, g2, k r2 st2 H2 _ _ _ (f1.trans f2) R2 (itr_zip l1 l2) w2⟩⟩
    cases q1' with
    | tup h1 t1 =>
      cases q2 with
      | tup h2 t2 => exact ⟨_, _, _, _, rfl, .inr ⟨h1.sq, h2.sq, k r2 st2 H2 _ _ _ (f1.trans f2) R2 (itr_zipT h1 h2 t1 t2) w2⟩⟩
      | _ => exact w2.elim
    | non => exact ls w2
    | bl => exact ls w2
    | int => exact ls w2
    | str => exact ls w2
    | lst => exact ls w2
    | loc => exact ls w2
    | gl => exact ls w2
    | ty => exact ls w2
    | scr => exact ls w2
    | kt => exact ls w2, xw⟩
theorem itr_enum {C : Ct} {r : Lay} {H : Hp} {a : Addr} {xs : List D} {s1 : List (Nat × Cell)} (h1 : LsR C a r H xs s1) : ItR C (Ite C.K a) r H (xs.zipIdx.map fun p => .tup [.int p.2, p.1]) s1 := fun i r1 st1 H1 f R hs => by
  obtain ⟨vs, q1, t1⟩ := h1 r1 st1 H1 f R hs
  refine ⟨fun hi => ⟨vs, q1, ?_⟩, fun d e => ?_⟩
  · rw [List.length_map, List.length_zipIdx] at hi
    rw [← t1.length]
    exact hi
  · rw [List.getElem?_map] at e
    cases ez : xs.zipIdx[i]? with
    | none => rw [ez] at e; cases e
    | some p =>
      rw [ez] at e
      cases e
      rw [List.getElem?_zipIdx] at ez
      cases ex : xs[i]? with
      | none => rw [ex] at ez; cases ez
      | some x =>
        rw [ex] at ez
        cases ez
        obtain ⟨v, e3, p1⟩ := t1.get ex
        refine ⟨⟨vs, v, q1, e3⟩, fun z H' hy => ?_⟩
        obtain ⟨p, v', rfl, hp, rfl, g1⟩ := hy
        have e5 := (g1 vs q1).symm.trans e3
        cases e5
        have e6 : ((0 + i : Nat) : Int) = ((i : Nat) : Int) := by omega
        show _ ∧ _ ∧ RD C r1 _ (.tup [.int ((0 + i : Nat) : Int), x]) _
        rw [e6]
        exact pair_new R hp (.int _) p1
theorem si_enum {a : E} {x : Expr} {elts : List Expr} {kk : Nat} {tp p p2 : Pos} (hg : Gl X "enumerate") (hm : X.mg "enumerate" = none) (hs : noStar x = true) (ha : PE X x (rdE (ctOf X) L W a)) :
    PI X (.Tuple elts kk tp) (.Call (.Name "enumerate" p2) [x] [] p) (rdIt (ctOf X) L W (.enum a)) :=
  piI (pi_enum hg hm (pa_cons ha pa_nil (star_cons hs)) (star_cons hs)) fun σ H Q ⟨r, env, st, Q', X', R, Re, w, k, xw⟩ => ⟨r, env, st, _, X', R, Re, w, fun r1 st1 H1 d v f1 R1 q1 w1 => by
    obtain ⟨aa, xs, s1, e1, l1, z1, w2⟩ := lstK_iff R1 q1 (show lstK d st1 _ from w1)
    obtain ⟨vs, g1, _⟩ := l1 r1 st1 H1 .refl R1 z1
    exact ⟨aa, vs, by rw [e1], g1, k r1 st1 H1 _ _ _ f1 R1 (itr_enum l1) w2⟩, xw⟩
end
end DL

set_option maxHeartbeats 1000000
/-! DLLc: targets; list comprehensions. -/
namespace DL
open PySem PySem.Spec PyProof.Rows L2

/-! ### targets -/
/-- behind a target's names: these slots are set, all others stay -/
def TgK (C : Ct) (r : Lay) (H : Hp) (P : Nat → Prop) (vs : List Nat) (σ : L2.St) (k : St' → Prop) (Q : L2.St → Hp → Prop) : Prop :=
  ∀ env' σ', REp C r H (fun j => P j ∨ j ∈ vs) env' σ' → σ'.length = σ.length → (∀ j, j ∉ vs → σ'[j]? = σ[j]?) → k env' → Q σ' H
def rdG (C : Ct) (t : T) : TG := fun v σ H Q => ∃ r st P env d k, Rel C r st H ∧ REp C r H P env σ ∧ RD C r H d v ∧ wpT t d env k ∧ TgK C r H P t.slots σ k Q
def rdGs (C : Ct) (t : Ts) : TGs := fun v σ H Q => ∃ r st P env d k, Rel C r st H ∧ REp C r H P env σ ∧ RDs C r H d v ∧ wpTs t d env k ∧ TgK C r H P t.slots σ k Q
theorem pgI {X : Cx} {e : Expr} {t t' : TG} (h : PG X e t) (i : ∀ v σ H Q, t' v σ H Q → t v σ H Q) : PG X e t' := ⟨fun pins s σ H v u Q I r q => h.run pins s σ H v u Q I r (i v σ H Q q)⟩
theorem pgsI {X : Cx} {e : List Expr} {t t' : TGs} (h : PGs X e t) (i : ∀ v σ H Q, t' v σ H Q → t v σ H Q) : PGs X e t' := ⟨fun pins s σ H v u Q I r q => h.run pins s σ H v u Q I r (i v σ H Q q)⟩
theorem each_cons {e : Expr} {es : List Expr} {env : Env} (h : noStar e = true) : assignEach (e :: es) env = (false, assign e env) :: assignEach es env := by
  cases e <;> first | rfl | cases h
theorem each_len {env : Env} : ∀ {es : List Expr}, (assignEach es env).length = es.length
  | [] => rfl
  | e :: es => by cases e <;> exact congrArg (· + 1) (each_len (es := es))
theorem each_star {env : Env} : ∀ {es : List Expr}, (∀ e ∈ es, noStar e = true) → (assignEach es env).findIdx? (·.1) = none
  | [], _ => rfl
  | e :: es, h => by
    rw [each_cons (h e (by simp)), List.findIdx?_cons]
    simp only [Bool.false_eq_true, if_false]
    rw [each_star fun x m => h x (by simp [m])]
    rfl
theorem okTs_star {N : List Str} {sc : Scope} : ∀ {ts : Ts} {xs : List Expr}, okTs N sc ts xs = true → ∀ x ∈ xs, noStar x = true
  | .nil, xs, h => by
    cases xs with
    | nil => exact fun _ m => nomatch m
    | cons _ _ => cases h
  | .cons t ts, xs, h => by
    cases xs with
    | nil => cases h
    | cons x xs =>
      have h : (okT N sc t x && noStar x && okTs N sc ts xs) = true := h
      simp only [Bool.and_eq_true] at h
      intro y m
      rcases List.mem_cons.mp m with e | m
      · subst e; exact h.1.2
      · exact okTs_star h.2 y m
mutual
theorem wpT_ex : ∀ (t : T) {x : D} {env : St'} {k : St' → Prop}, wpT t x env k → ∃ env', k env'
  | .v i, x, env, k, w => ⟨_, w⟩
  | .tup ts, x, env, k, w => by cases x <;> first | exact wpTs_ex ts w | exact w.elim
theorem wpTs_ex : ∀ (ts : Ts) {xs : List D} {env : St'} {k : St' → Prop}, wpTs ts xs env k → ∃ env', k env'
  | .nil, xs, env, k, w => by cases xs <;> first | exact ⟨_, w⟩ | exact w.elim
  | .cons t ts, xs, env, k, w => by
    cases xs with
    | nil => exact w.elim
    | cons x xs =>
      obtain ⟨e1, w1⟩ := wpT_ex t (show wpT t x env fun env => wpTs ts xs env k from w)
      exact wpTs_ex ts w1
end
theorem wpTs_len {N : List Str} {sc : Scope} : ∀ {ts : Ts} {xs : List D} {env : St'} {k : St' → Prop} {es : List Expr}, okTs N sc ts es = true → wpTs ts xs env k → xs.length = es.length
  | .nil, xs, env, k, es, h, w => by
    cases xs with
    | nil => cases es with
      | nil => rfl
      | cons _ _ => cases h
    | cons _ _ => exact w.elim
  | .cons t ts, xs, env, k, es, h, w => by
    cases xs with
    | nil => exact w.elim
    | cons x xs => cases es with
      | nil => cases h
      | cons e es =>
        have h : (okT N sc t e && noStar e && okTs N sc ts es) = true := h
        simp only [Bool.and_eq_true] at h
        obtain ⟨env', w'⟩ := wpT_ex t (show wpT t x env fun env => wpTs ts xs env k from w)
        have := wpTs_len h.2 w'
        simp [this]

mutual
theorem sg_t {X : Cx} {N : List Str} {sc : Scope} (hN : N = X.N) (hnd : X.N.Nodup) (hs : ScOk X.env.scope sc) (hf : ∀ x, sc.names.lookup x = some .cell → X.fn x = true) (hc : X.calm = true) : ∀ (t : T) (e : Expr), okT N sc t e = true → PG X e (rdG (ctOf X) t)
  | .v i, e, h => by
    cases e with
    | Name x p =>
      have h : (decide (N[i]? = some x) && locB sc x) = true := h
      simp only [Bool.and_eq_true, decide_eq_true_eq] at h
      refine pgI (pg_name hnd (hN ▸ h.1) (loc_of hs h.2) (fn_of hs hf h.2)) fun v σ H Q ⟨r, st, P, env, d, k, R, Re, q, w, K⟩ => ?_
      refine K _ _ ?_ (by simp) (fun j hj => ?_) (show k (setS env i d) from w)
      · rw [setS_eq]
        have := Re.set i q
        refine ⟨this.1, fun j e p => this.2 j e ?_⟩
        rcases p with p | p
        · exact .inl p
        · exact .inr (by simpa [T.slots] using p)
      · have : j ≠ i := by simpa [T.slots] using hj
        exact List.getElem?_set_ne (Ne.symm this)
    | _ => cases h
  | .tup ts, e, h => by
    cases e with
    | Tuple xs kk p =>
      have h : okTs N sc ts xs = true := h
      refine pgI (pg_tup (n := xs.length) hc (sg_ts hN hnd hs hf hc ts xs h) each_len (each_star (okTs_star h))) fun v σ H Q ⟨r, st, P, env, d, k, R, Re, q, w, K⟩ => ?_
      cases q with
      | tup hq t =>
        have w : wpTs ts _ env k := w
        refine ⟨_, _, rfl, hq.sq, ?_, r, st, P, env, _, k, R, Re, t, w, K⟩
        rw [← t.length]
        exact wpTs_len h w
      | _ => exact w.elim
    | _ => cases h
theorem sg_ts {X : Cx} {N : List Str} {sc : Scope} (hN : N = X.N) (hnd : X.N.Nodup) (hs : ScOk X.env.scope sc) (hf : ∀ x, sc.names.lookup x = some .cell → X.fn x = true) (hc : X.calm = true) : ∀ (ts : Ts) (es : List Expr), okTs N sc ts es = true → PGs X es (rdGs (ctOf X) ts)
  | .nil, es, h => by
    cases es with
    | nil =>
      refine pgsI pgs_nil fun v σ H Q ⟨r, st, P, env, d, k, R, Re, q, w, K⟩ => ?_
      cases q with
      | nil => exact ⟨rfl, K env σ ⟨Re.1, fun i d p => Re.2 i d (p.resolve_right (by simp [Ts.slots]))⟩ rfl (fun _ _ => rfl) w⟩
      | cons _ _ => exact w.elim
    | cons _ _ => cases h
  | .cons t ts, es, h => by
    cases es with
    | nil => cases h
    | cons e es =>
      have h : (okT N sc t e && noStar e && okTs N sc ts es) = true := h
      simp only [Bool.and_eq_true] at h
      refine pgsI (pgs_cons (sg_t hN hnd hs hf hc t e h.1.1) (sg_ts hN hnd hs hf hc ts es h.2) (by rw [each_cons h.1.2]; rfl)) fun v σ H Q ⟨r, st, P, env, d, k, R, Re, q, w, K⟩ => ?_
      cases q with
      | nil => exact w.elim
      | cons q1 q2 =>
        refine ⟨_, _, rfl, r, st, P, env, _, _, R, Re, q1, (show wpT t _ env _ from w), fun env1 σ1 Re1 hl1 hk1 w1 => ?_⟩
        refine ⟨r, st, _, env1, _, k, R, Re1, q2, w1, fun env2 σ2 Re2 hl2 hk2 w2 => ?_⟩
        refine K env2 σ2 ⟨Re2.1, fun i d p => Re2.2 i d ?_⟩ (hl2.trans hl1) (fun j hj => ?_) w2
        · rcases p with p | p
          · exact .inl (.inl p)
          · rcases List.mem_append.mp (show i ∈ T.slots t ++ Ts.slots ts from p) with p | p
            · exact .inl (.inr p)
            · exact .inr p
        · have hj : j ∉ T.slots t ++ Ts.slots ts := hj
          rw [List.mem_append] at hj
          rw [hk2 j fun m => hj (.inr m), hk1 j fun m => hj (.inl m)]
end

/-! ### list comprehensions -/
theorem wipe_get {σ : L2.St} {j : Nat} : ∀ {vs : List Nat}, (wipe σ vs)[j]? = if j ∈ vs then (if j < σ.length then some none else none) else σ[j]?
  | [] => by simp [wipe]
  | v :: vs => by
    unfold wipe
    rw [List.getElem?_set, wipe_get (vs := vs)]
    by_cases h : v = j
    · subst h
      simp [wipe_length]
    · have h' : ¬ j = v := fun e => h e.symm
      simp [h, h']
theorem wipe_same {σ σ2 : L2.St} {vs : List Nat} (hl : σ2.length = (wipe σ vs).length) (h : ∀ j, j ∉ vs → σ2[j]? = (wipe σ vs)[j]?) : wipe σ2 vs = wipe σ vs := by
  rw [wipe_length] at hl
  apply List.ext_getElem?
  intro j
  rw [wipe_get, wipe_get, hl]
  by_cases m : j ∈ vs
  · rw [if_pos m, if_pos m]
  · rw [if_neg m, if_neg m, h j m, wipe_get, if_neg m]
theorem re_of {C : Ct} {r : Lay} {H : Hp} {P : Nat → Prop} {env : St'} {s : L2.St} (h : REp C r H P env s) (p : ∀ i, P i) : RE C r H env s := ⟨h.1, fun i d e => h.2 i d (p i) e⟩
def W0 : WX := fun _ _ _ _ => False
theorem xw0 {C : Ct} {r : Lay} {H : Hp} {σ : L2.St} {W : WX} : XW C r H σ (fun _ _ => False) W := fun _ _ _ _ _ _ _ _ _ h => h.elim
/-- the tests of a clause -/
def rdC (C : Ct) (L : Lib) (c : Eo) : TT := fun σ H Q => ∃ r env st Q', Rel C r st H ∧ RE C r H env σ ∧ wpC L c env st Q' (fun _ _ => False) ∧ KpB C r H Q' Q
theorem lc_imp {C : Ct} {L : Lib} {W : WX} {m : Bool} {elt : E} {t : T} {it : It} {c : Eo} {σ : L2.St} {H : Hp} {Q : VK} (h : rdE C L W (.lc m elt t it c) σ H Q) :
    tLc (rdIt C L W it) (rdG C t) (rdC C L c) (rdE C L W0 elt) t.slots σ H Q := by
  obtain ⟨r, env, st, Q', X', R, Re, w, k, xw⟩ := h
  have w : wpIt L it env st (fun xs stay st => lcGo stay (fun d k => wpT t d env k) (fun env st k => wpC L c env st (fun b st => k b st) fun _ _ => False) (fun env st k => wpE L elt env st k fun _ _ => False) xs [] st fun ds st => newL m ds st Q') X' := w
  refine ⟨r, env, st, _, X', R, Re, w, fun r1 st1 H1 xs stay J f1 R1 itr w1 => ?_, xw⟩
  intro D hD
  have hD1 : r1.off D := R1.free hD
  have Re1 := Re.fut f1
  refine ⟨fun i mm H => mm = xs.length - i ∧ i ≤ xs.length ∧ ∃ (r2 : Lay) (st2 : Sto) (ds : List DL.D) (vs : List V), Fut r1 H1 (r2.1, r1.2) H ∧ FutW r1 H1 r2 H ∧ r2.2 = D :: r1.2 ∧ Rel C r2 st2 H ∧ H D = some (.lst vs) ∧ RDs C r2 H ds.reverse vs ∧
    lcGo stay (fun d k => wpT t d env k) (fun env st k => wpC L c env st (fun b st => k b st) fun _ _ => False) (fun env st k => wpE L elt env st k fun _ _ => False) (xs.drop i) ds st2 fun ds st => newL m ds st Q', ?_, ?_⟩
  · refine ⟨xs.length, by simp, Nat.zero_le _, (r1.1, D :: r1.2), st1, [], [], ?_, FutW.hide hD, rfl, R1.hide hD, upd_same, .nil, w1⟩
    exact Fut.frz hD
  · rintro i mm H ⟨rfl, hi, r2, st2, ds, vs, f2, f2w, e2, R2, hDv, qd, w2⟩
    have DinH : D ∈ r2.2 := by rw [e2]; exact List.mem_cons_self
    have Dn1 : D ∉ r2.1 := (R2.hid D DinH).1
    by_cases hlt : i < xs.length
    · refine .inr ?_
      rw [List.drop_eq_getElem_cons hlt] at w2
      obtain ⟨hst, w2⟩ := stayOk_iff w2
      obtain ⟨hgo, hy⟩ := (itr i r2 st2 H f2w R2 hst).2 _ (List.getElem?_eq_getElem hlt)
      refine ⟨hgo, fun H' => ∃ (r2 : Lay) (st2 : Sto) (ds : List DL.D) (vs : List V), Fut r1 H1 (r2.1, r1.2) H' ∧ FutW r1 H1 r2 H' ∧ r2.2 = D :: r1.2 ∧ Rel C r2 st2 H' ∧ H' D = some (.lst vs) ∧ RDs C r2 H' ds.reverse vs ∧
        lcGo stay (fun d k => wpT t d env k) (fun env st k => wpC L c env st (fun b st => k b st) fun _ _ => False) (fun env st k => wpE L elt env st k fun _ _ => False) (xs.drop (i + 1)) ds st2 fun ds st => newL m ds st Q',
        fun H' z => ⟨xs.length - (i + 1), by omega, rfl, hlt, z⟩, fun x H' hyy => ?_⟩
      obtain ⟨f3, R3, q3⟩ := hy x H' hyy
      -- later states of the block, seen from the start of the turn
      have later : ∀ (r5 : Lay) (H5 : Hp), Fut r2 H r5 H5 → Fut r1 H1 (r5.1, r1.2) H5 ∧ FutW r1 H1 r5 H5 ∧ r5.2 = D :: r1.2 ∧ D ∉ r5.1 ∧ H5 D = some (.lst vs) := fun r5 H5 g => by
        refine ⟨⟨fun a o e n => g.keep a o (f2.keep a o e n) (f2.notin e n), f2.ext.trans g.ext, rfl, fun a m => ?_⟩, f2w.trans g.w, g.hid.trans e2, g.notin hDv Dn1, g.keep D _ hDv Dn1⟩
        rcases g.new a m with z | z
        · exact f2.new a z
        · by_cases n : a ∈ r1.1
          · exact .inl n
          · cases e : H1 a with
            | none => exact .inr rfl
            | some o => rw [f2.keep a o e n] at z; cases z
      have Rew : REp C r2 H' (fun j => j ∉ t.slots) env (wipe σ t.slots) := ⟨by rw [wipe_length]; exact Re1.1, fun j d p e => by
        obtain ⟨v, e1, q1⟩ := Re1.2 j d e
        exact ⟨v, by rw [wipe_get, if_neg p]; exact e1, (q1.futW f2w).fut f3⟩⟩
      refine ⟨r2, st2, _, env, _, _, R3, Rew, q3, w2, fun env' σ' Re' hl hk w3 => ⟨wipe_same hl hk, ?_⟩⟩
      have Re' : RE C r2 H' env' σ' := re_of Re' fun j => (Classical.em _).symm
      refine ⟨r2, env', st2, _, R3, Re', w3, fun r4 st4 H4 b f4 R4 w4 => ?_⟩
      have g4 := f3.trans f4
      obtain ⟨a1, a2, a3, a4, a5⟩ := later r4 H4 g4
      cases b with
      | false =>
        simp only [Bool.false_eq_true, if_false]
        exact ⟨r4, st4, ds, vs, a1, a2, a3, R4, a5, qd.fut g4, w4⟩
      | true =>
        simp only [if_true]
        refine ⟨r4, env', st4, _, _, R4, Re'.fut f4, w4, fun r5 st5 H5 d5 v5 f5 R5 q5 w5 => ?_, xw0⟩
        have g5 := g4.trans f5
        obtain ⟨b1, b2, b3, b4, b5⟩ := later r5 H5 g5
        have DinH5 : D ∈ r5.2 := by rw [b3]; exact List.mem_cons_self
        have hlen : vs.length = ds.length := by rw [← qd.length, List.length_reverse]
        have kD : ∀ a, a ≠ D → upd H5 D (.lst (vs ++ [v5])) a = H5 a := fun a n => upd_ne n
        refine ⟨vs, b5, by rw [hlen]; exact w5.1, r5, st5, d5 :: ds, vs ++ [v5], ⟨fun a o e n => ?_, b1.ext, rfl, b1.new⟩, b2.trans (FutW.setH DinH5), b3, R5.setH DinH5, upd_same, ?_, w5.2⟩
        · rw [kD a fun z => by subst z; rw [hD] at e; cases e]
          exact b1.keep a o e n
        · rw [List.reverse_cons]
          exact ((qd.fut g5).append (.cons q5 .nil)).futW (FutW.setH DinH5)
    · have hi' : i = xs.length := by omega
      subst hi'
      rw [List.drop_length] at w2
      obtain ⟨hst, w2⟩ := stayOk_iff w2
      refine .inl ⟨(itr _ r2 st2 H f2w R2 hst).1 (Nat.le_refl _), ?_⟩
      cases m with
      | false =>
        have sh : FutW r2 H (r2.1, r1.2) H := FutW.show_ e2
        exact k (r2.1, r1.2) st2 H _ _ (f1.trans f2) (R2.show_ e2) (.lst ⟨hDv, Dn1, hD1.2⟩ (qd.futW sh)) w2
      | true =>
        have sh : FutW r2 H (r2.1 ++ [D], r1.2) H := FutW.adopt e2
        refine k (r2.1 ++ [D], r1.2) (st2 ++ [Cell.lst ds.reverse]) H (.loc st2.length) _ (f1.trans ⟨f2.keep, f2.ext.trans ⟨[D], rfl⟩, rfl, fun a z => ?_⟩) (R2.adopt (c := .lst ds.reverse) e2 hD1.2 ⟨vs, hDv, qd.futW sh⟩) (.loc ?_) (show Q' (.loc st2.length) (st2 ++ [Cell.lst ds.reverse]) from w2)
        · rcases List.mem_append.mp z with z | z
          · exact f2.new a z
          · simp at z; subst z; exact .inr hD
        · show (r2.1 ++ [D])[st2.length]? = _
          rw [← R2.len]
          simp

theorem relS_lookup {scope sc : Scope} {x : Str} {k : NameKind} (hk : k ≠ .free) (h : scope.names.lookup x = some k) : (relS scope sc).names.lookup x = some k := lookup_relS_keep hk h
theorem relS_free {sc : Scope} : ∀ {names : List (Str × NameKind)} {x : Str}, names.lookup x = some .free →
    (names.map fun (n, k) => if (k == NameKind.free && sc.kind == .function && sc.names.lookup n == some .cell) then (n, NameKind.cell) else (n, k)).lookup x = some .free ∨
    (names.map fun (n, k) => if (k == NameKind.free && sc.kind == .function && sc.names.lookup n == some .cell) then (n, NameKind.cell) else (n, k)).lookup x = some .cell
  | [], x, h => by simp at h
  | (n, k) :: r, x, h => by
    have ih := @relS_free sc r x
    show List.lookup x ((if (k == NameKind.free && sc.kind == .function && sc.names.lookup n == some .cell) = true then (n, NameKind.cell) else (n, k)) :: (r.map _)) = some .free ∨
      List.lookup x ((if (k == NameKind.free && sc.kind == .function && sc.names.lookup n == some .cell) = true then (n, NameKind.cell) else (n, k)) :: (r.map _)) = some .cell
    cases hx : x == n with
    | true =>
      simp only [List.lookup_cons, hx] at h
      cases h
      by_cases hc : (NameKind.free == NameKind.free && sc.kind == .function && sc.names.lookup n == some .cell) = true
      · rw [if_pos hc]; simp only [List.lookup_cons, hx]; exact .inr trivial
      · rw [if_neg hc]; simp only [List.lookup_cons, hx]; exact .inl trivial
    | false =>
      simp only [List.lookup_cons, hx] at h
      by_cases hc : (k == NameKind.free && sc.kind == .function && sc.names.lookup n == some .cell) = true
      · rw [if_pos hc]; simp only [List.lookup_cons, hx]; exact ih h
      · rw [if_neg hc]; simp only [List.lookup_cons, hx]; exact ih h
theorem relS_ok {scope sc : Scope} : ScOk (relS scope sc) scope := ⟨fun _ h => lookup_relS_keep (by decide) h, fun _ h => lookup_relS_keep (by decide) h, fun _ h => relS_free h, fun _ h => lookup_relS_keep (by decide) h⟩

section
variable {X : Cx} {L : Lib} {T : Tab} {k : Nat} {sc : Scope} {W : WX} {cm : Bool}
theorem good_blk (G : Good L T k X sc W cm) {s : Shared} {H : Hp} {scope : Scope} {cl : List (Str × Addr)} {C : Addr} {fp : List Addr} : Good L T k (X.blk s H scope (compEnvC scope cl C X.env) fp) scope W0 cm where
  nd := G.nd
  so := relS_ok
  fn := fun x h => by
    show (scope.names.lookup x == some .cell) = true
    rw [h]
    rfl
  calm := G.calm
  un := G.un
  tk := fun _ _ ⟨_, _, _, _, _, _, _, _, _, _, _, _, _, _, _, _, w⟩ => w.elim
  lib := G.lib
theorem blk_of (G : Good L T k X sc W cm) {scope : Scope} {own : List (Str × Nat)} (h : blkC X.N sc scope own = true) : BlkOk X.N X.env.scope scope own := by
  have B := blkOk_by h
  refine ⟨B.kind, B.uniq, B.ix, fun y hy e => ?_, B.own⟩
  rcases B.free y hy e with q | q
  · exact .inl (G.so.cl _ q)
  · exact (G.so.fr _ q).symm
/-- the tests of a clause, as they are read -/
theorem sd_lc {m : Bool} {elt : E} {tt : DL.T} {it : DL.It} {c : Eo} {x tg iter : Expr} {ifs : List Expr} {scope : Scope} {pos : Pos} (G : Good L T k X sc W cm) (hc : cm = true) (hi : PI X tg iter (rdIt (ctOf X) L W it))
    (hb : blkC X.N sc scope (ownOf X.N tt.slots) = true) (ho : (ownOf X.N tt.slots).map (·.2) = tt.slots) (hT : okT X.N scope tt tg = true) (hs : noSet iter = true)
    (he : ∀ (s : Shared) (H : Hp) (C : Addr) (cl : List (Str × Addr)) (fp : List Addr), PE (X.blk s H scope (compEnvC scope cl C X.env) fp) x (rdE (ctOf X) L W0 elt))
    (ht : ∀ (s : Shared) (H : Hp) (C : Addr) (cl : List (Str × Addr)) (fp : List Addr), PTs (X.blk s H scope (compEnvC scope cl C X.env) fp) ifs (rdC (ctOf X) L c)) :
    PE X (.ListComp x [⟨tg, iter, ifs, 0⟩] scope pos) (rdE (ctOf X) L W (.lc m elt tt it c)) :=
  peI (pe_lc (G.calm hc).1 G.nd hi (blk_of G hb) (fun s H C cl fp => sg_t (X := X.blk s H scope (compEnvC scope cl C X.env) fp) rfl G.nd relS_ok (good_blk G (s := s) (H := H) (scope := scope) (cl := cl) (C := C) (fp := fp)).fn (G.calm hc).1 tt tg hT) ht he (folded_of hs)) fun σ H Q h => by
    rw [ho]
    exact lc_imp h
end
end DL

set_option maxHeartbeats 1000000
/-! DLBi: built-in functions and methods, isinstance, constants, [::-1]. -/
namespace DL
open PySem PySem.Spec PyProof.Rows L2

def Bi.isTy : Bi → Bool
  | .int_ | .str_ | .tuple_ | .list_ | .type_ | .dict1 | .bool_ | .set_ => true
  | _ => false
theorem boot_of (f : Bi) : bootBuiltins (Str.ofString f.nm) = some f.val := by cases f <;> decide +kernel
theorem nm_ok (f : Bi) : Str.ofString f.nm ≠ "__name__" ∧ (Str.ofString f.nm == ("__debug__" : Str)) = false := by cases f <;> decide +kernel

section
variable {X : Cx} {L : Lib} {T : Tab} {k : Nat} {sc : Scope} {W : WX} {cm : Bool}
theorem bi_now {m : Bool} {f : Bi} {es : Es} {σ : L2.St} {H : Hp} {Q : VK} (h : rdE (ctOf X) L W (.bi m f es) σ H Q) : tCB (rBi (ctOf X) m f) (rdEs (ctOf X) L W es) σ H Q := by
  obtain ⟨r, env, st, Q', X', R, Re, w, k, xw⟩ := h
  exact ⟨r, env, st, _, X', R, Re, w, fun r1 st1 H1 ds vs f1 R1 q1 w1 => ⟨r1, st1, ds, Q', R1, q1, w1, k.mono f1⟩, xw⟩
theorem sd_bi {m : Bool} {f : Bi} {es : Es} {x : Expr} {xs : List Expr} {p p2 : Pos} {nm : Str} (G : Good L T k X sc W cm) (hc : cm = true) (en : nm = Str.ofString f.nm) (hg : Gl X nm) (hf : T.free.contains f.nm = true)
    (hs : ∀ y ∈ x :: xs, noStar y = true) (h : PA X (x :: xs) (rdEs (ctOf X) L W es)) : PE X (.Call (.Name nm p2) (x :: xs) [] p) (rdE (ctOf X) L W (.bi m f es)) := by
  subst en
  have hm : X.mg (Str.ofString f.nm) = none := G.lib.free _ (by simpa using hf)
  have cr := cr_bi (C := ctOf X) rfl G.un (G.calm hc).1 m f
  have e1 := star_cons (es := xs) (env := X.env) (hs x (by simp))
  have e2 : (backTo p (starEach xs X.env)).any (·.1) = false := any_star fun z m => hs z (by simp [m])
  cases hv : f.val with
  | builtin id =>
    rw [hv] at cr
    exact peI (pe_callB cr hg hm (by rw [boot_of, hv]) h (nm_ok f).1 (nm_ok f).2 e1 e2) fun σ H Q q => bi_now q
  | type id =>
    rw [hv] at cr
    exact peI (pe_callTy cr hg hm (by rw [boot_of, hv]) h (nm_ok f).1 (nm_ok f).2 e1 e2) fun σ H Q q => bi_now q
  | _ => cases f <;> cases hv
/-! ### isinstance -/
theorem ty_at {C : Ct} {r : Lay} {st : Sto} {H : Hp} {d : D} {v : V} {u : TyN} (R : Rel C r st H) (q : RD C r H d v) (e : tyOf st d = some u) : TyX C.K H v (.type u.nm) := by
  cases q with
  | non => cases e; exact .base .non
  | bl b => cases e; exact .base (.bl b)
  | int i => cases e; exact .base (.int i)
  | str s => cases e; exact .base (.str _)
  | tup h t => cases e; exact .base (.tup h.1)
  | lst h t => cases e; exact .base (.lst h.1)
  | scr xs h =>
    cases e
    rcases h with ⟨⟨o, h⟩, _⟩ | ⟨o, its, n, h1, h2, _⟩
    · exact .base (.frz h)
    · exact .kList h1 h2
  | kt xs h => cases e; obtain ⟨o, its, n, h1, h2, _⟩ := h; exact .kTuple h1 h2
  | gl => cases e
  | ty => cases e
  | @loc n a h =>
    have e : (match st[n]? with
      | some (.lst _) => some TyN.list
      | some (.dct _ _) => some TyN.dict
      | _ => none) = some u := e
    cases e2 : st[n]? with
    | none => rw [e2] at e; cases e
    | some c =>
      rw [e2] at e
      have k := R.cells n c a e2 h
      cases c with
      | lst ys => cases e; obtain ⟨vs, k1, _⟩ := k; exact .base (.lst k1)
      | dct t kvs =>
        cases e
        cases t with
        | false => obtain ⟨vs, k1, _⟩ := k; exact .base (.dK k1)
        | true => obtain ⟨vs, k1, _⟩ := k; exact .base (.dT k1)
      | obj _ _ => cases e
theorem kit_sub (u t : TyN) (ht : t ≠ .non) : kitB u.nm t.nm = some (TyN.sub u t) := by
  cases t <;> first | exact absurd rfl ht | (cases u <;> decide +kernel)
theorem ty_boot (t : TyN) (ht : t ≠ .non) : bootBuiltins (Str.ofString t.nm) = some (.type t.nm) := by
  cases t <;> first | exact absurd rfl ht | decide +kernel
theorem ty_nm (t : TyN) : Str.ofString t.nm ≠ "__name__" ∧ (Str.ofString t.nm == ("__debug__" : Str)) = false := by cases t <;> decide +kernel
theorem sd_isi {a : E} {t : TyN} {x : Expr} {p p2 p3 : Pos} (G : Good L T k X sc W cm) (ht : t ≠ .non) (hg : Gl X "isinstance") (hg2 : Gl X (Str.ofString t.nm)) (hf : T.free.contains "isinstance" = true) (hf2 : T.free.contains t.nm = true) (hs : noStar x = true)
    (ha : PE X x (rdE (ctOf X) L W a)) : PE X (.Call (.Name "isinstance" p2) [x, .Name (Str.ofString t.nm) p3] [] p) (rdE (ctOf X) L W (.isi a t)) := by
  have hm : X.mg "isinstance" = none := G.lib.free "isinstance" (by simpa using hf)
  have hm2 : X.mg (Str.ofString t.nm) = none := G.lib.free _ (by simpa using hf2)
  have pt : PE X (.Name (Str.ofString t.nm) p3) (tC (.ty t.nm)) := pe_bltn hg2 hm2 (ty_boot t ht) rfl (ty_nm t).1 (ty_nm t).2
  refine peI (pe_callB call_isi hg hm (by decide +kernel) (pa_cons ha (pa_cons pt pa_nil (star_cons rfl)) (star_cons hs)) (by decide) (by decide) (star_cons hs) (any_star fun e m => by simp at m; subst m; rfl)) fun σ H Q ⟨r, env, st, Q', X', R, Re, w, k, xw⟩ => ?_
  refine ⟨r, env, st, _, X', R, Re, w, fun r1 st1 H1 d v f1 R1 q1 w1 => ?_, xw⟩
  obtain ⟨u, e, w1⟩ := onSome_iff (show onSome (tyOf st1 d) _ from w1)
  exact ⟨v, .ty t.nm, _, _, _, rfl, .ty _, ty_at R1 q1 e, kit_ty (kit_sub u t ht), k r1 st1 H1 _ _ f1 R1 (.bl _) w1⟩
/-! ### the module's names -/
theorem sd_g {x : String} {nm : Str} {p : Pos} (G : Good L T k X sc W cm) (en : nm = Str.ofString x) (hg : Gl X nm) (hd : (nm == ("__debug__" : Str)) = false) (hf : x ∈ T.globs) : PE X (.Name nm p) (rdE (ctOf X) L W (.g x)) := by
  subst en
  obtain ⟨d, u, v, e, hm, rv, q⟩ := G.lib.glob x hf
  refine sd_c (pe_glob hg hm rv hd) q fun env st Q X' w => ?_
  have w : onSome (L.glob x) fun d => Q d st := w
  rw [e] at w
  exact w
/-! ### methods of built-in types -/
def Bm.id : Bm → String
  | .append => "list.append" | .extend => "list.extend" | .pop0 => "list.pop" | .pop1 => "list.pop" | .remove => "list.remove" | .index => "list.index" | .count => "list.count" | .get1 => "dict.get" | .get2 => "dict.get" | .setdefault => "dict.setdefault"
  | .join => "str.join" | .split1 => "str.split" | .find => "str.find" | .reverse => "list.reverse" | .insert => "list.insert" | .update => "dict.update" | .clear => "dict.clear" | .dpop1 => "dict.pop"
def rBm (C : Ct) (f : Bm) : V → List V → Hp → VK → Prop := fun x xs H Q => ∃ r st o ds Q', Rel C r st H ∧ RD C r H o x ∧ RDs C r H ds xs ∧ wpBm f o ds st Q' ∧ Kp C r H Q' Q
theorem rds0 {C : Ct} {r : Lay} {H : Hp} {vs : List V} (q : RDs C r H [] vs) : vs = [] := by cases q; rfl
theorem rds1 {C : Ct} {r : Lay} {H : Hp} {d : D} {vs : List V} (q : RDs C r H [d] vs) : ∃ v, vs = [v] ∧ RD C r H d v := by
  cases q with | cons a t => cases t; exact ⟨_, rfl, a⟩
theorem rds2 {C : Ct} {r : Lay} {H : Hp} {d e : D} {vs : List V} (q : RDs C r H [d, e] vs) : ∃ v u, vs = [v, u] ∧ RD C r H d v ∧ RD C r H e u := by
  cases q with | cons a t => cases t with | cons b t => cases t; exact ⟨_, _, rfl, a, b⟩
/-- the store's list is written -/
theorem Kp.setL {C : Ct} {r : Lay} {H : Hp} {Q' : D → Sto → Prop} {Q : VK} {st : Sto} {n : Nat} {a : Addr} {xs : List D} {vs : List V} {d : D} {v : V} (k : Kp C r H Q' Q) (R : Rel C r st H) (hr : r.1[n]? = some a) (q : RDs C r H xs vs) (qd : RD C r H d v)
    (h : Q' d (st.set n (.lst xs))) : Q v (upd H a (.lst vs)) :=
  k r (st.set n (.lst xs)) _ d v (Fut.set hr) (R.set (c := .lst xs) hr ⟨vs, upd_same, q.fut (Fut.set hr)⟩) (qd.fut (Fut.set hr)) h
theorem RDs.dropLast {C : Ct} {r : Lay} {H : Hp} {xs : List D} {vs : List V} (q : RDs C r H xs vs) : RDs C r H xs.dropLast vs.dropLast := by
  rw [List.dropLast_eq_take, List.dropLast_eq_take, q.length]
  exact q.take _
theorem strs_at {C : Ct} {r : Lay} {H : Hp} : ∀ {ys : List String} {vs : List V}, RDs C r H (ys.map D.str) vs → vs = (ys.map Str.ofString).map V.str
  | [], _, .nil => rfl
  | y :: ys, _, .cons q t => by
    cases q
    rw [strs_at t]
    rfl
theorem join_of' (z : String) : ∀ ys : List String, Str.join (Str.ofString z) (ys.map Str.ofString) = Str.ofString (String.intercalate z ys)
  | [] => by rw [String.intercalate_nil]; rfl
  | [y] => by rw [String.intercalate_singleton]; rfl
  | x :: y :: ys => by
    rw [String.intercalate_cons_cons, ← ofS_append, ← ofS_append, ← join_of' z (y :: ys)]
    rfl
theorem join_of (z : String) (ys : List String) : Txt.join (Str.ofString z) (ys.map Str.ofString) = Str.ofString (String.intercalate z ys) := by
  rw [TL.join_eq]
  exact join_of' z ys
theorem place_of {d : D} (pd : D.pure d = true) : ∀ {ys : List D}, D.pures ys = true → PySem.SeqAt.dataPlace (ys.map toP) (toP d) = ys.findIdx? fun y => D.eqv y d
  | [], _ => rfl
  | y :: ys, h => by
    rw [D.pures, Bool.and_eq_true] at h
    have ih := place_of pd h.2
    unfold PySem.SeqAt.dataPlace at ih ⊢
    rw [List.map_cons, List.findIdx?_cons, List.findIdx?_cons, toP_eqv y d h.1 pd, ih]
mutual
theorem toP_plain : ∀ d : D, (toP d).plain = true
  | .non | .bl _ | .int _ | .loc _ | .gl _ | .ty _ | .scr _ | .kt _ => by simp [toP, PyData.plain]
  | .str s => by simp [toP, PyData.plain]
  | .tup xs => by simp [toP, PyData.plain, toPs_plain xs]
  | .lst xs => by simp [toP, PyData.plain, toPs_plain xs]
theorem toPs_plain : ∀ d : List D, PyData.plainAll (toPs d) = true
  | [] => by simp [toPs, PyData.plainAll]
  | x :: xs => by simp [toPs, PyData.plainAll, toP_plain x, toPs_plain xs]
end
theorem mt_bm (hu : X.A.units + 65 < cLine) (f : Bm) : MtR X f.id (rBm (ctOf X) f) := by
  intro pins s σ H x xs v us Q I rx rxs h
  obtain ⟨r, st, o, ds, Q', R, qo, qd, hw, k⟩ := h
  cases f with
  | append =>
    cases qo with
    | @loc n a hr =>
      match ds, hw, qd with
      | [d], hw, qd =>
        obtain ⟨y, rfl, qy⟩ := rds1 qd
        obtain ⟨c, e, hw⟩ := onSome_iff (show onSome st[n]? _ from hw)
        obtain ⟨ys, rfl, hz, hw⟩ := onLst_iff hw
        obtain ⟨vs, k1, k2⟩ := R.cells n _ a e hr
        exact mt_append pins s σ H _ _ v us Q I rx rxs ⟨a, vs, y, rfl, rfl, k1, by rw [← k2.length]; exact hz, k.setL R hr (k2.append (.cons qy .nil)) .non hw⟩
      | [], hw, _ => exact hw.elim
      | _ :: _ :: _, hw, _ => exact hw.elim
    | _ => exact hw.elim
  | extend =>
    cases qo with
    | @loc n a hr =>
      match ds, hw, qd with
      | [d], hw, qd =>
        obtain ⟨y, rfl, qy⟩ := rds1 qd
        obtain ⟨c, e, hw⟩ := onSome_iff (show onSome st[n]? _ from hw)
        obtain ⟨ys, rfl, hw⟩ := onLst_iff hw
        obtain ⟨vs, k1, k2⟩ := R.cells n _ a e hr
        cases qy with
        | lst h t =>
          obtain ⟨hz, hw⟩ := (show _ ∧ Q' _ _ from hw)
          exact mt_extend pins s σ H _ _ v us Q I rx rxs ⟨a, _, vs, _, rfl, rfl, k1, h.1, by rw [← k2.length, ← t.length]; exact hz, k.setL R hr (k2.append t) .non hw⟩
        | @loc m b hm =>
          obtain ⟨c, e2, hw⟩ := onSome_iff (show onSome st[m]? _ from hw)
          obtain ⟨zs, rfl, hz, hw⟩ := onLst_iff hw
          obtain ⟨us', k3, k4⟩ := R.cells m _ b e2 hm
          exact mt_extend pins s σ H _ _ v us Q I rx rxs ⟨a, _, vs, _, rfl, rfl, k1, k3, by rw [← k2.length, ← k4.length]; exact hz, k.setL R hr (k2.append k4) .non hw⟩
        | _ => exact hw.elim
      | [], hw, _ => exact hw.elim
      | _ :: _ :: _, hw, _ => exact hw.elim
    | _ => exact hw.elim
  | pop0 =>
    cases qo with
    | @loc n a hr =>
      match ds, hw, qd with
      | [], hw, qd =>
        obtain rfl := rds0 qd
        obtain ⟨c, e, hw⟩ := onSome_iff (show onSome st[n]? _ from hw)
        obtain ⟨ys, rfl, hw⟩ := onLst_iff hw
        obtain ⟨d, e3, hw⟩ := onSome_iff hw
        obtain ⟨vs, k1, k2⟩ := R.cells n _ a e hr
        rw [List.getLast?_eq_getElem?] at e3
        obtain ⟨y, e4, qy⟩ := k2.get e3
        rw [k2.length] at e4
        exact mt_pop pins s σ H _ _ v us Q I rx rxs ⟨a, vs, y, rfl, rfl, k1, e4, k.setL R hr k2.dropLast qy hw⟩
      | _ :: _, hw, _ => exact hw.elim
    | _ => exact hw.elim
  | pop1 =>
    cases qo with
    | @loc n a hr =>
      match ds, hw, qd with
      | [d], hw, qd =>
        obtain ⟨y, rfl, qy⟩ := rds1 qd
        obtain ⟨i, rfl, hw⟩ := onInt_iff (show onInt d _ from hw)
        cases qy
        obtain ⟨c, e, hw⟩ := onSome_iff hw
        obtain ⟨ys, rfl, hi, hw⟩ := onLst_iff hw
        obtain ⟨j, ej, hw⟩ := onSome_iff hw
        obtain ⟨d, e3, hw⟩ := onSome_iff hw
        obtain ⟨vs, k1, k2⟩ := R.cells n _ a e hr
        obtain ⟨y, e4, qy⟩ := k2.get e3
        refine mt_popAt pins s σ H _ _ v us Q I rx rxs ⟨a, vs, i, j, y, rfl, rfl, k1, hi.1, hi.2, ?_, e4, k.setL R hr (k2.eraseIdx j) qy hw⟩
        rw [← k2.length]
        exact (ixN_seq ej).1
      | [], hw, _ => exact hw.elim
      | _ :: _ :: _, hw, _ => exact hw.elim
    | _ => exact hw.elim
  | get1 =>
    cases qo with
    | @loc n a hr =>
      match ds, hw, qd with
      | [d], hw, qd =>
        obtain ⟨y, rfl, qy⟩ := rds1 qd
        obtain ⟨c, e, hw⟩ := onSome_iff (show onSome st[n]? _ from hw)
        obtain ⟨t, kvs, rfl, hk, hw⟩ := onDct_iff hw
        obtain ⟨o, g, ro⟩ := dct_get (R.cells n _ a e hr) hk qy
        obtain ⟨u, rfl, ry⟩ := vals1 rxs
        cases rx
        refine d_get1 (by have := hu; omega) I g ry fun w' s' I' rw' => ⟨_, H, I', rw', k.now R ?_ hw⟩
        unfold ROp at ro
        split at ro
        · next e1 => rw [e1]; exact ro
        · next e1 => rw [e1]; exact .non
        · exact ro.elim
      | [], hw, _ => exact hw.elim
      | _ :: _ :: _, hw, _ => exact hw.elim
    | _ => exact hw.elim
  | get2 =>
    cases qo with
    | @loc n a hr =>
      match ds, hw, qd with
      | [d, z], hw, qd =>
        obtain ⟨y, y2, rfl, qy, qz⟩ := rds2 qd
        obtain ⟨c, e, hw⟩ := onSome_iff (show onSome st[n]? _ from hw)
        obtain ⟨t, kvs, rfl, hk, hw⟩ := onDct_iff hw
        obtain ⟨o, g, ro⟩ := dct_get (R.cells n _ a e hr) hk qy
        obtain ⟨u, u2, rfl, ry, ry2⟩ := vals2 rxs
        cases rx
        refine d_get2 (by have := hu; omega) I g ry ry2 fun w' s' I' rw' => ⟨_, H, I', rw', k.now R ?_ hw⟩
        unfold ROp at ro
        split at ro
        · next e1 => rw [e1]; exact ro
        · next e1 => rw [e1]; exact qz
        · exact ro.elim
      | [], hw, _ => exact hw.elim
      | [_], hw, _ => exact hw.elim
      | _ :: _ :: _ :: _, hw, _ => exact hw.elim
    | _ => exact hw.elim
  | remove =>
    cases qo with
    | @loc n a hr =>
      match ds, hw, qd with
      | [d], hw, qd =>
        obtain ⟨y, rfl, qy⟩ := rds1 qd
        obtain ⟨c, e, hw⟩ := onSome_iff (show onSome st[n]? _ from hw)
        obtain ⟨ys, rfl, c1, c2, hw⟩ := onLst_iff hw
        obtain ⟨j, ej, hw⟩ := onSome_iff hw
        obtain ⟨vs, k1, k2⟩ := R.cells n _ a e hr
        obtain ⟨p1, d1⟩ := cmpD_iff c1
        obtain ⟨p2, d2⟩ := cmpD_iff c2
        have p2 : D.pures ys = true := by simpa [D.pure] using p2
        have d2 : D.depths ys ≤ 59 := by rw [D.depth] at d2; omega
        obtain ⟨u, rfl, ry⟩ := vals1 rxs
        cases rx
        obtain ⟨z, its, nn, rv, hl, e0⟩ := I.lstM k1
        obtain ⟨as, rs⟩ := PySem.W.each_readsAll toP (each_reads (C := ctOf X) rfl I p2 (each_of k2 rv))
        obtain ⟨bs, rx⟩ := Dp.reads I (toP d) y u (qy.dp p1) ry
        have hj : j < its.length := by
          have := List.findIdx?_eq_some_iff_getElem.mp ej
          obtain ⟨h1, _⟩ := this
          rw [← hl, ← k2.length]; exact h1
        refine PySem.SeqAt.remove_list_data (vs := its.toArray) (j := j) ⟨_, e0, rfl, _, rfl⟩ rs rx (by rw [← toPs_map]; exact toPs_plain ys) (toP_plain d) ?_ (by rw [place_of p1 p2]; exact ej) (by rw [List.size_toArray, ← hl]; exact z) ?_
        · rw [← toPs_map, toPs_depth]
          have : min (D.depths ys) (toP d).depth ≤ D.depths ys := Nat.min_le_left _ _
          omega
        · refine ⟨.non, _, I.lset (its' := its.eraseIdx j) k1 e0 ?_ (rv.eraseIdx j) ?_, rfl, k.setL R hr (k2.eraseIdx j) .non hw⟩
          · show its.toArray.eraseIdxIfInBounds j = (its.eraseIdx j).toArray
            rw [List.eraseIdxIfInBounds_toArray]
          · have := List.length_eraseIdx_le (l := vs) (i := j)
            omega
      | [], hw, _ => exact hw.elim
      | _ :: _ :: _, hw, _ => exact hw.elim
    | _ => exact hw.elim
  | join =>
    cases qo with
    | str z =>
      match ds, hw, qd with
      | [d], hw, qd =>
        obtain ⟨y, rfl, qy⟩ := rds1 qd
        obtain ⟨xs, e, hw⟩ := onSome_iff (show onSome (seqOf st d) _ from hw)
        obtain ⟨ys, rfl, hz, hw⟩ := hw
        obtain ⟨p, vs, rfl, t, sq⟩ := seq_at R qy e
        obtain rfl := strs_at t
        refine mt_join pins s σ H _ _ v us Q I rx rxs ⟨_, p, ys.map Str.ofString, rfl, rfl, (sq.elim (fun ⟨_, _, h⟩ => .inr h.sq) .inl), ?_, ?_⟩
        · rw [List.map_map, List.length_map, ofS_len]
          have : (ys.map (·.length)) = ys.map ((fun x : Str => x.length) ∘ Str.ofString) := List.map_congr_left fun s _ => (ofS_len s).symm
          rw [← this]
          exact hz
        · rw [join_of]
          exact k.now R (.str _) hw
      | [], hw, _ => exact hw.elim
      | _ :: _ :: _, hw, _ => exact hw.elim
    | _ => exact hw.elim
  | _ => exact hw.elim
theorem bm_facts (f : Bm) {n : Nat} (h : f.ok n = true) : PySem.PlainAttrs f.ty.nm ∧ Slot f.ty.nm (Str.ofString f.nm) f.id ∧ typeOf (.builtin f.id) = pure (.type "method_descriptor") := by
  cases f <;> first | (cases h; done) | skip
  · exact ⟨PySem.F.plainAttrs_list, PySem.F.slot_list_append, PySem.F.type_list_append⟩
  · exact ⟨PySem.F.plainAttrs_list, PySem.F.slot_list_extend, PySem.F.type_list_extend⟩
  · exact ⟨PySem.F.plainAttrs_list, PySem.F.slot_list_pop, PySem.F.type_list_pop⟩
  · exact ⟨PySem.F.plainAttrs_list, PySem.F.slot_list_pop, PySem.F.type_list_pop⟩
  · exact ⟨PySem.F.plainAttrs_list, PySem.F.slot_list_remove, PySem.F.type_list_remove⟩
  · exact ⟨PySem.F.plainAttrs_dict, PySem.F.slot_dict_get, PySem.F.type_dict_get⟩
  · exact ⟨PySem.F.plainAttrs_dict, PySem.F.slot_dict_get, PySem.F.type_dict_get⟩
  · exact ⟨PySem.F.plainAttrs_str, PySem.F.slot_str_join, PySem.F.type_str_join⟩
theorem bmTy_at {C : Ct} {r : Lay} {st : Sto} {H : Hp} {d : D} {v : V} {f : Bm} (R : Rel C r st H) (q : RD C r H d v) (h : bmTy f d st) : tyV C.K f.ty.nm v H := by
  unfold bmTy at h
  cases e : f.ty with
  | list =>
    rw [e] at h
    cases q <;> first | exact h.elim | skip
    rename_i n a hr
    obtain ⟨c, e2, h⟩ := onSome_iff (show onSome st[n]? _ from h)
    obtain ⟨ys, rfl, _⟩ := onLst_iff h
    obtain ⟨vs, k1, k2⟩ := R.cells n _ a e2 hr
    exact .inl ⟨rfl, vs, SqL.of k1⟩
  | str =>
    rw [e] at h
    cases q <;> first | exact h.elim | skip
    rfl
  | dict =>
    rw [e] at h
    cases q <;> first | exact h.elim | skip
    rename_i n a hr
    obtain ⟨c, e2, h⟩ := onSome_iff (show onSome st[n]? _ from h)
    obtain ⟨t, kvs, rfl, _⟩ := onDct_iff h
    cases t with
    | false => obtain ⟨vs, k1, k2⟩ := R.cells n _ a e2 hr; exact .inr (.inr (.inl ⟨rfl, .inl ⟨vs, k1⟩⟩))
    | true => obtain ⟨vs, k1, k2⟩ := R.cells n _ a e2 hr; exact .inr (.inr (.inl ⟨rfl, .inr ⟨vs, k1⟩⟩))
theorem ok_le {f : Bm} {n : Nat} (h : f.ok n = true) : n ≤ 2 := by
  match n, h with
  | 0, _ => omega
  | 1, _ => omega
  | 2, _ => omega
  | n + 3, h => cases f <;> cases h
theorem sd_bm {f : Bm} {o : E} {es : Es} {x : Expr} {xs : List Expr} {nm : Str} {ap cp : Pos} (G : Good L T k X sc W cm) (en : nm = Str.ofString f.nm) (ho : PE X x (rdE (ctOf X) L W o)) (hb : noCall0 x = true) (ha : PA X xs (rdEs (ctOf X) L W es))
    (hs : ∀ y ∈ xs, noStar y = true) (hl : (ap.endLine == cp.line) = true) (hok : f.ok xs.length = true) (hnil : xs = [] → es = .nil) : PE X (.Call (.Attribute x nm ap) xs [] cp) (rdE (ctOf X) L W (.bm f o es)) := by
  subst en
  obtain ⟨f1, f2, f3⟩ := bm_facts f hok
  have hle := ok_le hok
  have imp : ∀ σ H Q, rdE (ctOf X) L W (.bm f o es) σ H Q → tBM X.K f.ty.nm (rBm (ctOf X) f) (rdE (ctOf X) L W o) (rdEs (ctOf X) L W es) σ H Q := fun σ H Q ⟨r, env, st, Q', X', R, Re, w, k, xw⟩ =>
    ⟨r, env, st, _, X', R, Re, w, fun r1 st1 H1 d v g1 R1 q1 w1 => ⟨bmTy_at R1 q1 w1.1, r1, env, st1, _, X', R1, Re.fut g1, w1.2, fun r2 st2 H2 ds vs g2 R2 q2 w2 => ⟨r2, st2, d, ds, Q', R2, q1.fut g2, q2, w2, (k.mono g1).mono g2⟩, xw.mono g1⟩, xw⟩
  match xs, hs, hok, hle, ha, hnil with
  | [], _, _, _, _, hnil =>
    obtain rfl := hnil rfl
    refine peI (pe_bm0 f1 f2 f3 (mt_bm G.un f) ho (base_of hb) hl) fun σ H Q ⟨r, env, st, Q', X', R, Re, w, k, xw⟩ => ?_
    exact ⟨r, env, st, _, X', R, Re, w, fun r1 st1 H1 d v g1 R1 q1 w1 => ⟨bmTy_at R1 q1 w1.1, r1, st1, d, [], Q', R1, q1, .nil, w1.2, k.mono g1⟩, xw⟩
  | [a], hs, _, _, ha, _ =>
    have e1 := star_cons (es := []) (env := X.env) (hs a (by simp))
    exact peI (pe_bm f1 f2 f3 (mt_bm G.un f) ho ha (base_of hb) (by rw [e1]; rfl) hl e1 rfl) imp
  | [a, b], hs, _, _, ha, _ =>
    have e1 := star_cons (es := [b]) (env := X.env) (hs a (by simp))
    have e2 := star_cons (es := []) (env := X.env) (hs b (by simp))
    exact peI (pe_bm f1 f2 f3 (mt_bm G.un f) ho ha (base_of hb) (by rw [e1, e2]; rfl) hl e1 (by rw [e2]; rfl)) imp
  | _ :: _ :: _ :: _, _, _, hle, _, _ => exact absurd hle (by simp)
/-! ### [::-1] -/
theorem sd_revL {m : Bool} {a : E} {x : Expr} {kk : Nat} {p p1 p2 p3 : Pos} (ha : PE X x (rdE (ctOf X) L W a)) : True := trivial
end
end DL

set_option maxHeartbeats 1000000
/-! DLRev: x[::-1]. -/
namespace DL
open PySem PySem.Spec PyProof.Rows L2
section
variable {prog : Program} {w : World} {A : Around} {E : Value → Shared → Prop} {s : Shared}
theorem adjust_rev (n : Nat) : Builtin.Slice.sliceAdjust none none (-1) (n : Int) = ((n : Int) - 1, -1) := by
  unfold Builtin.Slice.sliceAdjust
  simp
theorem places_rev (n : Nat) : Builtin.Slice.slicePlaces ((n : Int) - 1) (-1) (-1) = n := by
  unfold Builtin.Slice.slicePlaces
  by_cases h : n = 0
  · subst h; decide
  · have h1 : ¬ ((-1 : Int) > 0) := by decide
    have h2 : -(-1 : Int) = 1 := by decide
    simp only [h1, if_false, h2, Int.ediv_one]
    split <;> omega
theorem pick_rev {α : Type} (xs : Array α) : ((List.range xs.size).filterMap fun (m : Nat) => xs[(((xs.size : Int) - 1) + (m : Int) * -1).toNat]?) = xs.toList.reverse := by
  have key : ∀ k, k ≤ xs.size → ((List.range k).filterMap fun (m : Nat) => xs[(((xs.size : Int) - 1) + (m : Int) * -1).toNat]?) = xs.toList.reverse.take k := fun k => by
    induction k with
    | zero => intro _; simp
    | succ k ih =>
      intro hk
      rw [List.range_succ, List.filterMap_append, ih (by omega), List.take_add_one]
      congr 1
      have e : (((xs.size : Int) - 1) + (k : Int) * -1).toNat = xs.size - 1 - k := by omega
      have e2 : xs.toList.reverse[k]? = xs.toList[xs.toList.length - 1 - k]? := List.getElem?_reverse (by rw [Array.length_toList]; omega)
      rw [e2, Array.getElem?_toList, Array.length_toList]
      simp only [List.filterMap_cons, List.filterMap_nil, e]
      cases xs[xs.size - 1 - k]? <;> rfl
  rw [key xs.size (Nat.le_refl _), List.take_of_length_le (by simp)]
theorem applied_rev {sl : Addr} {vs : Value} {n : Nat} {Q : Int × Int × Nat → Shared → Prop} (hs : s.heap.IsSliceOf sl .none .none vs) (ps : IsPart vs (some (-1))) (h : Q ((n : Int) - 1, -1, n) s) :
    wpAny (model prog w) A (Builtin.Slice.sliceApplied (.ref sl) (pure (n : Int))) Q E s := by
  obtain ⟨ob, h1, h2, h3⟩ := id hs
  unfold Builtin.Slice.sliceApplied Builtin.Slice.sliceFields
  refine wpAny_bind (wpAny_bind (wpAny_field h1 h3 (x := .none) rfl (wpAny_bind (wpAny_field h1 h3 (x := .none) rfl (wpAny_bind (wpAny_field h1 h3 (x := vs) rfl (wpAny_pure ?_)))))))
  refine wpAny_bind (HT.slicePart_ ps ?_)
  show wpAny _ _ (if ((-1 : Int) == 0) = true then _ else _) _ _ s
  rw [if_neg (by decide)]
  refine wpAny_bind (slicePart_none (wpAny_bind (slicePart_none (wpAny_bind (wpAny_pure ?_)))))
  show wpAny _ _ (match Builtin.Slice.sliceAdjust none none (-1) (n : Int) with | (lo, hi) => pure (lo, (-1 : Int), Builtin.Slice.slicePlaces lo hi (-1))) _ _ s
  rw [adjust_rev n]
  show wpAny _ _ (pure ((n : Int) - 1, (-1 : Int), Builtin.Slice.slicePlaces ((n : Int) - 1) (-1) (-1))) _ _ s
  rw [places_rev]
  exact wpAny_pure h
theorem getItem_rev {t sl : Addr} {items : Array Value} {vs : Value} {Q : Value → Shared → Prop} (ht : IsTup s.heap t items) (hs : s.heap.IsSliceOf sl .none .none vs) (ps : IsPart vs (some (-1)))
    (h : Q (.ref s.heap.objs.size) { s with heap := s.heap.push { cls := .type "tuple", data := .seq items.toList.reverse.toArray } }) (hz : items.size ≤ sizeLine) : wpAny (model prog w) A (getItem (.ref t) (.ref sl)) Q E s := by
  have hok : sizeOk (.seq items.toList.reverse.toArray) := by
    show items.toList.reverse.toArray.size ≤ sizeLine
    rw [List.size_toArray, List.length_reverse, Array.length_toList]; exact hz
  obtain ⟨ob, h1, h2, h3⟩ := id hs
  have hT : s.TypeIs (.ref sl) "slice" := ⟨ob, h1, h2⟩
  unfold getItem
  try with_reducible refine wpAny_holding ?_
  first | refine wpAny_bind (wpAny_pure ?_) | skip
  refine wpAny_bind (wpAny_sequenceKey ht.typeIs (by decide) ?_)
  refine wpAny_bind (wpAny_callSpecial?_slot (name := Str.ofString "__getitem__") ht.typeIs PyProof.Rows.slot_tuple_getitem (wpAny_call_entry PyProof.Rows.slot_tuple_getitem ht.typeIs entry_tuple_getitem ?_ (args_tuple_getitem _ _)))
  show wpAny _ _ (Builtin.Tuple.tupleItemsOf (.ref t) >>= _) _ _ s
  refine wpAny_bind (tupleItemsOf_ ht ?_)
  refine wpAny_bind (wpAny_typeOf hT ?_)
  rw [if_pos (by decide)]
  refine wpAny_bind (applied_rev hs ps ?_)
  have hno : ¬ ((((items.size : Int) - 1) == 0 && (-1 : Int) == 1 && items.size == items.size) = true) := by
    intro q
    rw [Bool.and_eq_true, Bool.and_eq_true] at q
    exact absurd q.1.2 (by decide)
  show wpAny _ _ (if (((items.size : Int) - 1) == 0 && (-1 : Int) == 1 && items.size == items.size) = true then _ else _) _ _ s
  rw [if_neg hno, pick_rev]
  first
    | exact wpAny_bind (m := Builtin.Tuple.tupleExact _) (wpAny_newObj_type (wpAny_pure ⟨_, rfl, wpAny_pure h⟩) hok)
    | exact wpAny_bind (m := Builtin.Tuple.tupleExact _) (wpAny_newObj_type (wpAny_bind (wpAny_pure (wpAny_pure ⟨_, rfl, wpAny_pure h⟩))) hok)
    | exact wpAny_bind (wpAny_bind (m := Builtin.Tuple.tupleExact _) (wpAny_newObj_type (wpAny_pure (wpAny_pure ⟨_, rfl, wpAny_pure h⟩)) hok))
    | exact wpAny_bind (wpAny_bind (m := Builtin.Tuple.tupleExact _) (wpAny_newObj_type (wpAny_pure ⟨_, rfl, wpAny_pure h⟩) hok))
end
section
variable {X : Cx} {L : Lib} {T : Tab} {k : Nat} {sc : Scope} {W : WX} {cm : Bool}
theorem sd_rev {m : Bool} {a : E} {x : Expr} {kk : Nat} {p p1 p2 p3 : Pos} (ha : PE X x (rdE (ctOf X) L W a)) : PE X (.Subscript x (.Slice none none (some (.UnaryOp .USub (.Constant (.int 1) kk p1) p2)) p3) p) (rdE (ctOf X) L W (.rev m a)) := by
  refine ⟨fun pins s σ H Q I ⟨r, env, st, Q', X', R, Re, w, kp, xw⟩ => ?_⟩
  have key : rdE (ctOf X) L W a σ H fun x H1 => ∃ a xs, x = .ref a ∧ ((SqL X.K H1 a xs ∧ ∀ p, H1 p = none → Q (.ref p) (upd H1 p (.lst xs.reverse))) ∨ (SqT X.K H1 a xs ∧ ∀ p, H1 p = none → Q (.ref p) (upd H1 p (.tup xs.reverse)))) :=
    ⟨r, env, st, _, X', R, Re, w, fun r1 st1 H1 d v f1 R1 q1 w1 => by
      have w1 : wpRev m d st1 Q' := w1
      cases q1 with
      | tup h t => exact ⟨_, _, rfl, .inr ⟨h.sq, (kp.mono f1).newT R1 t.reverse w1⟩⟩
      | lst h t => exact ⟨_, _, rfl, .inl ⟨h.sq, (kp.mono f1).newL (m := m) R1 t.reverse w1⟩⟩
      | @loc n a h =>
        obtain ⟨c, e, w1⟩ := onSome_iff (show onSome st1[n]? _ from w1)
        obtain ⟨ys, rfl, w1⟩ := onLst_iff w1
        obtain ⟨vs, k1, k2⟩ := R1.cells n _ a e h
        exact ⟨_, _, rfl, .inl ⟨SqL.of k1, (kp.mono f1).newL (m := m) R1 k2.reverse w1⟩⟩
      | _ => exact w1.elim, xw⟩
  refine Subscript_ (thn (ha.run pins s σ H _ I key) fun v s1 ⟨x, H1, I1, r1, a, xs, ex, q⟩ => ?_)
  subst ex
  cases r1
  have hst : PO X (some (.UnaryOp .USub (.Constant (.int 1) kk p1) p2)) (tPart (tUn (rU fun i => .int (-i)) (tC (.int 1)))) := po_some (pe_un un_neg pe_int)
  refine wpAny_Slice (thn (po_none.run pins s1 σ H1 (fun o H2 => o = none ∧ H2 = H1) I1 ⟨rfl, rfl⟩) fun vl s2 ⟨l, H2, I2, pl, el, e2⟩ => ?_)
  subst el e2
  refine thn (po_none.run pins s2 σ H2 (fun o H3 => o = none ∧ H3 = H2) I2 ⟨rfl, rfl⟩) fun vu s3 ⟨u, H3, I3, pu, eu, e3⟩ => ?_
  subst eu e3
  refine thn (hst.run pins s3 σ H3 (fun o H4 => o = some (-1) ∧ H4 = H3) I3 ⟨1, rfl, -1, rfl, rfl, rfl⟩) fun vs s4 ⟨o, H4, I4, ps, eo, e4⟩ => ?_
  subst eo e4
  have I5 : Inv X pins σ H4 { s4 with heap := s4.heap.push { cls := .type "slice", data := .fields #[vl, vu, vs] } } := I4.kept (t' := s4.toks) fun b ob q => Heap.get?_push_of_some _ q
  show wpAny (model X.prog X.w) X.A (subscriptTail x (.Slice none none (some (.UnaryOp .USub (.Constant (.int 1) kk p1) p2)) p3) (.ref a) (.ref s4.heap.objs.size)) (EP X pins σ Q) X.xe { s4 with heap := s4.heap.push { cls := .type "slice", data := .fields #[vl, vu, vs] } }
  rcases q with ⟨hx, q⟩ | ⟨hx, q⟩
  · obtain ⟨its, r, ht, hz⟩ := I5.list hx
    have hlen := r.length
    refine tail_any (ops := [.ref a, .ref s4.heap.objs.size]) ht.isList.typeIs (PySem.slot_list_getitem.lookup) ?_ (by with_unfolding_all rfl)
    refine wpAny_getItem_list_slice ht.isList (Heap.IsSliceOf.new _ vl vu vs) pl pu ps (by decide) ?_ (by rw [List.size_toArray]; omega)
    rw [PySem.W.krv_pick]
    exact ⟨.ref _, _, I5.laid (t' := s4.toks) (o := .lst xs.reverse) (fun b ob z => Heap.get?_push_of_some _ z) (Nat.le_refl _) ⟨by rw [List.length_reverse]; exact hz, _, 0, r.reverse, Heap.get?_push_size _ rfl⟩, rfl, q _ (I5.hok.fresh (Nat.le_refl _))⟩
  · obtain ⟨its, r, ht, hz⟩ := I5.tuple hx
    have hlen := r.length
    cases pl
    cases pu
    have ht' : IsTup (s4.heap.push { cls := .type "slice", data := .fields #[.none, .none, vs] }) a its.toArray := ht
    refine tail_any (ops := [.ref a, .ref s4.heap.objs.size]) ht'.typeIs (PyProof.Rows.slot_tuple_getitem.lookup) ?_ (by with_unfolding_all rfl)
    refine getItem_rev ht' (Heap.IsSliceOf.new _ .none .none vs) ps ?_ (by rw [List.size_toArray]; omega)
    exact ⟨.ref _, _, I5.laid (t' := s4.toks) (o := .tup xs.reverse) (fun b ob z => Heap.get?_push_of_some _ z) (Nat.le_refl _) ⟨by rw [List.length_reverse]; exact hz, _, r.reverse, IsTup.new _ _⟩, rfl, q _ (I5.hok.fresh (Nat.le_refl _))⟩
/-! ### for x in reversed(..) -/
theorem rev_get {xs : List D} {i : Nat} {d : D} (e : xs.reverse[i]? = some d) : i < xs.length ∧ xs[xs.length - 1 - i]? = some d := by
  have hi : i < xs.length := by
    have := (List.getElem?_eq_some_iff.mp e).1
    simpa using this
  exact ⟨hi, by rw [← List.getElem?_reverse hi]; exact e⟩
theorem itr_revL {C : Ct} {r : Lay} {H : Hp} {a : Addr} {xs : List D} {n : Nat} {s1 : List (Nat × Cell)} (hn : n = xs.length) (h1 : LsR C a r H xs s1) : ItR C (Itv C.K a n) r H xs.reverse s1 := fun i r1 st1 H1 f R hs => by
  subst hn
  obtain ⟨vs, q1, t1⟩ := h1 r1 st1 H1 f R hs
  refine ⟨fun hi => show xs.length ≤ i by simpa using hi, fun d e => ?_⟩
  obtain ⟨hi, e⟩ := rev_get e
  obtain ⟨v, e1, q⟩ := t1.get e
  refine ⟨⟨hi, vs, v, q1, e1⟩, fun x H' hy => ?_⟩
  obtain ⟨rfl, hy⟩ := hy
  have e2 := (hy vs q1).symm.trans e1
  cases e2
  exact ⟨.refl, R, q⟩
theorem itr_revT {C : Ct} {r : Lay} {H : Hp} {a : Addr} {xs : List D} {vs : List V} {n : Nat} (hn : n = xs.length) (h : TupAt C r H a vs) (t : RDs C r H xs vs) : ItR C (RT.ItvT C.K a n) r H xs.reverse [] := fun i r1 st1 H1 f R hs => by
  subst hn
  have q1 := (h.futW f).sq
  have t1 := t.futW f
  refine ⟨fun hi => show xs.length ≤ i by simpa using hi, fun d e => ?_⟩
  obtain ⟨hi, e⟩ := rev_get e
  obtain ⟨v, e1, q⟩ := t1.get e
  refine ⟨⟨hi, vs, v, q1, e1⟩, fun x H' hy => ?_⟩
  obtain ⟨rfl, hy⟩ := hy
  have e2 := (hy vs q1).symm.trans e1
  cases e2
  exact ⟨.refl, R, q⟩
theorem si_rev {tg : Expr} {a : E} {x : Expr} {p p2 : Pos} (hg : Gl X "reversed") (hm : X.mg "reversed" = none) (hs : noStar x = true) (ha : PE X x (rdE (ctOf X) L W a)) :
    PI X tg (.Call (.Name "reversed" p2) [x] [] p) (rdIt (ctOf X) L W (.rev a)) :=
  piI (RT.pi_revA hg hm ha (star_cons hs)) fun σ H Q ⟨r, env, st, Q', X', R, Re, w, k, xw⟩ => ⟨r, env, st, _, X', R, Re, w, fun r1 st1 H1 d v f1 R1 q1 w1 => by
    have w1 : seqK d st1 fun xs s1 => Q' xs.reverse s1 st1 := w1
    have ls : lstK d st1 (fun xs s1 => Q' xs.reverse s1 st1) → ∃ (a : Addr) (xs : List V), v = .ref a ∧ ((SqL X.K H1 a xs ∧ Q (Itv X.K a xs.length) H1) ∨ (SqT X.K H1 a xs ∧ Q (RT.ItvT X.K a xs.length) H1)) := fun w1 => by
      obtain ⟨aa, xs, s1, e1, l1, z1, w2⟩ := lstK_iff R1 q1 w1
      obtain ⟨vs, g1, t1⟩ := l1 r1 st1 H1 FutW.refl R1 z1
      exact ⟨aa, vs, e1, .inl ⟨g1, k r1 st1 H1 _ _ _ f1 R1 (itr_revL t1.length.symm l1) w2⟩⟩
    cases q1 with
    | tup h t => exact ⟨_, _, rfl, .inr ⟨h.sq, k r1 st1 H1 _ _ _ f1 R1 (itr_revT t.length.symm h t) w1⟩⟩
    | lst h t => exact ls w1
    | loc h => exact ls w1
    | _ => exact w1.elim, xw⟩
end
end DL

set_option maxHeartbeats 1000000
/-! DLMain: every expression that okE takes is read as wpE says. -/
namespace DL
open PySem PySem.Spec PyProof.Rows L2
section
variable {X : Cx} {L : Lib} {T : Tab} {k : Nat} {sc : Scope} {W : WX} {cm : Bool}
/-- an expression's value, its test -/
structure PB (X : Cx) (L : Lib) (W : WX) (e : E) (ex : Expr) : Prop where
  v : PE X ex (rdE (ctOf X) L W e)
  t : PT X ex (rdT (ctOf X) L W e)
theorem pb_of {e : E} {ex : Expr} (h : PE X ex (rdE (ctOf X) L W e)) (he : ∀ whole, isTrue ex X.env whole = (do let v ← whole; standAt ex.pos; holding [v] (truthy v))) : PB X L W e ex :=
  ⟨h, ptI (pt_val h he) fun σ H Q q => rdT_of (x := ex) q⟩
theorem pt_ife {c a b : E} {x y z : Expr} {p : Pos} (hc : PT X x (rdT (ctOf X) L W c)) (ha : PT X y (rdT (ctOf X) L W a)) (hb : PT X z (rdT (ctOf X) L W b)) : PT X (.IfExp x y z p) (rdT (ctOf X) L W (.ife c a b)) := by
  refine ⟨fun pins s σ H Q I ⟨r, env, st, Q', X', R, Re, w, k, xw⟩ => ?_⟩
  have w : wpE L c env st (fun x st => onBl x fun t => ifB t (wpE L a env st (fun d st => onBl d fun b => Q' b st) X') (wpE L b env st (fun d st => onBl d fun b => Q' b st) X')) X' := w
  have key : rdT (ctOf X) L W c σ H fun t H1 => if t = true then rdT (ctOf X) L W a σ H1 Q else rdT (ctOf X) L W b σ H1 Q :=
    ⟨r, env, st, fun t st => ifB t (wpE L a env st (fun d st => onBl d fun b => Q' b st) X') (wpE L b env st (fun d st => onBl d fun b => Q' b st) X'), X', R, Re, w, fun r1 st1 H1 t f1 R1 w1 => by
      cases t with
      | true => simp only [if_true]; exact ⟨r1, env, st1, Q', X', R1, Re.fut f1, w1, k.mono f1, xw.mono f1⟩
      | false => simp only [Bool.false_eq_true, if_false]; exact ⟨r1, env, st1, Q', X', R1, Re.fut f1, w1, k.mono f1, xw.mono f1⟩, xw⟩
  rw [PySem.isTrue]
  refine wpAny_bind (thn (hc.run pins s σ H _ I key) fun d s1 ⟨H1, I1, q1⟩ => ?_)
  cases d with
  | true => simp only [if_true] at q1 ⊢; exact ha.run pins s1 σ H1 Q I1 q1
  | false => simp only [Bool.false_eq_true, if_false] at q1 ⊢; exact hb.run pins s1 σ H1 Q I1 q1
end
mutual
theorem snd (L : Lib) (T : Tab) (k : Nat) : ∀ (e : E) {X : Cx} {sc : Scope} {W : WX} {cm : Bool} (ex : Expr), Good L T k X sc W cm → okE T X.N sc cm e ex = true → PB X L W e ex
  | .non, X, sc, W, cm, ex, G, h => by
    cases ex with
    | Constant c j p =>
      cases c with
      | none => exact pb_of (sd_c (d := .non) pe_non (fun _ _ => .non) fun _ _ _ _ w => w) fun _ => rfl
      | _ => cases h
    | _ => cases h
  | .bl b, X, sc, W, cm, ex, G, h => by
    cases ex with
    | Constant c j p =>
      cases c with
      | bool y =>
        obtain rfl : b = y := of_decide_eq_true h
        exact pb_of (sd_c (d := .bl b) pe_bl (fun _ _ => .bl b) fun _ _ _ _ w => w) fun _ => rfl
      | _ => cases h
    | _ => cases h
  | .int i, X, sc, W, cm, ex, G, h => by
    cases ex with
    | Constant c j p =>
      cases c with
      | int y =>
        obtain rfl : i = y := of_decide_eq_true h
        exact pb_of (sd_c (d := .int i) pe_int (fun _ _ => .int i) fun _ _ _ _ w => w) fun _ => rfl
      | _ => cases h
    | _ => cases h
  | .str z, X, sc, W, cm, ex, G, h => by
    cases ex with
    | Constant c j p =>
      cases c with
      | str y =>
        obtain rfl : y = Str.ofString z := of_decide_eq_true h
        exact pb_of (sd_c (d := .str z) pe_str (fun _ _ => .str z) fun _ _ _ _ w => w) fun _ => rfl
      | _ => cases h
    | _ => cases h
  | .v i, X, sc, W, cm, ex, G, h => by
    cases ex with
    | Name x p =>
      have h : (decide (X.N[i]? = some x) && visB sc x && okNm x) = true := h
      simp only [Bool.and_eq_true, decide_eq_true_eq] at h
      obtain ⟨n1, n2, n3⟩ := okNm_of h.2
      exact pb_of (sd_v h.1.1 (vis_of G.so h.1.2) n1 n2) fun _ => rfl
    | _ => cases h
  | .g z, X, sc, W, cm, ex, G, h => by
    cases ex with
    | Name x p =>
      have h : (decide (x = Str.ofString z) && glB sc x && okNm x && T.globs.contains z) = true := h
      simp only [Bool.and_eq_true, decide_eq_true_eq] at h
      obtain ⟨n1, n2, n3⟩ := okNm_of h.1.2
      exact pb_of (sd_g G h.1.1.1 (gl_of G.so h.1.1.2) n1 (by simpa using h.2)) fun _ => rfl
    | _ => cases h
  | .tup es, X, sc, W, cm, ex, G, h => by
    cases ex with
    | Tuple xs j p => exact pb_of (sd_tup (sndEs L T k es xs G h)) fun _ => rfl
    | _ => cases h
  | .lst m es, X, sc, W, cm, ex, G, h => by
    cases ex with
    | List xs p => exact pb_of (sd_lst (sndEs L T k es xs G h)) fun _ => rfl
    | _ => cases h
  | .dct t ks vs, X, sc, W, cm, ex, G, h => by
    cases ks with
    | cons _ _ => cases h
    | nil =>
      cases vs with
      | cons _ _ => cases h
      | nil =>
        cases ex with
        | Dict xs ys p =>
          cases xs with
          | cons _ _ => cases h
          | nil =>
            cases ys with
            | cons _ _ => cases h
            | nil => exact pb_of sd_dct fun _ => rfl
        | _ => cases h
  | .bin o a b, X, sc, W, cm, ex, G, h => by
    cases ex with
    | BinOp x op y p =>
      have h : (decide (op = o.op) && okE T X.N sc cm a x && okE T X.N sc cm b y) = true := h
      simp only [Bool.and_eq_true, decide_eq_true_eq] at h
      obtain rfl := h.1.1
      exact pb_of (sd_bin (snd L T k a x G h.1.2).v (snd L T k b y G h.2).v) fun _ => rfl
    | _ => cases h
  | .un o a, X, sc, W, cm, ex, G, h => by
    cases ex with
    | UnaryOp op x p =>
      have h : (decide (op = o.op) && okE T X.N sc cm a x) = true := h
      simp only [Bool.and_eq_true, decide_eq_true_eq] at h
      obtain rfl := h.1
      exact pb_of (sd_un (o := o) (snd L T k a x G h.2).v) fun _ => by cases o <;> rfl
    | _ => cases h
  | .cmp o a b, X, sc, W, cm, ex, G, h => by
    cases ex with
    | Compare x ops ys p =>
      cases ops with
      | nil => cases h
      | cons op ops =>
        cases ops with
        | cons _ _ => cases h
        | nil =>
          cases ys with
          | nil => cases h
          | cons y ys =>
            cases ys with
            | cons _ _ => cases h
            | nil =>
              have h : (decide (op = o.op) && okE T X.N sc cm a x && okE T X.N sc cm b y && noSet y) = true := h
              simp only [Bool.and_eq_true, decide_eq_true_eq] at h
              obtain rfl := h.1.1.1
              exact ⟨sd_cmp G.un h.2 (snd L T k a x G h.1.1.2).v (snd L T k b y G h.1.2).v, st_cmp G.un h.2 (snd L T k a x G h.1.1.2).v (snd L T k b y G h.1.2).v⟩
    | _ => cases h
  | .cmp2 o o' a b c, X, sc, W, cm, ex, G, h => by
    cases ex with
    | Compare x ops ys p =>
      match ops, ys, h with
      | [op, op'], [y, z], h =>
        have h : (decide (op = o.op) && decide (op' = o'.op) && okE T X.N sc cm a x && okE T X.N sc cm b y && okE T X.N sc cm c z && noSet z) = true := h
        simp only [Bool.and_eq_true, decide_eq_true_eq] at h
        obtain rfl := h.1.1.1.1.1
        obtain rfl := h.1.1.1.1.2
        exact ⟨sd_cmp2 G.un h.2 (snd L T k a x G h.1.1.1.2).v (snd L T k b y G h.1.1.2).v (snd L T k c z G h.1.2).v, st_cmp2 G.un h.2 (snd L T k a x G h.1.1.1.2).v (snd L T k b y G h.1.1.2).v (snd L T k c z G h.1.2).v⟩
    | _ => cases h
  | .and_ es, X, sc, W, cm, ex, G, h => by
    cases ex with
    | BoolOp op xs p =>
      cases op with
      | And => exact ⟨(sndAnd L T k es xs p G h).1, ⟨fun pins s σ H Q I q => (sndAnd L T k es xs p G h).2.run _ pins s σ H Q I q⟩⟩
      | _ => cases h
    | _ => cases h
  | .or_ es, X, sc, W, cm, ex, G, h => by
    cases ex with
    | BoolOp op xs p =>
      cases op with
      | Or => exact ⟨(sndOr L T k es xs p G h).1, ⟨fun pins s σ H Q I q => (sndOr L T k es xs p G h).2.run _ pins s σ H Q I q⟩⟩
      | _ => cases h
    | _ => cases h
  | .not_ a, X, sc, W, cm, ex, G, h => by
    cases ex with
    | UnaryOp op x p =>
      cases op with
      | Not => exact ⟨sd_not (snd L T k a x G h).v, st_not (snd L T k a x G h).t⟩
      | _ => cases h
    | _ => cases h
  | .ife c a b, X, sc, W, cm, ex, G, h => by
    cases ex with
    | IfExp x y z p =>
      have h : (okE T X.N sc cm c x && okE T X.N sc cm a y && okE T X.N sc cm b z) = true := h
      simp only [Bool.and_eq_true] at h
      exact ⟨sd_ife (snd L T k c x G h.1.1).t (snd L T k a y G h.1.2).v (snd L T k b z G h.2).v, pt_ife (snd L T k c x G h.1.1).t (snd L T k a y G h.1.2).t (snd L T k b z G h.2).t⟩
    | _ => cases h
  | .ix a i, X, sc, W, cm, ex, G, h => by
    cases ex with
    | Subscript x y p =>
      have h : (okE T X.N sc cm a x && okE T X.N sc cm i y && noSlice y) = true := h
      simp only [Bool.and_eq_true] at h
      exact pb_of (sd_ix G.un h.2 (snd L T k a x G h.1.1).v (snd L T k i y G h.1.2).v) fun _ => rfl
    | _ => cases h
  | .sl m a lo hi, X, sc, W, cm, ex, G, h => by
    cases ex with
    | Subscript x y p =>
      cases y with
      | Slice l u stp p2 =>
        cases stp with
        | some _ => cases h
        | none =>
          have h : (okE T X.N sc cm a x && okEo T X.N sc cm lo l && okEo T X.N sc cm hi u) = true := h
          simp only [Bool.and_eq_true] at h
          exact pb_of (sd_sl (snd L T k a x G h.1.1).v (sndEo L T k lo l G h.1.2) (sndEo L T k hi u G h.2)) fun _ => rfl
      | _ => cases h
    | _ => cases h
  | .rev m a, X, sc, W, cm, ex, G, h => by
    match ex, h with
    | .Subscript x (.Slice none none (some (.UnaryOp .USub (.Constant (.int 1) kk p1) p2)) p3) p, h =>
      exact pb_of (sd_rev (snd L T k a x G h).v) fun _ => rfl
  | .isi a t, X, sc, W, cm, ex, G, h => by
    match ex, h with
    | .Call (.Name f p2) [x, .Name c p3] [] p, h =>
      have h : (decide (f = Str.ofString "isinstance") && glB sc f && decide (c = Str.ofString t.nm) && glB sc c && T.free.contains "isinstance" && T.free.contains t.nm && decide (t ≠ .non) && okE T X.N sc cm a x && noStar x) = true := h
      simp only [Bool.and_eq_true, decide_eq_true_eq] at h
      obtain ⟨⟨⟨⟨⟨⟨⟨⟨h1, h2⟩, h3⟩, h4⟩, h5⟩, h6⟩, h7⟩, h8⟩, h9⟩ := h
      subst h1
      subst h3
      exact pb_of (sd_isi G h7 (gl_of G.so h2) (gl_of G.so h4) h5 h6 h9 (snd L T k a x G h8).v) fun _ => rfl
  | .call f es, X, sc, W, cm, ex, G, h => by
    match ex, h with
    | .Call (.Name x p2) xs [] p, h =>
      have h : (decide (x = Str.ofString f) && glB sc x && okNm x && cm && T.fns.contains f && okEs T X.N sc cm es xs) = true := h
      simp only [Bool.and_eq_true, decide_eq_true_eq] at h
      obtain ⟨⟨⟨⟨⟨h1, h2⟩, h3⟩, h4⟩, h5⟩, h6⟩ := h
      exact pb_of (sd_call G h4 h1 (gl_of G.so h2) (okNm_of h3).1 (by simpa using h5) h6 (sndEs L T k es xs G h6)) fun _ => rfl
  | .new c es, X, sc, W, cm, ex, G, h => by cases h
  | .fld o f, X, sc, W, cm, ex, G, h => by cases h
  | .meth m o es, X, sc, W, cm, ex, G, h => by cases h
  | .bm b o es, X, sc, W, cm, ex, G, h => by
    match ex, h with
    | .Call (.Attribute x a ap) xs [] cp, h =>
      have h : (decide (a = Str.ofString b.nm) && okE T X.N sc cm o x && noCall0 x && okEs T X.N sc cm es xs && (ap.endLine == cp.line) && b.ok xs.length) = true := h
      simp only [Bool.and_eq_true, decide_eq_true_eq] at h
      obtain ⟨⟨⟨⟨⟨h1, h2⟩, h3⟩, h4⟩, h5⟩, h6⟩ := h
      refine pb_of (sd_bm G h1 (snd L T k o x G h2).v h3 (sndEs L T k es xs G h4) (okEs_star h4) h5 h6 fun e => ?_) fun _ => rfl
      subst e
      cases es with
      | nil => rfl
      | cons _ _ => cases h4
  | .bi m f es, X, sc, W, cm, ex, G, h => by
    match ex, h with
    | .Call (.Name x p2) xs [] p, h =>
      have h : (decide (x = Str.ofString f.nm) && glB sc x && okNm x && cm && T.free.contains f.nm && !xs.isEmpty && okEs T X.N sc cm es xs) = true := h
      simp only [Bool.and_eq_true, decide_eq_true_eq] at h
      obtain ⟨⟨⟨⟨⟨⟨h1, h2⟩, h3⟩, h4⟩, h5⟩, h6⟩, h7⟩ := h
      cases xs with
      | nil => cases h6
      | cons y ys => exact pb_of (sd_bi G h4 h1 (gl_of G.so h2) h5 (okEs_star h7) (sndEs L T k es _ G h7)) fun _ => rfl
  | .lc m elt t it c, X, sc, W, cm, ex, G, h => by
    match ex, h with
    | .ListComp x [⟨tg, iter, ifs, kk⟩] scope p, h =>
      have h : (cm && decide (kk = 0) && okIt T X.N sc cm it iter && noSet iter && (!itTup it || isTupE tg) && okT X.N scope t tg && blkC X.N sc scope (ownOf X.N t.slots) && decide ((ownOf X.N t.slots).map (·.2) = t.slots) && okE T X.N scope cm elt x && okC T X.N scope cm c ifs) = true := h
      simp only [Bool.and_eq_true, decide_eq_true_eq] at h
      obtain ⟨⟨⟨⟨⟨⟨⟨⟨⟨h1, h2⟩, h3⟩, h4⟩, h5⟩, h6⟩, h7⟩, h8⟩, h9⟩, h10⟩ := h
      subst h2
      refine pb_of (sd_lc G h1 (sndIt L T k it tg iter G h3 (by simpa using h5)) h7 h8 h6 h4 (fun s H C cl fp => (snd L T k elt x (good_blk G) h9).v) fun s H C cl fp => ?_) fun _ => rfl
      cases c with
      | none =>
        cases ifs with
        | nil => exact ⟨fun pins s σ H Q I ⟨r, env, st, Q', R, Re, w, kp⟩ => pts_nil.run pins s σ H Q I (kp r st H true .refl R w)⟩
        | cons _ _ => cases h10
      | some e =>
        match ifs, h10 with
        | [y], h10 => exact ⟨fun pins s σ H Q I ⟨r, env, st, Q', R, Re, w, kp⟩ => (pts_one (snd L T k e y (good_blk G) h10).t).run pins s σ H Q I ⟨r, env, st, Q', _, R, Re, w, kp, xw0⟩⟩
  | .lc2 .., X, sc, W, cm, ex, G, h => by cases h
  | .dc .., X, sc, W, cm, ex, G, h => by cases h
theorem sndEs (L : Lib) (T : Tab) (k : Nat) : ∀ (es : Es) {X : Cx} {sc : Scope} {W : WX} {cm : Bool} (xs : List Expr), Good L T k X sc W cm → okEs T X.N sc cm es xs = true → PA X xs (rdEs (ctOf X) L W es)
  | .nil, X, sc, W, cm, xs, G, h => by
    cases xs with
    | nil => exact sa_nil
    | cons _ _ => cases h
  | .cons e es, X, sc, W, cm, xs, G, h => by
    cases xs with
    | nil => cases h
    | cons x xs =>
      have h : (okE T X.N sc cm e x && noStar x && okEs T X.N sc cm es xs) = true := h
      simp only [Bool.and_eq_true] at h
      exact sa_cons h.1.2 (snd L T k e x G h.1.1).v (sndEs L T k es xs G h.2)
theorem sndEo (L : Lib) (T : Tab) (k : Nat) : ∀ (e : Eo) {X : Cx} {sc : Scope} {W : WX} {cm : Bool} (x : Option Expr), Good L T k X sc W cm → okEo T X.N sc cm e x = true → PO X x (rdEo (ctOf X) L W e)
  | .none, X, sc, W, cm, x, G, h => by
    cases x with
    | none => exact so_none
    | some _ => cases h
  | .some e, X, sc, W, cm, x, G, h => by
    cases x with
    | none => cases h
    | some x => exact so_some (snd L T k e x G h).v
theorem sndAnd (L : Lib) (T : Tab) (k : Nat) : ∀ (es : Es) {X : Cx} {sc : Scope} {W : WX} {cm : Bool} (xs : List Expr) (p : Pos), Good L T k X sc W cm → okEs T X.N sc cm es xs = true →
    PE X (.BoolOp .And xs p) (rdE (ctOf X) L W (.and_ es)) ∧ PW X (.BoolOp .And xs p) (rdT (ctOf X) L W (.and_ es))
  | .nil, X, sc, W, cm, xs, p, G, h => ⟨⟨fun _ _ _ _ _ _ ⟨_, _, _, _, _, _, _, w, _⟩ => w.elim⟩, ⟨fun _ _ _ _ _ _ _ ⟨_, _, _, _, _, _, _, w, _⟩ => w.elim⟩⟩
  | .cons e es, X, sc, W, cm, xs, p, G, h => by
    cases xs with
    | nil => cases h
    | cons x xs =>
      have h : (okE T X.N sc cm e x && noStar x && okEs T X.N sc cm es xs) = true := h
      simp only [Bool.and_eq_true] at h
      have b := snd L T k e x G h.1.1
      cases es with
      | nil =>
        cases xs with
        | nil => exact ⟨sd_and1 b.v, st_and1 b.t⟩
        | cons _ _ => cases h.2
      | cons e2 es2 =>
        cases xs with
        | nil => cases h.2
        | cons y ys =>
          have r := sndAnd L T k (.cons e2 es2) (y :: ys) p G h.2
          exact ⟨sd_and b.v r.1, st_and b.t r.2⟩
theorem sndOr (L : Lib) (T : Tab) (k : Nat) : ∀ (es : Es) {X : Cx} {sc : Scope} {W : WX} {cm : Bool} (xs : List Expr) (p : Pos), Good L T k X sc W cm → okEs T X.N sc cm es xs = true →
    PE X (.BoolOp .Or xs p) (rdE (ctOf X) L W (.or_ es)) ∧ PW X (.BoolOp .Or xs p) (rdT (ctOf X) L W (.or_ es))
  | .nil, X, sc, W, cm, xs, p, G, h => ⟨⟨fun _ _ _ _ _ _ ⟨_, _, _, _, _, _, _, w, _⟩ => w.elim⟩, ⟨fun _ _ _ _ _ _ _ ⟨_, _, _, _, _, _, _, w, _⟩ => w.elim⟩⟩
  | .cons e es, X, sc, W, cm, xs, p, G, h => by
    cases xs with
    | nil => cases h
    | cons x xs =>
      have h : (okE T X.N sc cm e x && noStar x && okEs T X.N sc cm es xs) = true := h
      simp only [Bool.and_eq_true] at h
      have b := snd L T k e x G h.1.1
      cases es with
      | nil =>
        cases xs with
        | nil => exact ⟨sd_or1 b.v, st_or1 b.t⟩
        | cons _ _ => cases h.2
      | cons e2 es2 =>
        cases xs with
        | nil => cases h.2
        | cons y ys =>
          have r := sndOr L T k (.cons e2 es2) (y :: ys) p G h.2
          exact ⟨sd_or b.v r.1, st_or b.t r.2⟩
theorem sndIt (L : Lib) (T : Tab) (k : Nat) : ∀ (it : DL.It) {X : Cx} {sc : Scope} {W : WX} {cm : Bool} (tg x : Expr), Good L T k X sc W cm → okIt T X.N sc cm it x = true → (itTup it = false ∨ isTupE tg = true) → PI X tg x (rdIt (ctOf X) L W it)
  | .e a, X, sc, W, cm, tg, x, G, h, ht => si_e (snd L T k a x G h).v
  | .range1 a, X, sc, W, cm, tg, ex, G, h, ht => by
    match ex, h with
    | .Call (.Name f p2) [x] [] p, h =>
      have h : (decide (f = Str.ofString "range") && glB sc f && T.free.contains "range" && okE T X.N sc cm a x && noStar x) = true := h
      simp only [Bool.and_eq_true, decide_eq_true_eq] at h
      obtain ⟨⟨⟨⟨h1, h2⟩, h3⟩, h4⟩, h5⟩ := h
      subst h1
      exact si_range1 (gl_of G.so h2) (G.lib.free "range" (by simpa using h3)) h5 (snd L T k a x G h4).v
  | .range2 a b, X, sc, W, cm, tg, ex, G, h, ht => by
    match ex, h with
    | .Call (.Name f p2) [x, y] [] p, h =>
      have h : (decide (f = Str.ofString "range") && glB sc f && T.free.contains "range" && okE T X.N sc cm a x && okE T X.N sc cm b y && noStar x && noStar y) = true := h
      simp only [Bool.and_eq_true, decide_eq_true_eq] at h
      obtain ⟨⟨⟨⟨⟨⟨h1, h2⟩, h3⟩, h4⟩, h5⟩, h6⟩, h7⟩ := h
      subst h1
      exact si_range2 (gl_of G.so h2) (G.lib.free "range" (by simpa using h3)) h6 h7 (snd L T k a x G h4).v (snd L T k b y G h5).v
  | .zip a b, X, sc, W, cm, tg, ex, G, h, ht => by
    match ex, h with
    | .Call (.Name f p2) [x, y] [] p, h =>
      have h : (decide (f = Str.ofString "zip") && glB sc f && T.free.contains "zip" && okE T X.N sc cm a x && okE T X.N sc cm b y && noStar x && noStar y) = true := h
      simp only [Bool.and_eq_true, decide_eq_true_eq] at h
      obtain ⟨⟨⟨⟨⟨⟨h1, h2⟩, h3⟩, h4⟩, h5⟩, h6⟩, h7⟩ := h
      subst h1
      have ht : isTupE tg = true := ht.resolve_left (fun z => nomatch z)
      cases tg with
      | Tuple es j tp => exact si_zip (gl_of G.so h2) (G.lib.free "zip" (by simpa using h3)) h6 h7 (snd L T k a x G h4).v (snd L T k b y G h5).v
      | _ => cases ht
  | .enum a, X, sc, W, cm, tg, ex, G, h, ht => by
    match ex, h with
    | .Call (.Name f p2) [x] [] p, h =>
      have h : (decide (f = Str.ofString "enumerate") && glB sc f && T.free.contains "enumerate" && okE T X.N sc cm a x && noStar x) = true := h
      simp only [Bool.and_eq_true, decide_eq_true_eq] at h
      obtain ⟨⟨⟨⟨h1, h2⟩, h3⟩, h4⟩, h5⟩ := h
      subst h1
      have ht : isTupE tg = true := ht.resolve_left (fun z => nomatch z)
      cases tg with
      | Tuple es j tp => exact si_enum (gl_of G.so h2) (G.lib.free "enumerate" (by simpa using h3)) h5 (snd L T k a x G h4).v
      | _ => cases ht
  | .rev a, X, sc, W, cm, tg, ex, G, h, ht => by
    match ex, h with
    | .Call (.Name f p2) [x] [] p, h =>
      have h : (decide (f = Str.ofString "reversed") && glB sc f && T.free.contains "reversed" && okE T X.N sc cm a x && noStar x) = true := h
      simp only [Bool.and_eq_true, decide_eq_true_eq] at h
      obtain ⟨⟨⟨⟨h1, h2⟩, h3⟩, h4⟩, h5⟩ := h
      subst h1
      exact si_rev (gl_of G.so h2) (G.lib.free "reversed" (by simpa using h3)) h5 (snd L T k a x G h4).v
  | .range3 _ _ _, X, sc, W, cm, tg, ex, G, h, ht => by cases h
  | .items _, X, sc, W, cm, tg, ex, G, h, ht => by cases h
  | .values _, X, sc, W, cm, tg, ex, G, h, ht => by cases h
end
end DL

set_option maxHeartbeats 1000000
/-! DLStm: every statement that okS takes runs as wpS says. -/
namespace DL
open PySem PySem.Spec PyProof.Rows L2

/-- what is wanted behind, as it lies -/
structure KpP (C : Ct) (r : Lay) (H : Hp) (P : Post) (D : Ends) (W : WX) : Prop where
  nx : ∀ (r' : Lay) (st' : Sto) (H' : Hp) (env' : St') (σ' : L2.St), Fut r H r' H' → Rel C r' st' H' → RE C r' H' env' σ' → P.nx env' st' → D.nx σ' H'
  bk : ∀ (r' : Lay) (st' : Sto) (H' : Hp) (env' : St') (σ' : L2.St), Fut r H r' H' → Rel C r' st' H' → RE C r' H' env' σ' → P.bk env' st' → D.bk σ' H'
  ct : ∀ (r' : Lay) (st' : Sto) (H' : Hp) (env' : St') (σ' : L2.St), Fut r H r' H' → Rel C r' st' H' → RE C r' H' env' σ' → P.ct env' st' → D.ct σ' H'
  rt : ∀ (r' : Lay) (st' : Sto) (H' : Hp) (d : DL.D) (v : V), Fut r H r' H' → Rel C r' st' H' → RD C r' H' d v → P.rt d st' → D.rt v H'
  ex : ∀ (r' : Lay) (st' : Sto) (H' : Hp) (env' : St') (σ' : L2.St) (x : Xc) (cls : Value) (dx : Option Addr), Fut r H r' H' → Rel C r' st' H' → RE C r' H' env' σ' → XR C r' H' x cls dx → P.ex x env' st' → W cls dx σ' H'
theorem KpP.mono {C : Ct} {r r' : Lay} {H H' : Hp} {P : Post} {D : Ends} {W : WX} (k : KpP C r H P D W) (f : Fut r H r' H') : KpP C r' H' P D W where
  nx := fun r2 st2 H2 env2 σ2 g => k.nx r2 st2 H2 env2 σ2 (f.trans g)
  bk := fun r2 st2 H2 env2 σ2 g => k.bk r2 st2 H2 env2 σ2 (f.trans g)
  ct := fun r2 st2 H2 env2 σ2 g => k.ct r2 st2 H2 env2 σ2 (f.trans g)
  rt := fun r2 st2 H2 d v g => k.rt r2 st2 H2 d v (f.trans g)
  ex := fun r2 st2 H2 env2 σ2 x c d g => k.ex r2 st2 H2 env2 σ2 x c d (f.trans g)
theorem KpP.xw {C : Ct} {r : Lay} {H : Hp} {P : Post} {D : Ends} {W : WX} {env : St'} {σ : L2.St} (k : KpP C r H P D W) (Re : RE C r H env σ) : XW C r H σ (fun x st => P.ex x env st) W :=
  fun r' st' H' x cls dx f R q h => k.ex r' st' H' env σ x cls dx f R (Re.fut f) q h
def rdS (C : Ct) (L : Lib) (W : WX) (s : S) : TS := fun D σ H => ∃ r env st P, Rel C r st H ∧ RE C r H env σ ∧ wpS L s env st P ∧ KpP C r H P D W
def rdSs (C : Ct) (L : Lib) (W : WX) (s : Ss) : TS := fun D σ H => ∃ r env st P, Rel C r st H ∧ RE C r H env σ ∧ wpSs L s env st P ∧ KpP C r H P D W
theorem psI {X : Cx} {e : Stmt} {t t' : TS} (h : PS X e t) (i : ∀ D σ H, t' D σ H → t D σ H) : PS X e t' := ⟨fun pins s σ H D I q => h.run pins s σ H D I (i D σ H q)⟩
theorem pssI {X : Cx} {e : List Stmt} {t t' : TS} (h : PSs X e t) (i : ∀ D σ H, t' D σ H → t D σ H) : PSs X e t' := ⟨fun pins s σ H D I q => h.run pins s σ H D I (i D σ H q)⟩
structure GoodS (L : Lib) (T : Tab) (k : Nat) (X : Cx) (sc : Scope) (W : WX) (cm : Bool) : Prop extends Good L T k X sc W cm where
  po : cm = true → PassesOwn (model X.prog X.w) X.A X.env X.xe
  stk : X.stack = X.env :: X.outer
  frm : X.env.frame = some X.env.locals

theorem swaps_of {v : Expr} {t : Option Expr} {l : Nat} {env : Env} (h : noComp v = true) : swapsWith v t l env = pure false := by
  cases v <;> first | rfl | cases h
theorem swapsT_of {v t : Expr} {l : Nat} {env : Env} (h : isNm t = false) : swapsWith v (some t) l env = pure false := by
  cases v <;> first | rfl | (cases t <;> first | rfl | cases h)
theorem stores_of {t v : Expr} {env : Env} (h : isTupE t = false ∨ isTupE v = false) (ht : isTupE t = true ∨ isNm t = true ∨ ∃ o i p, t = .Subscript o i p) : swappedStores [t] v env = pure none := by
  cases t <;> first | (cases v <;> first | rfl | (rcases h with h | h <;> (cases h; done))) | (exfalso; rcases ht with ht | ht | ⟨_, _, _, ht⟩ <;> cases ht)
theorem each_one {t : Expr} {env : Env} (ht : isTupE t = true ∨ isNm t = true ∨ ∃ o i p, t = .Subscript o i p) : (assignEach [t] env).map (·.2) = [assign t env] := by
  cases t <;> first | rfl | (exfalso; rcases ht with ht | ht | ⟨_, _, _, ht⟩ <;> cases ht)
theorem assign_sub {o i : Expr} {p : Pos} {env : Env} (h : noSlice i = true) : ∀ v, assign (.Subscript o i p) env v = (do
      let ov ← holding [v] (eval o env)
      let iv ← holding [v, ov] (eval i env)
      standAt p
      holding [v, ov, iv] (setItem ov iv v)
      release [v, ov, iv] []) := fun v => by
  cases i <;> first | rfl | cases h
theorem aug_sub {i : Expr} (h : noSlice i = true) : ∀ ov iv new, augStore i ov iv new = (do holding [new, ov, iv] (setItem ov iv new); release [new, ov, iv] []; pure .next) := fun ov iv new => by
  cases i <;> first | rfl | cases h

section
variable {X : Cx} {L : Lib} {T : Tab} {k : Nat} {sc : Scope} {W : WX} {cm : Bool}
/-! ### o[i] = v -/
def rSet (C : Ct) : TSet := fun o i v H Q => ∃ r st d e z, ∃ Q' : Sto → Prop, Rel C r st H ∧ RD C r H d o ∧ RD C r H e i ∧ RD C r H z v ∧ wpSet d e z st Q' ∧ ∀ r' st' H', Fut r H r' H' → Rel C r' st' H' → Q' st' → Q H'
theorem set_any (hu : X.A.units + 65 < cLine) : PSet X (rSet (ctOf X)) := by
  intro pins s σ H o i v ov iv u Q I ro ri rv ⟨r, st, d, e, z, Q', R, q1, q2, q3, w, kq⟩
  cases q1 with
  | @loc n a hr =>
    obtain ⟨c, ec, w⟩ := onSome_iff (show onSome st[n]? _ from w)
    cases c with
    | lst xs =>
      obtain ⟨j, rfl, w⟩ := onInt_iff (show onInt e _ from w)
      obtain ⟨m, em, w⟩ := onSome_iff w
      cases q2
      obtain ⟨vs, k1, k2⟩ := R.cells n _ a ec hr
      refine set_list pins s σ H _ _ _ ov iv u Q I ro ri rv ⟨a, vs, j, m, rfl, rfl, k1, by rw [← k2.length]; exact em, ?_⟩
      exact kq r _ _ (Fut.set hr) (R.set (c := .lst (xs.set m z)) hr ⟨_, upd_same, (RDs.set q3 m k2).fut (Fut.set hr)⟩) w
    | dct t kvs =>
      obtain ⟨hk, hl, w⟩ := (show _ ∧ _ ∧ Q' _ from w)
      obtain ⟨H', p1, p2, p3⟩ := dct_put R ec hr hk hl q2 q3
      exact set_dict (by omega) pins s σ H _ _ _ ov iv u Q I ro ri rv ⟨a, H', rfl, p1, kq r _ H' p2 p3 w⟩
    | obj _ _ => exact w.elim
  | _ => exact w.elim
def rGet (C : Ct) : V → V → Hp → VK → Prop := fun o i H Q => ∃ r st n e, ∃ Q' : DL.D → Prop, Rel C r st H ∧ RD C r H (.loc n) o ∧ RD C r H e i ∧ wpIx (.loc n) e st Q' ∧ ∀ z v, RD C r H z v → Q' z → Q v H
theorem get_any (hu : X.A.units + 65 < cLine) : PGet X (rGet (ctOf X)) := by
  intro pins s σ H o i ov iv Q I ro ri ⟨r, st, n, e, Q', R, q1, q2, w, kq⟩
  cases q1 with
  | @loc n a hr =>
    cases ro
    obtain ⟨c, ec, w⟩ := onSome_iff (show onSome st[n]? _ from w)
    cases c with
    | lst xs =>
      obtain ⟨j, rfl, w⟩ := onInt_iff (show onInt e _ from w)
      obtain ⟨d, e1, w⟩ := onSome_iff w
      cases q2
      obtain ⟨t, rfl⟩ := ri
      obtain ⟨vs, k1, k2⟩ := R.cells n _ a ec hr
      obtain ⟨z, e2, q⟩ := atI_rd k2 e1
      have hq : SqL X.K H a vs := SqL.of k1
      obtain ⟨its, rr, pl, hz⟩ := I.list hq
      obtain ⟨m, h1, h2, h3, h4, h5⟩ := atI_get e2
      obtain ⟨w', ew, rw'⟩ := rr.get h2
      have hl := rr.length
      have hn := line63
      have fin : EP X pins σ Q w' s := ⟨z, H, I, rw', kq _ _ q w⟩
      by_cases h0 : 0 ≤ j
      · have hj : j.toNat = m := by
          rw [seqIndex_of h0 h5] at h1
          exact Option.some.inj h1
        exact wpAny_getItem_list pl.isList h0 (by omega) (by rw [hj]; simpa using ew) fin
      · have hj : (j + (its.toArray.size : Int)).toNat = m := by
          rw [seqIndex_neg (by omega) h4] at h1
          rw [List.size_toArray, ← hl]
          exact Option.some.inj h1
        exact wpAny_getItem_list_neg pl.isList (by omega) (by rw [List.size_toArray] <;> omega) (by omega) (by rw [hj]; simpa using ew) fin
    | dct t kvs =>
      obtain ⟨hk, w⟩ := (show D.key t e = true ∧ onSome (dGet kvs e) _ from w)
      obtain ⟨d, e1, w⟩ := onSome_iff w
      obtain ⟨ov, g, rov⟩ := dct_get (R.cells n _ a ec hr) hk q2
      rw [e1] at rov
      cases ov with
      | none => exact rov.elim
      | some z => exact d_getItem (by omega) I g ri fun w' s' I' rw' => ⟨z, H, I', rw', kq _ _ rov w⟩
    | obj _ _ => exact w.elim
theorem aug_any {o : Bop} (h : okAug o = true) : PIp X o.op (fun x y H Q => ∃ r st d e Q', Rel (ctOf X) r st H ∧ RD (ctOf X) r H d x ∧ RD (ctOf X) r H e y ∧ wpAug o d e st Q' ∧ Kp (ctOf X) r H Q' Q) := by
  intro pins s σ H x y v u Q I rx ry ⟨r, st, d, e, Q', R, q1, q2, w, k⟩
  cases o <;> first | (cases h; done) | skip
  · obtain ⟨i, rfl, w⟩ := onInt_iff (show onInt d _ from w)
    obtain ⟨j, rfl, w⟩ := onInt_iff w
    cases q1; cases q2
    exact ip_add pins s σ H _ _ v u Q I rx ry ⟨i, j, rfl, rfl, k.now R (.int _) w⟩
  · obtain ⟨i, rfl, w⟩ := onInt_iff (show onInt d _ from w)
    obtain ⟨j, rfl, w⟩ := onInt_iff w
    cases q1; cases q2
    exact ip_sub pins s σ H _ _ v u Q I rx ry ⟨i, j, rfl, rfl, k.now R (.int _) w⟩
end
end DL

set_option maxHeartbeats 1000000
/-! DLStm2: loops, raise, try; all statements. -/
namespace DL
open PySem PySem.Spec PyProof.Rows L2

section
variable {X : Cx} {L : Lib} {T : Tab} {k : Nat} {sc : Scope} {W : WX} {cm : Bool}
theorem ss_nil : PSs X [] (rdSs (ctOf X) L W .nil) := pssI pss_nil fun D σ H ⟨r, env, st, P, R, Re, w, kp⟩ => kp.nx r st H env σ .refl R Re w
theorem ss_cons {s : S} {ss : Ss} {x : Stmt} {xs : List Stmt} (h1 : PS X x (rdS (ctOf X) L W s)) (h2 : PSs X xs (rdSs (ctOf X) L W ss)) : PSs X (x :: xs) (rdSs (ctOf X) L W (.cons s ss)) :=
  pssI (pss_cons h1 h2) fun D σ H ⟨r, env, st, P, R, Re, w, kp⟩ => ⟨r, env, st, { P with nx := fun env st => wpSs L ss env st P }, R, Re, w,
    { kp with nx := fun r1 st1 H1 env1 σ1 f1 R1 Re1 w1 => ⟨r1, env1, st1, P, R1, Re1, w1, kp.mono f1⟩ }⟩
theorem s_asgT {t : DL.T} {e : E} {tg ex : Expr} {p : Pos} (he : PE X ex (rdE (ctOf X) L W e)) (hg : PG X tg (rdG (ctOf X) t)) (h1 : isTupE tg = false ∨ isTupE ex = false) (h2 : noComp ex = true ∨ isNm tg = false) (ht : isTupE tg = true ∨ isNm tg = true ∨ ∃ o i p, tg = .Subscript o i p) :
    PS X (.Assign [tg] ex p) (rdS (ctOf X) L W (.asg (.t t) e)) :=
  psI (ps_asg he hg (h2.elim swaps_of swapsT_of) (stores_of h1 ht) (each_one ht)) fun D σ H ⟨r, env, st, P, R, Re, w, kp⟩ =>
    ⟨r, env, st, _, _, R, Re, w, fun r1 st1 H1 d v f1 R1 q1 w1 => ⟨r1, st1, fun _ => True, env, d, _, R1, ⟨(Re.fut f1).1, fun i d _ h => (Re.fut f1).2 i d h⟩, q1, w1, fun env' σ' Re' _ _ w2 => kp.nx r1 st1 H1 env' σ' f1 R1 (re_of Re' fun _ => .inl trivial) w2⟩, kp.xw Re⟩
theorem s_asgIx {a i e : E} {x y ex : Expr} {p p2 : Pos} (hu : X.A.units + 65 < cLine) (hs : noSlice y = true) (ha : PE X x (rdE (ctOf X) L W a)) (hi : PE X y (rdE (ctOf X) L W i)) (he : PE X ex (rdE (ctOf X) L W e)) :
    PS X (.Assign [.Subscript x y p2] ex p) (rdS (ctOf X) L W (.asg (.ix a i) e)) :=
  psI (ps_asg he (pg_sub ha hi (set_any hu) (assign_sub hs)) (show swapsWith ex (some (.Subscript x y p2)) p.line X.env = pure false from swapsT_of rfl) (stores_of (.inl rfl) (.inr (.inr ⟨_, _, _, rfl⟩))) (each_one (.inr (.inr ⟨_, _, _, rfl⟩)))) fun D σ H ⟨r, env, st, P, R, Re, w, kp⟩ =>
    ⟨r, env, st, _, _, R, Re, w, fun r1 st1 H1 d v f1 R1 q1 w1 => ⟨r1, env, st1, _, _, R1, Re.fut f1, w1, fun r2 st2 H2 d2 v2 f2 R2 q2 w2 => ⟨r2, env, st2, _, _, R2, Re.fut (f1.trans f2), w2, fun r3 st3 H3 d3 v3 f3 R3 q3 w3 =>
      ⟨r3, st3, d2, d3, d, _, R3, q2.fut f3, q3, q1.fut (f2.trans f3), w3, fun r4 st4 H4 f4 R4 w4 => kp.nx r4 st4 H4 env σ (f1.trans (f2.trans (f3.trans f4))) R4 (Re.fut (f1.trans (f2.trans (f3.trans f4)))) w4⟩,
      (kp.mono (f1.trans f2)).xw (Re.fut (f1.trans f2))⟩, (kp.mono f1).xw (Re.fut f1)⟩, kp.xw Re⟩
theorem s_augN {o : Bop} {i : Nat} {e : E} {x : Str} {ex : Expr} {p p2 : Pos} (G : Good L T k X sc W cm) (ho : okAug o = true) (hN : X.N[i]? = some x) (hl : locB sc x = true) (he : PE X ex (rdE (ctOf X) L W e)) : PS X (.AugAssign (.Name x p2) o.op ex p) (rdS (ctOf X) L W (.aug o (.t (.v i)) e)) :=
  psI (ps_aug G.nd hN (loc_of G.so hl) he (aug_any ho) (fn_of G.so G.fn hl)) fun D σ H ⟨r, env, st, P, R, Re, w, kp⟩ => by
    obtain ⟨d, e1, w⟩ := getS_iff (show getS env i _ from w)
    obtain ⟨v, e2, q⟩ := Re.2 i d e1
    refine ⟨v, e2, r, env, st, _, _, R, Re, w, fun r1 st1 H1 d1 v1 f1 R1 q1 w1 => ⟨r1, st1, d, d1, _, R1, q.fut f1, q1, w1, fun r2 st2 H2 d2 v2 f2 R2 q2 w2 => ?_⟩, kp.xw Re⟩
    refine kp.nx r2 st2 H2 (setS env i d2) _ (f1.trans f2) R2 ?_ w2
    rw [setS_eq]
    exact (Re.fut (f1.trans f2)).set i q2
theorem s_augIx {o : Bop} {a i e : E} {x y ex : Expr} {p p2 : Pos} (hu : X.A.units + 65 < cLine) (ho : okAug o = true) (hs : noSlice y = true) (ha : PE X x (rdE (ctOf X) L W a)) (hi : PE X y (rdE (ctOf X) L W i)) (he : PE X ex (rdE (ctOf X) L W e)) :
    PS X (.AugAssign (.Subscript x y p2) o.op ex p) (rdS (ctOf X) L W (.aug o (.ix a i) e)) :=
  psI (ps_augS ha hi (get_any hu) he (aug_any ho) (set_any hu) (aug_sub hs)) fun D σ H ⟨r, env, st, P, R, Re, w, kp⟩ =>
    ⟨r, env, st, _, _, R, Re, w, fun r1 st1 H1 d1 v1 f1 R1 q1 w1 => ⟨r1, env, st1, _, _, R1, Re.fut f1, w1, fun r2 st2 H2 d2 v2 f2 R2 q2 w2 => by
      have q1' := q1.fut f2
      cases d1 with
      | loc n =>
        refine ⟨r2, st2, n, d2, _, R2, q1', q2, w2, fun z v3 q3 w3 => ⟨r2, env, st2, _, _, R2, Re.fut (f1.trans f2), w3, fun r4 st4 H4 d4 v4 f4 R4 q4 w4 => ⟨r4, st4, z, d4, _, R4, q3.fut f4, q4, w4, fun r5 st5 H5 d5 v5 f5 R5 q5 w5 =>
          ⟨r5, st5, .loc n, d2, d5, _, R5, q1'.fut (f4.trans f5), q2.fut (f4.trans f5), q5, w5, fun r6 st6 H6 f6 R6 w6 => ?_⟩⟩, (kp.mono (f1.trans f2)).xw (Re.fut (f1.trans f2))⟩⟩
        have ff := f1.trans (f2.trans (f4.trans (f5.trans f6)))
        exact kp.nx r6 st6 H6 env σ ff R6 (Re.fut ff) w6
      | _ => exact w2.elim, (kp.mono f1).xw (Re.fut f1)⟩, kp.xw Re⟩
theorem s_ex {e : E} {ex : Expr} {p : Pos} (hn : noComp ex = true) (he : PE X ex (rdE (ctOf X) L W e)) : PS X (.Expr ex p) (rdS (ctOf X) L W (.ex e)) :=
  psI (ps_expr he (swaps_of hn)) fun D σ H ⟨r, env, st, P, R, Re, w, kp⟩ => ⟨r, env, st, _, _, R, Re, w, fun r1 st1 H1 d v f1 R1 q1 w1 => kp.nx r1 st1 H1 env σ f1 R1 (Re.fut f1) w1, kp.xw Re⟩
theorem s_ret {e : E} {ex : Expr} {p : Pos} (he : PE X ex (rdE (ctOf X) L W e)) : PS X (.Return (some ex) p) (rdS (ctOf X) L W (.ret e)) :=
  psI (ps_ret he) fun D σ H ⟨r, env, st, P, R, Re, w, kp⟩ => ⟨r, env, st, _, _, R, Re, w, fun r1 st1 H1 d v f1 R1 q1 w1 => kp.rt r1 st1 H1 d v f1 R1 q1 w1, kp.xw Re⟩
theorem s_ret0 {p : Pos} : PS X (.Return none p) (rdS (ctOf X) L W .ret0) :=
  psI ps_retN fun D σ H ⟨r, env, st, P, R, Re, w, kp⟩ => kp.rt r st H .non .non .refl R .non w
theorem s_pass {p : Pos} : PS X (.Pass p) (rdS (ctOf X) L W .pass) := psI ps_pass fun D σ H ⟨r, env, st, P, R, Re, w, kp⟩ => kp.nx r st H env σ .refl R Re w
theorem s_brk {p : Pos} : PS X (.Break p) (rdS (ctOf X) L W .brk) := psI ps_break fun D σ H ⟨r, env, st, P, R, Re, w, kp⟩ => kp.bk r st H env σ .refl R Re w
theorem s_cont {p : Pos} : PS X (.Continue p) (rdS (ctOf X) L W .cont) := psI ps_continue fun D σ H ⟨r, env, st, P, R, Re, w, kp⟩ => kp.ct r st H env σ .refl R Re w
theorem s_if {c : E} {a b : Ss} {ex : Expr} {xs ys : List Stmt} {p : Pos} (hc : PT X ex (rdT (ctOf X) L W c)) (ha : PSs X xs (rdSs (ctOf X) L W a)) (hb : PSs X ys (rdSs (ctOf X) L W b)) : PS X (.If ex xs ys p) (rdS (ctOf X) L W (.ite c a b)) :=
  psI (ps_if hc ha hb) fun D σ H ⟨r, env, st, P, R, Re, w, kp⟩ => ⟨r, env, st, fun t st => ifB t (wpSs L a env st P) (wpSs L b env st P), _, R, Re, w, fun r1 st1 H1 t f1 R1 w1 => by
    cases t with
    | true => simp only [if_true]; exact ⟨r1, env, st1, P, R1, Re.fut f1, w1, kp.mono f1⟩
    | false => simp only [Bool.false_eq_true, if_false]; exact ⟨r1, env, st1, P, R1, Re.fut f1, w1, kp.mono f1⟩, kp.xw Re⟩
theorem s_while {c : E} {body : Ss} {ex : Expr} {xs : List Stmt} {p : Pos} (hp : PassesOwn (model X.prog X.w) X.A X.env X.xe) (hc : PT X ex (rdT (ctOf X) L W c)) (hb : PSs X xs (rdSs (ctOf X) L W body)) : PS X (.While ex xs [] p) (rdS (ctOf X) L W (.while_ c body)) :=
  psI (ps_while hp hc hb) fun D σ H ⟨r, env, st, P, R, Re, w, kp⟩ => by
    obtain ⟨n, w⟩ := w
    refine ⟨fun m σ1 H1 => ∃ r1 env1 st1, Fut r H r1 H1 ∧ Rel (ctOf X) r1 st1 H1 ∧ RE (ctOf X) r1 H1 env1 σ1 ∧ whileGo (fun env st k X => wpE L c env st (fun d st => onBl d fun b => k b st) fun x st => X x env st) (fun env st P => wpSs L body env st P) m env1 st1 P,
      ⟨n, r, env, st, .refl, R, Re, w⟩, fun m σ1 H1 ⟨r1, env1, st1, f1, R1, Re1, w1⟩ => ?_⟩
    cases m with
    | zero => exact w1.elim
    | succ m =>
      refine ⟨r1, env1, st1, fun b st => ifB b (wpSs L body env1 st { P with nx := fun env st => whileGo (fun env st k X => wpE L c env st (fun d st => onBl d fun b => k b st) fun x st => X x env st) (fun env st P => wpSs L body env st P) m env st P, ct := fun env st => whileGo (fun env st k X => wpE L c env st (fun d st => onBl d fun b => k b st) fun x st => X x env st) (fun env st P => wpSs L body env st P) m env st P, bk := P.nx }) (P.nx env1 st), _, R1, Re1, w1, fun r2 st2 H2 b f2 R2 w2 => ?_, (kp.mono f1).xw Re1⟩
      have f12 := f1.trans f2
      cases b with
      | false => simp only [Bool.false_eq_true, if_false]; exact kp.nx r2 st2 H2 env1 σ1 f12 R2 (Re1.fut f2) w2
      | true =>
        simp only [if_true]
        refine ⟨fun σ3 H3 => ∃ r1 env1 st1, Fut r H r1 H3 ∧ Rel (ctOf X) r1 st1 H3 ∧ RE (ctOf X) r1 H3 env1 σ3 ∧ whileGo (fun env st k X => wpE L c env st (fun d st => onBl d fun b => k b st) fun x st => X x env st) (fun env st P => wpSs L body env st P) m env1 st1 P,
          fun σ3 H3 z => ⟨m, Nat.lt_succ_self m, z⟩, r2, env1, st2, _, R2, Re1.fut f2, w2, ?_⟩
        exact { kp.mono f12 with
          nx := fun r3 st3 H3 env3 σ3 f3 R3 Re3 w3 => ⟨r3, env3, st3, f12.trans f3, R3, Re3, w3⟩
          ct := fun r3 st3 H3 env3 σ3 f3 R3 Re3 w3 => ⟨r3, env3, st3, f12.trans f3, R3, Re3, w3⟩
          bk := fun r3 st3 H3 env3 σ3 f3 R3 Re3 w3 => kp.nx r3 st3 H3 env3 σ3 (f12.trans f3) R3 Re3 w3 }
theorem s_for {t : DL.T} {it : DL.It} {body : Ss} {tg iter : Expr} {xs : List Stmt} {p : Pos} (hp : PassesOwn (model X.prog X.w) X.A X.env X.xe) (hcm : X.calm = true) (hs : noSet iter = true) (hi : PI X tg iter (rdIt (ctOf X) L W it)) (hg : PG X tg (rdG (ctOf X) t)) (hb : PSs X xs (rdSs (ctOf X) L W body)) :
    PS X (.For tg iter xs [] p) (rdS (ctOf X) L W (.for_ t it body)) :=
  psI (ps_for hp hcm hi hg hb (folded_of hs)) fun D σ H ⟨r, env, st, P, R, Re, w, kp⟩ => by
    refine ⟨r, env, st, _, _, R, Re, w, fun r1 st1 H1 ys stay J f1 R1 itr w1 => ?_, kp.xw Re⟩
    refine ⟨fun i m σ2 H2 => m = ys.length - i ∧ i ≤ ys.length ∧ ∃ r2 env2 st2, Fut r1 H1 r2 H2 ∧ Rel (ctOf X) r2 st2 H2 ∧ RE (ctOf X) r2 H2 env2 σ2 ∧ forGo stay (wpT t) (fun env st P => wpSs L body env st P) (ys.drop i) env2 st2 P,
      ⟨ys.length, by simp, Nat.zero_le _, r1, env, st1, .refl, R1, Re.fut f1, w1⟩, ?_⟩
    rintro i m σ2 H2 ⟨rfl, hi, r2, env2, st2, f2, R2, Re2, w2⟩
    have f12 := f1.trans f2
    by_cases hlt : i < ys.length
    · refine .inr ?_
      rw [List.drop_eq_getElem_cons hlt] at w2
      obtain ⟨hst, w2⟩ := stayOk_iff w2
      obtain ⟨hgo, hy⟩ := (itr i r2 st2 H2 f2.w R2 hst).2 _ (List.getElem?_eq_getElem hlt)
      refine ⟨hgo, fun σ3 H3 => ∃ r2 env2 st2, Fut r1 H1 r2 H3 ∧ Rel (ctOf X) r2 st2 H3 ∧ RE (ctOf X) r2 H3 env2 σ3 ∧ forGo stay (wpT t) (fun env st P => wpSs L body env st P) (ys.drop (i + 1)) env2 st2 P,
        fun σ3 H3 z => ⟨ys.length - (i + 1), by omega, rfl, hlt, z⟩, fun x H3 hyy => ?_⟩
      obtain ⟨f3, R3, q3⟩ := hy x H3 hyy
      refine ⟨r2, st2, fun _ => True, env2, _, _, R3, ⟨(Re2.fut f3).1, fun i d _ h => (Re2.fut f3).2 i d h⟩, q3, w2, fun env' σ' Re' _ _ w3 => ?_⟩
      have f13 := f12.trans f3
      refine ⟨r2, env', st2, _, R3, re_of Re' fun _ => .inl trivial, w3, ?_⟩
      exact { kp.mono f13 with
        nx := fun r4 st4 H4 env4 σ4 f4 R4 Re4 w4 => ⟨r4, env4, st4, (f2.trans f3).trans f4, R4, Re4, w4⟩
        ct := fun r4 st4 H4 env4 σ4 f4 R4 Re4 w4 => ⟨r4, env4, st4, (f2.trans f3).trans f4, R4, Re4, w4⟩
        bk := fun r4 st4 H4 env4 σ4 f4 R4 Re4 w4 => kp.nx r4 st4 H4 env4 σ4 (f13.trans f4) R4 Re4 w4 }
    · have hi' : i = ys.length := by omega
      subst hi'
      rw [List.drop_length] at w2
      obtain ⟨hst, w2⟩ := stayOk_iff w2
      exact .inl ⟨(itr _ r2 st2 H2 f2.w R2 hst).1 (Nat.le_refl _), kp.nx r2 st2 H2 env2 σ2 f12 R2 Re2 w2⟩
/-- name = [..] -/
theorem s_lcN {m : Bool} {i : Nat} {elt : E} {tt : DL.T} {it : DL.It} {c : Eo} {y : Str} {x tg iter : Expr} {ifs : List Expr} {scope : Scope} {p py sp : Pos} (G : Good L T k X sc W cm) (hc : cm = true) (hN : X.N[i]? = some y) (hl : isLoc sc y = true) (hln : (py.line == p.line) = true)
    (hno : (scope.names.any fun (n, k) => n == y && (k == .local || k == .cell)) = false) (hk : X.env.scope.kind = .function) (hi : PI X tg iter (rdIt (ctOf X) L W it))
    (hb : blkC X.N sc scope (ownOf X.N tt.slots) = true) (ho : (ownOf X.N tt.slots).map (·.2) = tt.slots) (hT : okT X.N scope tt tg = true) (hs : noSet iter = true)
    (he : ∀ (s : Shared) (H : Hp) (C : Addr) (cl : List (Str × Addr)) (fp : List Addr), PE (X.blk s H scope (compEnvC scope cl C X.env) fp) x (rdE (ctOf X) L W0 elt))
    (ht : ∀ (s : Shared) (H : Hp) (C : Addr) (cl : List (Str × Addr)) (fp : List Addr), PTs (X.blk s H scope (compEnvC scope cl C X.env) fp) ifs (rdC (ctOf X) L c)) :
    PS X (.Assign [.Name y py] (.ListComp x [⟨tg, iter, ifs, 0⟩] scope p) sp) (rdS (ctOf X) L W (.asg (.t (.v i)) (.lc m elt tt it c))) := by
  have hyl : X.env.scope.names.lookup y = some .local := by
    unfold isLoc at hl
    split at hl <;> rename_i e
    · exact G.so.lc _ e
    · cases hl
  refine psI (ps_setLc (g := rdG (ctOf X) tt) (tt := rdC (ctOf X) L c) (te := rdE (ctOf X) L W0 elt) (G.calm hc).1 G.nd hN hyl (sw_true hk hyl hln hno) hi (blk_of G hb) (fun s H C cl fp => sg_t (X := X.blk s H scope (compEnvC scope cl C X.env) fp) rfl G.nd relS_ok (good_blk G (s := s) (H := H) (scope := scope) (cl := cl) (C := C) (fp := fp)).fn (G.calm hc).1 tt tg hT) ht he (folded_of hs)) fun D σ H ⟨r, env, st, P, R, Re, w, kp⟩ => ?_
  rw [ho]
  refine lc_imp (m := m) ⟨r, env, st, fun d st => P.nx (setS env i d) st, _, R, Re, w, fun r1 st1 H1 d v f1 R1 q1 w1 => ?_, kp.xw Re⟩
  refine kp.nx r1 st1 H1 (setS env i d) _ f1 R1 ?_ w1
  rw [setS_eq]
  exact (Re.fut f1).set i q1
/-! ### raise, try -/
theorem pmk_own0 {C : Addr} {bmB : List Value} {B newId initId : String} {x : Str} {p pos : Pos} (F : ExcBaseFacts B newId initId bmB) (q : PySem.W.excIn X.K C bmB newId = true) (gC : X.mg x = some (.ref C)) (kC : PySem.W.keepIn X.K (.ref C) = true) (hr : Raises X (.ref C)) (hg : Gl X x) (hd : (x == ("__debug__" : Str)) = false) :
    PMk X (.Call (.Name x p) [] [] pos) (fun _ H Q => Q (.ref C) none H) := by
  intro pins s σ H Q I h
  refine wpAny_Call_Name_kw (ld_glob I hg gC ?_ hd)
  refine PySem.W.callWith_K0 I.kIn kC ?_
  obtain ⟨bm, N, nm, qn, bs, hdct, sn, sub, ab, col, dd, k0, k1, k2, k3, k5, mN, hC, hN, hni, T⟩ := exc_obj I.kIn q
  refine wpAny_call_exc_subT F T hC hN hni (fun h' e hm => ?_) (Nat.zero_le _)
  exact mk_of I hm hr h (I.hok.gone hm.new)
theorem s_raise {c : String} {x : Str} {p p1 p2 : Pos} (G : Good L T k X sc W cm) (hc : cm = true) (ex : x = Str.ofString c) (hg : Gl X x) (hd : (x == ("__debug__" : Str)) = false) (hm : c ∈ T.excs) : PS X (.Raise (some (.Call (.Name x p1) [] [] p2)) none p) (rdS (ctOf X) L W (.raise c .nil)) := by
  subst ex
  obtain ⟨e1, A, bm, B, n, i, m1, m2, m3, m4, m5, m6⟩ := G.lib.exc c hm
  refine psI (ps_raise (G.calm hc).1 G.tk (pmk_own0 m3 m4 m1 m2 (raises_own m5 m6) hg hd)) fun D σ H ⟨r, env, st, P, R, Re, w, kp⟩ => ?_
  obtain ⟨fs, e2, w⟩ := onSome_iff (show onSome (L.exf c) _ from w)
  rw [e1] at e2
  cases e2
  exact kp.ex r st H env σ ⟨c, []⟩ (.ref A) none .refl R Re ⟨A, rfl, m1, .inl ⟨rfl, rfl⟩⟩ w.2
theorem good_suite (G : GoodS L T k X sc W cm) {a : Addr} {pn : List (Addr × Obj)} : GoodS L T k (X.suite a pn) sc W0 false where
  nd := G.nd
  so := G.so
  fn := G.fn
  calm := fun z => nomatch z
  un := G.un
  tk := fun _ _ ⟨_, _, _, _, _, _, _, _, _, _, _, _, _, _, _, _, w⟩ => w.elim
  lib := G.lib
  po := fun z => nomatch z
  stk := G.stk
  frm := G.frm
theorem good_tr (G : GoodS L T k X sc W cm) {pn : List (Addr × Obj)} {xe : Value → Shared → Prop} {W' : WX} (tk : Takes (X.tr pn xe) W') (po : PassesOwn (model X.prog X.w) X.A X.env xe) : GoodS L T k (X.tr pn xe) sc W' cm where
  nd := G.nd
  so := G.so
  fn := G.fn
  calm := G.calm
  un := G.un
  tk := tk
  lib := G.lib
  po := fun _ => po
  stk := G.stk
  frm := G.frm
theorem s_try {c : String} {x : Str} {body suite : Ss} {b : List Stmt} {h : Stmt} {hb : List Stmt} {p p1 p2 : Pos} (G : GoodS L T k X sc W cm) (ex : x = Str.ofString c) (hg : Gl X x) (hd : (x == ("__debug__" : Str)) = false) (hm : c ∈ T.excs)
    (hbd : ∀ (W' : WX) (pn : List (Addr × Obj)) (xe : Value → Shared → Prop), GoodS L T k (X.tr pn xe) sc W' cm → PSs (X.tr pn xe) b (rdSs (ctOf X) L W' body))
    (hsu : ∀ (a : Addr) (pn : List (Addr × Obj)), PSs (X.suite a pn) (h :: hb) (rdSs (ctOf X) L W0 suite)) :
    PS X (.Try b [.ExceptHandler (some (.Name x p1)) none (h :: hb) p2] [] [] p) (rdS (ctOf X) L W (.try_ body (.cons c none suite .nil))) := by
  subst ex
  obtain ⟨e1, A, bm, B, n, i, m1, m2, m3, m4, m5, m6⟩ := G.lib.exc c hm
  refine psI (ps_try_only (tb := fun W' => rdSs (ctOf X) L W' body) (ts := fun _ _ _ => rdSs (ctOf X) L W0 suite) G.stk G.frm ⟨hg, hd, .inl m1⟩ G.tk (fun W' pn xe tk po => hbd W' pn xe (good_tr G tk po)) fun a oe cls d pn _ _ => hsu a _) fun D σ H ⟨r, env, st, P, R, Re, w, kp⟩ => ?_
  refine ⟨r, env, st, { P with ex := fun x env st => wpHs L (.cons c none suite .nil) x env st P }, R, Re, w, { nx := kp.nx, bk := kp.bk, ct := kp.ct, rt := kp.rt, ex := fun r1 st1 H1 env1 σ1 y cls dx f1 R1 Re1 q1 w1 => ?_ }⟩
  obtain ⟨b', eb, w1⟩ := onSome_iff (show onSome (L.sub y.cls c) _ from w1)
  obtain ⟨A', rfl, q2, q3⟩ := id q1
  refine ⟨b', G.lib.sub _ _ _ _ _ eb q2 m1, fun e a ha => ?_, fun e => ?_⟩
  · subst e
    exact ⟨r1, env1, st1, { P with ex := fun _ _ _ => False }, R1, Re1, w1, { nx := (kp.mono f1).nx, bk := (kp.mono f1).bk, ct := (kp.mono f1).ct, rt := (kp.mono f1).rt, ex := fun _ _ _ _ _ _ _ _ _ _ _ _ h => h.elim }⟩
  · subst e
    exact kp.ex r1 st1 H1 env1 σ1 y _ dx f1 R1 Re1 q1 w1
end
end DL

set_option maxHeartbeats 1000000
/-! DLStm3: all statements. -/
namespace DL
open PySem PySem.Spec PyProof.Rows L2
theorem good_kind {L : Lib} {T : Tab} {k : Nat} {X : Cx} {sc : Scope} {W : WX} {cm : Bool} (G : GoodS L T k X sc W cm) : True := trivial
theorem ok_lc {T : Tab} {N : List Str} {sc : Scope} {cm m : Bool} {elt : E} {t : DL.T} {it : DL.It} {c : Eo} {ex : Expr} (h : okE T N sc cm (.lc m elt t it c) ex = true) :
    ∃ x tg iter ifs scope p, ex = .ListComp x [⟨tg, iter, ifs, 0⟩] scope p ∧ cm = true ∧ okIt T N sc cm it iter = true ∧ noSet iter = true ∧ (!itTup it || isTupE tg) = true ∧ okT N scope t tg = true ∧ blkC N sc scope (ownOf N t.slots) = true ∧
      (ownOf N t.slots).map (·.2) = t.slots ∧ okE T N scope cm elt x = true ∧ okC T N scope cm c ifs = true := by
  unfold okE at h
  split at h
  · simp only [Bool.and_eq_true, decide_eq_true_eq] at h
    obtain ⟨⟨⟨⟨⟨⟨⟨⟨⟨a1, a2⟩, a3⟩, a4⟩, a5⟩, a6⟩, a7⟩, a8⟩, a9⟩, a10⟩ := h
    subst a2
    exact ⟨_, _, _, _, _, _, rfl, a1, a3, a4, a5, a6, a7, a8, a9, a10⟩
  · cases h
theorem ok_isLc {T : Tab} {N : List Str} {sc : Scope} {cm : Bool} {e : E} {x : Expr} {gs : List Comprehension} {scope : Scope} {p : Pos} (h : okE T N sc cm e (.ListComp x gs scope p) = true) : ∃ m elt t it c, e = .lc m elt t it c := by
  cases e <;> first | exact ⟨_, _, _, _, _, rfl⟩ | (cases h; done) | (exfalso; rename_i ks vs; cases ks <;> cases vs <;> cases h; done)
theorem ok_raise {T : Tab} {N : List Str} {sc : Scope} {cm : Bool} {c : String} {es : Es} {s : Stmt} (h : okS T N sc cm (.raise c es) s = true) :
    ∃ x p1 p2 p, s = .Raise (some (.Call (.Name x p1) [] [] p2)) none p ∧ cm = true ∧ x = Str.ofString c ∧ glB sc x = true ∧ okNm x = true ∧ T.excs.contains c = true ∧ es = .nil := by
  unfold okS at h
  split at h
  · simp only [Bool.and_eq_true, decide_eq_true_eq] at h
    obtain ⟨⟨⟨⟨⟨h1, h2⟩, h3⟩, h4⟩, h5⟩, h6⟩ := h
    cases es with
    | nil => exact ⟨_, _, _, _, rfl, h1, h2, h3, h4, h5, rfl⟩
    | cons _ _ => cases h6
  · cases h
theorem ok_try {T : Tab} {N : List Str} {sc : Scope} {cm : Bool} {body suite : Ss} {n : Option Nat} {hs : Hs} {c : String} {s : Stmt} (h : okS T N sc cm (.try_ body (.cons c n suite hs)) s = true) :
    ∃ b x p1 y ys p2 p, s = .Try b [.ExceptHandler (some (.Name x p1)) none (y :: ys) p2] [] [] p ∧ n = none ∧ hs = .nil ∧ cm = true ∧ x = Str.ofString c ∧ glB sc x = true ∧ okNm x = true ∧ T.excs.contains c = true ∧ okSs T N sc cm body b = true ∧ okSs T N sc false suite (y :: ys) = true := by
  unfold okS at h
  split at h
  · rename_i e1
    cases e1
    simp only [Bool.and_eq_true, decide_eq_true_eq] at h
    obtain ⟨⟨⟨⟨⟨⟨h1, h2⟩, h3⟩, h4⟩, h5⟩, h6⟩, h7⟩ := h
    exact ⟨_, _, _, _, _, _, _, rfl, rfl, rfl, h1, h2, h3, h4, h5, h6, h7⟩
  · cases h
theorem sg_v {L : Lib} {T0 : Tab} {k : Nat} {X : Cx} {sc : Scope} {W : WX} {cm : Bool} {i : Nat} {tg : Expr} (G : Good L T0 k X sc W cm) (h1 : okT X.N sc (.v i) tg = true) : PG X tg (rdG (ctOf X) (.v i)) := by
  cases tg with
  | Name y py =>
    have h1 : (decide (X.N[i]? = some y) && locB sc y) = true := h1
    simp only [Bool.and_eq_true, decide_eq_true_eq] at h1
    refine pgI (pg_name G.nd h1.1 (loc_of G.so h1.2) (fn_of G.so G.fn h1.2)) fun v σ H Q ⟨r, st, P, env, d, k, R, Re, q, w, K⟩ => ?_
    refine K _ _ ?_ (by simp) (fun j hj => ?_) (show k (setS env i d) from w)
    · rw [setS_eq]
      have := Re.set i q
      refine ⟨this.1, fun j e p => this.2 j e ?_⟩
      rcases p with p | p
      · exact .inl p
      · exact .inr (by simpa [DL.T.slots] using p)
    · have : j ≠ i := by simpa [DL.T.slots] using hj
      exact List.getElem?_set_ne (Ne.symm this)
  | _ => cases h1
theorem s_asgAll {L : Lib} {T : Tab} {k : Nat} {X : Cx} {sc : Scope} {W : WX} {cm : Bool} {tt : DL.T} {e : E} {tg ex : Expr} {p : Pos} (G : GoodS L T k X sc W cm) (hk : X.env.scope.kind = .function) (ho : okT X.N sc tt tg = true) (hform : isTupE tg = true ∨ isNm tg = true ∨ ∃ o i p, tg = .Subscript o i p)
    (hg : PG X tg (rdG (ctOf X) tt)) (h2 : okE T X.N sc cm e ex = true) (h3 : isTupE tg = false ∨ isTupE ex = false) (h4 : (noComp ex = true ∨ okLcN sc p.line tg ex = true) ∨ isNm tg = false) : PS X (.Assign [tg] ex p) (rdS (ctOf X) L W (.asg (.t tt) e)) := by
  have he := (snd L T k e ex G.toGood h2).v
  rcases h4 with (h4 | h4) | h4
  · exact s_asgT he hg h3 (.inl h4) hform
  · cases tg with
    | Name y py =>
      cases ex with
      | ListComp x2 gs scope p2 =>
        obtain ⟨m, elt, t2, it, c, rfl⟩ := ok_isLc h2
        obtain ⟨x2, tg2, iter, ifs, scope, p2, e1, a1, a3, a4, a5, a6, a7, a8, a9, a10⟩ := ok_lc h2
        cases e1
        cases tt with
        | tup _ => cases ho
        | v i =>
          have ho : (decide (X.N[i]? = some y) && locB sc y) = true := ho
          have h4 : (isLoc sc y && py.line == p2.line && !(scope.names.any fun (n, k) => n == y && (k == .local || k == .cell))) = true := h4
          simp only [Bool.and_eq_true, decide_eq_true_eq, Bool.not_eq_true'] at h4 ho
          refine s_lcN G.toGood a1 ho.1 h4.1.1 h4.1.2 h4.2 hk (sndIt L T k it tg2 iter G.toGood a3 (by simpa using a5)) a7 a8 a6 a4 (fun s H C cl fp => (snd L T k elt x2 (good_blk G.toGood) a9).v) fun s H C cl fp => ?_
          cases c with
          | none =>
            cases ifs with
            | nil => exact ⟨fun pins s σ H Q I ⟨r, env, st, Q', R, Re, w, kp⟩ => pts_nil.run pins s σ H Q I (kp r st H true .refl R w)⟩
            | cons _ _ => cases a10
          | some e2 =>
            cases ifs with
            | nil => cases a10
            | cons y2 ys2 =>
              cases ys2 with
              | cons _ _ => cases a10
              | nil => exact ⟨fun pins s σ H Q I ⟨r, env, st, Q', R, Re, w, kp⟩ => (pts_one (snd L T k e2 y2 (good_blk G.toGood) a10).t).run pins s σ H Q I ⟨r, env, st, Q', _, R, Re, w, kp, xw0⟩⟩
      | _ => cases h4
    | _ => cases h4
  · exact s_asgT he hg h3 (.inr h4) hform
section
variable {T : Tab} {N : List Str} {sc : Scope} {cm : Bool} {s : Stmt}
theorem ok_asg {t : Tg} {e : E} (h : okS T N sc cm (.asg t e) s = true) : ∃ tg ex p, s = .Assign [tg] ex p ∧ okTg T N sc cm t tg = true ∧ okE T N sc cm e ex = true ∧ (isTupE tg = false ∨ isTupE ex = false) ∧ ((noComp ex = true ∨ okLcN sc p.line tg ex = true) ∨ isNm tg = false) := by
  unfold okS at h
  split at h
  · simp only [Bool.and_eq_true, Bool.or_eq_true, Bool.not_eq_true'] at h
    obtain ⟨⟨⟨h1, h2⟩, h3⟩, h4⟩ := h
    exact ⟨_, _, _, rfl, h1, h2, h3, h4⟩
  · cases h
theorem ok_par {i j : Nat} {es : Es} (h : okS T N sc cm (.par i j es) s = true) : False := by
  unfold okS at h
  split at h
  · simp at h
  · cases h
theorem ok_aug {o : Bop} {t : Tg} {e : E} (h : okS T N sc cm (.aug o t e) s = true) : ∃ tg ex p, s = .AugAssign tg o.op ex p ∧ okAug o = true ∧ okE T N sc cm e ex = true ∧ okAugT T N sc cm t tg = true := by
  unfold okS at h
  split at h
  · simp only [Bool.and_eq_true, decide_eq_true_eq] at h
    obtain ⟨⟨⟨h1, h2⟩, h3⟩, h4⟩ := h
    subst h1
    exact ⟨_, _, _, rfl, h2, h3, h4⟩
  · cases h
theorem ok_ex {e : E} (h : okS T N sc cm (.ex e) s = true) : ∃ ex p, s = .Expr ex p ∧ okE T N sc cm e ex = true ∧ noComp ex = true := by
  unfold okS at h
  split at h
  · rw [Bool.and_eq_true] at h
    exact ⟨_, _, rfl, h.1, h.2⟩
  · cases h
theorem ok_ret {e : E} (h : okS T N sc cm (.ret e) s = true) : ∃ ex p, s = .Return (some ex) p ∧ okE T N sc cm e ex = true := by
  unfold okS at h
  split at h
  · exact ⟨_, _, rfl, h⟩
  · cases h
theorem ok_ret0 (h : okS T N sc cm .ret0 s = true) : ∃ p, s = .Return none p := by
  unfold okS at h
  split at h
  · exact ⟨_, rfl⟩
  · cases h
theorem ok_ite {c : E} {a b : Ss} (h : okS T N sc cm (.ite c a b) s = true) : ∃ ex xs ys p, s = .If ex xs ys p ∧ okE T N sc cm c ex = true ∧ okSs T N sc cm a xs = true ∧ okSs T N sc cm b ys = true := by
  unfold okS at h
  split at h
  · simp only [Bool.and_eq_true] at h
    exact ⟨_, _, _, _, rfl, h.1.1, h.1.2, h.2⟩
  · cases h
theorem ok_for {t : DL.T} {it : DL.It} {body : Ss} (h : okS T N sc cm (.for_ t it body) s = true) : ∃ tg iter xs p, s = .For tg iter xs [] p ∧ cm = true ∧ okT N sc t tg = true ∧ okIt T N sc cm it iter = true ∧ noSet iter = true ∧ (itTup it = false ∨ isTupE tg = true) ∧ okSs T N sc cm body xs = true := by
  unfold okS at h
  split at h
  · simp only [Bool.and_eq_true, Bool.or_eq_true, Bool.not_eq_true'] at h
    obtain ⟨⟨⟨⟨⟨h1, h2⟩, h3⟩, h4⟩, h5⟩, h6⟩ := h
    exact ⟨_, _, _, _, rfl, h1, h2, h3, h4, h5, h6⟩
  · cases h
theorem ok_while {c : E} {body : Ss} (h : okS T N sc cm (.while_ c body) s = true) : ∃ ex xs p, s = .While ex xs [] p ∧ cm = true ∧ okE T N sc cm c ex = true ∧ okSs T N sc cm body xs = true := by
  unfold okS at h
  split at h
  · simp only [Bool.and_eq_true] at h
    exact ⟨_, _, _, rfl, h.1.1, h.1.2, h.2⟩
  · cases h
theorem ok_brk (h : okS T N sc cm .brk s = true) : ∃ p, s = .Break p := by
  unfold okS at h
  split at h
  · exact ⟨_, rfl⟩
  · cases h
theorem ok_cont (h : okS T N sc cm .cont s = true) : ∃ p, s = .Continue p := by
  unfold okS at h
  split at h
  · exact ⟨_, rfl⟩
  · cases h
theorem ok_pass (h : okS T N sc cm .pass s = true) : ∃ p, s = .Pass p := by
  unfold okS at h
  split at h
  · exact ⟨_, rfl⟩
  · cases h
theorem ok_tryN {body : Ss} (h : okS T N sc cm (.try_ body .nil) s = true) : False := by
  unfold okS at h
  split at h
  · rename_i e1; cases e1
  · cases h
theorem ok_del {a i : E} (h : okS T N sc cm (.del a i) s = true) : False := by
  unfold okS at h
  cases h
end
theorem s_aug {L : Lib} {T : Tab} {k : Nat} {X : Cx} {sc : Scope} {W : WX} {cm : Bool} {o : Bop} {t : Tg} {e : E} {tg ex : Expr} {p : Pos} (G : GoodS L T k X sc W cm) (h2 : okAug o = true) (h3 : okE T X.N sc cm e ex = true) (h4 : okAugT T X.N sc cm t tg = true) :
    PS X (.AugAssign tg o.op ex p) (rdS (ctOf X) L W (.aug o t e)) := by
  unfold okAugT at h4
  split at h4
  · split at h4
    · simp only [Bool.and_eq_true, decide_eq_true_eq] at h4
      exact s_augN G.toGood h2 h4.1 h4.2 (snd L T k e ex G.toGood h3).v
    · cases h4
  · split at h4
    · simp only [Bool.and_eq_true, decide_eq_true_eq] at h4
      exact s_augIx G.un h2 h4.2 (snd L T k _ _ G.toGood h4.1.1).v (snd L T k _ _ G.toGood h4.1.2).v (snd L T k e ex G.toGood h3).v
    · cases h4
  · cases h4
theorem s_asg {L : Lib} {T : Tab} {k : Nat} {X : Cx} {sc : Scope} {W : WX} {cm : Bool} {t : Tg} {e : E} {tg ex : Expr} {p : Pos} (G : GoodS L T k X sc W cm) (hk : X.env.scope.kind = .function) (h1 : okTg T X.N sc cm t tg = true) (h2 : okE T X.N sc cm e ex = true)
    (h3 : isTupE tg = false ∨ isTupE ex = false) (h4 : (noComp ex = true ∨ okLcN sc p.line tg ex = true) ∨ isNm tg = false) : PS X (.Assign [tg] ex p) (rdS (ctOf X) L W (.asg t e)) := by
  cases t with
  | t tt =>
    cases tt with
    | v i =>
      have h1 : okT X.N sc (.v i) tg = true := h1
      have hn : isNm tg = true := by cases tg <;> first | rfl | cases h1
      exact s_asgAll G hk h1 (.inr (.inl hn)) (sg_v G.toGood h1) h2 h3 h4
    | tup ts =>
      have h1 : (cm && okT X.N sc (.tup ts) tg) = true := h1
      simp only [Bool.and_eq_true] at h1
      have hn : isTupE tg = true := by cases tg <;> first | rfl | cases h1.2
      exact s_asgAll G hk h1.2 (.inl hn) (sg_t rfl G.nd G.so G.fn (G.calm h1.1).1 _ tg h1.2) h2 h3 h4
  | ix a i =>
    cases tg with
    | Subscript x y p2 =>
      have h1 : (okE T X.N sc cm a x && okE T X.N sc cm i y && noSlice y) = true := h1
      simp only [Bool.and_eq_true] at h1
      exact s_asgIx G.un h1.2 (snd L T k a x G.toGood h1.1.1).v (snd L T k i y G.toGood h1.1.2).v (snd L T k e ex G.toGood h2).v
    | _ => cases h1
  | fld _ _ => cases h1
mutual
theorem sndS (L : Lib) (T : Tab) (k : Nat) : ∀ (s : S) {X : Cx} {sc : Scope} {W : WX} {cm : Bool} (x : Stmt), GoodS L T k X sc W cm → X.env.scope.kind = .function → okS T X.N sc cm s x = true → PS X x (rdS (ctOf X) L W s)
  | .asg t e, X, sc, W, cm, x, G, hk, h => by
    obtain ⟨tg, ex, p, rfl, h1, h2, h3, h4⟩ := ok_asg h
    exact s_asg G hk h1 h2 h3 h4
  | .par i j es, X, sc, W, cm, x, G, hk, h => (ok_par h).elim
  | .aug o t e, X, sc, W, cm, x, G, hk, h => by
    obtain ⟨tg, ex, p, rfl, h2, h3, h4⟩ := ok_aug h
    exact s_aug G h2 h3 h4
  | .ex e, X, sc, W, cm, x, G, hk, h => by
    obtain ⟨ex, p, rfl, h1, h2⟩ := ok_ex h
    exact s_ex h2 (snd L T k e ex G.toGood h1).v
  | .ret e, X, sc, W, cm, x, G, hk, h => by
    obtain ⟨ex, p, rfl, h1⟩ := ok_ret h
    exact s_ret (snd L T k e ex G.toGood h1).v
  | .ret0, X, sc, W, cm, x, G, hk, h => by
    obtain ⟨p, rfl⟩ := ok_ret0 h
    exact s_ret0
  | .ite c a b, X, sc, W, cm, x, G, hk, h => by
    obtain ⟨ex, xs, ys, p, rfl, h1, h2, h3⟩ := ok_ite h
    exact s_if (snd L T k c ex G.toGood h1).t (sndSs L T k a xs G hk h2) (sndSs L T k b ys G hk h3)
  | .for_ t it body, X, sc, W, cm, x, G, hk, h => by
    obtain ⟨tg, iter, xs, p, rfl, h1, h2, h3, h4, h5, h6⟩ := ok_for h
    exact s_for (G.po h1) (G.calm h1).1 h4 (sndIt L T k it tg iter G.toGood h3 h5) (sg_t rfl G.nd G.so G.fn (G.calm h1).1 _ tg h2) (sndSs L T k body xs G hk h6)
  | .while_ c body, X, sc, W, cm, x, G, hk, h => by
    obtain ⟨ex, xs, p, rfl, h1, h2, h3⟩ := ok_while h
    exact s_while (G.po h1) (snd L T k c ex G.toGood h2).t (sndSs L T k body xs G hk h3)
  | .brk, X, sc, W, cm, x, G, hk, h => by
    obtain ⟨p, rfl⟩ := ok_brk h
    exact s_brk
  | .cont, X, sc, W, cm, x, G, hk, h => by
    obtain ⟨p, rfl⟩ := ok_cont h
    exact s_cont
  | .pass, X, sc, W, cm, x, G, hk, h => by
    obtain ⟨p, rfl⟩ := ok_pass h
    exact s_pass
  | .raise c es, X, sc, W, cm, x, G, hk, h => by
    obtain ⟨x, p1, p2, p, rfl, h1, h2, h3, h4, h5, rfl⟩ := ok_raise h
    exact s_raise G.toGood h1 h2 (gl_of G.so h3) (okNm_of h4).1 (by simpa using h5)
  | .try_ body .nil, X, sc, W, cm, x, G, hk, h => (ok_tryN h).elim
  | .try_ body (.cons c n suite hs), X, sc, W, cm, x, G, hk, h => by
    obtain ⟨b, x, p1, y, ys, p2, p, rfl, rfl, rfl, h1, h2, h3, h4, h5, h6, h7⟩ := ok_try h
    exact s_try G h2 (gl_of G.so h3) (okNm_of h4).1 (by simpa using h5) (fun W' pn xe G' => sndSs L T k body b G' hk h6) (fun a pn => sndSs L T k suite (y :: ys) (good_suite G) hk h7)
  | .del _ _, X, sc, W, cm, x, G, hk, h => (ok_del h).elim
theorem sndSs (L : Lib) (T : Tab) (k : Nat) : ∀ (s : Ss) {X : Cx} {sc : Scope} {W : WX} {cm : Bool} (x : List Stmt), GoodS L T k X sc W cm → X.env.scope.kind = .function → okSs T X.N sc cm s x = true → PSs X x (rdSs (ctOf X) L W s)
  | .nil, X, sc, W, cm, x, G, hk, h => by
    cases x with
    | nil => exact ss_nil
    | cons _ _ => cases h
  | .stop ss, X, sc, W, cm, x, G, hk, h => pssI (sndSs L T k ss x G hk h) fun D σ H ⟨r, env, st, P, R, Re, w, kp⟩ => ⟨r, env, st, P, R, Re, w.go, kp⟩
  | .cons s ss, X, sc, W, cm, x, G, hk, h => by
    cases x with
    | nil => cases h
    | cons x xs =>
      have h : (okS T X.N sc cm s x && okSs T X.N sc cm ss xs) = true := h
      simp only [Bool.and_eq_true] at h
      exact ss_cons (sndS L T k s x G hk h.1) (sndSs L T k ss xs G hk h.2)
end
end DL

set_option maxHeartbeats 1000000
/-! DLGc: what a call leaves behind in the store is forgotten; lists that it hands out are data from then on. -/
namespace DL
open PySem PySem.Spec PyProof.Rows L2
mutual
/-- it names no place behind the first n -/
def Clo (n : Nat) : D → Prop
  | .loc m => m < n
  | .tup xs => Clos n xs
  | .lst xs => Clos n xs
  | _ => True
def Clos (n : Nat) : List D → Prop
  | [] => True
  | x :: xs => Clo n x ∧ Clos n xs
end
def CloC (n : Nat) : Cell → Prop
  | .lst xs => Clos n xs
  | .dct _ kvs => ∀ p ∈ kvs, Clo n p.2
  | .obj _ fs => ∀ p ∈ fs, Clo n p.2
def CloS (n : Nat) (st : Sto) : Prop := ∀ c ∈ st, CloC n c
mutual
/-- places behind the first n that hold lists: as data -/
inductive Frz (n : Nat) (st : Sto) : D → D → Prop
  | same (d : D) : Frz n st d d
  | loc {m : Nat} {xs ys : List D} : n ≤ m → st[m]? = some (.lst xs) → Frzs n st xs ys → Frz n st (.loc m) (.lst ys)
  | tup {xs ys : List D} : Frzs n st xs ys → Frz n st (.tup xs) (.tup ys)
  | lst {xs ys : List D} : Frzs n st xs ys → Frz n st (.lst xs) (.lst ys)
inductive Frzs (n : Nat) (st : Sto) : List D → List D → Prop
  | same (d : List D) : Frzs n st d d
  | cons {x y : D} {xs ys : List D} : Frz n st x y → Frzs n st xs ys → Frzs n st (x :: xs) (y :: ys)
end
inductive Gc (n : Nat) (Q : D → Sto → Prop) (d : D) (st : Sto) : Prop
  | now (h : Q d st)
  | drop (d' : D) (n' : Nat) (hn : n ≤ n') (hf : Frz n' st d d') (hc : Clo n' d') (hs : CloS n' (st.take n')) (h : Q d' (st.take n'))
inductive GcX (n : Nat) (X : EX) (x : Xc) (st : Sto) : Prop
  | now (h : X x st)
  | drop (n' : Nat) (hn : n ≤ n') (hf : ∀ p ∈ x.fs, Clo n' p.2) (hs : CloS n' (st.take n')) (h : X x (st.take n'))

mutual
theorem Clo.of_pure (n : Nat) : ∀ {d : D}, D.pure d = true → Clo n d
  | .non, _ | .bl _, _ | .int _, _ | .str _, _ => trivial
  | .tup xs, h => Clos.of_pure n (show D.pures xs = true from by simpa [D.pure] using h)
  | .lst xs, h => Clos.of_pure n (show D.pures xs = true from by simpa [D.pure] using h)
  | .loc _, h | .gl _, h | .ty _, h | .scr _, h | .kt _, h => by simp [D.pure] at h
theorem Clos.of_pure (n : Nat) : ∀ {d : List D}, D.pures d = true → Clos n d
  | [], _ => trivial
  | x :: xs, h => by
    rw [D.pures, Bool.and_eq_true] at h
    exact ⟨Clo.of_pure n h.1, Clos.of_pure n h.2⟩
end
mutual
theorem Clo.mono {n m : Nat} (h : n ≤ m) : ∀ {d : D}, Clo n d → Clo m d
  | .loc _, q => Nat.lt_of_lt_of_le q h
  | .tup xs, q => Clos.mono h (d := xs) q
  | .lst xs, q => Clos.mono h (d := xs) q
  | .non, _ | .bl _, _ | .int _, _ | .str _, _ | .gl _, _ | .ty _, _ | .scr _, _ | .kt _, _ => trivial
theorem Clos.mono {n m : Nat} (h : n ≤ m) : ∀ {d : List D}, Clos n d → Clos m d
  | [], _ => trivial
  | x :: xs, q => ⟨Clo.mono h q.1, Clos.mono h q.2⟩
end
theorem CloS.mono {n m : Nat} (h : n ≤ m) {st : Sto} (q : CloS n st) : CloS m st := fun c hc => by
  have := q c hc
  cases c with
  | lst xs => exact Clos.mono h this
  | dct t kvs => exact fun p hp => Clo.mono h (this p hp)
  | obj c fs => exact fun p hp => Clo.mono h (this p hp)
section
variable {C : Ct} {r r' : Lay} {H H' : Hp} {n : Nat}
mutual
theorem RD.clo : ∀ {d : D} {v : V}, RD C r H d v → Clo r.1.length d
  | _, _, .non => trivial
  | _, _, .bl b => trivial
  | _, _, .int i => trivial
  | _, _, .str s => trivial
  | _, _, .tup h t => RDs.clo t
  | _, _, .lst h t => RDs.clo t
  | _, _, .loc h => (List.getElem?_eq_some_iff.mp h).1
  | _, _, .gl h => trivial
  | _, _, .ty x => trivial
  | _, _, .scr xs h => trivial
  | _, _, .kt xs h => trivial
theorem RDs.clo : ∀ {d : List D} {v : List V}, RDs C r H d v → Clos r.1.length d
  | _, _, .nil => trivial
  | _, _, .cons h t => ⟨RD.clo h, RDs.clo t⟩
end
theorem RFs.clo : ∀ {d : List (String × D)} {v : List (Str × V)}, RFs C r H d v → ∀ p ∈ d, Clo r.1.length p.2
  | _, _, .nil => fun _ m => nomatch m
  | _, _, .cons h t => fun p m => by
    rcases List.mem_cons.mp m with e | m
    · subst e; exact h.clo
    · exact RFs.clo t p m
theorem RKs.clo {κ : Type} {p : κ → D → Prop} : ∀ {d : List (D × D)} {v : List (κ × V)}, RKs p C r H d v → ∀ q ∈ d, Clo r.1.length q.2
  | _, _, .nil => fun _ m => nomatch m
  | _, _, .cons _ h t => fun p m => by
    rcases List.mem_cons.mp m with e | m
    · subst e; exact h.clo
    · exact RKs.clo t p m
theorem CellR.clo {a : Addr} {c : Cell} (h : CellR C r H a c) : CloC r.1.length c := by
  cases c with
  | lst xs => obtain ⟨vs, _, q⟩ := h; exact q.clo
  | dct t kvs => cases t <;> (obtain ⟨vs, _, q⟩ := h; exact q.clo)
  | obj c fs => obtain ⟨_, _, vs, _, _, q⟩ := h; exact q.clo
theorem Rel.clo {st : Sto} (R : Rel C r st H) : CloS st.length st := fun c hc => by
  obtain ⟨i, hi, e⟩ := List.mem_iff_getElem.mp hc
  obtain ⟨a, h1, h2⟩ := R.at_ (List.getElem?_eq_getElem hi)
  rw [← R.len, ← e]
  exact h2.clo
theorem crop_off {a : Addr} (h : r.off a) : Lay.off (r.1.take n, r.2) a := ⟨fun m => h.1 (List.mem_of_mem_take m), h.2⟩
mutual
theorem RD.crop : ∀ {d : D} {v : V}, Clo n d → RD C r H d v → RD C (r.1.take n, r.2) H d v
  | _, _, _, .non => .non
  | _, _, _, .bl b => .bl b
  | _, _, _, .int i => .int i
  | _, _, _, .str s => .str s
  | _, _, q, .tup h t => .tup ⟨h.1, crop_off h.2⟩ (RDs.crop (show Clos n _ from q) t)
  | _, _, q, .lst h t => .lst ⟨h.1, crop_off h.2⟩ (RDs.crop (show Clos n _ from q) t)
  | _, _, q, .loc h => .loc (by
    show (r.1.take n)[_]? = _
    rw [List.getElem?_take_of_lt (show _ < n from q)]
    exact h)
  | _, _, _, .gl h => .gl h
  | _, _, _, .ty x => .ty x
  | _, _, _, .scr xs h => .scr xs (h.elim (fun h => .inl ⟨h.1, crop_off h.2⟩) .inr)
  | _, _, _, .kt xs h => .kt xs h
theorem RDs.crop : ∀ {d : List D} {v : List V}, Clos n d → RDs C r H d v → RDs C (r.1.take n, r.2) H d v
  | _, _, _, .nil => .nil
  | _, _, q, .cons h t => .cons (RD.crop q.1 h) (RDs.crop q.2 t)
end
theorem RFs.crop : ∀ {d : List (String × D)} {v : List (Str × V)}, (∀ p ∈ d, Clo n p.2) → RFs C r H d v → RFs C (r.1.take n, r.2) H d v
  | _, _, _, .nil => .nil
  | _, _, q, .cons h t => .cons (h.crop (q _ List.mem_cons_self)) (RFs.crop (fun p m => q p (List.mem_cons_of_mem _ m)) t)
theorem RKs.crop {κ : Type} {p : κ → D → Prop} : ∀ {d : List (D × D)} {v : List (κ × V)}, (∀ q ∈ d, Clo n q.2) → RKs p C r H d v → RKs p C (r.1.take n, r.2) H d v
  | _, _, _, .nil => .nil
  | _, _, q, .cons k h t => .cons k (h.crop (q _ List.mem_cons_self)) (RKs.crop (fun p m => q p (List.mem_cons_of_mem _ m)) t)
theorem CellR.crop {a : Addr} {c : Cell} (q : CloC n c) (h : CellR C r H a c) : CellR C (r.1.take n, r.2) H a c := by
  cases c with
  | lst xs => obtain ⟨vs, h, t⟩ := h; exact ⟨vs, h, t.crop q⟩
  | dct t kvs => cases t <;> (obtain ⟨vs, h, t⟩ := h; exact ⟨vs, h, t.crop q⟩)
  | obj c fs => obtain ⟨A, dx, vs, g, h, t⟩ := h; exact ⟨A, dx, vs, g, h, t.crop q⟩
theorem Rel.crop {st : Sto} (R : Rel C r st H) (q : CloS n (st.take n)) : Rel C (r.1.take n, r.2) (st.take n) H where
  len := by show (r.1.take n).length = _; rw [List.length_take, List.length_take, R.len]
  nd := R.nd.sublist (List.take_sublist _ _)
  hid := fun a m => ⟨fun z => (R.hid a m).1 (List.mem_of_mem_take z), (R.hid a m).2⟩
  cells := fun i c a h1 h2 => by
    have hi : i < n := by
      have := (List.getElem?_eq_some_iff.mp h1).1
      rw [List.length_take] at this
      omega
    have h2 : (r.1.take n)[i]? = some a := h2
    have hc : CloC n c := q c (List.mem_of_getElem? h1)
    rw [List.getElem?_take_of_lt hi] at h1 h2
    exact (R.cells i c a h1 h2).crop hc
theorem Fut.crop (f : Fut r H r' H') (h : r.1.length ≤ n) : Fut r H (r'.1.take n, r'.2) H' where
  keep := f.keep
  ext := by
    obtain ⟨t, e⟩ := f.ext
    show r.1 <+: r'.1.take n
    rw [← e, List.take_append]
    rw [List.take_of_length_le h]
    exact ⟨_, rfl⟩
  hid := f.hid
  new := fun a m => f.new a (List.mem_of_mem_take m)
mutual
theorem RD.frz {st : Sto} (R : Rel C r st H) : ∀ {d d' : D} {v : V}, Frz n st d d' → Clo n d' → RD C r H d v → RD C (r.1.take n, r.2) H d' v
  | _, _, _, .same d, q, h => h.crop q
  | _, _, _, .loc hm e t, q, h => by
    cases h with
    | @loc m a hr =>
      obtain ⟨vs, k1, k2⟩ := R.cells _ _ a e hr
      refine .lst ⟨k1, fun z => ?_, fun z => (R.hid a z).1 (List.mem_of_getElem? hr)⟩ (RDs.frz R t (show Clos n _ from q) k2)
      obtain ⟨i, hi, e2⟩ := List.mem_iff_getElem.mp (show a ∈ r.1.take n from z)
      rw [List.length_take] at hi
      have e3 : r.1[i]? = some a := by
        rw [List.getElem_take] at e2
        rw [List.getElem?_eq_getElem (by omega), e2]
      have := R.get_inj e3 hr
      omega
  | _, _, _, .tup t, q, h => by
    cases h with
    | tup h0 h1 => exact .tup ⟨h0.1, crop_off h0.2⟩ (RDs.frz R t (show Clos n _ from q) h1)
  | _, _, _, .lst t, q, h => by
    cases h with
    | lst h0 h1 => exact .lst ⟨h0.1, crop_off h0.2⟩ (RDs.frz R t (show Clos n _ from q) h1)
theorem RDs.frz {st : Sto} (R : Rel C r st H) : ∀ {d d' : List D} {v : List V}, Frzs n st d d' → Clos n d' → RDs C r H d v → RDs C (r.1.take n, r.2) H d' v
  | _, _, _, .same d, q, h => h.crop q
  | _, _, _, .cons a t, q, h => by
    cases h with
    | cons h0 h1 => exact .cons (RD.frz R a q.1 h0) (RDs.frz R t q.2 h1)
end
end
end DL

set_option maxHeartbeats 1000000
/-! DLFn: a def keeps its promise. -/
namespace DL
open PySem PySem.Spec PyProof.Rows L2
theorem re_start {C : Ct} {r : Lay} {H : Hp} {N : List Str} {d : Fd} {ds : List D} {vs : List V} (hn : d.ns.length = N.length) (q : RDs C r H ds vs) : RE C r H (d.env ds) (L2.start N vs) := by
  have hl := q.length
  refine ⟨?_, fun i x e => ?_⟩
  · unfold Fd.env L2.start
    rw [List.length_append, List.length_append, List.length_map, List.length_map, List.length_replicate, List.length_replicate, hn, hl]
  · unfold Fd.env at e
    unfold L2.start
    by_cases hi : i < ds.length
    · rw [List.getElem?_append_left (by simpa using hi), List.getElem?_map] at e
      cases e2 : ds[i]? with
      | none => rw [e2] at e; cases e
      | some y =>
        rw [e2] at e
        cases e
        obtain ⟨v, h1, h2⟩ := q.get e2
        refine ⟨v, ?_, h2⟩
        rw [List.getElem?_append_left (by simpa [← hl] using hi), List.getElem?_map, h1]
        rfl
    · rw [List.getElem?_append_right (by simpa using hi), List.getElem?_replicate] at e
      split at e <;> cases e
section
variable {P : Program} {w : World} {K : PySem.W.Frag} {mg : Str → Option Value} {base : Heap} {L : Lib} {T : Tab} {k : Nat}
theorem good_fn {N ps : List Str} {qual : Str} {scope : Scope} {f : Addr} {cd : Value} {A : Around} {outer : List Env} {s : Shared} {H : Hp} {E : XK} (SC : FnScope N ps scope) (lib : LibOk ⟨K, mg, P, w⟩ L T k base)
    (hr : Room k (A.deeper (envOfC qual scope s.heap.objs.size f cd))) : GoodS L T k (cxOf (L2.CX P w) P w K mg base N qual scope f cd A outer s H E) scope (fun cls d _ H' => E cls d H') true where
  nd := SC.nd
  so := ScOk.refl
  fn := fun _ _ => rfl
  calm := fun _ => ⟨rfl, hr⟩
  un := by have := hr.un; show (A.deeper (envOfC qual scope s.heap.objs.size f cd)).units + 65 < cLine; omega
  tk := takes_of rfl rfl rfl rfl
  lib := lib
  po := fun _ => passes_of rfl
  stk := rfl
  frm := rfl
theorem gc_rd {C : Ct} {r r' : Lay} {H H' : Hp} {st st' : Sto} {Q' : D → Sto → Prop} {Q : VK} {d : D} {v : V} (k : Kp C r H Q' Q) (f : Fut r H r' H') (R0 : Rel C r st H) (R : Rel C r' st' H') (q : RD C r' H' d v) (h : Gc st.length Q' d st') : Q v H' := by
  rcases h with h | ⟨d', n', hn, hf, hc, hs, h⟩
  · exact k r' st' H' d v f R q h
  · exact k _ _ H' d' v (f.crop (by rw [R0.len]; exact hn)) (R.crop hs) (RD.frz R hf hc q) h
theorem XR.crop {C : Ct} {r : Lay} {H : Hp} {n : Nat} {x : Xc} {cls : Value} {dx : Option Addr} (h : XR C r H x cls dx) (q : ∀ p ∈ x.fs, Clo n p.2) : XR C (r.1.take n, r.2) H x cls dx := by
  obtain ⟨A, h1, h2, h3⟩ := h
  refine ⟨A, h1, h2, ?_⟩
  rcases h3 with h3 | ⟨d, vs, e1, e2, t⟩
  · exact .inl h3
  · exact .inr ⟨d, vs, e1, e2, t.crop q⟩
/-- THE RULE -/
theorem def_ok {x : Str} {params : Arguments} {body : List Stmt} {scope : Scope} {f : Addr} {fdat : FuncData} {N ps : List Str} {d : Fd} {S : List D → Sto → (D → Sto → Prop) → EX → Prop} (F : FunD K x x params body scope [] [] f fdat) (SC : FnScope N ps scope)
    (hn : d.ns.length = N.length) (lib : LibOk ⟨K, mg, P, w⟩ L T k base) (ok : okSs T N scope true d.body body = true)
    (vc : ∀ ds st Q X, CloS st.length st → Clos st.length ds → S ds st Q X → d.run L ds st (Gc st.length Q) (GcX st.length X)) :
    FnOk P w K mg base (L2.CX P w) (k + 1) f fdat ps (spD ⟨K, mg, P, w⟩ S ps.length) := by
  refine F.ok SC (fun vs H Q E h => h.1) fun cdv A outer s H vs Q E hr h => ⟨rdSs ⟨K, mg, P, w⟩ L (fun cls d _ H' => E cls d H') d.body, ?_, ?_⟩
  · exact sndSs L T k d.body body (good_fn SC lib hr) SC.kind ok
  · obtain ⟨hl, r, st, ds, Q', X', R, qd, hS, kQ, kX⟩ := h
    refine ⟨r, d.env ds, st, _, R, re_start hn qd, vc ds st Q' X' R.clo (by rw [← R.len]; exact qd.clo) hS, ?_⟩
    exact {
      nx := fun r' st' H' env' σ' f R' Re' q => gc_rd kQ f R R' .non q
      bk := fun _ _ _ _ _ _ _ _ q => q.elim
      ct := fun _ _ _ _ _ _ _ _ q => q.elim
      rt := fun r' st' H' d v f R' qv q => gc_rd kQ f R R' qv q
      ex := fun r' st' H' env' σ' x cls dx f R' Re' qx q => by
        rcases q with q | ⟨n', h1, h2, h3, q⟩
        · exact kX r' st' H' x cls dx f R' qx q
        · exact kX _ _ H' x cls dx (f.crop (by rw [R.len]; exact h1)) (R'.crop h3) (qx.crop h2) q }
end
end DL

set_option maxHeartbeats 1000000
/-! DLEnd: the table of what is proved; the law's end. -/
namespace DL
open PySem PySem.Spec PyProof.Rows L2
theorem all_nil {α : Type} {p : α → Prop} : ∀ x ∈ ([] : List α), p x := fun _ m => nomatch m
theorem all_cons {α : Type} {p : α → Prop} {a : α} {l : List α} (h : p a) (t : ∀ x ∈ l, p x) : ∀ x ∈ a :: l, p x := fun x m => by
  rcases List.mem_cons.mp m with e | m
  · exact e ▸ h
  · exact t x m
section
variable {P : Program} {w : World} {K : PySem.W.Frag} {mg : Str → Option Value} {base h : Heap} {L : Lib} {T : Tab}
/-- a def that may be called -/
def CallOk (C : Ct) (L : Lib) (base : Heap) (k : Nat) (f : String) : Prop :=
  ∃ a fd ps, C.mg (Str.ofString f) = some (.ref a) ∧ PySem.W.keepIn C.K (.ref a) = true ∧ Binds C.K fd ps [] ∧ FnOk C.P C.w C.K C.mg base (L2.CX C.P C.w) k a fd ps (spD C (L.call f) ps.length) ∧ ∀ ds st Q X, L.call f ds st Q X → ds.length = ps.length
theorem CallOk.mono {C : Ct} {j k : Nat} {f : String} (h : CallOk C L base j f) (hjk : j ≤ k) : CallOk C L base k f :=
  let ⟨a, fd, ps, h1, h2, h3, h4, h5⟩ := h
  ⟨a, fd, ps, h1, h2, h3, h4.mono hjk, h5⟩
def GlobOk (C : Ct) (L : Lib) (x : String) : Prop := ∃ d u v, L.glob x = some d ∧ C.mg (Str.ofString x) = some u ∧ RelV v u ∧ ∀ (r : Lay) (H : Hp), RD C r H d v
def ExcOk (C : Ct) (L : Lib) (c : String) : Prop := L.exf c = some [] ∧ ∃ (A : Addr) (bm : List Value) (B n i : String), C.mg (Str.ofString c) = some (.ref A) ∧ PySem.W.keepIn C.K (.ref A) = true ∧ ExcBaseFacts B n i bm ∧ PySem.W.excIn C.K A bm n = true ∧
    PySem.W.subIn C.K (.ref A) (.type "BaseException") = some true ∧ PySem.W.typeIn C.K (.ref A) = some (.type "type")
def SubOk (C : Ct) (L : Lib) : Prop := ∀ c d b A B, L.sub c d = some b → C.mg (Str.ofString c) = some (.ref A) → C.mg (Str.ofString d) = some (.ref B) → PySem.W.exmOne C.K (.ref A) (.ref B) = some b
theorem mkLib {C : Ct} {k : Nat} (h1 : ∀ f ∈ T.fns, CallOk C L base k f) (h2 : ∀ x ∈ T.free, C.mg (Str.ofString x) = none) (h3 : ∀ c ∈ T.excs, ExcOk C L c) (h4 : SubOk C L) (h5 : ∀ x ∈ T.globs, GlobOk C L x) : LibOk C L T k base :=
  ⟨h1, h2, h3, h4, h5⟩
theorem glob_int {x : String} {i : Int} {t : Tok} (h1 : L.glob x = some (.int i)) (h2 : mg (Str.ofString x) = some (.int i t)) : GlobOk ⟨K, mg, P, w⟩ L x := ⟨_, _, .int i, h1, h2, ⟨t, rfl⟩, fun _ _ => .int i⟩
theorem glob_str {x z : String} {t : Tok} (h1 : L.glob x = some (.str z)) (h2 : mg (Str.ofString x) = some (.str (Str.ofString z) t)) : GlobOk ⟨K, mg, P, w⟩ L x := ⟨_, _, .str (Str.ofString z), h1, h2, ⟨t, rfl⟩, fun _ _ => .str z⟩
theorem glob_intF {x : String} {i : Int} (X : K.In h) (G : h.Ns mainGlobals mg) (c : (He.Fa.int (Str.ofString x) i).ok K = true) (h1 : L.glob x = some (.int i)) : GlobOk ⟨K, mg, P, w⟩ L x :=
  let ⟨_, e⟩ := He.int_ok X G c
  glob_int h1 e
theorem glob_strF {x z : String} (X : K.In h) (G : h.Ns mainGlobals mg) (c : (He.Fa.str (Str.ofString x) (Str.ofString z)).ok K = true) (h1 : L.glob x = some (.str z)) : GlobOk ⟨K, mg, P, w⟩ L x :=
  let ⟨_, e⟩ := He.str_ok X G c
  glob_str h1 e
theorem exc_F {x : String} (X : K.In h) (G : h.Ns mainGlobals mg) (cg : (He.Fa.glo (Str.ofString x)).ok K = true) (c : (He.Fa.exc (Str.ofString x)).ok K = true) (h1 : L.exf x = some []) : ExcOk ⟨K, mg, P, w⟩ L x := by
  obtain ⟨e1, e2, e3, e4⟩ := He.exc_ok c
  exact ⟨h1, _, _, _, _, _, He.glo_ok X G cg, e2, PySem.F.excBase_ValueError, e1, e3, e4⟩
theorem call_ok {f : String} {st : Stmt} {a : Addr} {fd : FuncData} {N ps : List Str} {d : Fd} {k : Nat} (F : FunD K (Str.ofString f) (Str.ofString f) (defArgs st) (defBody st) (defScope st) [] [] a fd) (hm : mg (Str.ofString f) = some (.ref a)) (SC : FnScope N ps (defScope st)) (hn : d.ns.length = N.length)
    (lib : LibOk ⟨K, mg, P, w⟩ L T k base) (ok : okSs T N (defScope st) true d.body (defBody st) = true)
    (vc : ∀ ds st Q X, CloS st.length st → Clos st.length ds → L.call f ds st Q X → d.run L ds st (Gc st.length Q) (GcX st.length X))
    (hl : ∀ ds st Q X, L.call f ds st Q X → ds.length = ps.length)
    (hb : ∀ (kV doc pm : Value) (an : Option Addr) (cdv ct : Value) (us : List Value), us.length = ps.length → bindArgs (PySem.W.fnOf (Str.ofString f) (Str.ofString f) (defArgs st) (defBody st) (defScope st) .none kV doc pm an cdv ct) ⟨us, []⟩ = pure (ps.zip us)) :
    CallOk ⟨K, mg, P, w⟩ L base (k + 1) f :=
  ⟨a, fd, ps, hm, F.kp, F.bindsN hb, def_ok F SC hn lib ok vc, hl⟩
/-- a promise for the law's request -/
theorem law_sp {C : Ct} {S : List D → Sto → (D → Sto → Prop) → EX → Prop} {H : Hp} {a : Addr} {ns : List Int} (hO : Only H) (hS : SqL C.K H a (ns.map V.int)) (h : S [.scr ns] [] (fun d _ => d = .bl true) (fun _ _ => False)) :
    spD C S 1 [.ref a] H (fun v _ => v = .bl true) fun _ _ _ => False := by
  refine ⟨rfl, ([], []), [], [.scr ns], _, _, ⟨rfl, List.nodup_nil, (fun _ m => nomatch m), fun n c a h1 h2 => (by cases h1)⟩, .cons (.scr ns ?_) .nil, h, fun r' st' H' d v _ _ q e => ?_, fun _ _ _ _ _ _ _ _ _ z => z⟩
  · rcases hS with hS | hS
    · rcases hO a with e | ⟨o, xs, e⟩
      · rcases hS with hS | ⟨o, hS⟩ <;> (rw [e] at hS; cases hS)
      · rcases hS with hS | ⟨o', hS⟩
        · rw [e] at hS; cases hS
        · exact .inl ⟨⟨o', hS⟩, by simp, by simp⟩
    · exact .inr hS
  · subst e; cases q; rfl
end
end DL
namespace DL
open PySem PySem.Spec PyProof.Rows L2
/-- what a def may let out, whatever the world -/
def CX1 : CXT := fun _ _ _ E _ _ => ∃ cls d H', E cls d H'
theorem fn_cx1 {P : Program} {w : World} {K : PySem.W.Frag} {mg : Str → Option Value} {base : Heap} {k : Nat} {f : Addr} {fd : FuncData} {ps : List Str} {sp : Sp} (F : FnOk P w K mg base (L2.CX P w) k f fd ps sp) : FnOk P w K mg base CX1 k f fd ps sp :=
  ⟨F.len, fun A outer s H args us vs Q E hr he hb hv hs => codeAny_mono (F.run A outer s H args us vs Q E hr he hb hv hs) fun r s' h => by
    cases r with
    | ok f => cases f <;> exact h
    | error e =>
      obtain ⟨a, B, H', cls, d, _, _, _, _, _, _, _, hE⟩ := h
      exact ⟨cls, d, H', hE⟩⟩
end DL

set_option maxHeartbeats 1000000
namespace K
open PySem PySem.Spec PyProof.Rows L2 DL
/-! ### rows of a whole number and a text -/
abbrev row (p : Int × String) : D := .tup [.int p.1, .str p.2]
abbrev Rw := Int × String
def ltP (a b : Rw) : Bool := decide (a.1 < b.1) || (decide (a.1 = b.1) && ltS a.2 b.2)
theorem ltS_str (s t : String) : PySem.W.dataLt (.str (Str.ofString s)) (.str (Str.ofString t)) = ltS s t := by
  rw [PySem.W.dataLt_str]
  unfold ltS
  rw [ofS_cps, ofS_cps]
theorem lt_row (a b : Rw) : PySem.W.dataLt (toP (row a)) (toP (row b)) = ltP a b := by
  show PySem.W.dataLt (.tuple [.int a.1, .str (Str.ofString a.2)]) (.tuple [.int b.1, .str (Str.ofString b.2)]) = _
  rw [PySem.W.dataLt_pair (by simp [PySem.W.alike]) (by simp [PySem.W.alike]), PySem.W.dataLt_int, ltS_str]
  unfold ltP
  simp only [PyData.eqv, beq_iff_eq]
  by_cases h : a.1 = b.1
  · rw [if_pos h]
    by_cases h2 : Str.ofString a.2 = Str.ofString b.2
    · rw [if_pos h2]
      have := ofS_inj h2
      simp [h, this, ltS]
    · rw [if_neg h2]
      simp [h]
  · rw [if_neg h]
    simp [h]
theorem lts_row (a b : Rw) : D.lts [.int a.1, .str a.2] [.int b.1, .str b.2] = some (ltP a b) := by
  simp only [D.lts, D.eqv, D.lt]
  unfold ltP
  by_cases h2 : a.2 = b.2
  · have : ltS a.2 b.2 = false := by rw [h2]; simp [ltS]
    by_cases h : a.1 = b.1 <;> simp [h, h2] <;> simp [ltS]
  · by_cases h : a.1 = b.1 <;> simp [h, h2]

def cs (s : String) : List Nat := s.toList.map Char.toNat
theorem cs_inj {s t : String} (h : cs s = cs t) : s = t := String.toList_inj.mp (map_toNat_inj h)
def leP (a b : Rw) : Bool := !ltP b a
theorem leP_iff (a b : Rw) : leP a b = true ↔ a.1 < b.1 ∨ (a.1 = b.1 ∧ cs a.2 ≤ cs b.2) := by
  have e : ltS b.2 a.2 = decide (cs b.2 < cs a.2) := rfl
  unfold leP ltP
  rw [e]
  have h2 : (cs a.2 ≤ cs b.2) ↔ ¬ (cs b.2 < cs a.2) := List.not_lt.symm
  rw [h2]
  by_cases h : b.1 < a.1
  · simp [h]; omega
  · by_cases h3 : b.1 = a.1
    · simp [h, h3]
    · simp [h, h3]; omega
theorem leP_total (a b : Rw) : (leP a b || leP b a) = true := by
  rw [Bool.or_eq_true, leP_iff, leP_iff]
  rcases Int.lt_trichotomy a.1 b.1 with h | h | h
  · exact .inl (.inl h)
  · rcases List.le_total (cs a.2) (cs b.2) with g | g
    · exact .inl (.inr ⟨h, g⟩)
    · exact .inr (.inr ⟨h.symm, g⟩)
  · exact .inr (.inl h)
theorem leP_trans (a b c : Rw) (h : leP a b = true) (h' : leP b c = true) : leP a c = true := by
  rw [leP_iff] at *
  rcases h with h | ⟨h, g⟩ <;> rcases h' with h' | ⟨h', g'⟩
  · exact .inl (by omega)
  · exact .inl (by omega)
  · exact .inl (by omega)
  · exact .inr ⟨by omega, List.le_trans g g'⟩
theorem leP_anti (a b : Rw) (h : leP a b = true) (h' : leP b a = true) : a = b := by
  rw [leP_iff] at *
  rcases h with h | ⟨h, g⟩ <;> rcases h' with h' | ⟨h', g'⟩
  · omega
  · omega
  · omega
  · exact Prod.ext h (cs_inj (List.le_antisymm g g'))
/-! ### sorted -/
def sortR (xs : List Rw) : List Rw := xs.mergeSort leP
theorem le_row (a b : Rw) : PySem.W.dataLe false toP (row a) (row b) = leP a b := by
  rw [PySem.W.dataLe_eq]
  show (!PySem.W.dataLt (toP (row b)) (toP (row a))) = _
  rw [lt_row]
  rfl
theorem sortD_row (xs : List Rw) : sortD (xs.map row) = (sortR xs).map row := by
  unfold sortD sortR
  rw [List.map_mergeSort]
  intro a _ b _
  exact (le_row a b).symm
theorem sortR_perm (xs : List Rw) : (sortR xs).Perm xs := List.mergeSort_perm _ _
theorem sortR_pw (xs : List Rw) : (sortR xs).Pairwise (fun a b => leP a b = true) := List.pairwise_mergeSort leP_trans leP_total xs
theorem sort_uniq {xs ys : List Rw} (h : xs.Perm ys) (h1 : xs.Pairwise (fun a b => leP a b = true)) (h2 : ys.Pairwise (fun a b => leP a b = true)) : xs = ys :=
  List.Perm.eq_of_pairwise (le := fun a b => leP a b = true) (fun a b _ _ h h' => leP_anti a b h h') h1 h2 h
theorem sortR_eq {xs ys : List Rw} (h : xs.Perm ys) : sortR xs = sortR ys := sort_uniq ((sortR_perm xs).trans (h.trans (sortR_perm ys).symm)) (sortR_pw xs) (sortR_pw ys)
theorem row_inj {a b : Rw} (h : row a = row b) : a = b := by
  injection h with h
  injection h with h1 h2
  injection h1 with h1
  injection h2 with h2
  injection h2 with h2
  exact Prod.ext h1 h2
theorem rows_pures : ∀ xs : List Rw, D.pures (xs.map row) = true
  | [] => rfl
  | x :: xs => by rw [List.map_cons, D.pures, rows_pures xs]; rfl
theorem rows_depths : ∀ xs : List Rw, D.depths (xs.map row) ≤ 1
  | [] => by simp [D.depths]
  | x :: xs => by
    rw [List.map_cons, D.depths]
    have := rows_depths xs
    have e : D.depth (row x) = 1 := rfl
    omega
theorem rows_cmp (xs : List Rw) : cmpD (.tup (xs.map row)) = true := by
  unfold cmpD
  rw [Bool.and_eq_true, decide_eq_true_eq]
  refine ⟨by simpa [D.pure] using rows_pures xs, ?_⟩
  rw [D.depth]
  have := rows_depths xs
  omega
theorem rows_cmpL (xs : List Rw) : cmpD (.lst (xs.map row)) = true := by
  unfold cmpD
  rw [Bool.and_eq_true, decide_eq_true_eq]
  refine ⟨by simpa [D.pure] using rows_pures xs, ?_⟩
  rw [D.depth]
  have := rows_depths xs
  omega
theorem row_cmp (x : Rw) : cmpD (row x) = true := rfl
theorem rows_srt {xs : List Rw} (h : xs.length ≤ 100000) : srtOk (xs.map row) := by
  refine ⟨rows_pures xs, by rw [List.length_map, sizeLine_eq]; omega, by have := rows_depths xs; omega, ?_, .inl ?_⟩
  · intro d hd d' hd'
    rw [List.map_map] at hd hd'
    obtain ⟨a, _, rfl⟩ := List.mem_map.mp hd
    obtain ⟨b, _, rfl⟩ := List.mem_map.mp hd'
    simp [toP, toPs, PySem.W.alike, PySem.W.alikeAll]
  · intro d hd
    rw [List.map_map] at hd
    obtain ⟨a, _, rfl⟩ := List.mem_map.mp hd
    exact ⟨_, _, rfl⟩
theorem eqv_row (a b : Rw) : D.eqv (row a) (row b) = decide (a = b) := by
  show (a.1 == b.1 && (a.2 == b.2 && true)) = _
  rw [Bool.eq_iff_iff]
  simp only [Bool.and_eq_true, beq_iff_eq, decide_eq_true_eq, and_true]
  exact ⟨fun ⟨h1, h2⟩ => Prod.ext h1 h2, fun h => by subst h; exact ⟨rfl, rfl⟩⟩
theorem eqvs_rows : ∀ xs ys : List Rw, D.eqvs (xs.map row) (ys.map row) = decide (xs = ys)
  | [], [] => rfl
  | [], _ :: _ => rfl
  | _ :: _, [] => rfl
  | x :: xs, y :: ys => by
    show (D.eqv (row x) (row y) && D.eqvs (xs.map row) (ys.map row)) = _
    rw [eqv_row, eqvs_rows xs ys, Bool.eq_iff_iff]
    simp
/-! ### differences of bags -/
/-- what one has more than other -/
def less : List Rw → List Rw → List Rw
  | [], _ => []
  | x :: xs, ys => if x ∈ ys then less xs (ys.erase x) else x :: less xs ys
theorem less_len : ∀ xs ys : List Rw, (less xs ys).length ≤ xs.length
  | [], _ => Nat.le_refl _
  | x :: xs, ys => by
    unfold less
    split
    · exact Nat.le_trans (less_len xs _) (Nat.le_succ _)
    · exact Nat.succ_le_succ (less_len xs ys)
theorem less_count (a : Rw) : ∀ xs ys : List Rw, (less xs ys).count a = xs.count a - ys.count a
  | [], ys => by simp [less]
  | x :: xs, ys => by
    unfold less
    split
    · next h =>
      rw [less_count a xs (ys.erase x), List.count_erase, List.count_cons]
      have h1 : 1 ≤ ys.count x := List.one_le_count_iff.mpr h
      by_cases e : x == a
      · have : x = a := eq_of_beq e
        subst this
        simp only [beq_self_eq_true, if_true]
        omega
      · have : (a == x) = false := by
          rw [Bool.eq_false_iff]; intro z; exact e (by rw [eq_of_beq z]; exact beq_self_eq_true _)
        simp only [e, this, Bool.false_eq_true, if_false]
        omega
    · next h =>
      rw [List.count_cons, List.count_cons, less_count a xs ys]
      have h1 : ys.count x = 0 := List.count_eq_zero.mpr h
      by_cases e : x == a
      · have : x = a := eq_of_beq e
        subst this
        simp only [beq_self_eq_true, if_true]
        omega
      · simp only [e, Bool.false_eq_true, if_false]
        omega
end K

set_option maxHeartbeats 1000000
namespace DL
open PySem PySem.Spec PyProof.Rows L2
def b_is_integer : Fd := ⟨["value", "low", "high"], ["value", "low", "high"], (.cons (.ret (.and_ (.cons (.isi (.v 0) .int) (.cons (.not_ (.isi (.v 0) .bool)) (.cons (.cmp2 .le .le (.v 1) (.v 0) (.v 2)) .nil))))) .nil)⟩
def b_is_number : Fd := ⟨["value"], ["value"], (.cons (.ret (.call "is_integer" (.cons (.v 0) (.cons (.g "LEAST_NUMBER") (.cons (.g "MOST_NUMBER") .nil))))) .nil)⟩
def b_is_text : Fd := ⟨["value"], ["value", "sign"], (.cons (.ite (.or_ (.cons (.not_ (.isi (.v 0) .str)) (.cons (.cmp .gt (.bi false .len (.cons (.v 0) .nil)) (.g "MOST_SIGNS")) .nil))) (.cons (.ret (.bl false)) .nil) .nil) (.cons (.ret (.bi false .all_ (.cons (.lc false (.or_ (.cons (.cmp .in_ (.v 1) (.g "LETTERS")) (.cons (.cmp .in_ (.v 1) (.g "DIGITS")) .nil))) (.v 1) (.e (.v 0)) .none) .nil))) .nil))⟩
def b_is_item : Fd := ⟨["kind", "value"], ["kind", "value"], (.cons (.ite (.cmp .eq (.v 0) (.str "number")) (.cons (.ret (.call "is_number" (.cons (.v 1) .nil))) .nil) .nil) (.cons (.ret (.call "is_text" (.cons (.v 1) .nil))) .nil))⟩
def b_is_row : Fd := ⟨["kinds", "value"], ["kinds", "value", "kind", "item"], (.cons (.ite (.or_ (.cons (.not_ (.isi (.v 1) .tuple)) (.cons (.cmp .ne (.bi false .len (.cons (.v 1) .nil)) (.bi false .len (.cons (.v 0) .nil))) .nil))) (.cons (.ret (.bl false)) .nil) .nil) (.cons (.ret (.bi false .all_ (.cons (.lc false (.call "is_item" (.cons (.v 2) (.cons (.v 3) .nil))) (.tup (.cons (.v 2) (.cons (.v 3) .nil))) (.zip (.v 0) (.v 1)) .none) .nil))) .nil))⟩
def b_wrap : Fd := ⟨["n"], ["n"], (.cons (.ret (.bin .add (.bin .mod (.bin .sub (.v 0) (.g "LEAST_NUMBER")) (.g "SPAN")) (.g "LEAST_NUMBER"))) .nil)⟩
def b_bag_of : Fd := ⟨["rows"], ["rows"], (.cons (.ret (.bi false .tuple_ (.cons (.bi false .sorted_ (.cons (.v 0) .nil)) .nil))) .nil)⟩
def b_counts_of : Fd := ⟨["bag"], ["bag", "counts", "row"], (.cons (.asg (.t (.v 1)) (.dct true .nil .nil)) (.cons (.for_ (.v 2) (.e (.v 0)) (.cons (.asg (.ix (.v 1) (.v 2)) (.bin .add (.bm .get2 (.v 1) (.cons (.v 2) (.cons (.int 0) .nil))) (.int 1))) .nil)) (.cons (.ret (.v 1)) .nil)))⟩
def b_more : Fd := ⟨["one", "other"], ["one", "other", "left", "found", "row"], (.cons (.asg (.t (.v 2)) (.call "counts_of" (.cons (.v 1) .nil))) (.cons (.asg (.t (.v 3)) (.lst true .nil)) (.cons (.for_ (.v 4) (.e (.v 0)) (.cons (.ite (.cmp .gt (.bm .get2 (.v 2) (.cons (.v 4) (.cons (.int 0) .nil))) (.int 0)) (.cons (.aug .sub (.ix (.v 2) (.v 4)) (.int 1)) .nil) (.cons (.ex (.bm .append (.v 3) (.cons (.v 4) .nil))) .nil)) .nil)) (.cons (.ret (.call "bag_of" (.cons (.v 3) .nil))) .nil))))⟩
def b_parted : Fd := ⟨["old", "new"], ["old", "new"], (.cons (.ret (.tup (.cons (.call "more" (.cons (.v 1) (.cons (.v 0) .nil))) (.cons (.call "more" (.cons (.v 0) (.cons (.v 1) .nil))) .nil)))) .nil)⟩
def b_joined : Fd := ⟨["bag", "difference"], ["bag", "difference", "plus", "minus"], (.cons (.asg (.t (.tup (.cons (.v 2) (.cons (.v 3) .nil)))) (.v 1)) (.cons (.ite (.cmp .ne (.call "more" (.cons (.v 3) (.cons (.v 0) .nil))) (.tup .nil)) (.cons (.raise "BadRows" .nil) .nil) .nil) (.cons (.ret (.call "bag_of" (.cons (.bin .add (.call "more" (.cons (.v 0) (.cons (.v 3) .nil))) (.v 2)) .nil))) .nil)))⟩
def b_is_bag : Fd := ⟨["kinds", "value"], ["kinds", "value", "one", "other", "row"], (.cons (.ite (.or_ (.cons (.not_ (.isi (.v 1) .tuple)) (.cons (.not_ (.bi false .all_ (.cons (.lc false (.call "is_row" (.cons (.v 0) (.cons (.v 4) .nil))) (.v 4) (.e (.v 1)) .none) .nil))) .nil))) (.cons (.ret (.bl false)) .nil) .nil) (.cons (.ret (.bi false .all_ (.cons (.lc false (.cmp .le (.v 2) (.v 3)) (.tup (.cons (.v 2) (.cons (.v 3) .nil))) (.zip (.v 1) (.sl false (.v 1) (.some (.int 1)) .none)) .none) .nil))) .nil))⟩
def b_is_difference : Fd := ⟨["kinds", "value"], ["kinds", "value", "row", "bag"], (.cons (.ite (.or_ (.cons (.not_ (.isi (.v 1) .tuple)) (.cons (.cmp .ne (.bi false .len (.cons (.v 1) .nil)) (.int 2)) (.cons (.not_ (.bi false .all_ (.cons (.lc false (.call "is_bag" (.cons (.v 0) (.cons (.v 3) .nil))) (.v 3) (.e (.v 1)) .none) .nil))) .nil)))) (.cons (.ret (.bl false)) .nil) .nil) (.cons (.ret (.bi false .all_ (.cons (.lc false (.cmp .notin (.v 2) (.ix (.v 1) (.int 1))) (.v 2) (.e (.ix (.v 1) (.int 0))) .none) .nil))) .nil))⟩
def b_law_bag : Fd := ⟨["script", "k"], ["script", "k", "cell"], (.cons (.asg (.t (.v 2)) (.int 0)) (.cons (.ite (.cmp .lt (.v 1) (.bi false .len (.cons (.v 0) .nil))) (.cons (.asg (.t (.v 2)) (.bi false .int_ (.cons (.ix (.v 0) (.v 1)) .nil))) .nil) .nil) (.cons (.ret (.lst true (.cons (.int 0) (.cons (.bin .add (.int 301) (.bin .mul (.int 48611) (.v 1))) (.cons (.int 0) (.cons (.v 2) .nil)))))) .nil)))⟩
def b_law_draw : Fd := ⟨["bag", "many"], ["bag", "many", "rest", "seed"], (.cons (.ite (.cmp .lt (.v 1) (.int 1)) (.cons (.ret (.int 0)) .nil) .nil) (.cons (.ite (.cmp .eq (.ix (.v 0) (.int 0)) (.int 0)) (.cons (.asg (.ix (.v 0) (.int 2)) (.bin .add (.ix (.v 0) (.int 2)) (.int 1))) (.cons (.asg (.t (.v 3)) (.bin .mod (.bi false .int_ (.cons (.bin .add (.bin .add (.bin .add (.bin .mul (.ix (.v 0) (.int 1)) (.int 48271)) (.bin .mul (.ix (.v 0) (.int 3)) (.int 69621))) (.bin .mul (.ix (.v 0) (.int 2)) (.int 16807))) (.int 11)) .nil)) (.int 2147483647))) (.cons (.asg (.ix (.v 0) (.int 0)) (.bin .add (.bin .mul (.v 3) (.int 2147483629)) (.bin .mod (.bi false .int_ (.cons (.bin .add (.bin .mul (.v 3) (.v 3)) (.ix (.v 0) (.int 3))) .nil)) (.int 2147483629)))) (.cons (.ite (.and_ (.cons (.cmp .eq (.ix (.v 0) (.int 2)) (.int 1)) (.cons (.cmp .ge (.ix (.v 0) (.int 3)) (.bin .pow (.int 10) (.int 18))) .nil))) (.cons (.asg (.ix (.v 0) (.int 0)) (.ix (.v 0) (.int 3))) .nil) .nil) (.cons (.asg (.ix (.v 0) (.int 1)) (.v 3)) .nil))))) .nil) (.cons (.asg (.t (.v 2)) (.ix (.v 0) (.int 0))) (.cons (.asg (.ix (.v 0) (.int 0)) (.bin .fdiv (.v 2) (.v 1))) (.cons (.ret (.bin .mod (.bi false .int_ (.cons (.v 2) .nil)) (.v 1))) .nil)))))⟩
def b_law_one : Fd := ⟨["bag", "row"], ["bag", "row"], (.cons (.ret (.ix (.v 1) (.call "_law_draw" (.cons (.v 0) (.cons (.bi false .len (.cons (.v 1) .nil)) .nil))))) .nil)⟩
def b_law_integer : Fd := ⟨["bag"], ["bag", "base"], (.cons (.asg (.t (.v 1)) (.call "_law_one" (.cons (.v 0) (.cons (.lst false (.cons (.int 0) (.cons (.int 2147483647) (.cons (.un .neg (.int 2147483648)) (.cons (.int 4294967296) (.cons (.bin .pow (.int 10) (.int 20)) (.cons (.un .neg (.bin .pow (.int 10) (.int 25))) (.cons (.int 255) .nil)))))))) .nil)))) (.cons (.ret (.bin .add (.v 1) (.call "_law_one" (.cons (.v 0) (.cons (.lst false (.cons (.int 0) (.cons (.int 1) (.cons (.un .neg (.int 1)) (.cons (.call "_law_draw" (.cons (.v 0) (.cons (.bin .pow (.int 10) (.int 9)) .nil))) .nil))))) .nil))))) .nil))⟩
def b_law_text : Fd := ⟨["bag"], ["bag", "signs", "k"], (.cons (.asg (.t (.v 1)) (.str "abcdefghijklmnopqrstuvwxyz0123456789A_ -")) (.cons (.ret (.bm .join (.str "") (.cons (.lc false (.ix (.v 1) (.call "_law_draw" (.cons (.v 0) (.cons (.ix (.lst false (.cons (.int 36) (.cons (.int 40) .nil))) (.bin .fdiv (.call "_law_draw" (.cons (.v 0) (.cons (.int 4) .nil))) (.int 3))) .nil)))) (.v 2) (.range1 (.call "_law_one" (.cons (.v 0) (.cons (.lst false (.cons (.int 0) (.cons (.int 1) (.cons (.int 5) (.cons (.int 12) (.cons (.int 13) .nil)))))) .nil)))) .none) .nil))) .nil))⟩
def b_law_is_text : Fd := ⟨["value"], ["value", "signs", "sign"], (.cons (.asg (.t (.v 1)) (.str "abcdefghijklmnopqrstuvwxyz0123456789")) (.cons (.ret (.and_ (.cons (.isi (.v 0) .str) (.cons (.cmp .le (.bi false .len (.cons (.v 0) .nil)) (.int 12)) (.cons (.cmp .eq (.lc false (.v 2) (.v 2) (.e (.v 0)) (.some (.cmp .notin (.v 2) (.v 1)))) (.lst false .nil)) .nil))))) .nil))⟩
def b_law_is_number : Fd := ⟨["value"], ["value"], (.cons (.ret (.and_ (.cons (.isi (.v 0) .int) (.cons (.not_ (.isi (.v 0) .bool)) (.cons (.cmp .le (.un .neg (.int 2147483648)) (.v 0)) (.cons (.cmp .le (.v 0) (.int 2147483647)) .nil)))))) .nil)⟩
def b_law_rows : Fd := ⟨["bag", "many"], ["bag", "many", "row", "k"], (.cons (.asg (.t (.v 2)) (.lst false (.cons (.tup (.cons (.int 0) (.cons (.str "") .nil))) (.cons (.tup (.cons (.int 0) (.cons (.str "a") .nil))) (.cons (.tup (.cons (.int 1) (.cons (.str "") .nil))) (.cons (.tup (.cons (.un .neg (.int 5)) (.cons (.str "b") .nil))) (.cons (.tup (.cons (.int 1) (.cons (.str "ab") .nil))) (.cons (.tup (.cons (.int 7) (.cons (.str "a") .nil))) .nil)))))))) (.cons (.ret (.lc false (.ix (.v 2) (.call "_law_draw" (.cons (.v 0) (.cons (.int 6) .nil)))) (.v 3) (.range1 (.call "_law_draw" (.cons (.v 0) (.cons (.v 1) .nil)))) .none)) .nil))⟩
def b_law_sorted : Fd := ⟨["rows"], ["rows", "left", "found", "least", "row"], (.cons (.asg (.t (.v 1)) (.bi true .list_ (.cons (.v 0) .nil))) (.cons (.asg (.t (.v 2)) (.lst true .nil)) (.cons (.while_ (.cmp .gt (.bi false .len (.cons (.v 1) .nil)) (.int 0)) (.cons (.asg (.t (.v 3)) (.ix (.v 1) (.int 0))) (.cons (.for_ (.v 4) (.e (.v 1)) (.cons (.ite (.cmp .lt (.v 4) (.v 3)) (.cons (.asg (.t (.v 3)) (.v 4)) .nil) .nil) .nil)) (.cons (.ex (.bm .remove (.v 1) (.cons (.v 3) .nil))) (.cons (.ex (.bm .append (.v 2) (.cons (.v 3) .nil))) .nil))))) (.cons (.ret (.bi false .tuple_ (.cons (.v 2) .nil))) .nil))))⟩
def b_law_less : Fd := ⟨["one", "other"], ["one", "other", "left", "found", "row"], (.cons (.asg (.t (.v 2)) (.bi true .list_ (.cons (.v 1) .nil))) (.cons (.asg (.t (.v 3)) (.lst true .nil)) (.cons (.for_ (.v 4) (.e (.v 0)) (.cons (.ite (.cmp .in_ (.v 4) (.v 2)) (.cons (.ex (.bm .remove (.v 2) (.cons (.v 4) .nil))) .nil) (.cons (.ex (.bm .append (.v 3) (.cons (.v 4) .nil))) .nil)) .nil)) (.cons (.ret (.call "_law_sorted" (.cons (.v 3) .nil))) .nil))))⟩
def b_law_joins : Fd := ⟨["bag", "difference"], ["bag", "difference"], (.cons (.try_ (.cons (.ret (.call "joined" (.cons (.v 0) (.cons (.v 1) .nil)))) .nil) (.cons "BadRows" none (.cons (.ret .non) .nil) .nil)) .nil)⟩
def b_law : Fd := ⟨["script"], ["script", "k", "bag", "n", "told", "low", "high", "text", "value", "old", "new", "change", "minus", "due", "kinds", "shared", "row"], (.stop (.cons (.for_ (.v 1) (.range1 (.bi false .max2 (.cons (.int 1) (.cons (.bi false .min2 (.cons (.int 20) (.cons (.bi false .len (.cons (.v 0) .nil)) .nil))) .nil)))) (.stop (.cons (.asg (.t (.v 2)) (.call "_law_bag" (.cons (.v 0) (.cons (.v 1) .nil)))) (.stop (.cons (.asg (.t (.v 3)) (.call "_law_integer" (.cons (.v 2) .nil))) (.stop (.cons (.asg (.t (.v 4)) (.call "wrap" (.cons (.v 3) .nil))) (.stop (.cons (.ite (.or_ (.cons (.not_ (.call "_law_is_number" (.cons (.v 4) .nil))) (.cons (.cmp .ne (.bin .mod (.bi false .int_ (.cons (.bin .sub (.v 4) (.v 3)) .nil)) (.int 4294967296)) (.int 0)) .nil))) (.stop (.cons (.ret (.bl false)) .nil)) .nil) (.stop (.cons (.asg (.t (.v 5)) (.call "_law_integer" (.cons (.v 2) .nil))) (.stop (.cons (.asg (.t (.v 6)) (.bin .add (.v 5) (.call "_law_one" (.cons (.v 2) (.cons (.lst false (.cons (.int 0) (.cons (.int 1) (.cons (.call "_law_draw" (.cons (.v 2) (.cons (.bin .pow (.int 10) (.int 6)) .nil))) .nil)))) .nil))))) (.stop (.cons (.ite (.cmp .ne (.bi false .repr_ (.cons (.call "is_integer" (.cons (.v 3) (.cons (.v 5) (.cons (.v 6) .nil)))) .nil)) (.bi false .repr_ (.cons (.and_ (.cons (.cmp .le (.v 5) (.v 3)) (.cons (.cmp .le (.v 3) (.v 6)) .nil))) .nil))) (.stop (.cons (.ret (.bl false)) .nil)) .nil) (.stop (.cons (.asg (.t (.v 7)) (.call "_law_text" (.cons (.v 2) .nil))) (.stop (.cons (.for_ (.v 8) (.e (.lst false (.cons (.v 3) (.cons (.v 7) (.cons (.bl true) (.cons .non (.cons (.tup (.cons (.int 1) .nil)) (.cons (.lst false (.cons (.int 1) .nil)) (.cons (.str "") (.cons (.str "A") (.cons (.int 2147483647) (.cons (.un .neg (.int 2147483648)) .nil)))))))))))) (.stop (.cons (.asg (.t (.v 13)) (.lst false (.cons (.call "_law_is_number" (.cons (.v 8) .nil)) (.cons (.call "_law_is_text" (.cons (.v 8) .nil)) .nil)))) (.stop (.cons (.ite (.cmp .ne (.lst false (.cons (.bi false .repr_ (.cons (.call "is_number" (.cons (.v 8) .nil)) .nil)) (.cons (.bi false .repr_ (.cons (.call "is_text" (.cons (.v 8) .nil)) .nil)) .nil))) (.lst false (.cons (.bi false .repr_ (.cons (.ix (.v 13) (.int 0)) .nil)) (.cons (.bi false .repr_ (.cons (.ix (.v 13) (.int 1)) .nil)) .nil)))) (.stop (.cons (.ret (.bl false)) .nil)) .nil) (.stop (.cons (.ite (.cmp .ne (.lst false (.cons (.call "is_item" (.cons (.str "number") (.cons (.v 8) .nil))) (.cons (.call "is_item" (.cons (.str "text") (.cons (.v 8) .nil))) .nil))) (.v 13)) (.stop (.cons (.ret (.bl false)) .nil)) .nil) (.stop (.cons (.asg (.t (.v 16)) (.tup (.cons (.v 8) (.cons (.v 7) (.cons (.v 3) .nil))))) (.stop (.cons (.ite (.cmp .ne (.call "is_row" (.cons (.tup (.cons (.str "number") (.cons (.str "text") (.cons (.str "number") .nil)))) (.cons (.v 16) .nil))) (.and_ (.cons (.ix (.v 13) (.int 0)) (.cons (.call "_law_is_text" (.cons (.v 7) .nil)) (.cons (.call "_law_is_number" (.cons (.v 3) .nil)) .nil))))) (.stop (.cons (.ret (.bl false)) .nil)) .nil) .nil))))))))))) (.stop (.cons (.ite (.or_ (.cons (.call "is_row" (.cons (.tup (.cons (.str "number") .nil)) (.cons (.tup (.cons (.int 1) (.cons (.int 2) .nil))) .nil))) (.cons (.call "is_row" (.cons (.tup .nil) (.cons (.lst false (.cons (.int 1) .nil)) .nil))) (.cons (.not_ (.call "is_row" (.cons (.tup .nil) (.cons (.tup .nil) .nil)))) (.cons (.call "is_row" (.cons (.tup (.cons (.str "number") .nil)) (.cons (.lst false (.cons (.int 1) .nil)) .nil))) .nil))))) (.stop (.cons (.ret (.bl false)) .nil)) .nil) (.stop (.cons (.asg (.t (.v 9)) (.call "_law_sorted" (.cons (.call "_law_rows" (.cons (.v 2) (.cons (.int 30) .nil))) .nil))) (.stop (.cons (.asg (.t (.v 10)) (.call "_law_sorted" (.cons (.call "_law_rows" (.cons (.v 2) (.cons (.int 30) .nil))) .nil))) (.stop (.cons (.ite (.or_ (.cons (.cmp .ne (.call "bag_of" (.cons (.bi false .list_ (.cons (.rev false (.v 9)) .nil)) .nil)) (.v 9)) (.cons (.cmp .ne (.call "bag_of" (.cons (.rev false (.v 10)) .nil)) (.v 10)) .nil))) (.stop (.cons (.ret (.bl false)) .nil)) .nil) (.stop (.cons (.asg (.t (.v 11)) (.tup (.cons (.call "_law_less" (.cons (.v 10) (.cons (.v 9) .nil))) (.cons (.call "_law_less" (.cons (.v 9) (.cons (.v 10) .nil))) .nil)))) (.stop (.cons (.ite (.or_ (.cons (.cmp .ne (.call "parted" (.cons (.v 9) (.cons (.v 10) .nil))) (.v 11)) (.cons (.cmp .ne (.call "joined" (.cons (.v 9) (.cons (.v 11) .nil))) (.v 10)) .nil))) (.stop (.cons (.ret (.bl false)) .nil)) .nil) (.stop (.cons (.asg (.t (.v 12)) (.call "_law_sorted" (.cons (.call "_law_rows" (.cons (.v 2) (.cons (.int 5) .nil))) .nil))) (.stop (.cons (.asg (.t (.v 13)) .non) (.stop (.cons (.ite (.cmp .eq (.call "_law_less" (.cons (.v 12) (.cons (.v 9) .nil))) (.tup .nil)) (.stop (.cons (.asg (.t (.v 13)) (.call "_law_sorted" (.cons (.bin .add (.call "_law_less" (.cons (.v 9) (.cons (.v 12) .nil))) (.v 10)) .nil))) .nil)) .nil) (.stop (.cons (.ite (.cmp .ne (.call "_law_joins" (.cons (.v 9) (.cons (.tup (.cons (.v 10) (.cons (.v 12) .nil))) .nil))) (.v 13)) (.stop (.cons (.ret (.bl false)) .nil)) .nil) (.stop (.cons (.asg (.t (.v 14)) (.tup (.cons (.str "number") (.cons (.str "text") .nil)))) (.stop (.cons (.ite (.or_ (.cons (.cmp .isnot (.call "is_bag" (.cons (.v 14) (.cons (.v 9) .nil))) (.bl true)) (.cons (.cmp .isnot (.call "is_difference" (.cons (.v 14) (.cons (.v 11) .nil))) (.bl true)) (.cons (.call "is_bag" (.cons (.v 14) (.cons (.bi false .list_ (.cons (.v 9) .nil)) .nil))) .nil)))) (.stop (.cons (.ret (.bl false)) .nil)) .nil) (.stop (.cons (.ite (.and_ (.cons (.cmp .gt (.bi false .len (.cons (.v 9) .nil)) (.int 1)) (.cons (.cmp .ne (.call "is_bag" (.cons (.v 14) (.cons (.rev false (.v 9)) .nil))) (.cmp .eq (.v 9) (.rev false (.v 9)))) .nil))) (.stop (.cons (.ret (.bl false)) .nil)) .nil) (.stop (.cons (.asg (.t (.v 15)) (.lc false (.v 16) (.v 16) (.e (.v 10)) (.some (.cmp .in_ (.v 16) (.v 9))))) (.stop (.cons (.ite (.or_ (.cons (.cmp .ne (.call "is_difference" (.cons (.v 14) (.cons (.tup (.cons (.v 10) (.cons (.v 9) .nil))) .nil))) (.cmp .eq (.v 15) (.lst false .nil))) (.cons (.call "is_bag" (.cons (.v 14) (.cons (.bin .add (.v 9) (.tup (.cons (.tup (.cons (.str "a") (.cons (.int 0) .nil))) .nil))) .nil))) (.cons (.call "is_difference" (.cons (.v 14) (.cons (.tup (.cons (.v 9) .nil)) .nil))) .nil)))) (.stop (.cons (.ret (.bl false)) .nil)) .nil) .nil))))))))))))))))))))))))))))))))))))))))))))))))) (.stop (.cons (.ret (.bl true)) .nil))))⟩

/-! ### loops -/
theorem forGo_ind {α : Type} {f : α → D} {stay : List (Nat × Cell)} {bind : D → St' → (St' → Prop) → Prop} {body : St' → Sto → Post → Prop} {P : Post} (Inv : List α → List α → St' → Sto → Prop) :
    ∀ (xs : List α) {env : St'} {st : Sto} (done : List α), Inv done xs env st →
    (step : ∀ done x todo env st (k : St' → Sto → Prop), Inv done (x :: todo) env st → (∀ env st, Inv (done ++ [x]) todo env st → k env st) → stayOk stay st (bind (f x) env fun env' => body env' st { P with nx := k, ct := k, bk := P.nx })) →
    (fin : ∀ env st, Inv (done ++ xs) [] env st → stayOk stay st (P.nx env st)) → forGo stay bind body (xs.map f) env st P
  | [], env, st, done, h0, step, fin => fin env st (by rw [List.append_nil]; exact h0)
  | x :: xs, env, st, done, h0, step, fin => step done x xs env st _ h0 fun env' st' h => forGo_ind Inv xs (done ++ [x]) h step fun env st h => fin env st (by rw [List.append_assoc] at h; exact h)
theorem lcGo_ind {α : Type} {f : α → D} {stay : List (Nat × Cell)} {bind : D → (St' → Prop) → Prop} {c : St' → Sto → (Bool → Sto → Prop) → Prop} {elt : St' → Sto → (D → Sto → Prop) → Prop} {Q : List D → Sto → Prop} (Inv : List α → List α → List D → Sto → Prop) :
    ∀ (xs : List α) {acc : List D} {st : Sto} (done : List α), Inv done xs acc st →
    (step : ∀ done x todo acc st (k : List D → Sto → Prop), Inv done (x :: todo) acc st → (∀ acc st, Inv (done ++ [x]) todo acc st → k acc st) → stayOk stay st (bind (f x) fun env => c env st fun b st => ifB b (elt env st fun d st => acc.length < sizeLine ∧ k (d :: acc) st) (k acc st))) →
    (fin : ∀ acc st, Inv (done ++ xs) [] acc st → stayOk stay st (Q acc.reverse st)) → lcGo stay bind c elt (xs.map f) acc st Q
  | [], acc, st, done, h0, step, fin => fin acc st (by rw [List.append_nil]; exact h0)
  | x :: xs, acc, st, done, h0, step, fin => by
    have h := step done x xs acc st (fun acc st => lcGo stay bind c elt (xs.map f) acc st Q) h0 fun acc' st' h => lcGo_ind Inv xs (done ++ [x]) h step fun acc st h => fin acc st (by rw [List.append_assoc] at h; exact h)
    exact h
theorem cons_i {L : Lib} {s : S} {ss : Ss} {env : St'} {st : Sto} {P : Post} (h : wpS L s env st { P with nx := fun env st => wpSs L ss env st P }) : wpSs L (.cons s ss) env st P := h
/-- an if that does not hold -/
theorem ite_no {L : Lib} {c : E} {a : Ss} {env : St'} {st : Sto} {P : Post} (h1 : ∀ K : D → Sto → Prop, K (.bl false) st → wpE L c env st K (fun x st => P.ex x env st)) (h : P.nx env st) : wpS L (.ite c a .nil) env st P := h1 _ h
theorem onSome_i {α : Type} {o : Option α} {a : α} {k : α → Prop} (e : o = some a) (h : k a) : onSome o k := by subst e; exact h
end DL
namespace K
open PySem PySem.Spec PyProof.Rows L2 DL
abbrev tupR (xs : List Rw) : D := .tup (xs.map row)
abbrev Spc := List D → Sto → (D → Sto → Prop) → EX → Prop
def isInt (lo hi : Int) : D → Bool
  | .int i => decide (lo ≤ i) && decide (i ≤ hi)
  | _ => false
/-- a value without places -/
def plain : D → Bool
  | .loc _ | .gl _ | .ty _ | .kt _ | .scr _ => false
  | .str s => decide (s.length ≤ 100)
  | _ => true
def isText : D → Bool
  | .str s => decide (s.length ≤ 12) && s.toList.all fun c => decide (c ∈ "abcdefghijklmnopqrstuvwxyz".toList) || decide (c ∈ "0123456789".toList)
  | _ => false
def isNum : D → Bool := isInt (-2147483648) 2147483647
def isItem (k : String) (v : D) : Bool := if k = "number" then isNum v else isText v
def sIsInteger : Spc := fun ds st Q _ => ∃ v lo hi, ds = [v, .int lo, .int hi] ∧ plain v = true ∧ Q (.bl (isInt lo hi v)) st
def sIsNumber : Spc := fun ds st Q _ => ∃ v, ds = [v] ∧ plain v = true ∧ Q (.bl (isNum v)) st
def sIsText : Spc := fun ds st Q _ => ∃ v, ds = [v] ∧ plain v = true ∧ Q (.bl (isText v)) st
def sIsItem : Spc := fun ds st Q _ => ∃ k v, ds = [.str k, v] ∧ plain v = true ∧ Q (.bl (isItem k v)) st
def isRow (ks : List String) : D → Bool
  | .tup xs => decide (xs.length = ks.length) && (ks.zip xs).all fun p => isItem p.1 p.2
  | _ => false
/-- what may be asked whether it is a row -/
def rowArg : D → Bool
  | .tup xs => xs.all plain && decide (xs.length ≤ 1000)
  | v => plain v
def sIsRow : Spc := fun ds st Q _ => ∃ ks v, ds = [.tup (ks.map D.str), v] ∧ ks.length ≤ 1000 ∧ rowArg v = true ∧ Q (.bl (isRow ks v)) st
def sWrap : Spc := fun ds st Q _ => ∃ n : Int, ds = [.int n] ∧ Q (.int ((n - -2147483648) % 4294967296 + -2147483648)) st
def sBagOf : Spc := fun ds st Q _ => ∃ xs : List Rw, xs.length ≤ 10000 ∧ (ds = [.lst (xs.map row)] ∨ ds = [tupR xs] ∨ ∃ n, ds = [.loc n] ∧ st[n]? = some (.lst (xs.map row))) ∧ Q (tupR (sortR xs)) st
def cntOk (kvs : List (D × D)) (xs : List Rw) : Prop := (∀ r, (dGet kvs (row r)).getD (.int 0) = .int (xs.count r : Nat)) ∧ kvs.length ≤ xs.length
def sCountsOf : Spc := fun ds st Q _ => ∃ xs : List Rw, ds = [tupR xs] ∧ xs.length ≤ 10000 ∧ ∀ kvs, cntOk kvs xs → Q (.loc st.length) (st ++ [.dct true kvs])
def sMore : Spc := fun ds st Q _ => ∃ a b : List Rw, ds = [tupR a, tupR b] ∧ a.length ≤ 10000 ∧ b.length ≤ 10000 ∧ Q (tupR (sortR (less a b))) st
def sParted : Spc := fun ds st Q _ => ∃ a b : List Rw, ds = [tupR a, tupR b] ∧ a.length ≤ 10000 ∧ b.length ≤ 10000 ∧ Q (.tup [tupR (sortR (less b a)), tupR (sortR (less a b))]) st
def sJoined : Spc := fun ds st Q X => ∃ bag plus minus : List Rw, ds = [tupR bag, .tup [tupR plus, tupR minus]] ∧ bag.length ≤ 4000 ∧ plus.length ≤ 4000 ∧ minus.length ≤ 4000 ∧
  (less minus bag = [] → Q (tupR (sortR (sortR (less bag minus) ++ plus))) st) ∧ (less minus bag ≠ [] → X ⟨"BadRows", []⟩ st)
/-! bags, asked -/
def nt : List String := ["number", "text"]
def isBag4 (c : Cell) : Prop := ∃ a b d e : Int, c = .lst [.int a, .int b, .int d, .int e]
def bagAt (st : Sto) (n : Nat) : Prop := ∃ c, isBag4 c ∧ st[n]? = some c
def sLawBag : Spc := fun ds st Q _ => ∃ (ns : List Int) (k : Nat), ds = [.scr ns, .int (k : Nat)] ∧ ∀ c, isBag4 c → Q (.loc st.length) (st ++ [c])
def sDraw : Spc := fun ds st Q _ => ∃ (n : Nat) (many : Int), ds = [.loc n, .int many] ∧ many < 1073741824 ∧ bagAt st n ∧ ∀ (r : Int) (c : Cell), isBag4 c → 0 ≤ r → (r < many ∨ r = 0) → Q (.int r) (st.set n c)
def sOne : Spc := fun ds st Q _ => ∃ (n : Nat) (xs : List D), ds = [.loc n, .lst xs] ∧ 1 ≤ xs.length ∧ xs.length ≤ 1000 ∧ bagAt st n ∧ ∀ (x : D) (c : Cell), isBag4 c → x ∈ xs → Q x (st.set n c)
def sInteger : Spc := fun ds st Q _ => ∃ n : Nat, ds = [.loc n] ∧ bagAt st n ∧ ∀ (i : Int) (c : Cell), isBag4 c → Q (.int i) (st.set n c)
def sText : Spc := fun ds st Q _ => ∃ n : Nat, ds = [.loc n] ∧ bagAt st n ∧ ∀ (z : String) (c : Cell), isBag4 c → z.length ≤ 100 → Q (.str z) (st.set n c)
def sLawIsText : Spc := fun ds st Q _ => ∃ v, ds = [v] ∧ plain v = true ∧ Q (.bl (isText v)) st
def sRows : Spc := fun ds st Q _ => ∃ (n : Nat) (many : Int), ds = [.loc n, .int many] ∧ many ≤ 1000 ∧ bagAt st n ∧ ∀ (xs : List Rw) (c : Cell), isBag4 c → xs.length ≤ 1000 → (∀ x ∈ xs, x.2.length ≤ 2 ∧ -5 ≤ x.1 ∧ x.1 ≤ 7 ∧ isText (.str x.2) = true) → Q (.lst (xs.map row)) (st.set n c)
def adjR (ps : List Rw) : Bool := (ps.zip ps.tail).all fun p => leP p.1 p.2
def notTup : D → Bool
  | .tup _ => false
  | _ => true
def badBag (v : D) : Prop := (∃ xs, v = .tup xs ∧ xs.length ≤ 5000 ∧ (∀ x ∈ xs, rowArg x = true) ∧ xs.all (isRow nt) = false) ∨ (plain v = true ∧ notTup v = true)
def goodRows (ps : List Rw) : Prop := ps.length ≤ 5000 ∧ ∀ x ∈ ps, isNum (.int x.1) = true ∧ isText (.str x.2) = true
def sIsBag : Spc := fun ds st Q _ => ∃ v, ds = [.tup (nt.map D.str), v] ∧ ((∃ ps, v = tupR ps ∧ goodRows ps ∧ Q (.bl (adjR ps)) st) ∨ (badBag v ∧ Q (.bl false) st))
def sIsDiff : Spc := fun ds st Q _ => (∃ ps qs, ds = [.tup (nt.map D.str), .tup [tupR ps, tupR qs]] ∧ goodRows ps ∧ goodRows qs ∧ adjR ps = true ∧ adjR qs = true ∧ Q (.bl (ps.all fun r => !decide (r ∈ qs))) st) ∨ (∃ v, ds = [.tup (nt.map D.str), .tup [v]] ∧ Q (.bl false) st)
def sSorted : Spc := fun ds st Q _ => ∃ xs : List Rw, xs.length ≤ 5000 ∧ (ds = [.lst (xs.map row)] ∨ ds = [tupR xs] ∨ ∃ n, ds = [.loc n] ∧ st[n]? = some (.lst (xs.map row))) ∧ Q (tupR (sortR xs)) st
def sLess : Spc := fun ds st Q _ => ∃ a b : List Rw, ds = [tupR a, tupR b] ∧ a.length ≤ 5000 ∧ b.length ≤ 5000 ∧ Q (tupR (sortR (less a b))) st
def sJoins : Spc := fun ds st Q _ => ∃ bag plus minus : List Rw, ds = [tupR bag, .tup [tupR plus, tupR minus]] ∧ bag.length ≤ 4000 ∧ plus.length ≤ 4000 ∧ minus.length ≤ 4000 ∧
  Q (if less minus bag = [] then tupR (sortR (sortR (less bag minus) ++ plus)) else .non) st
def sLaw : Spc := fun ds st Q _ => ∃ ns : List Int, ds = [.scr ns] ∧ ns.length ≤ 63 ∧ Q (.bl true) st
def globs : List (String × D) := [("MOST_SIGNS", .int 12), ("LEAST_NUMBER", .int (-2147483648)), ("MOST_NUMBER", .int 2147483647), ("SPAN", .int 4294967296), ("LETTERS", .str "abcdefghijklmnopqrstuvwxyz"), ("DIGITS", .str "0123456789")]
def calls : String → Spc
  | "is_integer" => sIsInteger
  | "is_number" => sIsNumber
  | "is_text" => sIsText
  | "is_item" => sIsItem
  | "is_row" => sIsRow
  | "wrap" => sWrap
  | "bag_of" => sBagOf
  | "counts_of" => sCountsOf
  | "more" => sMore
  | "parted" => sParted
  | "joined" => sJoined
  | "_law_bag" => sLawBag
  | "_law_draw" => sDraw
  | "_law_one" => sOne
  | "_law_integer" => sInteger
  | "_law_text" => sText
  | "_law_is_text" => sLawIsText
  | "_law_is_number" => sIsNumber
  | "_law_rows" => sRows
  | "_law_sorted" => sSorted
  | "_law_less" => sLess
  | "_law_joins" => sJoins
  | "is_bag" => sIsBag
  | "law" => sLaw
  | "is_difference" => sIsDiff
  | _ => fun _ _ _ _ => False
def L : Lib := ⟨calls, fun _ _ _ _ _ _ => False, fun x => globs.lookup x, fun c => if c = "BadRows" then some [] else none, fun c d => if c = "BadRows" ∧ d = "BadRows" then some true else none⟩
theorem v_is_integer (ds : List D) (st : Sto) (Q : D → Sto → Prop) (X : EX) (hs : CloS st.length st) (hd : Clos st.length ds) (h0 : L.call "is_integer" ds st Q X) : b_is_integer.run L ds st (Gc st.length Q) (GcX st.length X) := by
  obtain ⟨v, lo, hi, rfl, hp, h⟩ := (show sIsInteger ds st Q X from h0)
  clear h0
  cases v <;> first | (cases hp; done) | (conv => whnf); first | exact .now h | skip
  rename_i i
  have h : Q (.bl (decide (lo ≤ i) && decide (i ≤ hi))) st := h
  refine ifB_intro (fun c => ?_) (fun c => ?_) <;> rw [c] at h <;> exact .now h
theorem v_is_number (ds : List D) (st : Sto) (Q : D → Sto → Prop) (X : EX) (hs : CloS st.length st) (hd : Clos st.length ds) (h0 : L.call "is_number" ds st Q X) : b_is_number.run L ds st (Gc st.length Q) (GcX st.length X) := by
  obtain ⟨v, rfl, hp, h⟩ := (show sIsNumber ds st Q X from h0)
  conv => whnf
  exact ⟨v, _, _, rfl, hp, .now h⟩
def okSign (c : Char) : Bool := decide (c ∈ "abcdefghijklmnopqrstuvwxyz".toList) || decide (c ∈ "0123456789".toList)
theorem bls_all {α : Type} (g : α → Bool) : ∀ xs : List α, ((xs.map fun c => D.bl (g c)).all isBlD) = true
  | [] => rfl
  | x :: xs => by rw [List.map_cons, List.all_cons, bls_all g xs]; rfl
theorem bls_val {α : Type} (g : α → Bool) : ∀ xs : List α, ((xs.map fun c => D.bl (g c)).all blD) = xs.all g
  | [] => rfl
  | x :: xs => by rw [List.map_cons, List.all_cons, List.all_cons, bls_val g xs]; rfl
theorem v_is_text (ds : List D) (st : Sto) (Q : D → Sto → Prop) (X : EX) (hs : CloS st.length st) (hd : Clos st.length ds) (h0 : L.call "is_text" ds st Q X) : b_is_text.run L ds st (Gc st.length Q) (GcX st.length X) := by
  obtain ⟨v, rfl, hp, h⟩ := (show sIsText ds st Q X from h0)
  clear h0
  cases v <;> first | (cases hp; done) | (conv => whnf); first | exact .now h | skip
  rename_i s
  have hl : s.length ≤ 100 := of_decide_eq_true hp
  refine ⟨by rw [sizeLine_eq]; omega, ?_⟩
  conv => whnf
  have h : Q (.bl (decide (s.length ≤ 12) && s.toList.all okSign)) st := h
  refine ifB_intro (fun c => ?_) (fun c => ?_)
  · conv => whnf
    have c : (12 : Int) < s.length := of_decide_eq_true c
    have : decide (s.length ≤ 12) = false := decide_eq_false (by omega)
    rw [this] at h
    exact .now h
  · conv => whnf
    have c : ¬ (12 : Int) < s.length := of_decide_eq_false c
    have : decide (s.length ≤ 12) = true := decide_eq_true (by omega)
    rw [this] at h
    have hsz : s.toList.length ≤ 100 := hl
    refine ⟨by rw [sizeLine_eq]; omega, ?_⟩
    refine lcGo_ind (f := fun c => D.str (String.ofList [c])) (fun done todo acc st1 => done.length + todo.length ≤ 100 ∧ st1 = st ∧ acc.reverse = done.map fun c => D.bl (okSign c)) s.toList [] ⟨by simpa using hsz, rfl, rfl⟩ ?_ ?_
    · rintro done x todo acc st1 k ⟨hk, rfl, ha⟩ hn
      have hacc : acc.length < sizeLine := by
        have := congrArg List.length ha
        rw [List.length_reverse, List.length_map] at this
        rw [sizeLine_eq]
        omega
      have next : ∀ b, b = okSign x → k (D.bl b :: acc) st1 := fun b e => hn _ _ ⟨by simp at hk ⊢; omega, rfl, by rw [List.reverse_cons, ha, List.map_append, e]; rfl⟩
      have m1 : (String.ofList [x]).toList = [x] := String.toList_ofList
      conv => whnf
      rw [m1]
      conv => whnf
      refine ifB_intro (fun c1 => ?_) (fun c1 => ?_)
      · have c1 : decide (x ∈ "abcdefghijklmnopqrstuvwxyz".toList) = true := by simpa using c1
        conv => whnf
        exact ⟨hacc, next true (by unfold okSign; rw [c1]; rfl)⟩
      · have c1 : decide (x ∈ "abcdefghijklmnopqrstuvwxyz".toList) = false := by simpa using c1
        conv => whnf
        rw [m1]
        conv => whnf
        exact ⟨hacc, next _ (by unfold okSign; rw [c1]; simp)⟩
    · rintro acc st1 ⟨_, rfl, ha⟩
      conv => whnf
      rw [ha]
      refine ⟨bls_all okSign _, ?_⟩
      conv => whnf
      rw [bls_val okSign]
      exact .now (by simpa using h)
theorem v_wrap (ds : List D) (st : Sto) (Q : D → Sto → Prop) (X : EX) (hs : CloS st.length st) (hd : Clos st.length ds) (h0 : L.call "wrap" ds st Q X) : b_wrap.run L ds st (Gc st.length Q) (GcX st.length X) := by
  obtain ⟨n, rfl, h⟩ := (show sWrap ds st Q X from h0)
  conv => whnf
  refine ⟨by decide, ?_⟩
  conv => whnf
  exact .now h
theorem v_bag_of (ds : List D) (st : Sto) (Q : D → Sto → Prop) (X : EX) (hs : CloS st.length st) (hd : Clos st.length ds) (h0 : L.call "bag_of" ds st Q X) : b_bag_of.run L ds st (Gc st.length Q) (GcX st.length X) := by
  obtain ⟨xs, hl, hh, h⟩ := (show sBagOf ds st Q X from h0)
  clear h0
  have so : srtOk (xs.map row) := rows_srt (by omega)
  rcases hh with rfl | rfl | ⟨n, rfl, e⟩
  · conv => whnf
    refine ⟨so, ?_⟩
    conv => whnf
    rw [sortD_row]
    exact .now h
  · conv => whnf
    refine ⟨so, ?_⟩
    conv => whnf
    rw [sortD_row]
    exact .now h
  · conv => whnf
    refine onSome_i (a := xs.map row) ?_ ⟨so, ?_⟩
    · show (match st[n]? with
        | some (.lst xs) => some xs
        | _ => none) = _
      rw [e]
    conv => whnf
    rw [sortD_row]
    exact .now h
/-! dicts -/
theorem dGet_map {d x d' : D} : ∀ m : List (D × D), dGet (m.map fun p => if p.1 = d then (p.1, x) else p) d' = if d' = d then (if (m.any fun p => decide (p.1 = d)) = true then some x else none) else dGet m d'
  | [] => by simp [dGet]
  | (k, v) :: m => by
    have ih := dGet_map (d := d) (x := x) (d' := d') m
    rw [List.map_cons, List.any_cons]
    by_cases e : k = d
    · subst e
      simp only [if_true, decide_true, Bool.true_or]
      by_cases e2 : d' = k
      · subst e2; simp [dGet]
      · have : ¬ k = d' := fun z => e2 z.symm
        rw [dGet, if_neg this, ih, if_neg e2, if_neg e2, dGet, if_neg this]
    · simp only [e, if_false, decide_false, Bool.false_or]
      by_cases e2 : k = d'
      · subst e2
        rw [dGet, if_pos rfl, if_neg e, dGet, if_pos rfl]
      · rw [dGet, if_neg e2, ih, dGet, if_neg e2]
theorem dGet_app {d x d' : D} : ∀ m : List (D × D), (m.any fun p => decide (p.1 = d)) = false → dGet (m ++ [(d, x)]) d' = if d' = d then some x else dGet m d'
  | [], _ => by
    by_cases e : d' = d
    · subst e; simp [dGet]
    · have : ¬ d = d' := fun z => e z.symm
      simp [dGet, e, this]
  | (k, v) :: m, h => by
    rw [List.any_cons, Bool.or_eq_false_iff] at h
    have ih := dGet_app (d := d) (x := x) (d' := d') m h.2
    have hk : ¬ k = d := of_decide_eq_false h.1
    rw [List.cons_append, dGet, dGet, ih]
    by_cases e2 : k = d'
    · subst e2; rw [if_pos rfl, if_neg hk]; simp
    · rw [if_neg e2, if_neg e2]
theorem dGet_put (m : List (D × D)) (d x d' : D) : dGet (dPut m d x) d' = if d' = d then some x else dGet m d' := by
  unfold dPut
  split
  · next h =>
    rw [dGet_map, h]
    by_cases e : d' = d
    · simp [e]
    · simp [e]
  · next h =>
    exact dGet_app m (Bool.eq_false_iff.mpr h)
theorem dPut_len (m : List (D × D)) (d x : D) : (dPut m d x).length ≤ m.length + 1 := by
  unfold dPut
  split
  · rw [List.length_map]; omega
  · rw [List.length_append]; simp
def cOk (kvs : List (D × D)) (ys : List Rw) : Prop := ∀ r, (dGet kvs (row r)).getD (.int 0) = .int (ys.count r : Nat)
theorem cOk_put {kvs : List (D × D)} {ys zs : List Rw} {x : Rw} {c : Int} (h : cOk kvs ys) (hx : (zs.count x : Int) = c) (ho : ∀ r, r ≠ x → zs.count r = ys.count r) : cOk (dPut kvs (row x) (.int c)) zs := fun r => by
  rw [dGet_put]
  by_cases e : r = x
  · subst e; rw [if_pos rfl, ← hx]; rfl
  · have : ¬ row r = row x := fun z => e (row_inj z)
    rw [if_neg this, h r, ho r e]
theorem gc_drop {Q : D → Sto → Prop} {st g : Sto} {d : D} (hs : CloS st.length st) (hd : D.pure d = true) (h : Q d st) : Gc st.length Q d (st ++ g) :=
  .drop d st.length (Nat.le_refl _) (.same d) (Clo.of_pure _ hd) (by rw [List.take_left' rfl]; exact hs) (by rw [List.take_left' rfl]; exact h)
theorem tupR_pure (xs : List Rw) : D.pure (tupR xs) = true := by simpa [D.pure] using rows_pures xs
theorem v_counts_of (ds : List D) (st : Sto) (Q : D → Sto → Prop) (X : EX) (hs : CloS st.length st) (hd : Clos st.length ds) (h0 : L.call "counts_of" ds st Q X) : b_counts_of.run L ds st (Gc st.length Q) (GcX st.length X) := by
  obtain ⟨xs, rfl, hl, h⟩ := (show sCountsOf ds st Q X from h0)
  clear h0
  conv => whnf
  refine ⟨rfl, rfl, by decide, ?_⟩
  conv => whnf
  refine forGo_ind (f := row) (fun done todo env st1 => done.length + todo.length ≤ 10000 ∧ ∃ kvs v, cOk kvs done ∧ kvs.length ≤ done.length ∧ st1 = st ++ [.dct true kvs] ∧ env = [some (tupR xs), some (.loc st.length), v]) xs [] ⟨by simpa using hl, [], none, fun r => rfl, Nat.le_refl _, rfl, rfl⟩ ?_ ?_
  · rintro done x todo env st1 k ⟨hk, kvs, v, hc, hkl, rfl, rfl⟩ hn
    have e1 : (st ++ [Cell.dct true kvs])[st.length]? = some (Cell.dct true kvs) := List.getElem?_concat_length
    conv => whnf
    refine ⟨onSome_i e1 trivial, ?_⟩
    conv => whnf
    refine onSome_i e1 ⟨rfl, ?_⟩
    have e2 := hc x
    rw [e2]
    conv => whnf
    refine onSome_i e1 ⟨rfl, ?_, ?_⟩
    · rw [sizeLine_eq]; simp at hk; omega
    · refine hn _ _ ⟨by simp at hk ⊢; omega, dPut kvs (row x) (.int ((done.count x : Nat) + 1)), _, cOk_put (zs := done ++ [x]) hc (by simp [List.count_append]) (fun r hr => ?_), ?_, ?_, rfl⟩
      · have : ¬ x = r := fun z => hr z.symm
        simp [List.count_append, this]
      · have := dPut_len kvs (row x) (.int ((done.count x : Nat) + 1))
        simp; omega
      · simp
  · rintro env st1 ⟨_, kvs, v, hc, hkl, rfl, rfl⟩
    conv => whnf
    exact .now (h kvs ⟨hc, by simpa using hkl⟩)
theorem get2a {st : Sto} {a b : Cell} : (st ++ [a] ++ [b])[st.length]? = some a := by simp
theorem get2b {st : Sto} {a b : Cell} : (st ++ [a] ++ [b])[(st ++ [a]).length]? = some b := by simp
theorem set2a {st : Sto} {a b c : Cell} : (st ++ [a] ++ [b]).set st.length c = st ++ [c] ++ [b] := by simp
theorem set2b {st : Sto} {a b c : Cell} : (st ++ [a] ++ [b]).set (st ++ [a]).length c = st ++ [a] ++ [c] := by simp
theorem v_more (ds : List D) (st : Sto) (Q : D → Sto → Prop) (X : EX) (hs : CloS st.length st) (hd : Clos st.length ds) (h0 : L.call "more" ds st Q X) : b_more.run L ds st (Gc st.length Q) (GcX st.length X) := by
  obtain ⟨a, b, rfl, hla, hlb, h⟩ := (show sMore ds st Q X from h0)
  clear h0
  conv => whnf
  refine ⟨b, rfl, hlb, fun kvs hc => ?_⟩
  conv => whnf
  refine ⟨by decide, ?_⟩
  conv => whnf
  refine forGo_ind (f := row) (fun done todo env st1 => done.length + todo.length ≤ 10000 ∧ ∃ kvs ys, ∃ fs : List Rw, ∃ v l, cOk kvs ys ∧ kvs.length ≤ 10000 + done.length ∧ fs.length ≤ done.length ∧ fs ++ less todo ys = less a b ∧ l = (st ++ [Cell.dct true kvs]).length ∧
    st1 = st ++ [.dct true kvs] ++ [.lst (fs.map row)] ∧ env = [some (tupR a), some (tupR b), some (.loc st.length), some (.loc l), v]) a [] ⟨by simpa using hla, kvs, b, [], none, _, hc.1, by have := hc.2; simp; omega, by simp, by simp, rfl, rfl, rfl⟩ ?_ ?_
  · rintro done x todo env st1 k ⟨hk, kvs, ys, fs, v, l, hc, hkl, hfl, hfs, rfl, rfl, rfl⟩ hn
    have e2 := hc x
    have hk' : done.length + todo.length + 1 ≤ 10000 := by simp at hk; omega
    conv => whnf
    refine ⟨onSome_i get2a trivial, ?_⟩
    conv => whnf
    refine onSome_i get2a ⟨rfl, ?_⟩
    rw [e2]
    conv => whnf
    refine ifB_intro (fun c1 => ?_) (fun c1 => ?_)
    · have c1 : 0 < ys.count x := by
        have : (0 : Int) < (ys.count x : Nat) := of_decide_eq_true c1
        omega
      have hm : x ∈ ys := List.count_pos_iff.mp c1
      have e3 : dGet kvs (row x) = some (.int (ys.count x : Nat)) := by
        cases e : dGet kvs (row x) with
        | none =>
          rw [e] at e2
          have e2 : D.int 0 = D.int (ys.count x : Nat) := e2
          injection e2 with e2
          omega
        | some d =>
          rw [e] at e2
          exact congrArg some e2
      conv => whnf
      refine onSome_i get2a ⟨rfl, onSome_i e3 ?_⟩
      conv => whnf
      refine onSome_i get2a ⟨rfl, ?_, ?_⟩
      · rw [sizeLine_eq]; omega
      · refine hn _ _ ⟨by simp at hk ⊢; omega, dPut kvs (row x) (.int ((ys.count x : Nat) - 1)), ys.erase x, fs, some (row x), _, cOk_put (zs := ys.erase x) hc ?_ (fun r hr => ?_), ?_, ?_, ?_, rfl, set2a, ?_⟩
        · rw [List.count_erase]; simp; omega
        · have : (x == r) = false := by rw [Bool.eq_false_iff]; intro z; exact hr (eq_of_beq z).symm
          rw [List.count_erase, this]; simp
        · have := dPut_len kvs (row x) (.int ((ys.count x : Nat) - 1))
          simp; omega
        · simp; omega
        · rw [← hfs, less, if_pos hm]
        · simp [setS]
    · have c1 : ys.count x = 0 := by
        have : ¬ (0 : Int) < (ys.count x : Nat) := of_decide_eq_false c1
        omega
      have hm : x ∉ ys := List.count_eq_zero.mp c1
      conv => whnf
      refine ⟨onSome_i get2b trivial, ?_⟩
      conv => whnf
      refine onSome_i get2b ⟨?_, ?_⟩
      · rw [sizeLine_eq, List.length_map]; omega
      · refine hn _ _ ⟨by simp at hk ⊢; omega, kvs, ys, fs ++ [x], _, _, hc, by simp; omega, by simp; omega, ?_, rfl, ?_, rfl⟩
        · rw [← hfs, less, if_neg hm, List.append_assoc]; rfl
        · rw [set2b, List.map_append]; rfl
  · rintro env st1 ⟨_, kvs, ys, fs, v, l, hc, hkl, hfl, hfs, rfl, rfl, rfl⟩
    rw [less, List.append_nil] at hfs
    conv => whnf
    refine ⟨fs, ?_, .inr (.inr ⟨_, rfl, get2b⟩), ?_⟩
    · have := less_len a b
      rw [hfs]; omega
    · rw [hfs, List.append_assoc]
      exact gc_drop hs (tupR_pure _) h
theorem v_parted (ds : List D) (st : Sto) (Q : D → Sto → Prop) (X : EX) (hs : CloS st.length st) (hd : Clos st.length ds) (h0 : L.call "parted" ds st Q X) : b_parted.run L ds st (Gc st.length Q) (GcX st.length X) := by
  obtain ⟨a, b, rfl, hla, hlb, h⟩ := (show sParted ds st Q X from h0)
  clear h0
  conv => whnf
  refine ⟨b, a, rfl, hlb, hla, ?_⟩
  conv => whnf
  refine ⟨a, b, rfl, hla, hlb, ?_⟩
  conv => whnf
  refine ⟨(show 2 ≤ sizeLine by rw [sizeLine_eq]; omega), ?_⟩
  exact .now h
theorem v_joined (ds : List D) (st : Sto) (Q : D → Sto → Prop) (X : EX) (hs : CloS st.length st) (hd : Clos st.length ds) (h0 : L.call "joined" ds st Q X) : b_joined.run L ds st (Gc st.length Q) (GcX st.length X) := by
  obtain ⟨bag, plus, minus, rfl, h1, h2, h3, hq, hx⟩ := (show sJoined ds st Q X from h0)
  clear h0
  conv => whnf
  refine ⟨minus, bag, rfl, by omega, by omega, ?_⟩
  conv => whnf
  refine ⟨Nat.zero_le _, ?_⟩
  conv => whnf
  refine ⟨⟨rows_cmp _, rfl⟩, ?_⟩
  have e : D.eqv (flatOf st (tupR (sortR (less minus bag)))) (flatOf st (.tup [])) = decide (sortR (less minus bag) = []) := eqvs_rows _ []
  rw [e]
  have e2 : sortR (less minus bag) = [] ↔ less minus bag = [] := by
    constructor
    · intro z
      have := (sortR_perm (less minus bag)).length_eq
      rw [z] at this
      exact List.length_eq_zero_iff.mp this.symm
    · intro z; rw [z]; exact List.mergeSort_nil
  by_cases hz : less minus bag = []
  · have hz2 := e2.mpr hz
    rw [decide_eq_true hz2]
    conv => whnf
    refine ⟨bag, minus, rfl, by omega, by omega, ?_⟩
    conv => whnf
    have l1 : (sortR (less bag minus)).length ≤ 4000 := by
      rw [(sortR_perm _).length_eq]
      have := less_len bag minus
      omega
    refine ⟨?_, ?_⟩
    · rw [sizeLine_eq, List.length_map, List.length_map]; omega
    conv => whnf
    refine ⟨sortR (less bag minus) ++ plus, by rw [List.length_append]; omega, .inr (.inl ?_), .now (hq hz)⟩
    rw [tupR, List.map_append]
  · have hz2 : ¬ sortR (less minus bag) = [] := fun z => hz (e2.mp z)
    rw [decide_eq_false hz2]
    conv => whnf
    exact ⟨rfl, .now (hx hz)⟩
end K

set_option maxHeartbeats 1000000
namespace K
open PySem PySem.Spec PyProof.Rows L2 DL
theorem ixn {n j : Nat} (h : j < n) : ixN n (j : Int) = some j := by
  unfold ixN
  rw [if_pos (by omega), if_pos (by omega)]
  simp
theorem v_is_item (ds : List D) (st : Sto) (Q : D → Sto → Prop) (X : EX) (hs : CloS st.length st) (hd : Clos st.length ds) (h0 : L.call "is_item" ds st Q X) : b_is_item.run L ds st (Gc st.length Q) (GcX st.length X) := by
  obtain ⟨z, v, rfl, hp, h⟩ := (show sIsItem ds st Q X from h0)
  clear h0
  conv => whnf
  refine ifB_intro (fun c => ?_) (fun c => ?_)
  · have c : z = "number" := of_decide_eq_true c
    conv => whnf
    refine ⟨v, rfl, hp, .now ?_⟩
    unfold isItem at h
    rw [if_pos c] at h
    exact h
  · have c : ¬ z = "number" := of_decide_eq_false c
    conv => whnf
    refine ⟨v, rfl, hp, .now ?_⟩
    unfold isItem at h
    rw [if_neg c] at h
    exact h
theorem v_law_is_number (ds : List D) (st : Sto) (Q : D → Sto → Prop) (X : EX) (hs : CloS st.length st) (hd : Clos st.length ds) (h0 : L.call "_law_is_number" ds st Q X) : b_law_is_number.run L ds st (Gc st.length Q) (GcX st.length X) := by
  obtain ⟨v, rfl, hp, h⟩ := (show sIsNumber ds st Q X from h0)
  clear h0
  cases v <;> first | (cases hp; done) | (conv => whnf); first | exact .now h | skip
  rename_i i
  have h : Q (.bl (decide (-2147483648 ≤ i) && decide (i ≤ 2147483647))) st := h
  refine ifB_intro (fun c => ?_) (fun c => ?_)
  · have c : decide (-2147483648 ≤ i) = true := c
    rw [c] at h
    exact .now h
  · have c : decide (-2147483648 ≤ i) = false := c
    rw [c] at h
    exact .now h
theorem v_law_bag (ds : List D) (st : Sto) (Q : D → Sto → Prop) (X : EX) (hs : CloS st.length st) (hd : Clos st.length ds) (h0 : L.call "_law_bag" ds st Q X) : b_law_bag.run L ds st (Gc st.length Q) (GcX st.length X) := by
  obtain ⟨ns, k, rfl, h⟩ := (show sLawBag ds st Q X from h0)
  clear h0
  conv => whnf
  refine ifB_intro (fun c => ?_) (fun c => ?_)
  · have c : (k : Int) < ns.length := of_decide_eq_true c
    have hk : k < ns.length := by omega
    conv => whnf
    refine onSome_i (a := ns[k]) ?_ ?_
    · show (ixN ns.length (k : Int)).bind _ = _
      rw [ixn hk]
      exact List.getElem?_eq_getElem hk
    conv => whnf
    refine ⟨rfl, ?_⟩
    conv => whnf
    refine ⟨(show 4 ≤ sizeLine by rw [sizeLine_eq]; omega), ?_⟩
    exact .now (h _ ⟨_, _, _, _, rfl⟩)
  · conv => whnf
    refine ⟨rfl, ?_⟩
    conv => whnf
    refine ⟨(show 4 ≤ sizeLine by rw [sizeLine_eq]; omega), ?_⟩
    exact .now (h _ ⟨_, _, _, _, rfl⟩)
theorem set_same {st : Sto} {n : Nat} {c : Cell} (e : st[n]? = some c) : st.set n c = st := by
  obtain ⟨h, e⟩ := List.getElem?_eq_some_iff.mp e
  rw [← e]
  exact List.set_getElem_self h
theorem set_get {st : Sto} {n : Nat} {c : Cell} (h : n < st.length) : (st.set n c)[n]? = some c := List.getElem?_set_self h
theorem v_law_draw (ds : List D) (st : Sto) (Q : D → Sto → Prop) (X : EX) (hs : CloS st.length st) (hd : Clos st.length ds) (h0 : L.call "_law_draw" ds st Q X) : b_law_draw.run L ds st (Gc st.length Q) (GcX st.length X) := by
  obtain ⟨n, many, rfl, hm, ⟨c0, ⟨a, b, d, e, rfl⟩, e0⟩, h⟩ := (show sDraw ds st Q X from h0)
  clear h0
  have hn : n < st.length := (List.getElem?_eq_some_iff.mp e0).1
  have E : ∀ c : Cell, (st.set n c)[n]? = some c := fun c => set_get hn
  conv => whnf
  refine ifB_intro (fun c => ?_) (fun c => ?_)
  · conv => whnf
    have := h 0 _ ⟨a, b, d, e, rfl⟩ (Int.le_refl _) (.inr rfl)
    rw [set_same e0] at this
    exact .now this
  have c : ¬ many < 1 := of_decide_eq_false c
  have fin : ∀ (A : Int) (B D' E' : Int) (st1 : Sto), st1 = st.set n (.lst [.int A, .int B, .int D', .int E']) → Gc st.length Q (.int (A % many)) (st1.set n (.lst [.int (A / many), .int B, .int D', .int E'])) := fun A B D' E' st1 e => by
    subst e
    rw [List.set_set]
    exact .now (h _ _ ⟨_, _, _, _, rfl⟩ (Int.emod_nonneg _ (by omega)) (.inl (Int.emod_lt_of_pos _ (by omega))))
  conv => whnf
  refine onSome_i e0 ?_
  conv => whnf
  refine ifB_intro (fun c1 => ?_) (fun c1 => ?_)
  · conv => whnf
    have E2 : ∀ c d : Cell, ((st.set n c).set n d)[n]? = some d := fun c d => set_get (by rw [List.length_set]; exact hn)
    have E3 : ∀ c d e : Cell, (((st.set n c).set n d).set n e)[n]? = some e := fun c d e => set_get (by rw [List.length_set, List.length_set]; exact hn)
    have E4 : ∀ c d e f : Cell, ((((st.set n c).set n d).set n e).set n f)[n]? = some f := fun c d e f => set_get (by rw [List.length_set, List.length_set, List.length_set]; exact hn)
    have sb : ∀ x : Int, big64 (x % 2147483647) = true := fun x => decide_eq_true (by omega)
    repeat' first | (refine onSome_i e0 ?_; conv => whnf) | (refine onSome_i (E _) ?_; conv => whnf) | (refine onSome_i (E2 _ _) ?_; conv => whnf) | (refine onSome_i (E3 _ _ _) ?_; conv => whnf) | (refine onSome_i (E4 _ _ _ _) ?_; conv => whnf) | (refine ⟨by first | decide | exact ⟨by omega, hm⟩ | omega | (rw [Bool.or_eq_true]; exact .inr (by decide)) | (rw [Bool.or_eq_true]; exact .inr (sb _)), ?_⟩; conv => whnf) | ((refine ifB_intro (fun _ => ?_) (fun _ => ?_)) <;> (conv => whnf)) | (simp only [List.set_set]; exact .now (h _ _ ⟨_, _, _, _, rfl⟩ (Int.emod_nonneg _ (by omega)) (.inl (Int.emod_lt_of_pos _ (by omega)))))
  · conv => whnf
    refine onSome_i e0 ?_
    conv => whnf
    refine ⟨⟨by omega, hm⟩, ?_⟩
    conv => whnf
    refine onSome_i e0 ?_
    conv => whnf
    refine ⟨by omega, ?_⟩
    exact fin a b d e st (set_same e0).symm
theorem v_law_one (ds : List D) (st : Sto) (Q : D → Sto → Prop) (X : EX) (hs : CloS st.length st) (hd : Clos st.length ds) (h0 : L.call "_law_one" ds st Q X) : b_law_one.run L ds st (Gc st.length Q) (GcX st.length X) := by
  obtain ⟨n, xs, rfl, h1, h2, hb, h⟩ := (show sOne ds st Q X from h0)
  clear h0
  conv => whnf
  refine ⟨n, _, rfl, by omega, hb, fun r c hc h3 h4 => ?_⟩
  have hr : r < xs.length := by omega
  obtain ⟨j, rfl⟩ : ∃ j : Nat, r = (j : Int) := ⟨r.toNat, by omega⟩
  have hr2 : j < xs.length := by omega
  conv => whnf
  refine onSome_i (a := xs[j]) ?_ ?_
  · show (ixN xs.length (j : Int)).bind _ = _
    rw [ixn hr2]
    exact List.getElem?_eq_getElem hr2
  · exact .now (h _ c hc (List.getElem_mem hr2))
def isI : D → Bool
  | .int _ => true
  | _ => false
theorem isI_of {x : D} {l : List D} (h : x ∈ l) (hp : l.all isI = true) : ∃ i, x = .int i := by
  have := List.all_eq_true.mp hp x h
  cases x <;> first | exact ⟨_, rfl⟩ | cases this
theorem v_law_integer (ds : List D) (st : Sto) (Q : D → Sto → Prop) (X : EX) (hs : CloS st.length st) (hd : Clos st.length ds) (h0 : L.call "_law_integer" ds st Q X) : b_law_integer.run L ds st (Gc st.length Q) (GcX st.length X) := by
  obtain ⟨n, rfl, hb, h⟩ := (show sInteger ds st Q X from h0)
  clear h0
  obtain ⟨c0, hc0, e0⟩ := hb
  have hn : n < st.length := (List.getElem?_eq_some_iff.mp e0).1
  have E : ∀ c : Cell, isBag4 c → bagAt (st.set n c) n := fun c hc => ⟨c, hc, set_get hn⟩
  conv => whnf
  refine ⟨by decide, ?_⟩
  conv => whnf
  refine ⟨by decide, ?_⟩
  conv => whnf
  refine ⟨(show 7 ≤ sizeLine by rw [sizeLine_eq]; omega), ?_⟩
  conv => whnf
  refine ⟨n, _, rfl, by decide, by decide, ⟨c0, hc0, e0⟩, fun x c hc hx => ?_⟩
  obtain ⟨i, rfl⟩ := isI_of hx rfl
  conv => whnf
  refine ⟨by decide, ?_⟩
  conv => whnf
  refine ⟨n, _, rfl, by decide, E c hc, fun r c2 hc2 _ _ => ?_⟩
  rw [List.set_set]
  conv => whnf
  refine ⟨(show 4 ≤ sizeLine by rw [sizeLine_eq]; omega), ?_⟩
  conv => whnf
  refine ⟨n, _, rfl, (show 1 ≤ 4 by decide), (show 4 ≤ 1000 by decide), E c2 hc2, fun y c3 hc3 hy => ?_⟩
  rw [List.set_set]
  obtain ⟨i2, rfl⟩ := isI_of hy rfl
  conv => whnf
  exact .now (h _ c3 hc3)
theorem tne_t {b : Bool} (h : (true != b) = true) : b = false := by cases b <;> first | rfl | cases h
theorem tne_f {b : Bool} (h : (true != b) = false) : b = true := by cases b <;> first | rfl | cases h
theorem eqvs_nil (ys : List D) : D.eqvs ys [] = ys.isEmpty := by cases ys <;> rfl
theorem flat_cmp : ∀ {xs : List D}, xs.all (fun d => D.pure d && decide (D.depth d ≤ 0)) = true → D.pures xs = true ∧ D.depths xs ≤ 0
  | [], _ => ⟨rfl, Nat.le_refl _⟩
  | x :: xs, h => by
    rw [List.all_cons, Bool.and_eq_true, Bool.and_eq_true, decide_eq_true_eq] at h
    have ih := flat_cmp h.2
    rw [D.pures, D.depths, h.1.1, ih.1]
    exact ⟨rfl, by omega⟩
theorem flat_cmpL {xs : List D} (h : xs.all (fun d => D.pure d && decide (D.depth d ≤ 0)) = true) : cmpD (.lst xs) = true := by
  obtain ⟨h1, h2⟩ := flat_cmp h
  unfold cmpD
  rw [Bool.and_eq_true, decide_eq_true_eq]
  exact ⟨by simpa [D.pure] using h1, by rw [D.depth]; omega⟩
theorem v_law_is_text (ds : List D) (st : Sto) (Q : D → Sto → Prop) (X : EX) (hs : CloS st.length st) (hd : Clos st.length ds) (h0 : L.call "_law_is_text" ds st Q X) : b_law_is_text.run L ds st (Gc st.length Q) (GcX st.length X) := by
  obtain ⟨v, rfl, hp, h⟩ := (show sLawIsText ds st Q X from h0)
  clear h0
  cases v <;> first | (cases hp; done) | (conv => whnf); first | exact .now h | skip
  rename_i s
  have hl : s.length ≤ 100 := of_decide_eq_true hp
  refine ⟨by rw [sizeLine_eq]; omega, ?_⟩
  conv => whnf
  have h : Q (.bl (decide (s.length ≤ 12) && s.toList.all okSign)) st := h
  refine ifB_intro (fun c => ?_) (fun c => ?_)
  · have c : (s.length : Int) ≤ 12 := of_decide_eq_true c
    have : decide (s.length ≤ 12) = true := decide_eq_true (by omega)
    rw [this] at h
    have hsz : s.toList.length ≤ 100 := hl
    conv => whnf
    refine ⟨by rw [sizeLine_eq]; omega, ?_⟩
    refine lcGo_ind (f := fun c => D.str (String.ofList [c])) (fun done todo acc st1 => done.length + todo.length ≤ 100 ∧ acc.length ≤ done.length ∧ st1 = st ∧ (acc = [] ↔ done.all okSign = true) ∧ acc.all (fun d => D.pure d && decide (D.depth d ≤ 0)) = true) s.toList [] ⟨by simpa using hsz, by simp, rfl, by simp, rfl⟩ ?_ ?_
    · rintro done x todo acc st1 k ⟨hk, ha, rfl, hi, hpu⟩ hn
      have hacc : acc.length < sizeLine := by
        rw [sizeLine_eq]; simp at hk; omega
      have m1 : (String.ofList [x]).toList = [x] := String.toList_ofList
      conv => whnf
      rw [m1]
      conv => whnf
      have ex : okSign x = decide (x ∈ "abcdefghijklmnopqrstuvwxyz0123456789".toList) := by
        unfold okSign
        rw [Bool.eq_iff_iff]
        simp only [Bool.or_eq_true, decide_eq_true_eq]
        rw [← List.mem_append]
        rfl
      refine ifB_intro (fun c1 => ?_) (fun c1 => ?_)
      · have c1 : decide (x ∈ "abcdefghijklmnopqrstuvwxyz0123456789".toList) = false := tne_t c1
        conv => whnf
        refine ⟨hacc, hn _ _ ⟨by simp at hk ⊢; omega, by simp; omega, rfl, ?_, ?_⟩⟩
        · rw [← ex] at c1
          simp [c1]
        · rw [List.all_cons, hpu]; rfl
      · have c1 : decide (x ∈ "abcdefghijklmnopqrstuvwxyz0123456789".toList) = true := tne_f c1
        conv => whnf
        refine hn _ _ ⟨by simp at hk ⊢; omega, by simp; omega, rfl, ?_, hpu⟩
        rw [← ex] at c1
        simp [hi, c1]
    · rintro acc st1 ⟨_, _, rfl, hi, hpu⟩
      conv => whnf
      refine ⟨Nat.zero_le _, ?_⟩
      conv => whnf
      refine ⟨⟨flat_cmpL (by rw [List.all_reverse]; exact hpu), rfl⟩, ?_⟩
      have e : D.eqv (flatOf st1 (.lst acc.reverse)) (flatOf st1 (.lst [])) = s.toList.all okSign := by
        show D.eqvs acc.reverse [] = _
        rw [eqvs_nil, List.isEmpty_reverse, Bool.eq_iff_iff, List.isEmpty_iff, hi]
        rfl
      rw [e]
      exact .now (by simpa using h)
  · have c : ¬ (s.length : Int) ≤ 12 := of_decide_eq_false c
    have : decide (s.length ≤ 12) = false := decide_eq_false (by omega)
    rw [this] at h
    exact .now h
def rowL : List Rw := [(0, ""), (0, "a"), (1, ""), (-5, "b"), (1, "ab"), (7, "a")]
theorem rowL_ok : ∀ x ∈ rowL, x.2.length ≤ 2 ∧ -5 ≤ x.1 ∧ x.1 ≤ 7 ∧ isText (.str x.2) = true := by decide +kernel
theorem v_law_rows (ds : List D) (st : Sto) (Q : D → Sto → Prop) (X : EX) (hs : CloS st.length st) (hd : Clos st.length ds) (h0 : L.call "_law_rows" ds st Q X) : b_law_rows.run L ds st (Gc st.length Q) (GcX st.length X) := by
  obtain ⟨n, many, rfl, hm, ⟨c0, hc0, e0⟩, h⟩ := (show sRows ds st Q X from h0)
  clear h0
  have hn : n < st.length := (List.getElem?_eq_some_iff.mp e0).1
  have E : ∀ c : Cell, isBag4 c → bagAt (st.set n c) n := fun c hc => ⟨c, hc, set_get hn⟩
  conv => whnf
  iterate 6 (refine ⟨(show 2 ≤ sizeLine by rw [sizeLine_eq]; omega), ?_⟩; conv => whnf)
  refine ⟨(show 6 ≤ sizeLine by rw [sizeLine_eq]; omega), ?_⟩
  conv => whnf
  refine ⟨n, many, rfl, by omega, ⟨c0, hc0, e0⟩, fun r c hc h1 h2 => ?_⟩
  conv => whnf
  have hr : r.toNat ≤ 1000 := by omega
  refine ⟨by omega, ?_⟩
  refine lcGo_ind (f := fun i : Nat => D.int (0 + (i : Nat))) (fun done todo acc st1 => done.length + todo.length ≤ 1000 ∧ ∃ xs : List Rw, ∃ c, isBag4 c ∧ xs.length ≤ done.length ∧ acc.reverse = xs.map row ∧ st1 = st.set n c ∧ ∀ x ∈ xs, x ∈ rowL) (List.range r.toNat) [] ⟨by simpa using hr, [], c, hc, by simp, rfl, rfl, by simp⟩ ?_ ?_
  · rintro done x todo acc st1 k ⟨hk, xs, c, hc, hx, ha, rfl, hL⟩ hn2
    conv => whnf
    refine ⟨n, 6, rfl, by decide, E c hc, fun r2 c2 hc2 h3 h4 => ?_⟩
    rw [List.set_set]
    have h5 : r2 = 0 ∨ r2 = 1 ∨ r2 = 2 ∨ r2 = 3 ∨ r2 = 4 ∨ r2 = 5 := by omega
    have hacc : acc.length < sizeLine := by
      have := congrArg List.length ha
      rw [List.length_reverse, List.length_map] at this
      rw [sizeLine_eq]; simp at hk; omega
    have next : ∀ y, y ∈ rowL → k (row y :: acc) (st.set n c2) := fun y hy => hn2 _ _ ⟨by simp at hk ⊢; omega, xs ++ [y], c2, hc2, by simp; omega, by rw [List.reverse_cons, ha, List.map_append]; rfl, rfl, fun z hz => by
      rcases List.mem_append.mp hz with hz | hz
      · exact hL z hz
      · simp at hz; subst hz; exact hy⟩
    rcases h5 with rfl | rfl | rfl | rfl | rfl | rfl <;> (conv => whnf)
    · exact ⟨hacc, next (0, "") (by decide)⟩
    · exact ⟨hacc, next (0, "a") (by decide)⟩
    · exact ⟨hacc, next (1, "") (by decide)⟩
    · exact ⟨hacc, next (-5, "b") (by decide)⟩
    · exact ⟨hacc, next (1, "ab") (by decide)⟩
    · exact ⟨hacc, next (7, "a") (by decide)⟩
  · rintro acc st1 ⟨hk, xs, c, hc, hx, ha, rfl, hL⟩
    conv => whnf
    rw [ha]
    exact .now (h xs c hc (by simp at hx; omega) fun x hx => rowL_ok x (hL x hx))
end K

set_option maxHeartbeats 1000000
namespace K
open PySem PySem.Spec PyProof.Rows L2 DL
theorem place_row {x : Rw} : ∀ {ys : List Rw}, x ∈ ys → ∃ j, ((ys.map row).findIdx? fun y => D.eqv y (row x)) = some j ∧ (ys.map row).eraseIdx j = (ys.erase x).map row
  | [], h => nomatch h
  | y :: ys, h => by
    rw [List.map_cons, List.findIdx?_cons, eqv_row]
    by_cases e : y = x
    · subst e
      rw [decide_eq_true rfl, List.erase_cons_head]
      exact ⟨0, rfl, rfl⟩
    · have hm : x ∈ ys := by
        rcases List.mem_cons.mp h with z | z
        · exact absurd z.symm e
        · exact z
      obtain ⟨j, h1, h2⟩ := place_row hm
      rw [decide_eq_false e, h1, List.erase_cons_tail (by simpa using e)]
      exact ⟨j + 1, rfl, by rw [List.eraseIdx_cons_succ, h2]; rfl⟩
theorem whileGo_ind {c : St' → Sto → (Bool → Sto → Prop) → (Xc → St' → Sto → Prop) → Prop} {body : St' → Sto → Post → Prop} {P : Post} (Inv : Nat → St' → Sto → Prop)
    (step : ∀ m env st (k : St' → Sto → Prop), Inv m env st → (∀ m' env st, m' < m → Inv m' env st → k env st) → c env st (fun b st => ifB b (body env st { P with nx := k, ct := k, bk := P.nx }) (P.nx env st)) P.ex) :
    ∀ n m env st, m < n → Inv m env st → whileGo c body n env st P
  | 0, _, _, _, h, _ => absurd h (Nat.not_lt_zero _)
  | n + 1, m, env, st, h, hi => step m env st _ hi fun m' env st hlt hi' => whileGo_ind Inv step n m' env st (by omega) hi'
theorem least_sort {ls : List Rw} {x : Rw} (hx : x ∈ ls) (h : ∀ y ∈ ls, leP x y = true) : sortR ls = x :: sortR (ls.erase x) :=
  sort_uniq ((sortR_perm ls).trans ((List.perm_cons_erase hx).trans (List.Perm.cons x (sortR_perm _).symm))) (sortR_pw ls)
    (List.pairwise_cons.mpr ⟨fun y hy => h y (List.mem_of_mem_erase ((sortR_perm _).mem_iff.mp hy)), sortR_pw _⟩)
theorem v_law_joins (ds : List D) (st : Sto) (Q : D → Sto → Prop) (X : EX) (hs : CloS st.length st) (hd : Clos st.length ds) (h0 : L.call "_law_joins" ds st Q X) : b_law_joins.run L ds st (Gc st.length Q) (GcX st.length X) := by
  obtain ⟨bag, plus, minus, rfl, h1, h2, h3, h⟩ := (show sJoins ds st Q X from h0)
  clear h0
  conv => whnf
  refine ⟨bag, plus, minus, rfl, h1, h2, h3, fun hz => ?_, fun hz => ?_⟩
  · rw [if_pos hz] at h
    exact .now h
  · rw [if_neg hz] at h
    conv => whnf
    exact .now h
theorem v_law_less (ds : List D) (st : Sto) (Q : D → Sto → Prop) (X : EX) (hs : CloS st.length st) (hd : Clos st.length ds) (h0 : L.call "_law_less" ds st Q X) : b_law_less.run L ds st (Gc st.length Q) (GcX st.length X) := by
  obtain ⟨a, b, rfl, hla, hlb, h⟩ := (show sLess ds st Q X from h0)
  clear h0
  conv => whnf
  refine ⟨Nat.zero_le _, ?_⟩
  conv => whnf
  refine forGo_ind (f := row) (fun done todo env st1 => done.length + todo.length ≤ 5000 ∧ ∃ ys fs : List Rw, ∃ v l, ys.length ≤ 5000 ∧ fs.length ≤ done.length ∧ fs ++ less todo ys = less a b ∧ l = st.length + 1 ∧
    st1 = st ++ [.lst (ys.map row)] ++ [.lst (fs.map row)] ∧ env = [some (tupR a), some (tupR b), some (.loc st.length), some (.loc l), v]) a [] ⟨by simpa using hla, b, [], none, _, hlb, by simp, by simp, by simp, rfl, rfl⟩ ?_ ?_
  · rintro done x todo env st1 k ⟨hk, ys, fs, v, l, hyl, hfl, hfs, rfl, rfl, rfl⟩ hn
    have hk' : done.length + todo.length + 1 ≤ 5000 := by simp at hk; omega
    have g2 : ∀ A B : Cell, (st ++ [A] ++ [B])[st.length + 1]? = some B := fun A B => by simp
    have s2 : ∀ A B c : Cell, (st ++ [A] ++ [B]).set (st.length + 1) c = st ++ [A] ++ [c] := fun A B c => by simp
    conv => whnf
    refine onSome_i get2a ⟨⟨row_cmp x, rows_cmpL ys⟩, ?_⟩
    conv => whnf
    have ea : ((ys.map row).any fun z => D.eqv z (row x)) = decide (x ∈ ys) := by
      rw [Bool.eq_iff_iff, List.any_eq_true]
      simp only [decide_eq_true_eq, List.mem_map]
      constructor
      · rintro ⟨z, ⟨y, hy, rfl⟩, e⟩
        rw [eqv_row, decide_eq_true_eq] at e
        exact e ▸ hy
      · intro hx
        exact ⟨row x, ⟨x, hx, rfl⟩, by rw [eqv_row]; simp⟩
    rw [ea]
    by_cases hx : x ∈ ys
    · rw [decide_eq_true hx]
      conv => whnf
      refine ⟨onSome_i get2a trivial, ?_⟩
      conv => whnf
      obtain ⟨j, hix, hej⟩ := place_row hx
      refine onSome_i get2a ⟨row_cmp x, rows_cmpL ys, onSome_i hix ?_⟩
      refine hn _ _ ⟨by simp at hk ⊢; omega, ys.erase x, fs, some (row x), _, ?_, by simp; omega, ?_, rfl, ?_, rfl⟩
      · have := List.length_erase_le (a := x) (l := ys); omega
      · rw [← hfs, less, if_pos hx]
      · rw [set2a, hej]
    · rw [decide_eq_false hx]
      conv => whnf
      refine ⟨onSome_i (g2 _ _) trivial, ?_⟩
      conv => whnf
      refine onSome_i (g2 _ _) ⟨?_, ?_⟩
      · rw [sizeLine_eq, List.length_map]; omega
      · refine hn _ _ ⟨by simp at hk ⊢; omega, ys, fs ++ [x], some (row x), _, hyl, by simp; omega, ?_, rfl, ?_, rfl⟩
        · rw [← hfs, less, if_neg hx, List.append_assoc]; rfl
        · rw [s2, List.map_append]; rfl
  · rintro env st1 ⟨_, ys, fs, v, l, hyl, hfl, hfs, rfl, rfl, rfl⟩
    rw [less, List.append_nil] at hfs
    conv => whnf
    refine ⟨fs, ?_, .inr (.inr ⟨_, rfl, by simp⟩), ?_⟩
    · have := less_len a b
      rw [hfs]; omega
    · rw [hfs, List.append_assoc]
      exact gc_drop hs (tupR_pure _) h
theorem sorted_run {st : Sto} {Q : D → Sto → Prop} {X : EX} {d : D} {xs : List Rw} (hs : CloS st.length st) (hl : xs.length ≤ 5000) (h : Q (tupR (sortR xs)) st) :
    wpSs L (Ss.cons (.asg (.t (.v 2)) (.lst true .nil)) (.cons (.while_ (.cmp .gt (.bi false .len (.cons (.v 1) .nil)) (.int 0)) (.cons (.asg (.t (.v 3)) (.ix (.v 1) (.int 0))) (.cons (.for_ (.v 4) (.e (.v 1)) (.cons (.ite (.cmp .lt (.v 4) (.v 3)) (.cons (.asg (.t (.v 3)) (.v 4)) .nil) .nil) .nil)) (.cons (.ex (.bm .remove (.v 1) (.cons (.v 3) .nil))) (.cons (.ex (.bm .append (.v 2) (.cons (.v 3) .nil))) .nil))))) (.cons (.ret (.bi false .tuple_ (.cons (.v 2) .nil))) .nil)))
      [some d, some (.loc st.length), none, none, none] (st ++ [.lst (xs.map row)]) { nx := fun _ st1 => Gc st.length Q .non st1, rt := Gc st.length Q, ex := fun x _ st1 => GcX st.length X x st1 } := by
  have g2 : ∀ A B : Cell, (st ++ [A] ++ [B])[st.length + 1]? = some B := fun A B => by simp
  have s2 : ∀ A B c : Cell, (st ++ [A] ++ [B]).set (st.length + 1) c = st ++ [A] ++ [c] := fun A B c => by simp
  conv => whnf
  refine ⟨Nat.zero_le _, ?_⟩
  conv => whnf
  refine ⟨xs.length + 1, ?_⟩
  refine whileGo_ind (fun m env st1 => ∃ ls fs : List Rw, ∃ v w, ls.length = m ∧ ls.length ≤ 5000 ∧ fs.length + ls.length ≤ 5000 ∧ fs ++ sortR ls = sortR xs ∧ st1 = st ++ [.lst (ls.map row)] ++ [.lst (fs.map row)] ∧ env = [some d, some (.loc st.length), some (.loc (st.length + 1)), v, w]) ?_ _ xs.length _ _ (Nat.lt_succ_self _) ⟨xs, [], none, none, rfl, hl, by simpa using hl, by simp, rfl, by simp [setS]⟩
  rintro m env st1 k ⟨ls, fs, v, w, hm, hll, hfl, hfs, rfl, rfl⟩ hn
  conv => whnf
  refine onSome_i get2a ?_
  conv => whnf
  by_cases hne : ls = []
  · subst hne
    conv => whnf
    refine onSome_i (g2 _ _) ?_
    conv => whnf
    have e : fs = sortR xs := by
      rw [← hfs]
      have : sortR [] = [] := List.mergeSort_nil
      rw [this, List.append_nil]
    rw [e, List.append_assoc]
    exact gc_drop hs (tupR_pure _) h
  · have hpos : 0 < ls.length := List.length_pos_iff.mpr hne
    obtain ⟨y, hy⟩ : ∃ y, ls[0]? = some y := ⟨ls[0], List.getElem?_eq_getElem hpos⟩
    have hyl : y ∈ ls := List.mem_of_getElem? hy
    refine ifB_t (decide_eq_true (by rw [List.length_map]; omega)) ?_
    have ey : atI (ls.map row) 0 = some (row y) := by
      show (ixN (ls.map row).length ((0 : Nat) : Int)).bind _ = _
      rw [ixn (by rw [List.length_map]; exact hpos)]
      show (ls.map row)[0]? = _
      rw [List.getElem?_map, hy]
      rfl
    conv => whnf
    refine onSome_i get2a (onSome_i ey ?_)
    conv => whnf
    refine onSome_i get2a ?_
    conv => whnf
    refine forGo_ind (f := row) (fun done todo env st2 => done.length + todo.length ≤ 5000 ∧ (∀ u ∈ done, u ∈ ls) ∧ (∀ u ∈ todo, u ∈ ls) ∧ done ++ todo = ls ∧ ∃ z w, z ∈ ls ∧ (∀ u ∈ done, leP z u = true) ∧ st2 = st ++ [.lst (ls.map row)] ++ [.lst (fs.map row)] ∧ env = [some d, some (.loc st.length), some (.loc (st.length + 1)), some (row z), w]) ls [] ⟨by simpa using hll, by simp, fun u h => h, rfl, y, _, hyl, by simp, rfl, rfl⟩ ?_ ?_
    · rintro done x todo env st2 k2 ⟨hk, hdn, htd, hall, z, w2, hz, hle, rfl, rfl⟩ hn2
      refine ⟨get2a, ?_⟩
      conv => whnf
      refine ⟨⟨row_cmp x, row_cmp z⟩, onSome_i (lts_row x z) ?_⟩
      conv => whnf
      have hx : x ∈ ls := htd x (by simp)
      have lt_le : ∀ {p q : Rw}, ltP p q = true → leP p q = true := fun {p q} hh => by
        rcases (Bool.or_eq_true _ _).mp (leP_total p q) with g | g
        · exact g
        · unfold leP at g; rw [hh] at g; cases g
      refine ifB_intro (fun c => ?_) (fun c => ?_)
      · have c : ltP x z = true := c
        conv => whnf
        refine hn2 _ _ ⟨by simp at hk ⊢; omega, ?_, fun u hu => htd u (by simp [hu]), by rw [← hall]; simp, x, some (row x), hx, ?_, rfl, rfl⟩
        · intro u hu
          rcases List.mem_append.mp hu with hu | hu
          · exact hdn u hu
          · simp at hu; subst hu; exact hx
        · intro u hu
          rcases List.mem_append.mp hu with hu | hu
          · exact leP_trans x z u (lt_le c) (hle u hu)
          · simp at hu; subst hu
            have := leP_total u u
            simpa using this
      · have c : ltP x z = false := c
        conv => whnf
        refine hn2 _ _ ⟨by simp at hk ⊢; omega, ?_, fun u hu => htd u (by simp [hu]), by rw [← hall]; simp, z, some (row x), hz, ?_, rfl, rfl⟩
        · intro u hu
          rcases List.mem_append.mp hu with hu | hu
          · exact hdn u hu
          · simp at hu; subst hu; exact hx
        · intro u hu
          rcases List.mem_append.mp hu with hu | hu
          · exact hle u hu
          · simp at hu; subst hu
            unfold leP; rw [c]; rfl
    · rintro env st2 ⟨_, _, _, _, z, w2, hz, hle, rfl, rfl⟩
      refine ⟨get2a, ?_⟩
      have hle : ∀ u ∈ ls, leP z u = true := fun u hu => hle u (by simpa using hu)
      obtain ⟨j, hix, hej⟩ := place_row hz
      conv => whnf
      refine ⟨onSome_i get2a trivial, ?_⟩
      conv => whnf
      refine onSome_i get2a ⟨row_cmp z, rows_cmpL _, onSome_i hix ?_⟩
      rw [set2a, hej]
      conv => whnf
      refine ⟨onSome_i (g2 _ _) trivial, ?_⟩
      conv => whnf
      refine onSome_i (g2 _ _) ⟨by rw [sizeLine_eq, List.length_map]; omega, ?_⟩
      rw [s2]
      have hl2 : (ls.erase z).length = ls.length - 1 := List.length_erase_of_mem hz
      refine hn (ls.erase z).length _ _ (by rw [hl2, ← hm]; omega) ⟨ls.erase z, fs ++ [z], some (row z), w2, rfl, by rw [hl2]; omega, by rw [hl2]; simp; omega, ?_, by rw [List.map_append]; rfl, rfl⟩
      rw [List.append_assoc, ← hfs, least_sort hz hle]
      rfl
theorem v_law_sorted (ds : List D) (st : Sto) (Q : D → Sto → Prop) (X : EX) (hs : CloS st.length st) (hd : Clos st.length ds) (h0 : L.call "_law_sorted" ds st Q X) : b_law_sorted.run L ds st (Gc st.length Q) (GcX st.length X) := by
  obtain ⟨xs, hl, hh, h⟩ := (show sSorted ds st Q X from h0)
  clear h0
  rcases hh with rfl | rfl | ⟨n, rfl, e⟩
  · exact sorted_run hs hl h
  · exact sorted_run hs hl h
  · refine onSome_i e ?_
    exact sorted_run hs hl h
end K

set_option maxHeartbeats 1000000
namespace K
open PySem PySem.Spec PyProof.Rows L2 DL
theorem v_is_row (ds : List D) (st : Sto) (Q : D → Sto → Prop) (X : EX) (hs : CloS st.length st) (hd : Clos st.length ds) (h0 : L.call "is_row" ds st Q X) : b_is_row.run L ds st (Gc st.length Q) (GcX st.length X) := by
  obtain ⟨ks, v, rfl, hk, hv, h⟩ := (show sIsRow ds st Q X from h0)
  clear h0
  cases v <;> first | (cases hv; done) | (conv => whnf); first | exact .now h | skip
  rename_i xs
  have hv : (xs.all plain && decide (xs.length ≤ 1000)) = true := hv
  rw [Bool.and_eq_true, decide_eq_true_eq] at hv
  have h : Q (.bl (decide (xs.length = ks.length) && (ks.zip xs).all fun p => isItem p.1 p.2)) st := h
  refine ifB_intro (fun c => ?_) (fun c => ?_)
  · have c : (!decide ((xs.length : Int) = (ks.map D.str).length)) = true := c
    rw [List.length_map] at c
    have c : ¬ (xs.length : Int) = ks.length := by simpa using c
    have e : decide (xs.length = ks.length) = false := decide_eq_false (by omega)
    rw [e] at h
    conv => whnf
    exact .now h
  · have c : (!decide ((xs.length : Int) = (ks.map D.str).length)) = false := c
    rw [List.length_map] at c
    have c : (xs.length : Int) = ks.length := by simpa using c
    have e : decide (xs.length = ks.length) = true := decide_eq_true (by omega)
    rw [e] at h
    conv => whnf
    have ez : ((ks.map D.str).zip xs).map (fun p => D.tup [p.1, p.2]) = (ks.zip xs).map fun p => D.tup [.str p.1, p.2] := by
      rw [List.zip_map_left, List.map_map]; rfl
    rw [ez]
    refine lcGo_ind (f := fun p : String × D => D.tup [.str p.1, p.2]) (fun done todo acc st1 => done.length + todo.length ≤ 1000 ∧ (∀ p ∈ todo, plain p.2 = true) ∧ st1 = st ∧ acc.reverse = done.map fun p => D.bl (isItem p.1 p.2)) (ks.zip xs) [] ⟨by rw [List.length_zip]; simp; omega, fun p hp => List.all_eq_true.mp hv.1 _ (List.of_mem_zip hp).2, rfl, rfl⟩ ?_ ?_
    · rintro done ⟨k1, x⟩ todo acc st1 k ⟨hk1, hpl, rfl, ha⟩ hn
      have hacc : acc.length < sizeLine := by
        have := congrArg List.length ha
        rw [List.length_reverse, List.length_map] at this
        rw [sizeLine_eq]; simp at hk1; omega
      conv => whnf
      refine ⟨k1, x, rfl, hpl (k1, x) (by simp), hacc, hn _ _ ⟨by simp at hk1 ⊢; omega, fun p hp => hpl p (by simp [hp]), rfl, ?_⟩⟩
      rw [List.reverse_cons, ha, List.map_append]; rfl
    · rintro acc st1 ⟨_, _, rfl, ha⟩
      conv => whnf
      rw [ha]
      refine ⟨bls_all (fun p : String × D => isItem p.1 p.2) _, ?_⟩
      conv => whnf
      rw [bls_val (fun p : String × D => isItem p.1 p.2)]
      exact .now (by simpa using h)
theorem v_law_text (ds : List D) (st : Sto) (Q : D → Sto → Prop) (X : EX) (hs : CloS st.length st) (hd : Clos st.length ds) (h0 : L.call "_law_text" ds st Q X) : b_law_text.run L ds st (Gc st.length Q) (GcX st.length X) := by
  obtain ⟨n, rfl, ⟨c0, hc0, e0⟩, h⟩ := (show sText ds st Q X from h0)
  clear h0
  have hn : n < st.length := (List.getElem?_eq_some_iff.mp e0).1
  have E : ∀ c : Cell, isBag4 c → bagAt (st.set n c) n := fun c hc => ⟨c, hc, set_get hn⟩
  conv => whnf
  refine ⟨trivial, ?_⟩
  conv => whnf
  refine ⟨(show 5 ≤ sizeLine by rw [sizeLine_eq]; omega), ?_⟩
  conv => whnf
  refine ⟨n, _, rfl, by decide, by decide, ⟨c0, hc0, e0⟩, fun x c hc hx => ?_⟩
  have hx5 : x = .int 0 ∨ x = .int 1 ∨ x = .int 5 ∨ x = .int 12 ∨ x = .int 13 := by simpa using hx
  obtain ⟨m, hm, rfl⟩ : ∃ m : Int, (0 ≤ m ∧ m ≤ 13) ∧ x = .int m := by
    rcases hx5 with rfl | rfl | rfl | rfl | rfl <;> exact ⟨_, by decide, rfl⟩
  conv => whnf
  refine ⟨by omega, ?_⟩
  refine lcGo_ind (f := fun i : Nat => D.int (0 + (i : Nat))) (fun done todo acc st1 => done.length + todo.length ≤ 13 ∧ ∃ zs : List String, ∃ c, isBag4 c ∧ zs.length ≤ done.length ∧ acc.reverse = zs.map D.str ∧ st1 = st.set n c ∧ ∀ z ∈ zs, z.length = 1) (List.range m.toNat) [] ⟨by simp; omega, [], c, hc, by simp, rfl, rfl, by simp⟩ ?_ ?_
  · rintro done x todo acc st1 k ⟨hk, zs, c, hc, hz, ha, rfl, hL⟩ hn2
    have hacc : acc.length < sizeLine := by
      have := congrArg List.length ha
      rw [List.length_reverse, List.length_map] at this
      rw [sizeLine_eq]; simp at hk; omega
    have next : ∀ (c2 : Cell) (y : Char), isBag4 c2 → k (D.str (String.ofList [y]) :: acc) (st.set n c2) := fun c2 y hc2 => hn2 _ _ ⟨by simp at hk ⊢; omega, zs ++ [String.ofList [y]], c2, hc2, by simp; omega, by rw [List.reverse_cons, ha, List.map_append]; rfl, rfl, fun z hz => by
      rcases List.mem_append.mp hz with hz | hz
      · exact hL z hz
      · simp at hz; subst hz; simp⟩
    have sgn : ∀ (j : Nat), j < 40 → ∃ y, atI "abcdefghijklmnopqrstuvwxyz0123456789A_ -".toList (j : Int) = some y := fun j hj => by
      have hl : "abcdefghijklmnopqrstuvwxyz0123456789A_ -".toList.length = 40 := by decide +kernel
      refine ⟨"abcdefghijklmnopqrstuvwxyz0123456789A_ -".toList[j]'(by omega), ?_⟩
      show (ixN _ (j : Int)).bind _ = _
      rw [ixn (by omega)]
      exact List.getElem?_eq_getElem (by omega)
    conv => whnf
    refine ⟨(show 2 ≤ sizeLine by rw [sizeLine_eq]; omega), ?_⟩
    conv => whnf
    refine ⟨n, 4, rfl, by decide, E c hc, fun r c2 hc2 h1 h2 => ?_⟩
    rw [List.set_set]
    conv => whnf
    refine ⟨by decide, ?_⟩
    have h5 : r = 0 ∨ r = 1 ∨ r = 2 ∨ r = 3 := by omega
    have tail : ∀ m : Int, (m = 36 ∨ m = 40) → ∀ K : D → Sto → Prop, (∀ (c3 : Cell) (y : Char), isBag4 c3 → K (D.str (String.ofList [y])) (st.set n c3)) → sDraw [.loc n, .int m] (st.set n c2) (fun d st => wpIx (.str "abcdefghijklmnopqrstuvwxyz0123456789A_ -") d st fun d => K d st) (fun _ _ => False) := fun m hm K hK => by
      refine ⟨n, m, rfl, by omega, E c2 hc2, fun r2 c3 hc3 h3 h4 => ?_⟩
      rw [List.set_set]
      obtain ⟨j, rfl⟩ : ∃ j : Nat, r2 = (j : Int) := ⟨r2.toNat, by omega⟩
      obtain ⟨y, hy⟩ := sgn j (by omega)
      refine ⟨by rw [sizeLine_eq]; decide +kernel, onSome_i hy ?_⟩
      exact hK c3 y hc3
    rcases h5 with rfl | rfl | rfl | rfl <;> (conv => whnf)
    · exact tail 36 (.inl rfl) (fun d st => acc.length < sizeLine ∧ k (d :: acc) st) fun c3 y hc3 => ⟨hacc, next c3 y hc3⟩
    · exact tail 36 (.inl rfl) (fun d st => acc.length < sizeLine ∧ k (d :: acc) st) fun c3 y hc3 => ⟨hacc, next c3 y hc3⟩
    · exact tail 36 (.inl rfl) (fun d st => acc.length < sizeLine ∧ k (d :: acc) st) fun c3 y hc3 => ⟨hacc, next c3 y hc3⟩
    · exact tail 40 (.inr rfl) (fun d st => acc.length < sizeLine ∧ k (d :: acc) st) fun c3 y hc3 => ⟨hacc, next c3 y hc3⟩
  · rintro acc st1 ⟨hk, zs, c, hc, hz, ha, rfl, hL⟩
    have hz13 : zs.length ≤ 13 := by simp at hz hk; omega
    have sum1 : ∀ zs : List String, (∀ z ∈ zs, z.length = 1) → (zs.map (·.length)).sum = zs.length ∧ (String.intercalate "" zs).length = zs.length := fun zs => by
      induction zs with
      | nil => intro _; exact ⟨rfl, by rw [String.intercalate_nil]; rfl⟩
      | cons z zs ih =>
        intro hh
        obtain ⟨i1, i2⟩ := ih fun y hy => hh y (by simp [hy])
        have hz1 := hh z (by simp)
        refine ⟨by rw [List.map_cons, List.sum_cons, i1, hz1, List.length_cons]; omega, ?_⟩
        cases zs with
        | nil => rw [String.intercalate_singleton]; exact hz1
        | cons y ys =>
          rw [String.intercalate_cons_cons, String.length_append, String.length_append, i2, hz1]
          simp; omega
    obtain ⟨i1, i2⟩ := sum1 zs hL
    conv => whnf
    rw [ha]
    refine ⟨zs, rfl, ?_, .now (h _ c hc (by rw [i2]; omega))⟩
    rw [i1]
    show zs.length + zs.length * 0 ≤ _
    omega
end K

set_option maxHeartbeats 1000000
namespace K
open PySem PySem.Spec PyProof.Rows L2 DL
theorem lcGo_id {stay : List (Nat × Cell)} {bind : D → (St' → Prop) → Prop} {c : St' → Sto → (Bool → Sto → Prop) → Prop} {elt : St' → Sto → (D → Sto → Prop) → Prop} {Q : List D → Sto → Prop} (Inv : List D → List D → List D → Sto → Prop)
    (xs : List D) {acc : List D} {st : Sto} (h0 : Inv [] xs acc st)
    (step : ∀ done x todo acc st (k : List D → Sto → Prop), Inv done (x :: todo) acc st → (∀ acc st, Inv (done ++ [x]) todo acc st → k acc st) → stayOk stay st (bind x fun env => c env st fun b st => ifB b (elt env st fun d st => acc.length < sizeLine ∧ k (d :: acc) st) (k acc st)))
    (fin : ∀ acc st, Inv xs [] acc st → stayOk stay st (Q acc.reverse st)) : lcGo stay bind c elt xs acc st Q := by
  have := lcGo_ind (f := fun x : D => x) (stay := stay) (bind := bind) (c := c) (elt := elt) (Q := Q) Inv xs [] h0 step fin
  rwa [List.map_id'] at this
theorem cut1 (xs : List D) : DL.cutD xs (some 1) none = xs.tail := by
  unfold DL.cutD HT.sIx
  cases xs with
  | nil => rfl
  | cons x xs =>
    simp
theorem row_arg {p : Rw} (h : isText (.str p.2) = true) : rowArg (row p) = true := by
  have h : (decide (p.2.length ≤ 12) && p.2.toList.all fun c => decide (c ∈ "abcdefghijklmnopqrstuvwxyz".toList) || decide (c ∈ "0123456789".toList)) = true := h
  rw [Bool.and_eq_true, decide_eq_true_eq] at h
  have : plain (.str p.2) = true := decide_eq_true (by omega)
  show ((true && (plain (.str p.2) && true)) && true) = true
  rw [this]; rfl
theorem row_is {p : Rw} (h1 : isNum (.int p.1) = true) (h2 : isText (.str p.2) = true) : isRow nt (row p) = true := by
  show (isNum (.int p.1) && (isText (.str p.2) && true)) = true
  rw [h1, h2]; rfl
theorem v_is_bag (ds : List D) (st : Sto) (Q : D → Sto → Prop) (X : EX) (hs : CloS st.length st) (hd : Clos st.length ds) (h0 : L.call "is_bag" ds st Q X) : b_is_bag.run L ds st (Gc st.length Q) (GcX st.length X) := by
  obtain ⟨v, rfl, hh⟩ := (show sIsBag ds st Q X from h0)
  clear h0
  rcases hh with ⟨ps, rfl, ⟨hl, hg⟩, h⟩ | ⟨⟨xs, rfl, hl, ha, hb⟩ | ⟨hp, hnt⟩, h⟩
  · conv => whnf
    refine lcGo_ind (f := row) (fun done todo acc st1 => done.length + todo.length ≤ 5000 ∧ (∀ p ∈ todo, p ∈ ps) ∧ st1 = st ∧ acc.reverse = done.map fun _ => D.bl true) ps [] ⟨by simpa using hl, fun p h => h, rfl, rfl⟩ ?_ ?_
    · rintro done x todo acc st1 k ⟨hk, hm, rfl, hacc⟩ hn
      have hal : acc.length < sizeLine := by
        have := congrArg List.length hacc
        rw [List.length_reverse, List.length_map] at this
        rw [sizeLine_eq]; simp at hk; omega
      have hx := hg x (hm x (by simp))
      conv => whnf
      refine ⟨nt, row x, rfl, by decide, row_arg hx.2, hal, hn _ _ ⟨by simp at hk ⊢; omega, fun p hp => hm p (by simp [hp]), rfl, ?_⟩⟩
      rw [row_is hx.1 hx.2, List.reverse_cons, hacc, List.map_append]; rfl
    · rintro acc st1 ⟨_, _, rfl, hacc⟩
      conv => whnf
      rw [hacc]
      refine ⟨bls_all (fun _ : Rw => true) _, ?_⟩
      conv => whnf
      rw [bls_val (fun _ : Rw => true)]
      have et : (([] ++ ps).all fun _ : Rw => true) = true := by simp
      refine ifB_f (by rw [et]; rfl) ?_
      conv => whnf
      have ez : ((ps.map row).zip (DL.cutD (ps.map row) (some 1) none)).map (fun p => D.tup [p.1, p.2]) = (ps.zip ps.tail).map fun p => D.tup [row p.1, row p.2] := by
        rw [cut1, ← List.map_tail, List.zip_map, List.map_map]; rfl
      rw [ez]
      refine lcGo_ind (f := fun p : Rw × Rw => D.tup [row p.1, row p.2]) (fun done todo acc st2 => done.length + todo.length ≤ 5000 ∧ st2 = st1 ∧ acc.reverse = done.map fun p => D.bl (leP p.1 p.2)) (ps.zip ps.tail) [] ⟨by rw [List.length_zip]; simp; omega, rfl, rfl⟩ ?_ ?_
      · rintro done ⟨p, q⟩ todo acc st2 k ⟨hk, rfl, ha2⟩ hn
        have hal : acc.length < sizeLine := by
          have := congrArg List.length ha2
          rw [List.length_reverse, List.length_map] at this
          rw [sizeLine_eq]; simp at hk; omega
        conv => whnf
        refine ⟨⟨row_cmp q, row_cmp p⟩, onSome_i (lts_row q p) ⟨hal, hn _ _ ⟨by simp at hk ⊢; omega, rfl, ?_⟩⟩⟩
        rw [List.reverse_cons, ha2, List.map_append]; rfl
      · rintro acc st2 ⟨_, rfl, ha2⟩
        conv => whnf
        rw [ha2]
        refine ⟨bls_all (fun p : Rw × Rw => leP p.1 p.2) _, ?_⟩
        conv => whnf
        rw [bls_val (fun p : Rw × Rw => leP p.1 p.2)]
        exact .now (by simpa [adjR] using h)
  · conv => whnf
    refine lcGo_id (fun done todo acc st1 => done.length + todo.length ≤ 5000 ∧ (∀ p ∈ todo, p ∈ xs) ∧ st1 = st ∧ acc.reverse = done.map fun x => D.bl (isRow nt x)) xs ⟨by simpa using hl, fun p h => h, rfl, rfl⟩ ?_ ?_
    · rintro done x todo acc st1 k ⟨hk, hm, rfl, hacc⟩ hn
      have hal : acc.length < sizeLine := by
        have := congrArg List.length hacc
        rw [List.length_reverse, List.length_map] at this
        rw [sizeLine_eq]; simp at hk; omega
      conv => whnf
      refine ⟨nt, x, rfl, by decide, ha x (hm x (by simp)), hal, hn _ _ ⟨by simp at hk ⊢; omega, fun p hp => hm p (by simp [hp]), rfl, ?_⟩⟩
      rw [List.reverse_cons, hacc, List.map_append]; rfl
    · rintro acc st1 ⟨_, _, rfl, hacc⟩
      conv => whnf
      rw [hacc]
      refine ⟨bls_all (isRow nt) _, ?_⟩
      conv => whnf
      rw [bls_val (isRow nt)]
      refine ifB_t (by rw [hb]; rfl) ?_
      exact .now h
  · cases v <;> first | (cases hp; done) | (cases hnt; done) | (conv => whnf); exact .now h
theorem any_row {x : Rw} {ys : List Rw} : ((ys.map row).any fun z => D.eqv z (row x)) = decide (x ∈ ys) := by
  rw [Bool.eq_iff_iff, List.any_eq_true]
  simp only [decide_eq_true_eq, List.mem_map]
  constructor
  · rintro ⟨z, ⟨y, hy, rfl⟩, e⟩
    rw [eqv_row, decide_eq_true_eq] at e
    exact e ▸ hy
  · intro hx
    exact ⟨row x, ⟨x, hx, rfl⟩, by rw [eqv_row]; simp⟩
theorem v_is_difference (ds : List D) (st : Sto) (Q : D → Sto → Prop) (X : EX) (hs : CloS st.length st) (hd : Clos st.length ds) (h0 : L.call "is_difference" ds st Q X) : b_is_difference.run L ds st (Gc st.length Q) (GcX st.length X) := by
  rcases (show sIsDiff ds st Q X from h0) with ⟨ps, qs, rfl, g1, g2, a1, a2, h⟩ | ⟨v, rfl, h⟩
  · clear h0
    conv => whnf
    refine ⟨tupR ps, rfl, .inl ⟨ps, rfl, g1, ?_⟩⟩
    rw [a1]
    conv => whnf
    refine ⟨(show 0 < sizeLine by rw [sizeLine_eq]; omega), ?_⟩
    conv => whnf
    refine ⟨tupR qs, rfl, .inl ⟨qs, rfl, g2, ?_⟩⟩
    rw [a2]
    conv => whnf
    refine ⟨(show 1 < sizeLine by rw [sizeLine_eq]; omega), ?_⟩
    conv => whnf
    refine ⟨rfl, ?_⟩
    conv => whnf
    refine lcGo_ind (f := row) (fun done todo acc st1 => done.length + todo.length ≤ 5000 ∧ st1 = st ∧ acc.reverse = done.map fun r => D.bl (!decide (r ∈ qs))) ps [] ⟨by simpa using g1.1, rfl, rfl⟩ ?_ ?_
    · rintro done x todo acc st1 k ⟨hk, rfl, hacc⟩ hn
      have hal : acc.length < sizeLine := by
        have := congrArg List.length hacc
        rw [List.length_reverse, List.length_map] at this
        rw [sizeLine_eq]; simp at hk; omega
      conv => whnf
      refine ⟨⟨row_cmp x, rows_cmpL qs⟩, hal, hn _ _ ⟨by simp at hk ⊢; omega, rfl, ?_⟩⟩
      rw [any_row, List.reverse_cons, hacc, List.map_append]
      have e : (true != decide (x ∈ qs)) = !decide (x ∈ qs) := by cases decide (x ∈ qs) <;> rfl
      rw [e]; rfl
    · rintro acc st1 ⟨_, rfl, hacc⟩
      conv => whnf
      rw [hacc]
      refine ⟨bls_all (fun r : Rw => !decide (r ∈ qs)) _, ?_⟩
      conv => whnf
      rw [bls_val (fun r : Rw => !decide (r ∈ qs))]
      exact .now (by simpa using h)
  · conv => whnf
    exact .now h
end K

set_option maxHeartbeats 4000000
namespace K
open PySem PySem.Spec PyProof.Rows L2 DL
theorem bagB {B : Sto} {c : Cell} (h : isBag4 c) : bagAt (B ++ [c]) B.length := ⟨c, h, List.getElem?_concat_length⟩
theorem setB {B : Sto} {c d : Cell} : (B ++ [c]).set B.length d = B ++ [d] := by simp
theorem isNum_iff (i : Int) : isNum (.int i) = (decide (-2147483648 ≤ i) && decide (i ≤ 2147483647)) := rfl
def dropS : Nat → Ss → Ss
  | n, .stop ss => dropS n ss
  | 0, .cons s ss => .cons s ss
  | n + 1, .cons _ ss => dropS n ss
  | _, .nil => .nil
def headS : Ss → S
  | .cons s _ => s
  | _ => .pass
def bodyS : S → Ss
  | .for_ _ _ b => b
  | _ => .nil
/-- the body of: for value in [..] -/
def innerSs : Ss := dropS 0 (bodyS (headS (dropS 8 (bodyS (headS (dropS 0 b_law.body))))))
theorem inner {ns : List Int} {e1 e2 e4 e5 e6 e9 e10 e11 e12 e13 e14 e15 e16 : Option D} {n : Int} {z : String} {v : D} {st : Sto} {P : Post} (hz : z.length ≤ 100) (hp : plain v = true) (hc : cmpD v = true)
    (h : ∀ v13 v16, P.nx [some (.scr ns), e1, e2, some (.int n), e4, e5, e6, some (.str z), some v, e9, e10, e11, e12, v13, e14, e15, v16] st) :
    wpSs L innerSs [some (.scr ns), e1, e2, some (.int n), e4, e5, e6, some (.str z), some v, e9, e10, e11, e12, e13, e14, e15, e16] st P := by
  conv => whnf
  refine ⟨v, rfl, hp, ?_⟩
  conv => whnf
  refine ⟨v, rfl, hp, ?_⟩
  conv => whnf
  refine ⟨(show 2 ≤ sizeLine by rw [sizeLine_eq]; omega), ?_⟩
  conv => whnf
  refine ⟨cons_i (ite_no (fun K hK => ?_) ?_)⟩
  · conv => whnf
    refine ⟨v, rfl, hp, ?_⟩
    conv => whnf
    refine ⟨v, rfl, hp, ?_⟩
    conv => whnf
    refine ⟨(show 2 ≤ sizeLine by rw [sizeLine_eq]; omega), ?_⟩
    conv => whnf
    refine ⟨(show 2 ≤ sizeLine by rw [sizeLine_eq]; omega), ?_⟩
    cases isNum v <;> cases isText v <;> (conv => whnf) <;> exact ⟨⟨rfl, rfl⟩, hK⟩
  conv => whnf
  refine ⟨cons_i (ite_no (fun K hK => ?_) ?_)⟩
  · conv => whnf
    refine ⟨"number", v, rfl, hp, ?_⟩
    conv => whnf
    refine ⟨"text", v, rfl, hp, ?_⟩
    conv => whnf
    refine ⟨(show 2 ≤ sizeLine by rw [sizeLine_eq]; omega), ?_⟩
    have i1 : isItem "number" v = isNum v := rfl
    have i2 : isItem "text" v = isText v := rfl
    rw [i1, i2]
    cases isNum v <;> cases isText v <;> (conv => whnf) <;> exact ⟨⟨rfl, rfl⟩, hK⟩
  conv => whnf
  refine ⟨?_⟩
  conv => whnf
  refine ⟨(show 3 ≤ sizeLine by rw [sizeLine_eq]; omega), ?_⟩
  conv => whnf
  refine ⟨cons_i (ite_no (fun K hK => ?_) ?_)⟩
  · conv => whnf
    refine ⟨(show 3 ≤ sizeLine by rw [sizeLine_eq]; omega), ?_⟩
    conv => whnf
    have pz : plain (.str z) = true := decide_eq_true hz
    refine ⟨["number", "text", "number"], .tup [v, .str z, .int n], rfl, by decide, ?_, ?_⟩
    · show ((plain v && (plain (.str z) && (true && true))) && true) = true
      rw [hp, pz]; rfl
    have ir : isRow ["number", "text", "number"] (.tup [v, .str z, .int n]) = (isNum v && (isText (.str z) && (isNum (.int n) && true))) := rfl
    rw [ir]
    conv => whnf
    cases isNum v
    · conv => whnf
      exact ⟨⟨rfl, rfl⟩, hK⟩
    · conv => whnf
      refine ⟨.str z, rfl, pz, ?_⟩
      cases isText (.str z)
      · conv => whnf
        exact ⟨⟨rfl, rfl⟩, hK⟩
      · conv => whnf
        refine ⟨.int n, rfl, rfl, ?_⟩
        cases isNum (.int n) <;> (conv => whnf) <;> exact ⟨⟨rfl, rfl⟩, hK⟩
  · exact h _ _
theorem sort_rev (xs : List Rw) : sortR (sortR xs).reverse = sortR xs := sortR_eq ((List.reverse_perm _).trans (sortR_perm xs))
theorem eqv_tupR {st : Sto} {a : List Rw} : D.eqv (flatOf st (tupR a)) (flatOf st (tupR a)) = true := by
  have : D.eqv (flatOf st (tupR a)) (flatOf st (tupR a)) = decide (a = a) := eqvs_rows a a
  rw [this]; simp
theorem pair_cmp {st : Sto} (a b : List Rw) : cmpD (flatOf st (.tup [tupR a, tupR b])) = true := by
  show cmpD (.tup [tupR a, tupR b]) = true
  unfold cmpD
  rw [Bool.and_eq_true, decide_eq_true_eq]
  have h1 := rows_depths a
  have h2 := rows_depths b
  refine ⟨?_, ?_⟩
  · simp [D.pure, D.pures, rows_pures a, rows_pures b]
  · simp only [D.depth, D.depths]
    omega
theorem eqv_tt (a b : List Rw) : D.eqv (tupR a) (tupR b) = decide (a = b) := eqvs_rows a b
theorem eqv_pair {st : Sto} {a b : List Rw} : D.eqv (flatOf st (.tup [tupR a, tupR b])) (flatOf st (.tup [tupR a, tupR b])) = true := by
  show (D.eqv (tupR a) (tupR a) && (D.eqv (tupR b) (tupR b) && true)) = true
  rw [eqv_tt, eqv_tt]; simp
theorem count_sort (a : Rw) (l : List Rw) : (sortR l).count a = l.count a := (sortR_perm l).count_eq a
theorem less_nil {xs ys : List Rw} (h : ∀ a, xs.count a ≤ ys.count a) : less xs ys = [] := by
  apply List.eq_nil_iff_forall_not_mem.mpr
  intro a ha
  have h1 : 1 ≤ (less xs ys).count a := List.one_le_count_iff.mpr ha
  rw [less_count] at h1
  have := h a
  omega
theorem joined_nil (o w : List Rw) : less (sortR (less o w)) o = [] := less_nil fun a => by
  rw [count_sort, less_count]; omega
theorem sorted_id {w : List Rw} (h : w.Pairwise fun a b => leP a b = true) : sortR w = w := sort_uniq (sortR_perm w) (sortR_pw w) h
theorem joined_eq {o w : List Rw} (h : w.Pairwise fun a b => leP a b = true) : sortR (sortR (less o (sortR (less o w))) ++ sortR (less w o)) = w := by
  rw [← sorted_id h]
  conv => rhs; rw [sorted_id h]
  refine (sortR_eq (List.perm_iff_count.mpr fun a => ?_)).trans (sorted_id h)
  rw [sorted_id h, List.count_append, count_sort, count_sort, less_count, count_sort, less_count, less_count]
  omega
def tailSs : Ss := dropS 19 (bodyS (headS (dropS 0 b_law.body)))
theorem adj_of : ∀ {o : List Rw}, o.Pairwise (fun a b => leP a b = true) → adjR o = true
  | [], _ => rfl
  | [_], _ => rfl
  | x :: y :: o, h => by
    have h1 := (List.pairwise_cons.mp h).1 y (by simp)
    have ih := adj_of (List.pairwise_cons.mp h).2
    show (leP x y && adjR (y :: o)) = true
    rw [h1, ih]; rfl
theorem of_adj : ∀ {o : List Rw}, adjR o = true → o.Pairwise (fun a b => leP a b = true)
  | [], _ => List.Pairwise.nil
  | [x], _ => List.pairwise_singleton _ _
  | x :: y :: o, h => by
    have h : (leP x y && adjR (y :: o)) = true := h
    rw [Bool.and_eq_true] at h
    have ih := of_adj h.2
    refine List.pairwise_cons.mpr ⟨fun z hz => ?_, ih⟩
    rcases List.mem_cons.mp hz with e | hz
    · subst e; exact h.1
    · exact leP_trans x y z h.1 ((List.pairwise_cons.mp ih).1 z hz)
theorem adj_rev {o : List Rw} (h : o.Pairwise (fun a b => leP a b = true)) : adjR o.reverse = decide (o = o.reverse) := by
  rw [Bool.eq_iff_iff, decide_eq_true_eq]
  constructor
  · intro g
    exact sort_uniq (List.reverse_perm o).symm h (of_adj g)
  · intro g
    rw [← g]; exact adj_of h
theorem diff_all (o w : List Rw) : ((sortR (less w o)).all fun r => !decide (r ∈ sortR (less o w))) = true := by
  rw [List.all_eq_true]
  intro r hr
  rw [Bool.not_eq_true', decide_eq_false_iff_not]
  intro hr2
  have h1 : 1 ≤ (sortR (less w o)).count r := List.one_le_count_iff.mpr hr
  have h2 : 1 ≤ (sortR (less o w)).count r := List.one_le_count_iff.mpr hr2
  rw [count_sort, less_count] at h1 h2
  omega
theorem good_sub {o a : List Rw} (h : ∀ p ∈ o, p.2.length ≤ 2 ∧ -5 ≤ p.1 ∧ p.1 ≤ 7 ∧ isText (.str p.2) = true) (hs : ∀ p ∈ a, p ∈ o) (hl : a.length ≤ 5000) : goodRows a := ⟨hl, fun p hp => by
  obtain ⟨_, h2, h3, h4⟩ := h p (hs p hp)
  refine ⟨?_, h4⟩
  rw [isNum_iff, Bool.and_eq_true, decide_eq_true_eq, decide_eq_true_eq]; omega⟩
theorem less_sub : ∀ {a b : List Rw} {p : Rw}, p ∈ less a b → p ∈ a := fun {a b p} h => by
  have h1 : 1 ≤ (less a b).count p := List.one_le_count_iff.mpr h
  rw [less_count] at h1
  exact List.count_pos_iff.mp (by omega)
theorem tail_ok {ns : List Int} {e1 e2 e3 e4 e5 e6 e7 e8 e12 e13 e14 e15 e16 : Option D} {o w : List Rw} {st : Sto} {P : Post} (so : o.Pairwise fun a b => leP a b = true) (sw : w.Pairwise fun a b => leP a b = true) (lo : o.length ≤ 1000) (lw : w.length ≤ 1000)
    (go : ∀ p ∈ o, p.2.length ≤ 2 ∧ -5 ≤ p.1 ∧ p.1 ≤ 7 ∧ isText (.str p.2) = true) (gw : ∀ p ∈ w, p.2.length ≤ 2 ∧ -5 ≤ p.1 ∧ p.1 ≤ 7 ∧ isText (.str p.2) = true)
    (h : ∀ v14 v15 v16, P.nx [some (.scr ns), e1, e2, e3, e4, e5, e6, e7, e8, some (tupR o), some (tupR w), some (.tup [tupR (sortR (less w o)), tupR (sortR (less o w))]), e12, e13, v14, v15, v16] st) :
    wpSs L tailSs [some (.scr ns), e1, e2, e3, e4, e5, e6, e7, e8, some (tupR o), some (tupR w), some (.tup [tupR (sortR (less w o)), tupR (sortR (less o w))]), e12, e13, e14, e15, e16] st P := by
  have l1 : (sortR (less w o)).length ≤ 1000 := by rw [(sortR_perm _).length_eq]; exact Nat.le_trans (less_len w o) lw
  have l2 : (sortR (less o w)).length ≤ 1000 := by rw [(sortR_perm _).length_eq]; exact Nat.le_trans (less_len o w) lo
  have g1 : goodRows (sortR (less w o)) := good_sub gw (fun p hp => less_sub ((sortR_perm _).mem_iff.mp hp)) (by omega)
  have g2 : goodRows (sortR (less o w)) := good_sub go (fun p hp => less_sub ((sortR_perm _).mem_iff.mp hp)) (by omega)
  have g3 : goodRows o := good_sub go (fun p hp => hp) (by omega)
  have g4 : goodRows w := good_sub gw (fun p hp => hp) (by omega)
  conv => whnf
  refine ⟨(show 2 ≤ sizeLine by rw [sizeLine_eq]; omega), ?_⟩
  conv => whnf
  refine ⟨cons_i (ite_no (fun K hK => ?_) ?_)⟩
  · conv => whnf
    refine ⟨tupR o, rfl, .inl ⟨o, rfl, g3, ?_⟩⟩
    rw [adj_of so]
    conv => whnf
    refine .inl ⟨sortR (less w o), sortR (less o w), rfl, g1, g2, adj_of (sortR_pw _), adj_of (sortR_pw _), ?_⟩
    rw [diff_all]
    conv => whnf
    refine ⟨_, rfl, .inr ⟨.inr ⟨rfl, rfl⟩, ?_⟩⟩
    exact hK
  conv => whnf
  refine ⟨cons_i (ite_no (fun K hK => ?_) ?_)⟩
  · conv => whnf
    refine ifB_intro (fun c => ?_) (fun c => ?_)
    · conv => whnf
      refine ⟨tupR o.reverse, by rw [tupR, List.map_reverse]; rfl, .inl ⟨o.reverse, rfl, good_sub go (fun p hp => List.mem_reverse.mp hp) (by rw [List.length_reverse]; omega), ?_⟩⟩
      rw [adj_rev so]
      conv => whnf
      have em : D.tup (List.map row o).reverse = tupR o.reverse := by rw [tupR, List.map_reverse]
      rw [em]
      refine ⟨⟨rows_cmp _, rows_cmp _⟩, ?_⟩
      have ev : D.eqv (flatOf st (tupR o)) (flatOf st (tupR o.reverse)) = decide (o = o.reverse) := eqvs_rows _ _
      rw [ev]
      cases decide (o = o.reverse) <;> (conv => whnf) <;> exact ⟨⟨rfl, rfl⟩, hK⟩
    · exact hK
  conv => whnf
  refine ⟨?_⟩
  conv => whnf
  refine lcGo_ind (f := row) (fun done todo acc st1 => done.length + todo.length ≤ 1000 ∧ st1 = st ∧ acc.reverse = (done.filter fun r => decide (r ∈ o)).map row) w [] ⟨by simpa using lw, rfl, rfl⟩ ?_ ?_
  · rintro done x todo acc st1 k ⟨hk, rfl, hacc⟩ hn
    have hal : acc.length < sizeLine := by
      have := congrArg List.length hacc
      rw [List.length_reverse, List.length_map] at this
      have h2 := List.length_filter_le (fun r => decide (r ∈ o)) done
      rw [sizeLine_eq]; simp at hk; omega
    conv => whnf
    refine ⟨⟨row_cmp x, rows_cmpL o⟩, ?_⟩
    rw [any_row]
    by_cases hx : x ∈ o
    · rw [decide_eq_true hx]
      exact ⟨hal, hn _ _ ⟨by simp at hk ⊢; omega, rfl, by rw [List.reverse_cons, hacc, List.filter_append, List.map_append]; simp [hx]⟩⟩
    · rw [decide_eq_false hx]
      exact hn _ _ ⟨by simp at hk ⊢; omega, rfl, by rw [hacc, List.filter_append, List.map_append]; simp [hx]⟩
  rintro acc st1 ⟨_, rfl, hacc⟩
  rw [hacc]
  conv => whnf
  refine ⟨cons_i (ite_no (fun K hK => ?_) ?_)⟩
  · conv => whnf
    refine ⟨(show 2 ≤ sizeLine by rw [sizeLine_eq]; omega), ?_⟩
    conv => whnf
    refine .inl ⟨w, o, rfl, g4, g3, adj_of sw, adj_of so, ?_⟩
    conv => whnf
    refine ⟨Nat.zero_le _, ?_⟩
    conv => whnf
    refine ⟨⟨rows_cmpL _, rfl⟩, ?_⟩
    have ev : D.eqv (flatOf st1 (.lst ((([] ++ w).filter fun r => decide (r ∈ o)).map row))) (flatOf st1 (.lst [])) = decide ((([] ++ w).filter fun r => decide (r ∈ o)) = []) := eqvs_rows _ []
    rw [ev]
    have eb : (w.all fun r => !decide (r ∈ o)) = decide ((([] ++ w).filter fun r => decide (r ∈ o)) = []) := by
      rw [Bool.eq_iff_iff]
      simp [List.filter_eq_nil_iff]
    rw [eb]
    generalize decide ((([] ++ w).filter fun r => decide (r ∈ o)) = []) = b
    conv => whnf
    refine ⟨⟨rfl, rfl⟩, ?_⟩
    have ebb : D.eqv (flatOf st1 (.bl b)) (flatOf st1 (.bl b)) = true := by cases b <;> rfl
    rw [ebb]
    conv => whnf
    refine ⟨(show 2 ≤ sizeLine by rw [sizeLine_eq]; omega), ?_⟩
    conv => whnf
    refine ⟨(show 1 ≤ sizeLine by rw [sizeLine_eq]; omega), ?_⟩
    conv => whnf
    refine ⟨?_, ?_⟩
    · rw [sizeLine_eq, List.length_map]
      show o.length + 1 ≤ _
      omega
    conv => whnf
    refine ⟨_, rfl, .inr ⟨.inl ⟨_, rfl, by rw [List.length_append, List.length_map]; show o.length + 1 ≤ 5000; omega, ?_, ?_⟩, ?_⟩⟩
    · intro x hx
      rcases List.mem_append.mp hx with hx | hx
      · obtain ⟨p, hp, rfl⟩ := List.mem_map.mp hx
        exact row_arg (go p hp).2.2.2
      · simp at hx; subst hx; rfl
    · rw [List.all_append]
      have : ([D.tup [D.str "a", D.int 0]].all (isRow nt)) = false := by decide +kernel
      rw [this, Bool.and_false]
    conv => whnf
    refine ⟨(show 1 ≤ sizeLine by rw [sizeLine_eq]; omega), ?_⟩
    conv => whnf
    exact .inr ⟨_, rfl, hK⟩
  · exact h _ _ _
theorem v_law (ds : List D) (st : Sto) (Q : D → Sto → Prop) (X : EX) (hs : CloS st.length st) (hd : Clos st.length ds) (h0 : L.call "law" ds st Q X) : b_law.run L ds st (Gc st.length Q) (GcX st.length X) := by
  obtain ⟨ns, rfl, hl, h⟩ := (show sLaw ds st Q X from h0)
  clear h0
  refine ⟨?_⟩
  conv => whnf
  refine ⟨by omega, ?_⟩
  refine forGo_ind (f := fun i : Nat => D.int (0 + (i : Nat))) (fun done todo env st1 => ∃ g, st1 = st ++ g ∧ ∃ v1 v2 v3 v4 v5 v6 v7 v8 v9 v10 v11 v12 v13 v14 v15 v16, env = [some (.scr ns), v1, v2, v3, v4, v5, v6, v7, v8, v9, v10, v11, v12, v13, v14, v15, v16]) (List.range _) [] ⟨[], by simp, none, none, none, none, none, none, none, none, none, none, none, none, none, none, none, none, rfl⟩ ?_ ?_
  · rintro done x todo env st1 k ⟨g, rfl, v1, v2, v3, v4, v5, v6, v7, v8, v9, v10, v11, v12, v13, v14, v15, v16, rfl⟩ hn
    conv => whnf
    refine ⟨?_⟩
    conv => whnf
    refine ⟨ns, x, by rw [Int.zero_add], fun c hc => ?_⟩
    generalize hB : st ++ g = B
    conv => whnf
    refine ⟨?_⟩
    conv => whnf
    refine ⟨_, rfl, bagB hc, fun n c hc => ?_⟩
    rw [setB]
    conv => whnf
    refine ⟨?_⟩
    conv => whnf
    refine ⟨n, rfl, ?_⟩
    conv => whnf
    refine ⟨cons_i (ite_no (fun K hK => ?_) ?_)⟩
    · conv => whnf
      refine ⟨_, rfl, rfl, ?_⟩
      have e1 : isNum (.int ((n - -2147483648) % 4294967296 + -2147483648)) = true := by
        rw [isNum_iff, Bool.and_eq_true, decide_eq_true_eq, decide_eq_true_eq]; omega
      rw [e1]
      conv => whnf
      refine ⟨by decide, ?_⟩
      have e2 : ((n - -2147483648) % 4294967296 + -2147483648 - n) % 4294967296 = 0 := by omega
      rw [e2]
      exact hK
    conv => whnf
    refine ⟨?_⟩
    conv => whnf
    refine ⟨_, rfl, bagB hc, fun low c hc => ?_⟩
    rw [setB]
    conv => whnf
    refine ⟨?_⟩
    conv => whnf
    refine ⟨by decide, ?_⟩
    conv => whnf
    refine ⟨_, _, rfl, by decide, bagB hc, fun r c hc hr1 hr2 => ?_⟩
    rw [setB]
    conv => whnf
    refine ⟨(show 3 ≤ sizeLine by rw [sizeLine_eq]; omega), ?_⟩
    conv => whnf
    refine ⟨_, _, rfl, (show 1 ≤ 3 by decide), (show 3 ≤ 1000 by decide), bagB hc, fun y c hc hy => ?_⟩
    rw [setB]
    obtain ⟨i2, rfl⟩ := isI_of hy rfl
    conv => whnf
    refine ⟨cons_i (ite_no (fun K hK => ?_) ?_)⟩
    · conv => whnf
      refine ⟨.int n, low, low + i2, rfl, rfl, ?_⟩
      conv => whnf
      have ei : isInt low (low + i2) (.int n) = (decide (low ≤ n) && decide (n ≤ low + i2)) := rfl
      rw [ei]
      refine ifB_intro (fun c1 => ?_) (fun c1 => ?_)
      · have c1 : decide (low ≤ n) = true := c1
        rw [c1]
        cases c2 : decide (n ≤ low + i2) <;> (conv => whnf) <;> rw [c2] <;> exact hK
      · have c1 : decide (low ≤ n) = false := c1
        rw [c1]
        exact hK
    conv => whnf
    refine ⟨?_⟩
    conv => whnf
    refine ⟨_, rfl, bagB hc, fun z c hc hz => ?_⟩
    rw [setB]
    conv => whnf
    refine ⟨?_⟩
    conv => whnf
    refine ⟨(show 1 ≤ sizeLine by rw [sizeLine_eq]; omega), ?_⟩
    conv => whnf
    refine ⟨(show 1 ≤ sizeLine by rw [sizeLine_eq]; omega), ?_⟩
    conv => whnf
    refine ⟨(show 10 ≤ sizeLine by rw [sizeLine_eq]; omega), ?_⟩
    conv => whnf
    iterate 10 (refine ⟨inner hz (by first | rfl | exact decide_eq_true hz) rfl (fun _ _ => ?_)⟩; conv => whnf)
    refine ⟨cons_i (ite_no (fun K hK => ?_) ?_)⟩
    · conv => whnf
      refine ⟨(show 1 ≤ sizeLine by rw [sizeLine_eq]; omega), ?_⟩
      conv => whnf
      refine ⟨(show 2 ≤ sizeLine by rw [sizeLine_eq]; omega), ?_⟩
      conv => whnf
      refine ⟨["number"], _, rfl, by decide, rfl, ?_⟩
      conv => whnf
      refine ⟨Nat.zero_le _, ?_⟩
      conv => whnf
      refine ⟨(show 1 ≤ sizeLine by rw [sizeLine_eq]; omega), ?_⟩
      conv => whnf
      refine ⟨[], _, rfl, by decide, rfl, ?_⟩
      conv => whnf
      refine ⟨Nat.zero_le _, ?_⟩
      conv => whnf
      refine ⟨Nat.zero_le _, ?_⟩
      conv => whnf
      refine ⟨[], _, rfl, by decide, rfl, ?_⟩
      conv => whnf
      refine ⟨(show 1 ≤ sizeLine by rw [sizeLine_eq]; omega), ?_⟩
      conv => whnf
      refine ⟨(show 1 ≤ sizeLine by rw [sizeLine_eq]; omega), ?_⟩
      conv => whnf
      refine ⟨["number"], _, rfl, by decide, rfl, ?_⟩
      exact hK
    conv => whnf
    refine ⟨?_⟩
    conv => whnf
    refine ⟨_, 30, rfl, by decide, bagB hc, fun xs c hc hxl hx => ?_⟩
    rw [setB]
    conv => whnf
    refine ⟨xs, by omega, .inl rfl, ?_⟩
    conv => whnf
    refine ⟨?_⟩
    conv => whnf
    refine ⟨_, 30, rfl, by decide, bagB hc, fun ys c hc hyl hy => ?_⟩
    rw [setB]
    conv => whnf
    refine ⟨ys, by omega, .inl rfl, ?_⟩
    conv => whnf
    refine ⟨cons_i (ite_no (fun K hK => ?_) ?_)⟩
    · conv => whnf
      refine ⟨(sortR xs).reverse, by rw [List.length_reverse, (sortR_perm xs).length_eq]; omega, .inl (by rw [List.map_reverse]), ?_⟩
      rw [sort_rev]
      conv => whnf
      refine ⟨⟨rows_cmp _, rows_cmp _⟩, ?_⟩
      rw [eqv_tupR]
      conv => whnf
      refine ⟨(sortR ys).reverse, by rw [List.length_reverse, (sortR_perm ys).length_eq]; omega, .inr (.inl (by rw [tupR, List.map_reverse])), ?_⟩
      rw [sort_rev]
      conv => whnf
      refine ⟨⟨rows_cmp _, rows_cmp _⟩, ?_⟩
      rw [eqv_tupR]
      exact hK
    have so := sortR_pw xs
    have sw := sortR_pw ys
    have lo : (sortR xs).length ≤ 1000 := by rw [(sortR_perm xs).length_eq]; exact hxl
    have lw : (sortR ys).length ≤ 1000 := by rw [(sortR_perm ys).length_eq]; exact hyl
    have go : ∀ p ∈ sortR xs, p.2.length ≤ 2 ∧ -5 ≤ p.1 ∧ p.1 ≤ 7 ∧ isText (.str p.2) = true := fun p hp => hx p ((sortR_perm xs).mem_iff.mp hp)
    have gw : ∀ p ∈ sortR ys, p.2.length ≤ 2 ∧ -5 ≤ p.1 ∧ p.1 ≤ 7 ∧ isText (.str p.2) = true := fun p hp => hy p ((sortR_perm ys).mem_iff.mp hp)
    conv => whnf
    generalize sortR xs = o at *
    generalize sortR ys = w at *
    have l1 : (less w o).length ≤ 1000 := Nat.le_trans (less_len w o) lw
    have l2 : (less o w).length ≤ 1000 := Nat.le_trans (less_len o w) lo
    refine ⟨?_⟩
    conv => whnf
    refine ⟨w, o, rfl, by omega, by omega, ?_⟩
    conv => whnf
    refine ⟨o, w, rfl, by omega, by omega, ?_⟩
    conv => whnf
    refine ⟨(show 2 ≤ sizeLine by rw [sizeLine_eq]; omega), ?_⟩
    conv => whnf
    refine ⟨cons_i (ite_no (fun K hK => ?_) ?_)⟩
    · conv => whnf
      refine ⟨o, w, rfl, by omega, by omega, ?_⟩
      conv => whnf
      refine ⟨⟨pair_cmp _ _, pair_cmp _ _⟩, ?_⟩
      rw [eqv_pair]
      conv => whnf
      refine ⟨o, sortR (less w o), sortR (less o w), rfl, by omega, by rw [(sortR_perm _).length_eq]; omega, by rw [(sortR_perm _).length_eq]; omega, fun _ => ?_, fun hne => absurd (joined_nil o w) hne⟩
      rw [joined_eq sw]
      conv => whnf
      refine ⟨⟨rows_cmp _, rows_cmp _⟩, ?_⟩
      rw [eqv_tupR]
      exact hK
    conv => whnf
    refine ⟨?_⟩
    conv => whnf
    refine ⟨_, 5, rfl, by decide, bagB hc, fun zs c hc hzl _ => ?_⟩
    rw [setB]
    conv => whnf
    refine ⟨zs, by omega, .inl rfl, ?_⟩
    have lm : (sortR zs).length ≤ 1000 := by rw [(sortR_perm zs).length_eq]; exact hzl
    generalize sortR zs = m at *
    conv => whnf
    refine ⟨?_⟩
    conv => whnf
    refine ⟨?_⟩
    conv => whnf
    refine ⟨m, o, rfl, by omega, by omega, ?_⟩
    conv => whnf
    refine ⟨Nat.zero_le _, ?_⟩
    conv => whnf
    refine ⟨⟨rows_cmp _, rfl⟩, ?_⟩
    have ee : D.eqv (flatOf (B ++ [c]) (tupR (sortR (less m o)))) (flatOf (B ++ [c]) (.tup [])) = decide (sortR (less m o) = []) := eqvs_rows _ []
    rw [ee]
    have l3 : (less o m).length ≤ 1000 := Nat.le_trans (less_len o m) lo
    have e2 : sortR (less m o) = [] ↔ less m o = [] := by
      constructor
      · intro z
        have := (sortR_perm (less m o)).length_eq
        rw [z] at this
        exact List.length_eq_zero_iff.mp this.symm
      · intro z; rw [z]; exact List.mergeSort_nil
    by_cases hz0 : less m o = []
    · rw [decide_eq_true (e2.mpr hz0)]
      conv => whnf
      refine ⟨?_⟩
      conv => whnf
      refine ⟨o, m, rfl, by omega, by omega, ?_⟩
      conv => whnf
      have l4 : (sortR (less o m)).length ≤ 1000 := by rw [(sortR_perm _).length_eq]; exact l3
      refine ⟨by rw [sizeLine_eq, List.length_map, List.length_map]; omega, ?_⟩
      conv => whnf
      refine ⟨sortR (less o m) ++ w, by rw [List.length_append]; omega, .inr (.inl (by rw [tupR, List.map_append])), ?_⟩
      conv => whnf
      refine ⟨cons_i (ite_no (fun K hK => ?_) ?_)⟩
      · conv => whnf
        refine ⟨(show 2 ≤ sizeLine by rw [sizeLine_eq]; omega), ?_⟩
        conv => whnf
        refine ⟨o, w, m, rfl, by omega, by omega, by omega, ?_⟩
        rw [if_pos hz0]
        conv => whnf
        refine ⟨⟨rows_cmp _, rows_cmp _⟩, ?_⟩
        rw [eqv_tupR]
        exact hK
      conv => whnf
      refine ⟨tail_ok so sw lo lw go gw fun _ _ _ => ?_⟩
      exact hn _ _ ⟨g ++ [c], by rw [← hB, List.append_assoc], _, _, _, _, _, _, _, _, _, _, _, _, _, _, _, _, rfl⟩
    · rw [decide_eq_false (fun z => hz0 (e2.mp z))]
      conv => whnf
      refine ⟨cons_i (ite_no (fun K hK => ?_) ?_)⟩
      · conv => whnf
        refine ⟨(show 2 ≤ sizeLine by rw [sizeLine_eq]; omega), ?_⟩
        conv => whnf
        refine ⟨o, w, m, rfl, by omega, by omega, by omega, ?_⟩
        rw [if_neg hz0]
        exact ⟨⟨rfl, rfl⟩, hK⟩
      conv => whnf
      refine ⟨tail_ok so sw lo lw go gw fun _ _ _ => ?_⟩
      exact hn _ _ ⟨g ++ [c], by rw [← hB, List.append_assoc], _, _, _, _, _, _, _, _, _, _, _, _, _, _, _, _, rfl⟩
  · rintro env st1 ⟨g, rfl, v1, v2, v3, v4, v5, v6, v7, v8, v9, v10, v11, v12, v13, v14, v15, v16, rfl⟩
    conv => whnf
    refine ⟨?_⟩
    conv => whnf
    exact gc_drop hs rfl h
end K

set_option maxHeartbeats 0
namespace K
open PySem PySem.Spec PyProof.Rows L2 DL
theorem sub_no (c d : String) (b : Bool) (h : ¬ (c = "BadRows" ∧ d = "BadRows")) : ¬ (L.sub c d = some b) := by
  show ¬ ((if c = "BadRows" ∧ d = "BadRows" then some true else none) = some b)
  rw [if_neg h]
  exact fun e => nomatch e
theorem law_in (ns : List Int) (h : ns.length ≤ 63) : L.call "law" [.scr ns] [] (fun d _ => d = .bl true) (fun _ _ => False) := ⟨ns, rfl, h, rfl⟩
theorem len_is_integer (ds : List D) (st : Sto) (Q : D → Sto → Prop) (X : EX) (h : L.call "is_integer" ds st Q X) : ds.length = 3 := by
  have h : sIsInteger ds st Q X := h
  unfold sIsInteger at h
  obtain ⟨_, _, _, rfl, _⟩ := h
  rfl
theorem len_is_number (ds : List D) (st : Sto) (Q : D → Sto → Prop) (X : EX) (h : L.call "is_number" ds st Q X) : ds.length = 1 := by
  have h : sIsNumber ds st Q X := h
  unfold sIsNumber at h
  obtain ⟨_, rfl, _⟩ := h
  rfl
theorem len_is_text (ds : List D) (st : Sto) (Q : D → Sto → Prop) (X : EX) (h : L.call "is_text" ds st Q X) : ds.length = 1 := by
  have h : sIsText ds st Q X := h
  unfold sIsText at h
  obtain ⟨_, rfl, _⟩ := h
  rfl
theorem len_is_item (ds : List D) (st : Sto) (Q : D → Sto → Prop) (X : EX) (h : L.call "is_item" ds st Q X) : ds.length = 2 := by
  have h : sIsItem ds st Q X := h
  unfold sIsItem at h
  obtain ⟨_, _, rfl, _⟩ := h
  rfl
theorem len_is_row (ds : List D) (st : Sto) (Q : D → Sto → Prop) (X : EX) (h : L.call "is_row" ds st Q X) : ds.length = 2 := by
  have h : sIsRow ds st Q X := h
  unfold sIsRow at h
  obtain ⟨_, _, rfl, _⟩ := h
  rfl
theorem len_wrap (ds : List D) (st : Sto) (Q : D → Sto → Prop) (X : EX) (h : L.call "wrap" ds st Q X) : ds.length = 1 := by
  have h : sWrap ds st Q X := h
  unfold sWrap at h
  obtain ⟨_, rfl, _⟩ := h
  rfl
theorem len_bag_of (ds : List D) (st : Sto) (Q : D → Sto → Prop) (X : EX) (h : L.call "bag_of" ds st Q X) : ds.length = 1 := by
  have h : sBagOf ds st Q X := h
  unfold sBagOf at h
  obtain ⟨_, _, h, _⟩ := h
  rcases h with rfl | rfl | ⟨_, rfl, _⟩ <;> rfl
theorem len_counts_of (ds : List D) (st : Sto) (Q : D → Sto → Prop) (X : EX) (h : L.call "counts_of" ds st Q X) : ds.length = 1 := by
  have h : sCountsOf ds st Q X := h
  unfold sCountsOf at h
  obtain ⟨_, rfl, _⟩ := h
  rfl
theorem len_more (ds : List D) (st : Sto) (Q : D → Sto → Prop) (X : EX) (h : L.call "more" ds st Q X) : ds.length = 2 := by
  have h : sMore ds st Q X := h
  unfold sMore at h
  obtain ⟨_, _, rfl, _⟩ := h
  rfl
theorem len_parted (ds : List D) (st : Sto) (Q : D → Sto → Prop) (X : EX) (h : L.call "parted" ds st Q X) : ds.length = 2 := by
  have h : sParted ds st Q X := h
  unfold sParted at h
  obtain ⟨_, _, rfl, _⟩ := h
  rfl
theorem len_joined (ds : List D) (st : Sto) (Q : D → Sto → Prop) (X : EX) (h : L.call "joined" ds st Q X) : ds.length = 2 := by
  have h : sJoined ds st Q X := h
  unfold sJoined at h
  obtain ⟨_, _, _, rfl, _⟩ := h
  rfl
theorem len_is_bag (ds : List D) (st : Sto) (Q : D → Sto → Prop) (X : EX) (h : L.call "is_bag" ds st Q X) : ds.length = 2 := by
  have h : sIsBag ds st Q X := h
  unfold sIsBag at h
  obtain ⟨_, rfl, _⟩ := h
  rfl
theorem len_is_difference (ds : List D) (st : Sto) (Q : D → Sto → Prop) (X : EX) (h : L.call "is_difference" ds st Q X) : ds.length = 2 := by
  have h : sIsDiff ds st Q X := h
  unfold sIsDiff at h
  rcases h with ⟨_, _, rfl, _⟩ | ⟨_, rfl, _⟩ <;> rfl
theorem len_law_bag (ds : List D) (st : Sto) (Q : D → Sto → Prop) (X : EX) (h : L.call "_law_bag" ds st Q X) : ds.length = 2 := by
  have h : sLawBag ds st Q X := h
  unfold sLawBag at h
  obtain ⟨_, _, rfl, _⟩ := h
  rfl
theorem len_law_draw (ds : List D) (st : Sto) (Q : D → Sto → Prop) (X : EX) (h : L.call "_law_draw" ds st Q X) : ds.length = 2 := by
  have h : sDraw ds st Q X := h
  unfold sDraw at h
  obtain ⟨_, _, rfl, _⟩ := h
  rfl
theorem len_law_one (ds : List D) (st : Sto) (Q : D → Sto → Prop) (X : EX) (h : L.call "_law_one" ds st Q X) : ds.length = 2 := by
  have h : sOne ds st Q X := h
  unfold sOne at h
  obtain ⟨_, _, rfl, _⟩ := h
  rfl
theorem len_law_integer (ds : List D) (st : Sto) (Q : D → Sto → Prop) (X : EX) (h : L.call "_law_integer" ds st Q X) : ds.length = 1 := by
  have h : sInteger ds st Q X := h
  unfold sInteger at h
  obtain ⟨_, rfl, _⟩ := h
  rfl
theorem len_law_text (ds : List D) (st : Sto) (Q : D → Sto → Prop) (X : EX) (h : L.call "_law_text" ds st Q X) : ds.length = 1 := by
  have h : sText ds st Q X := h
  unfold sText at h
  obtain ⟨_, rfl, _⟩ := h
  rfl
theorem len_law_is_text (ds : List D) (st : Sto) (Q : D → Sto → Prop) (X : EX) (h : L.call "_law_is_text" ds st Q X) : ds.length = 1 := by
  have h : sLawIsText ds st Q X := h
  unfold sLawIsText at h
  obtain ⟨_, rfl, _⟩ := h
  rfl
theorem len_law_is_number (ds : List D) (st : Sto) (Q : D → Sto → Prop) (X : EX) (h : L.call "_law_is_number" ds st Q X) : ds.length = 1 := by
  have h : sIsNumber ds st Q X := h
  unfold sIsNumber at h
  obtain ⟨_, rfl, _⟩ := h
  rfl
theorem len_law_rows (ds : List D) (st : Sto) (Q : D → Sto → Prop) (X : EX) (h : L.call "_law_rows" ds st Q X) : ds.length = 2 := by
  have h : sRows ds st Q X := h
  unfold sRows at h
  obtain ⟨_, _, rfl, _⟩ := h
  rfl
theorem len_law_sorted (ds : List D) (st : Sto) (Q : D → Sto → Prop) (X : EX) (h : L.call "_law_sorted" ds st Q X) : ds.length = 1 := by
  have h : sSorted ds st Q X := h
  unfold sSorted at h
  obtain ⟨_, _, h, _⟩ := h
  rcases h with rfl | rfl | ⟨_, rfl, _⟩ <;> rfl
theorem len_law_less (ds : List D) (st : Sto) (Q : D → Sto → Prop) (X : EX) (h : L.call "_law_less" ds st Q X) : ds.length = 2 := by
  have h : sLess ds st Q X := h
  unfold sLess at h
  obtain ⟨_, _, rfl, _⟩ := h
  rfl
theorem len_law_joins (ds : List D) (st : Sto) (Q : D → Sto → Prop) (X : EX) (h : L.call "_law_joins" ds st Q X) : ds.length = 2 := by
  have h : sJoins ds st Q X := h
  unfold sJoins at h
  obtain ⟨_, _, _, rfl, _⟩ := h
  rfl
theorem len_law (ds : List D) (st : Sto) (Q : D → Sto → Prop) (X : EX) (h : L.call "law" ds st Q X) : ds.length = 1 := by
  have h : sLaw ds st Q X := h
  unfold sLaw at h
  obtain ⟨_, rfl, _⟩ := h
  rfl
end K
namespace Hd
open PySem PySem.Spec PyProof.Rows L2 DL
def top (i : Nat) : Stmt := PySem.Challenge.pw_unringed_k01_items_and_bags.main.body.getD i (.Pass ⟨0, 0, 0, 0⟩)
def tb (fns : List String) : Tab := ⟨fns, [], [], ["MOST_SIGNS", "LEAST_NUMBER", "MOST_NUMBER", "SPAN", "LETTERS", "DIGITS"], ["all", "bool", "int", "isinstance", "len", "list", "max", "min", "range", "repr", "sorted", "str", "tuple", "zip"], ["BadRows"]⟩
theorem ok_is_integer : okSs (tb []) (DL.b_is_integer.ns.map Str.ofString) (defScope (top 10)) true DL.b_is_integer.body (defBody (top 10)) = true := by kernel_rfl
theorem ok_is_number : okSs (tb ["is_integer"]) (DL.b_is_number.ns.map Str.ofString) (defScope (top 11)) true DL.b_is_number.body (defBody (top 11)) = true := by kernel_rfl
theorem ok_is_text : okSs (tb []) (DL.b_is_text.ns.map Str.ofString) (defScope (top 12)) true DL.b_is_text.body (defBody (top 12)) = true := by kernel_rfl
theorem ok_is_item : okSs (tb ["is_number", "is_text"]) (DL.b_is_item.ns.map Str.ofString) (defScope (top 13)) true DL.b_is_item.body (defBody (top 13)) = true := by kernel_rfl
theorem ok_is_row : okSs (tb ["is_item"]) (DL.b_is_row.ns.map Str.ofString) (defScope (top 14)) true DL.b_is_row.body (defBody (top 14)) = true := by kernel_rfl
theorem ok_wrap : okSs (tb []) (DL.b_wrap.ns.map Str.ofString) (defScope (top 15)) true DL.b_wrap.body (defBody (top 15)) = true := by kernel_rfl
theorem ok_bag_of : okSs (tb []) (DL.b_bag_of.ns.map Str.ofString) (defScope (top 17)) true DL.b_bag_of.body (defBody (top 17)) = true := by kernel_rfl
theorem ok_counts_of : okSs (tb []) (DL.b_counts_of.ns.map Str.ofString) (defScope (top 18)) true DL.b_counts_of.body (defBody (top 18)) = true := by kernel_rfl
theorem ok_more : okSs (tb ["bag_of", "counts_of"]) (DL.b_more.ns.map Str.ofString) (defScope (top 19)) true DL.b_more.body (defBody (top 19)) = true := by kernel_rfl
theorem ok_parted : okSs (tb ["more"]) (DL.b_parted.ns.map Str.ofString) (defScope (top 20)) true DL.b_parted.body (defBody (top 20)) = true := by kernel_rfl
theorem ok_joined : okSs (tb ["bag_of", "more"]) (DL.b_joined.ns.map Str.ofString) (defScope (top 21)) true DL.b_joined.body (defBody (top 21)) = true := by kernel_rfl
theorem ok_is_bag : okSs (tb ["is_row"]) (DL.b_is_bag.ns.map Str.ofString) (defScope (top 22)) true DL.b_is_bag.body (defBody (top 22)) = true := by kernel_rfl
theorem ok_is_difference : okSs (tb ["is_bag"]) (DL.b_is_difference.ns.map Str.ofString) (defScope (top 23)) true DL.b_is_difference.body (defBody (top 23)) = true := by kernel_rfl
theorem ok_law_bag : okSs (tb []) (DL.b_law_bag.ns.map Str.ofString) (defScope (top 25)) true DL.b_law_bag.body (defBody (top 25)) = true := by kernel_rfl
theorem ok_law_draw : okSs (tb []) (DL.b_law_draw.ns.map Str.ofString) (defScope (top 26)) true DL.b_law_draw.body (defBody (top 26)) = true := by kernel_rfl
theorem ok_law_one : okSs (tb ["_law_draw"]) (DL.b_law_one.ns.map Str.ofString) (defScope (top 27)) true DL.b_law_one.body (defBody (top 27)) = true := by kernel_rfl
theorem ok_law_integer : okSs (tb ["_law_draw", "_law_one"]) (DL.b_law_integer.ns.map Str.ofString) (defScope (top 28)) true DL.b_law_integer.body (defBody (top 28)) = true := by kernel_rfl
theorem ok_law_text : okSs (tb ["_law_draw", "_law_one"]) (DL.b_law_text.ns.map Str.ofString) (defScope (top 29)) true DL.b_law_text.body (defBody (top 29)) = true := by kernel_rfl
theorem ok_law_is_text : okSs (tb []) (DL.b_law_is_text.ns.map Str.ofString) (defScope (top 30)) true DL.b_law_is_text.body (defBody (top 30)) = true := by kernel_rfl
theorem ok_law_is_number : okSs (tb []) (DL.b_law_is_number.ns.map Str.ofString) (defScope (top 31)) true DL.b_law_is_number.body (defBody (top 31)) = true := by kernel_rfl
theorem ok_law_rows : okSs (tb ["_law_draw"]) (DL.b_law_rows.ns.map Str.ofString) (defScope (top 32)) true DL.b_law_rows.body (defBody (top 32)) = true := by kernel_rfl
theorem ok_law_sorted : okSs (tb []) (DL.b_law_sorted.ns.map Str.ofString) (defScope (top 33)) true DL.b_law_sorted.body (defBody (top 33)) = true := by kernel_rfl
theorem ok_law_less : okSs (tb ["_law_sorted"]) (DL.b_law_less.ns.map Str.ofString) (defScope (top 34)) true DL.b_law_less.body (defBody (top 34)) = true := by kernel_rfl
theorem ok_law_joins : okSs (tb ["joined"]) (DL.b_law_joins.ns.map Str.ofString) (defScope (top 35)) true DL.b_law_joins.body (defBody (top 35)) = true := by kernel_rfl
theorem ok_law : okSs (tb ["_law_bag", "_law_draw", "_law_integer", "_law_is_number", "_law_is_text", "_law_joins", "_law_less", "_law_one", "_law_rows", "_law_sorted", "_law_text", "bag_of", "is_bag", "is_difference", "is_integer", "is_item", "is_number", "is_row", "is_text", "joined", "parted", "wrap"]) (DL.b_law.ns.map Str.ofString) (defScope (top 36)) true DL.b_law.body (defBody (top 36)) = true := by kernel_rfl
def dOf (n : Str) (st : Stmt) : He.DefD := ⟨(n, none), n, n, defArgs st, defBody st, defScope st, [], []⟩
def fn0 : List He.DefD := [dOf "is_integer" (top 10), dOf "is_number" (top 11), dOf "is_text" (top 12), dOf "is_item" (top 13), dOf "is_row" (top 14), dOf "wrap" (top 15), dOf "bag_of" (top 17), dOf "counts_of" (top 18), dOf "more" (top 19), dOf "parted" (top 20), dOf "joined" (top 21), dOf "is_bag" (top 22), dOf "is_difference" (top 23), dOf "_law_bag" (top 25), dOf "_law_draw" (top 26), dOf "_law_one" (top 27), dOf "_law_integer" (top 28), dOf "_law_text" (top 29), dOf "_law_is_text" (top 30), dOf "_law_is_number" (top 31), dOf "_law_rows" (top 32), dOf "_law_sorted" (top 33), dOf "_law_less" (top 34), dOf "_law_joins" (top 35), dOf "law" (top 36)]
def fn : List He.DefD := fn0
def fa0 : List He.Fa := [.glo "is_integer", .glo "is_number", .glo "is_text", .glo "is_item", .glo "is_row", .glo "wrap", .glo "bag_of", .glo "counts_of", .glo "more", .glo "parted", .glo "joined", .glo "is_bag", .glo "is_difference", .glo "_law_bag", .glo "_law_draw", .glo "_law_one", .glo "_law_integer", .glo "_law_text", .glo "_law_is_text", .glo "_law_is_number", .glo "_law_rows", .glo "_law_sorted", .glo "_law_less", .glo "_law_joins", .glo "law", .glo "BadRows", .exc "BadRows", .exm "BadRows" "BadRows" true, .free "all", .free "bool"]
def fa1 : List He.Fa := [.free "int", .free "isinstance", .free "len", .free "list", .free "max", .free "min", .free "range", .free "repr", .free "sorted", .free "str", .free "tuple", .free "zip", .int "MOST_SIGNS" 12, .int "LEAST_NUMBER" (-2147483648), .int "MOST_NUMBER" 2147483647, .int "SPAN" 4294967296, .str "LETTERS" "abcdefghijklmnopqrstuvwxyz", .str "DIGITS" "0123456789"]
def fa : List He.Fa := fa0 ++ fa1
abbrev R : PySem.W.OpenRow := PySem.W.OpenLaw.row PySem.Challenge.rw_unringed_k01_items_and_bags
abbrev hk : PySem.W.Hook := He.hookD 4 fa fn
def ob (s : PySem.W.SharedT) : He.AlD := He.obsDG 4 fa fn (HandSHeadRun.getT s)
theorem ob_eq (s : PySem.W.SharedT) : ob s = hk.obs s.abs := He.obsDG_eq (HandSHeadRun.getT_eq s)
def names0 : List Str := ["RingError", "BadRows", "MOST_SIGNS", "LEAST_NUMBER", "MOST_NUMBER", "SPAN", "LETTERS", "DIGITS", "is_integer", "is_number", "is_text", "is_item", "is_row", "wrap", "bag_of", "counts_of", "more", "parted", "joined", "is_bag", "is_difference", "_law_bag", "_law_draw", "_law_one", "_law_integer", "_law_text", "_law_is_text", "_law_is_number", "_law_rows", "_law_sorted"]
def names1 : List Str := ["_law_less", "_law_joins"]
def names : List Str := names0 ++ names1
theorem run (w : World) : HandSHeadRun.RunEq R (PySem.W.view R.prog [36]) hk ob 4000 names w := by
  intro os
  kernel_rfl
theorem sc_is_integer : FnScope ["value", "low", "high"] ["value", "low", "high"] (defScope (top 10)) := ⟨rfl, rfl, rfl, by decide +kernel, rfl, by decide +kernel, by decide +kernel⟩
theorem len_is_integer (ds : List D) (st : Sto) (Q : D → Sto → Prop) (X : EX) (h : _root_.K.L.call "is_integer" ds st Q X) : ds.length = (["value", "low", "high"] : List Str).length := K.len_is_integer ds st Q X h
theorem sc_is_number : FnScope ["value"] ["value"] (defScope (top 11)) := ⟨rfl, rfl, rfl, by decide +kernel, rfl, by decide +kernel, by decide +kernel⟩
theorem len_is_number (ds : List D) (st : Sto) (Q : D → Sto → Prop) (X : EX) (h : _root_.K.L.call "is_number" ds st Q X) : ds.length = (["value"] : List Str).length := K.len_is_number ds st Q X h
theorem sc_is_text : FnScope ["value", "sign"] ["value"] (defScope (top 12)) := ⟨rfl, rfl, rfl, by decide +kernel, rfl, by decide +kernel, by decide +kernel⟩
theorem len_is_text (ds : List D) (st : Sto) (Q : D → Sto → Prop) (X : EX) (h : _root_.K.L.call "is_text" ds st Q X) : ds.length = (["value"] : List Str).length := K.len_is_text ds st Q X h
theorem sc_is_item : FnScope ["kind", "value"] ["kind", "value"] (defScope (top 13)) := ⟨rfl, rfl, rfl, by decide +kernel, rfl, by decide +kernel, by decide +kernel⟩
theorem len_is_item (ds : List D) (st : Sto) (Q : D → Sto → Prop) (X : EX) (h : _root_.K.L.call "is_item" ds st Q X) : ds.length = (["kind", "value"] : List Str).length := K.len_is_item ds st Q X h
theorem sc_is_row : FnScope ["kinds", "value", "kind", "item"] ["kinds", "value"] (defScope (top 14)) := ⟨rfl, rfl, rfl, by decide +kernel, rfl, by decide +kernel, by decide +kernel⟩
theorem len_is_row (ds : List D) (st : Sto) (Q : D → Sto → Prop) (X : EX) (h : _root_.K.L.call "is_row" ds st Q X) : ds.length = (["kinds", "value"] : List Str).length := K.len_is_row ds st Q X h
theorem sc_wrap : FnScope ["n"] ["n"] (defScope (top 15)) := ⟨rfl, rfl, rfl, by decide +kernel, rfl, by decide +kernel, by decide +kernel⟩
theorem len_wrap (ds : List D) (st : Sto) (Q : D → Sto → Prop) (X : EX) (h : _root_.K.L.call "wrap" ds st Q X) : ds.length = (["n"] : List Str).length := K.len_wrap ds st Q X h
theorem sc_bag_of : FnScope ["rows"] ["rows"] (defScope (top 17)) := ⟨rfl, rfl, rfl, by decide +kernel, rfl, by decide +kernel, by decide +kernel⟩
theorem len_bag_of (ds : List D) (st : Sto) (Q : D → Sto → Prop) (X : EX) (h : _root_.K.L.call "bag_of" ds st Q X) : ds.length = (["rows"] : List Str).length := K.len_bag_of ds st Q X h
theorem sc_counts_of : FnScope ["bag", "counts", "row"] ["bag"] (defScope (top 18)) := ⟨rfl, rfl, rfl, by decide +kernel, rfl, by decide +kernel, by decide +kernel⟩
theorem len_counts_of (ds : List D) (st : Sto) (Q : D → Sto → Prop) (X : EX) (h : _root_.K.L.call "counts_of" ds st Q X) : ds.length = (["bag"] : List Str).length := K.len_counts_of ds st Q X h
theorem sc_more : FnScope ["one", "other", "left", "found", "row"] ["one", "other"] (defScope (top 19)) := ⟨rfl, rfl, rfl, by decide +kernel, rfl, by decide +kernel, by decide +kernel⟩
theorem len_more (ds : List D) (st : Sto) (Q : D → Sto → Prop) (X : EX) (h : _root_.K.L.call "more" ds st Q X) : ds.length = (["one", "other"] : List Str).length := K.len_more ds st Q X h
theorem sc_parted : FnScope ["old", "new"] ["old", "new"] (defScope (top 20)) := ⟨rfl, rfl, rfl, by decide +kernel, rfl, by decide +kernel, by decide +kernel⟩
theorem len_parted (ds : List D) (st : Sto) (Q : D → Sto → Prop) (X : EX) (h : _root_.K.L.call "parted" ds st Q X) : ds.length = (["old", "new"] : List Str).length := K.len_parted ds st Q X h
theorem sc_joined : FnScope ["bag", "difference", "plus", "minus"] ["bag", "difference"] (defScope (top 21)) := ⟨rfl, rfl, rfl, by decide +kernel, rfl, by decide +kernel, by decide +kernel⟩
theorem len_joined (ds : List D) (st : Sto) (Q : D → Sto → Prop) (X : EX) (h : _root_.K.L.call "joined" ds st Q X) : ds.length = (["bag", "difference"] : List Str).length := K.len_joined ds st Q X h
theorem sc_is_bag : FnScope ["kinds", "value", "one", "other", "row"] ["kinds", "value"] (defScope (top 22)) := ⟨rfl, rfl, rfl, by decide +kernel, rfl, by decide +kernel, by decide +kernel⟩
theorem len_is_bag (ds : List D) (st : Sto) (Q : D → Sto → Prop) (X : EX) (h : _root_.K.L.call "is_bag" ds st Q X) : ds.length = (["kinds", "value"] : List Str).length := K.len_is_bag ds st Q X h
theorem sc_is_difference : FnScope ["kinds", "value", "row", "bag"] ["kinds", "value"] (defScope (top 23)) := ⟨rfl, rfl, rfl, by decide +kernel, rfl, by decide +kernel, by decide +kernel⟩
theorem len_is_difference (ds : List D) (st : Sto) (Q : D → Sto → Prop) (X : EX) (h : _root_.K.L.call "is_difference" ds st Q X) : ds.length = (["kinds", "value"] : List Str).length := K.len_is_difference ds st Q X h
theorem sc_law_bag : FnScope ["script", "k", "cell"] ["script", "k"] (defScope (top 25)) := ⟨rfl, rfl, rfl, by decide +kernel, rfl, by decide +kernel, by decide +kernel⟩
theorem len_law_bag (ds : List D) (st : Sto) (Q : D → Sto → Prop) (X : EX) (h : _root_.K.L.call "_law_bag" ds st Q X) : ds.length = (["script", "k"] : List Str).length := K.len_law_bag ds st Q X h
theorem sc_law_draw : FnScope ["bag", "many", "rest", "seed"] ["bag", "many"] (defScope (top 26)) := ⟨rfl, rfl, rfl, by decide +kernel, rfl, by decide +kernel, by decide +kernel⟩
theorem len_law_draw (ds : List D) (st : Sto) (Q : D → Sto → Prop) (X : EX) (h : _root_.K.L.call "_law_draw" ds st Q X) : ds.length = (["bag", "many"] : List Str).length := K.len_law_draw ds st Q X h
theorem sc_law_one : FnScope ["bag", "row"] ["bag", "row"] (defScope (top 27)) := ⟨rfl, rfl, rfl, by decide +kernel, rfl, by decide +kernel, by decide +kernel⟩
theorem len_law_one (ds : List D) (st : Sto) (Q : D → Sto → Prop) (X : EX) (h : _root_.K.L.call "_law_one" ds st Q X) : ds.length = (["bag", "row"] : List Str).length := K.len_law_one ds st Q X h
theorem sc_law_integer : FnScope ["bag", "base"] ["bag"] (defScope (top 28)) := ⟨rfl, rfl, rfl, by decide +kernel, rfl, by decide +kernel, by decide +kernel⟩
theorem len_law_integer (ds : List D) (st : Sto) (Q : D → Sto → Prop) (X : EX) (h : _root_.K.L.call "_law_integer" ds st Q X) : ds.length = (["bag"] : List Str).length := K.len_law_integer ds st Q X h
theorem sc_law_text : FnScope ["bag", "signs", "k"] ["bag"] (defScope (top 29)) := ⟨rfl, rfl, rfl, by decide +kernel, rfl, by decide +kernel, by decide +kernel⟩
theorem len_law_text (ds : List D) (st : Sto) (Q : D → Sto → Prop) (X : EX) (h : _root_.K.L.call "_law_text" ds st Q X) : ds.length = (["bag"] : List Str).length := K.len_law_text ds st Q X h
theorem sc_law_is_text : FnScope ["value", "signs", "sign"] ["value"] (defScope (top 30)) := ⟨rfl, rfl, rfl, by decide +kernel, rfl, by decide +kernel, by decide +kernel⟩
theorem len_law_is_text (ds : List D) (st : Sto) (Q : D → Sto → Prop) (X : EX) (h : _root_.K.L.call "_law_is_text" ds st Q X) : ds.length = (["value"] : List Str).length := K.len_law_is_text ds st Q X h
theorem sc_law_is_number : FnScope ["value"] ["value"] (defScope (top 31)) := ⟨rfl, rfl, rfl, by decide +kernel, rfl, by decide +kernel, by decide +kernel⟩
theorem len_law_is_number (ds : List D) (st : Sto) (Q : D → Sto → Prop) (X : EX) (h : _root_.K.L.call "_law_is_number" ds st Q X) : ds.length = (["value"] : List Str).length := K.len_law_is_number ds st Q X h
theorem sc_law_rows : FnScope ["bag", "many", "row", "k"] ["bag", "many"] (defScope (top 32)) := ⟨rfl, rfl, rfl, by decide +kernel, rfl, by decide +kernel, by decide +kernel⟩
theorem len_law_rows (ds : List D) (st : Sto) (Q : D → Sto → Prop) (X : EX) (h : _root_.K.L.call "_law_rows" ds st Q X) : ds.length = (["bag", "many"] : List Str).length := K.len_law_rows ds st Q X h
theorem sc_law_sorted : FnScope ["rows", "left", "found", "least", "row"] ["rows"] (defScope (top 33)) := ⟨rfl, rfl, rfl, by decide +kernel, rfl, by decide +kernel, by decide +kernel⟩
theorem len_law_sorted (ds : List D) (st : Sto) (Q : D → Sto → Prop) (X : EX) (h : _root_.K.L.call "_law_sorted" ds st Q X) : ds.length = (["rows"] : List Str).length := K.len_law_sorted ds st Q X h
theorem sc_law_less : FnScope ["one", "other", "left", "found", "row"] ["one", "other"] (defScope (top 34)) := ⟨rfl, rfl, rfl, by decide +kernel, rfl, by decide +kernel, by decide +kernel⟩
theorem len_law_less (ds : List D) (st : Sto) (Q : D → Sto → Prop) (X : EX) (h : _root_.K.L.call "_law_less" ds st Q X) : ds.length = (["one", "other"] : List Str).length := K.len_law_less ds st Q X h
theorem sc_law_joins : FnScope ["bag", "difference"] ["bag", "difference"] (defScope (top 35)) := ⟨rfl, rfl, rfl, by decide +kernel, rfl, by decide +kernel, by decide +kernel⟩
theorem len_law_joins (ds : List D) (st : Sto) (Q : D → Sto → Prop) (X : EX) (h : _root_.K.L.call "_law_joins" ds st Q X) : ds.length = (["bag", "difference"] : List Str).length := K.len_law_joins ds st Q X h
theorem sc_law : FnScope ["script", "k", "bag", "n", "told", "low", "high", "text", "value", "old", "new", "change", "minus", "due", "kinds", "shared", "row"] ["script"] (defScope (top 36)) := ⟨rfl, rfl, rfl, by decide +kernel, rfl, by decide +kernel, by decide +kernel⟩
theorem len_law (ds : List D) (st : Sto) (Q : D → Sto → Prop) (X : EX) (h : _root_.K.L.call "law" ds st Q X) : ds.length = (["script"] : List Str).length := K.len_law ds st Q X h
theorem facts {P : Program} {w : World} {K : PySem.W.Frag} {h : Heap} {mg : Str → Option Value} {f : Addr} (X : K.In h) (G : h.Ns mainGlobals mg) (hfa : mg ("law" : Str) = some (.ref f)) (c : He.SaysD fa fn K) :
    ∃ fd : FuncData, (∀ (s : Shared) (v : Value), BindsTo s fd ⟨[v], []⟩ [("script", v)]) ∧ ∀ base : Heap, K.In base → base.Ns mainGlobals mg → FnOk P w K mg base (L2.CX P w) 25 f fd ["script"] (spD ⟨K, mg, P, w⟩ (_root_.K.L.call "law") 1) := by
  have hfree : ∀ x ∈ (tb []).free, mg (Str.ofString x) = none := (all_cons (He.free_ok X G (c.fact 28 rfl)) (all_cons (He.free_ok X G (c.fact 29 rfl)) (all_cons (He.free_ok X G (c.fact 30 rfl)) (all_cons (He.free_ok X G (c.fact 31 rfl)) (all_cons (He.free_ok X G (c.fact 32 rfl)) (all_cons (He.free_ok X G (c.fact 33 rfl)) (all_cons (He.free_ok X G (c.fact 34 rfl)) (all_cons (He.free_ok X G (c.fact 35 rfl)) (all_cons (He.free_ok X G (c.fact 36 rfl)) (all_cons (He.free_ok X G (c.fact 37 rfl)) (all_cons (He.free_ok X G (c.fact 38 rfl)) (all_cons (He.free_ok X G (c.fact 39 rfl)) (all_cons (He.free_ok X G (c.fact 40 rfl)) (all_cons (He.free_ok X G (c.fact 41 rfl)) all_nil))))))))))))))
  have hglob : ∀ x ∈ (tb []).globs, GlobOk ⟨K, mg, P, w⟩ _root_.K.L x := (all_cons (glob_intF X G (c.fact 42 rfl) rfl) (all_cons (glob_intF X G (c.fact 43 rfl) rfl) (all_cons (glob_intF X G (c.fact 44 rfl) rfl) (all_cons (glob_intF X G (c.fact 45 rfl) rfl) (all_cons (glob_strF X G (c.fact 46 rfl) rfl) (all_cons (glob_strF X G (c.fact 47 rfl) rfl) all_nil))))))
  have hexc : ∀ x ∈ (tb []).excs, ExcOk ⟨K, mg, P, w⟩ _root_.K.L x := (all_cons (exc_F X G (c.fact 25 rfl) (c.fact 26 rfl) rfl) all_nil)
  have hsub : SubOk ⟨K, mg, P, w⟩ _root_.K.L := fun x y b A B e m1 m2 => by
    by_cases e00 : x = "BadRows" ∧ y = "BadRows"
    · obtain ⟨rfl, rfl⟩ := e00
      have z1 := (He.glo_ok X G (c.fact 25 rfl)).symm.trans m1
      have z2 := (He.glo_ok X G (c.fact 25 rfl)).symm.trans m2
      cases z1
      cases z2
      have ee : some true = some b := e
      cases ee
      exact He.exm_ok (c.fact 27 rfl)
    exact absurd e (_root_.K.sub_no x y b e00)
  obtain ⟨fd_is_integer, F_is_integer⟩ := c.def_ 0 (d := dOf "is_integer" (top 10)) rfl
  obtain ⟨fd_is_number, F_is_number⟩ := c.def_ 1 (d := dOf "is_number" (top 11)) rfl
  obtain ⟨fd_is_text, F_is_text⟩ := c.def_ 2 (d := dOf "is_text" (top 12)) rfl
  obtain ⟨fd_is_item, F_is_item⟩ := c.def_ 3 (d := dOf "is_item" (top 13)) rfl
  obtain ⟨fd_is_row, F_is_row⟩ := c.def_ 4 (d := dOf "is_row" (top 14)) rfl
  obtain ⟨fd_wrap, F_wrap⟩ := c.def_ 5 (d := dOf "wrap" (top 15)) rfl
  obtain ⟨fd_bag_of, F_bag_of⟩ := c.def_ 6 (d := dOf "bag_of" (top 17)) rfl
  obtain ⟨fd_counts_of, F_counts_of⟩ := c.def_ 7 (d := dOf "counts_of" (top 18)) rfl
  obtain ⟨fd_more, F_more⟩ := c.def_ 8 (d := dOf "more" (top 19)) rfl
  obtain ⟨fd_parted, F_parted⟩ := c.def_ 9 (d := dOf "parted" (top 20)) rfl
  obtain ⟨fd_joined, F_joined⟩ := c.def_ 10 (d := dOf "joined" (top 21)) rfl
  obtain ⟨fd_is_bag, F_is_bag⟩ := c.def_ 11 (d := dOf "is_bag" (top 22)) rfl
  obtain ⟨fd_is_difference, F_is_difference⟩ := c.def_ 12 (d := dOf "is_difference" (top 23)) rfl
  obtain ⟨fd_law_bag, F_law_bag⟩ := c.def_ 13 (d := dOf "_law_bag" (top 25)) rfl
  obtain ⟨fd_law_draw, F_law_draw⟩ := c.def_ 14 (d := dOf "_law_draw" (top 26)) rfl
  obtain ⟨fd_law_one, F_law_one⟩ := c.def_ 15 (d := dOf "_law_one" (top 27)) rfl
  obtain ⟨fd_law_integer, F_law_integer⟩ := c.def_ 16 (d := dOf "_law_integer" (top 28)) rfl
  obtain ⟨fd_law_text, F_law_text⟩ := c.def_ 17 (d := dOf "_law_text" (top 29)) rfl
  obtain ⟨fd_law_is_text, F_law_is_text⟩ := c.def_ 18 (d := dOf "_law_is_text" (top 30)) rfl
  obtain ⟨fd_law_is_number, F_law_is_number⟩ := c.def_ 19 (d := dOf "_law_is_number" (top 31)) rfl
  obtain ⟨fd_law_rows, F_law_rows⟩ := c.def_ 20 (d := dOf "_law_rows" (top 32)) rfl
  obtain ⟨fd_law_sorted, F_law_sorted⟩ := c.def_ 21 (d := dOf "_law_sorted" (top 33)) rfl
  obtain ⟨fd_law_less, F_law_less⟩ := c.def_ 22 (d := dOf "_law_less" (top 34)) rfl
  obtain ⟨fd_law_joins, F_law_joins⟩ := c.def_ 23 (d := dOf "_law_joins" (top 35)) rfl
  obtain ⟨fd_law, F_law⟩ := c.def_ 24 (d := dOf "law" (top 36)) rfl
  have e := hfa.symm.trans (He.glo_ok X G (c.fact 24 (f := .glo "law") rfl))
  cases e
  refine ⟨fd_law, fun s v => FunD.bindsA (ps := ["script"]) F_law (fun _ _ _ _ _ _ us hl => match us, hl with | [_], _ => rfl) s [v] rfl, fun base _ _ => ?_⟩
  have c_is_integer : CallOk ⟨K, mg, P, w⟩ _root_.K.L base 1 "is_integer" := call_ok (st := top 10) F_is_integer (He.glo_ok X G (c.fact 0 rfl)) sc_is_integer rfl (mkLib (T := tb []) (k := 0) all_nil hfree hexc hsub hglob) ok_is_integer _root_.K.v_is_integer len_is_integer (fun _ _ _ _ _ _ us hl => match us, hl with | [_, _, _], _ => rfl)
  have c_is_number : CallOk ⟨K, mg, P, w⟩ _root_.K.L base 2 "is_number" := call_ok (st := top 11) F_is_number (He.glo_ok X G (c.fact 1 rfl)) sc_is_number rfl (mkLib (T := tb ["is_integer"]) (k := 1) (all_cons (c_is_integer.mono (by decide)) all_nil) hfree hexc hsub hglob) ok_is_number _root_.K.v_is_number len_is_number (fun _ _ _ _ _ _ us hl => match us, hl with | [_], _ => rfl)
  have c_is_text : CallOk ⟨K, mg, P, w⟩ _root_.K.L base 3 "is_text" := call_ok (st := top 12) F_is_text (He.glo_ok X G (c.fact 2 rfl)) sc_is_text rfl (mkLib (T := tb []) (k := 2) all_nil hfree hexc hsub hglob) ok_is_text _root_.K.v_is_text len_is_text (fun _ _ _ _ _ _ us hl => match us, hl with | [_], _ => rfl)
  have c_is_item : CallOk ⟨K, mg, P, w⟩ _root_.K.L base 4 "is_item" := call_ok (st := top 13) F_is_item (He.glo_ok X G (c.fact 3 rfl)) sc_is_item rfl (mkLib (T := tb ["is_number", "is_text"]) (k := 3) (all_cons (c_is_number.mono (by decide)) (all_cons (c_is_text.mono (by decide)) all_nil)) hfree hexc hsub hglob) ok_is_item _root_.K.v_is_item len_is_item (fun _ _ _ _ _ _ us hl => match us, hl with | [_, _], _ => rfl)
  have c_is_row : CallOk ⟨K, mg, P, w⟩ _root_.K.L base 5 "is_row" := call_ok (st := top 14) F_is_row (He.glo_ok X G (c.fact 4 rfl)) sc_is_row rfl (mkLib (T := tb ["is_item"]) (k := 4) (all_cons (c_is_item.mono (by decide)) all_nil) hfree hexc hsub hglob) ok_is_row _root_.K.v_is_row len_is_row (fun _ _ _ _ _ _ us hl => match us, hl with | [_, _], _ => rfl)
  have c_wrap : CallOk ⟨K, mg, P, w⟩ _root_.K.L base 6 "wrap" := call_ok (st := top 15) F_wrap (He.glo_ok X G (c.fact 5 rfl)) sc_wrap rfl (mkLib (T := tb []) (k := 5) all_nil hfree hexc hsub hglob) ok_wrap _root_.K.v_wrap len_wrap (fun _ _ _ _ _ _ us hl => match us, hl with | [_], _ => rfl)
  have c_bag_of : CallOk ⟨K, mg, P, w⟩ _root_.K.L base 7 "bag_of" := call_ok (st := top 17) F_bag_of (He.glo_ok X G (c.fact 6 rfl)) sc_bag_of rfl (mkLib (T := tb []) (k := 6) all_nil hfree hexc hsub hglob) ok_bag_of _root_.K.v_bag_of len_bag_of (fun _ _ _ _ _ _ us hl => match us, hl with | [_], _ => rfl)
  have c_counts_of : CallOk ⟨K, mg, P, w⟩ _root_.K.L base 8 "counts_of" := call_ok (st := top 18) F_counts_of (He.glo_ok X G (c.fact 7 rfl)) sc_counts_of rfl (mkLib (T := tb []) (k := 7) all_nil hfree hexc hsub hglob) ok_counts_of _root_.K.v_counts_of len_counts_of (fun _ _ _ _ _ _ us hl => match us, hl with | [_], _ => rfl)
  have c_more : CallOk ⟨K, mg, P, w⟩ _root_.K.L base 9 "more" := call_ok (st := top 19) F_more (He.glo_ok X G (c.fact 8 rfl)) sc_more rfl (mkLib (T := tb ["bag_of", "counts_of"]) (k := 8) (all_cons (c_bag_of.mono (by decide)) (all_cons (c_counts_of.mono (by decide)) all_nil)) hfree hexc hsub hglob) ok_more _root_.K.v_more len_more (fun _ _ _ _ _ _ us hl => match us, hl with | [_, _], _ => rfl)
  have c_parted : CallOk ⟨K, mg, P, w⟩ _root_.K.L base 10 "parted" := call_ok (st := top 20) F_parted (He.glo_ok X G (c.fact 9 rfl)) sc_parted rfl (mkLib (T := tb ["more"]) (k := 9) (all_cons (c_more.mono (by decide)) all_nil) hfree hexc hsub hglob) ok_parted _root_.K.v_parted len_parted (fun _ _ _ _ _ _ us hl => match us, hl with | [_, _], _ => rfl)
  have c_joined : CallOk ⟨K, mg, P, w⟩ _root_.K.L base 11 "joined" := call_ok (st := top 21) F_joined (He.glo_ok X G (c.fact 10 rfl)) sc_joined rfl (mkLib (T := tb ["bag_of", "more"]) (k := 10) (all_cons (c_bag_of.mono (by decide)) (all_cons (c_more.mono (by decide)) all_nil)) hfree hexc hsub hglob) ok_joined _root_.K.v_joined len_joined (fun _ _ _ _ _ _ us hl => match us, hl with | [_, _], _ => rfl)
  have c_is_bag : CallOk ⟨K, mg, P, w⟩ _root_.K.L base 12 "is_bag" := call_ok (st := top 22) F_is_bag (He.glo_ok X G (c.fact 11 rfl)) sc_is_bag rfl (mkLib (T := tb ["is_row"]) (k := 11) (all_cons (c_is_row.mono (by decide)) all_nil) hfree hexc hsub hglob) ok_is_bag _root_.K.v_is_bag len_is_bag (fun _ _ _ _ _ _ us hl => match us, hl with | [_, _], _ => rfl)
  have c_is_difference : CallOk ⟨K, mg, P, w⟩ _root_.K.L base 13 "is_difference" := call_ok (st := top 23) F_is_difference (He.glo_ok X G (c.fact 12 rfl)) sc_is_difference rfl (mkLib (T := tb ["is_bag"]) (k := 12) (all_cons (c_is_bag.mono (by decide)) all_nil) hfree hexc hsub hglob) ok_is_difference _root_.K.v_is_difference len_is_difference (fun _ _ _ _ _ _ us hl => match us, hl with | [_, _], _ => rfl)
  have c_law_bag : CallOk ⟨K, mg, P, w⟩ _root_.K.L base 14 "_law_bag" := call_ok (st := top 25) F_law_bag (He.glo_ok X G (c.fact 13 rfl)) sc_law_bag rfl (mkLib (T := tb []) (k := 13) all_nil hfree hexc hsub hglob) ok_law_bag _root_.K.v_law_bag len_law_bag (fun _ _ _ _ _ _ us hl => match us, hl with | [_, _], _ => rfl)
  have c_law_draw : CallOk ⟨K, mg, P, w⟩ _root_.K.L base 15 "_law_draw" := call_ok (st := top 26) F_law_draw (He.glo_ok X G (c.fact 14 rfl)) sc_law_draw rfl (mkLib (T := tb []) (k := 14) all_nil hfree hexc hsub hglob) ok_law_draw _root_.K.v_law_draw len_law_draw (fun _ _ _ _ _ _ us hl => match us, hl with | [_, _], _ => rfl)
  have c_law_one : CallOk ⟨K, mg, P, w⟩ _root_.K.L base 16 "_law_one" := call_ok (st := top 27) F_law_one (He.glo_ok X G (c.fact 15 rfl)) sc_law_one rfl (mkLib (T := tb ["_law_draw"]) (k := 15) (all_cons (c_law_draw.mono (by decide)) all_nil) hfree hexc hsub hglob) ok_law_one _root_.K.v_law_one len_law_one (fun _ _ _ _ _ _ us hl => match us, hl with | [_, _], _ => rfl)
  have c_law_integer : CallOk ⟨K, mg, P, w⟩ _root_.K.L base 17 "_law_integer" := call_ok (st := top 28) F_law_integer (He.glo_ok X G (c.fact 16 rfl)) sc_law_integer rfl (mkLib (T := tb ["_law_draw", "_law_one"]) (k := 16) (all_cons (c_law_draw.mono (by decide)) (all_cons (c_law_one.mono (by decide)) all_nil)) hfree hexc hsub hglob) ok_law_integer _root_.K.v_law_integer len_law_integer (fun _ _ _ _ _ _ us hl => match us, hl with | [_], _ => rfl)
  have c_law_text : CallOk ⟨K, mg, P, w⟩ _root_.K.L base 18 "_law_text" := call_ok (st := top 29) F_law_text (He.glo_ok X G (c.fact 17 rfl)) sc_law_text rfl (mkLib (T := tb ["_law_draw", "_law_one"]) (k := 17) (all_cons (c_law_draw.mono (by decide)) (all_cons (c_law_one.mono (by decide)) all_nil)) hfree hexc hsub hglob) ok_law_text _root_.K.v_law_text len_law_text (fun _ _ _ _ _ _ us hl => match us, hl with | [_], _ => rfl)
  have c_law_is_text : CallOk ⟨K, mg, P, w⟩ _root_.K.L base 19 "_law_is_text" := call_ok (st := top 30) F_law_is_text (He.glo_ok X G (c.fact 18 rfl)) sc_law_is_text rfl (mkLib (T := tb []) (k := 18) all_nil hfree hexc hsub hglob) ok_law_is_text _root_.K.v_law_is_text len_law_is_text (fun _ _ _ _ _ _ us hl => match us, hl with | [_], _ => rfl)
  have c_law_is_number : CallOk ⟨K, mg, P, w⟩ _root_.K.L base 20 "_law_is_number" := call_ok (st := top 31) F_law_is_number (He.glo_ok X G (c.fact 19 rfl)) sc_law_is_number rfl (mkLib (T := tb []) (k := 19) all_nil hfree hexc hsub hglob) ok_law_is_number _root_.K.v_law_is_number len_law_is_number (fun _ _ _ _ _ _ us hl => match us, hl with | [_], _ => rfl)
  have c_law_rows : CallOk ⟨K, mg, P, w⟩ _root_.K.L base 21 "_law_rows" := call_ok (st := top 32) F_law_rows (He.glo_ok X G (c.fact 20 rfl)) sc_law_rows rfl (mkLib (T := tb ["_law_draw"]) (k := 20) (all_cons (c_law_draw.mono (by decide)) all_nil) hfree hexc hsub hglob) ok_law_rows _root_.K.v_law_rows len_law_rows (fun _ _ _ _ _ _ us hl => match us, hl with | [_, _], _ => rfl)
  have c_law_sorted : CallOk ⟨K, mg, P, w⟩ _root_.K.L base 22 "_law_sorted" := call_ok (st := top 33) F_law_sorted (He.glo_ok X G (c.fact 21 rfl)) sc_law_sorted rfl (mkLib (T := tb []) (k := 21) all_nil hfree hexc hsub hglob) ok_law_sorted _root_.K.v_law_sorted len_law_sorted (fun _ _ _ _ _ _ us hl => match us, hl with | [_], _ => rfl)
  have c_law_less : CallOk ⟨K, mg, P, w⟩ _root_.K.L base 23 "_law_less" := call_ok (st := top 34) F_law_less (He.glo_ok X G (c.fact 22 rfl)) sc_law_less rfl (mkLib (T := tb ["_law_sorted"]) (k := 22) (all_cons (c_law_sorted.mono (by decide)) all_nil) hfree hexc hsub hglob) ok_law_less _root_.K.v_law_less len_law_less (fun _ _ _ _ _ _ us hl => match us, hl with | [_, _], _ => rfl)
  have c_law_joins : CallOk ⟨K, mg, P, w⟩ _root_.K.L base 24 "_law_joins" := call_ok (st := top 35) F_law_joins (He.glo_ok X G (c.fact 23 rfl)) sc_law_joins rfl (mkLib (T := tb ["joined"]) (k := 23) (all_cons (c_joined.mono (by decide)) all_nil) hfree hexc hsub hglob) ok_law_joins _root_.K.v_law_joins len_law_joins (fun _ _ _ _ _ _ us hl => match us, hl with | [_, _], _ => rfl)
  exact def_ok F_law sc_law rfl (mkLib (T := tb ["_law_bag", "_law_draw", "_law_integer", "_law_is_number", "_law_is_text", "_law_joins", "_law_less", "_law_one", "_law_rows", "_law_sorted", "_law_text", "bag_of", "is_bag", "is_difference", "is_integer", "is_item", "is_number", "is_row", "is_text", "joined", "parted", "wrap"]) (k := 24) (all_cons (c_law_bag.mono (by decide)) (all_cons (c_law_draw.mono (by decide)) (all_cons (c_law_integer.mono (by decide)) (all_cons (c_law_is_number.mono (by decide)) (all_cons (c_law_is_text.mono (by decide)) (all_cons (c_law_joins.mono (by decide)) (all_cons (c_law_less.mono (by decide)) (all_cons (c_law_one.mono (by decide)) (all_cons (c_law_rows.mono (by decide)) (all_cons (c_law_sorted.mono (by decide)) (all_cons (c_law_text.mono (by decide)) (all_cons (c_bag_of.mono (by decide)) (all_cons (c_is_bag.mono (by decide)) (all_cons (c_is_difference.mono (by decide)) (all_cons (c_is_integer.mono (by decide)) (all_cons (c_is_item.mono (by decide)) (all_cons (c_is_number.mono (by decide)) (all_cons (c_is_row.mono (by decide)) (all_cons (c_is_text.mono (by decide)) (all_cons (c_joined.mono (by decide)) (all_cons (c_parted.mono (by decide)) (all_cons (c_wrap.mono (by decide)) all_nil)))))))))))))))))))))) hfree hexc hsub hglob) ok_law _root_.K.v_law
end Hd
open PySem PySem.W PySem.Calls PyProof.Rows
theorem PySem.Challenge.cw_unringed_k01_items_and_bags_holds : PySem.Challenge.rw_unringed_k01_items_and_bags.Holds := by
  w_on; o_law
  refine HandSHeadRun.head_any (r := OpenLaw.row PySem.Challenge.rw_unringed_k01_items_and_bags) (q := view (OpenLaw.row PySem.Challenge.rw_unringed_k01_items_and_bags).prog [36]) (H := Hd.hk) (ob := Hd.ob) (M := 4000) (loose := Hd.names) (d := HandSHeadRun.topDef (OpenLaw.row PySem.Challenge.rw_unringed_k01_items_and_bags).prog 36) (kwd := []) Hd.ob_eq
    (by kernel_rfl) (fun s => by kernel_rfl) Hd.run (by kernel_rfl) (by kernel_rfl) (by kernel_rfl) (by rfl) (by first | assumption | decide +kernel) (by decide +kernel) ⟨rfl, rfl, rfl, rfl, rfl, by decide +kernel⟩ ?hw ?hc
  case hw => w_witness2
  case hc =>
    refine L2.walk_ofE (l := PySem.Challenge.rw_unringed_k01_items_and_bags) (n := 63) (k := 25) (x := "script") (CX := DL.CX1) rfl (by decide) (by kernel_rfl) ⟨rfl, by decide, by decide⟩ ?F (fun _ _ _ _ z => by obtain ⟨_, _, _, z⟩ := z; exact z)
    intro w mg fa h Y G hmg0
    obtain ⟨K, KX, c⟩ := Y
    have hmg : mg ("law" : PySem.Str) = some (.ref fa) := by
      have e : (HandSHeadRun.topDef (OpenLaw.row PySem.Challenge.rw_unringed_k01_items_and_bags).prog 36).name = ("law" : PySem.Str) := by kernel_rfl
      rw [← e]
      exact hmg0
    obtain ⟨fd, hb, hF⟩ := Hd.facts (P := (PySem.Challenge.rw_unringed_k01_items_and_bags).prog) (w := w) KX G hmg c
    exact ⟨K, fd, DL.spD ⟨K, mg, _, w⟩ (_root_.K.L.call "law") 1, KX, hb, fun H a ns hl hO hS => DL.law_sp hO hS (_root_.K.law_in ns hl), fun base b1 b2 => DL.fn_cx1 (hF base b1 b2)⟩

