import PyProof.Rows.All
import Wide.All
import OpenK.AllK
import Wide.FinOn
import HandS.ForMost
import HandS.ForExc
import HandS.Wide
import HandS.WideBits
import HandS.TupAny
import HandS.TupLe
import HandS.TupLen
import HandS.IsInst
import HandS.ExcIs
import HandS.EndBits
import HandS.Conv
import HandS.Zip
import HandS.Flow
import HandS.Iter
import HandS.SortInts
import HandS.SortRule
import HandS.Deep
import HandS.More
import KE.KTupSum
import KE.KDictKeyed
import KE.GoesEnum
import PyProof.MaxThree
import PyProof.LongRange
import PySem.Challenge.RW_splitwhole_k84_whole_least_ends
set_option Elab.async false
set_option linter.all false
set_option maxRecDepth 100000
set_option maxHeartbeats 4000000
/-! The core of the layer: data, cells of a store, what they say of the abstract heap, meanings and their readings. -/
namespace Mo
open PySem PySem.Spec PyProof.Rows L2

/-- data that never changes: none, bools, ints, texts, tuples; lists, dicts and instances that are not changed any more -/
inductive Dt where
  | non | bl (b : Bool) | int (i : Int) | str (s : Str) | tup (xs : List Dt)
  | fl (xs : List Dt) | fd (nest : Bool) (ks xs : List Dt) | fi (c : Str) (ns : List Str) (xs : List Dt)
/-- an error: its class's name -/
structure Xc where
  cls : Str
/-- what a name holds: data, a cell of the store, a caught error by its class's name -/
inductive Vl where
  | d (x : Dt) | r (i : Nat) | e (c : Str)
/-- a dict: keys and values in order. dK: keys ints and texts; dN: keys tuples -/
inductive Oc where
  | dK (kvs : List (Dt × Dt)) | dN (kvs : List (Dt × Dt))
/-- cells: lists, dicts; frz, ofz: those that are not changed any more -/
inductive Ce where
  | lst (xs : List Dt) | frz (xs : List Dt) | oth (o : Oc) | ofz (o : Oc)
abbrev Sto := List Ce
abbrev Rho := List (Option Vl)
inductive Rs (α : Type) where
  | ok (a : α) (S : Sto) | exc (e : Xc) (S : Sto) | bad
def Rs.bind {α β : Type} : Rs α → (α → Sto → Rs β) → Rs β
  | .ok a S, f => f a S
  | .exc e S, _ => .exc e S
  | .bad, _ => .bad

/-- the surroundings that stay: the written part, the module's names, the world, the program -/
structure KW where
  K : PySem.W.Frag
  mg : Str → Option Value
  w : World
  P : Program
abbrev _root_.L2.Cx.κ (X : Cx) : KW := ⟨X.K, X.mg, X.w, X.prog⟩

/-- a list that nobody changes: one that is locked, or one of the module's own -/
def Frz (K : PySem.W.Frag) (H : Hp) (a : Addr) (vs : List V) : Prop := (∃ o, H a = some (.frz o (.lst vs))) ∨ SqL K (fun _ => none) a vs

/-! keys of dicts -/
def kD : Key → Dt
  | .inl i => .int i
  | .inr x => .str x
mutual
/-- the key, up to == -/
def nk : Dt → NestedKey
  | .non => .none
  | .bl b => .num (if b = true then 1 else 0)
  | .int i => .num i
  | .str x => .text x
  | .tup xs => .tup (nks xs)
  | .fl _ => .none
  | .fd _ _ _ => .none
  | .fi _ _ _ => .none
def nks : List Dt → List NestedKey
  | [] => []
  | x :: xs => nk x :: nks xs
end
mutual
/-- what may be a key -/
def keyD : Dt → Bool
  | .tup xs => keyDs xs
  | .fl _ => false
  | .fd _ _ _ => false
  | .fi _ _ _ => false
  | _ => true
def keyDs : List Dt → Bool
  | [] => true
  | x :: xs => keyD x && keyDs xs
end
/-- a tuple that may be a key -/
def keyT (x : Dt) : Bool := match x with
  | .tup xs => keyDs xs && decide ((nk (.tup xs)).depth ≤ 8)
  | _ => false
/-- what stands at a dict whose keys are tuples at the addresses ps -/
def dNφ (w : World) (a : Addr) (ks : List Dt) (ps : List Addr) (vs : List V) : Heap → Prop := fun h =>
  (a == sysModules) = false ∧ ks.length ≤ sizeLine ∧ ks.all keyT = true ∧ ∃ (o : Obj) (es : Array DictEntry) (ep : Nat) (xs : List (NestedKey × Addr × Value)), h.get? a = some o ∧ o.ExactDict ∧ o.data = .dict es ep ∧
    es.toList = xs.map (fun x => (⟨x.1.hash w, .ref x.2.1, x.2.2⟩ : DictEntry)) ∧ xs.map (·.1) = ks.map nk ∧ xs.map (·.2.1) = ps ∧ Vals vs (xs.map (·.2.2)) ∧ (xs.map (·.1)).Nodup
theorem dNφ_stay {w : World} {a : Addr} {ks : List Dt} {ps : List Addr} {vs : List V} {h1 h2 : Heap} (p : dNφ w a ks ps vs h1) (k : ∀ o, h1.get? a = some o → h2.get? a = some o) : dNφ w a ks ps vs h2 := by
  obtain ⟨q1, q2, q3, o, es, ep, xs, e, r⟩ := p
  exact ⟨q1, q2, q3, o, es, ep, xs, k o e, r⟩

/-- what stays: all that can't be changed -/
def Kept : HO → Prop
  | .tup _ => True
  | .frz _ _ => True
  | .xd _ => True
  | .own _ => True
  | _ => False
mutual
inductive Rep (κ : KW) (H : Hp) : Dt → V → Prop
  | non : Rep κ H .non .non
  | bl (b : Bool) : Rep κ H (.bl b) (.bl b)
  | int (i : Int) : Rep κ H (.int i) (.int i)
  | str (x : Str) : Rep κ H (.str x) (.str x)
  | tup {a : Addr} {xs : List Dt} {vs : List V} : SqT κ.K H a vs → RepL κ H xs vs → Rep κ H (.tup xs) (.ref a)
  | fl {a : Addr} {xs : List Dt} {vs : List V} : Frz κ.K H a vs → RepL κ H xs vs → Rep κ H (.fl xs) (.ref a)
  | fdK {a : Addr} {o : Obj} {ks xs : List Dt} {hs : List (Key × V)} : H a = some (.frz o (.dK hs)) → (hs.map fun p => kD p.1) = ks → RepL κ H xs (hs.map (·.2)) → Rep κ H (.fd false ks xs) (.ref a)
  | fdN {a : Addr} {o : Obj} {ks xs : List Dt} {ps : List Addr} {vs : List V} : H a = some (.frz o (.ext (dNφ κ.w a ks ps vs))) → ks.length = xs.length → RepL κ H ks (ps.map V.ref) → RepL κ H xs vs → Rep κ H (.fd true ks xs) (.ref a)
  | fi {a C dx : Addr} {o : Obj} {c : Str} {ns : List Str} {xs : List Dt} {hs : List (Str × V)} : κ.mg c = some (.ref C) → H a = some (.frz o (.ins C dx hs)) → hs.map (·.1) = ns → RepL κ H xs (hs.map (·.2)) → Rep κ H (.fi c ns xs) (.ref a)
inductive RepL (κ : KW) (H : Hp) : List Dt → List V → Prop
  | nil : RepL κ H [] []
  | cons {x : Dt} {xs : List Dt} {v : V} {vs : List V} : Rep κ H x v → RepL κ H xs vs → RepL κ H (x :: xs) (v :: vs)
end
/-- what can't be changed stays -/
def Ext (H H' : Hp) : Prop := ∀ a o, Kept o → H a = some o → H' a = some o
theorem Ext.refl (H : Hp) : Ext H H := fun _ _ _ h => h
theorem Ext.trans {H H1 H2 : Hp} (a : Ext H H1) (b : Ext H1 H2) : Ext H H2 := fun c o k h => b c o k (a c o k h)
theorem Ext.new {H : Hp} {p : Addr} {o : HO} (h : H p = none) : Ext H (upd H p o) := fun a u k r => by
  rw [upd_ne (ne_of_none r h)]; exact r
theorem Ext.at {H : Hp} {p : Addr} {o u : HO} (h : H p = some u) (n : ¬ Kept u) : Ext H (upd H p o) := fun a z k r => by
  rw [upd_ne]
  · exact r
  · rintro rfl
    rw [h] at r
    cases r
    exact n k
theorem Ext.lst {H : Hp} {p : Addr} {xs ys : List V} (h : H p = some (.lst xs)) : Ext H (upd H p (.lst ys)) := Ext.at h fun z => z
theorem Ext.rdT {H H' : Hp} (e : Ext H H') {a : Addr} {xs : List V} (h : Rd H a (.tup xs)) : Rd H' a (.tup xs) := by
  rcases h with h | ⟨o, h⟩
  · exact .inl (e _ _ trivial h)
  · exact .inr ⟨o, e _ _ trivial h⟩
theorem Ext.sqT {K : PySem.W.Frag} {H H' : Hp} (e : Ext H H') {a : Addr} {xs : List V} (h : SqT K H a xs) : SqT K H' a xs := by
  rcases h with h | h
  · exact .inl (e.rdT h)
  · exact .inr h
theorem Ext.frz {K : PySem.W.Frag} {H H' : Hp} (e : Ext H H') {a : Addr} {xs : List V} (h : Frz K H a xs) : Frz K H' a xs := by
  rcases h with ⟨o, h⟩ | h
  · exact .inl ⟨o, e _ _ trivial h⟩
  · exact .inr h
mutual
theorem Rep.mono {κ : KW} {H H' : Hp} (e : Ext H H') : ∀ {x : Dt} {v : V}, Rep κ H x v → Rep κ H' x v
  | _, _, .non => .non
  | _, _, .bl b => .bl b
  | _, _, .int i => .int i
  | _, _, .str x => .str x
  | _, _, .tup h r => .tup (e.sqT h) (RepL.mono e r)
  | _, _, .fl h r => .fl (e.frz h) (RepL.mono e r)
  | _, _, .fdK h k r => .fdK (e _ _ trivial h) k (RepL.mono e r)
  | _, _, .fdN h l r q => .fdN (e _ _ trivial h) l (RepL.mono e r) (RepL.mono e q)
  | _, _, .fi g h k r => .fi g (e _ _ trivial h) k (RepL.mono e r)
theorem RepL.mono {κ : KW} {H H' : Hp} (e : Ext H H') : ∀ {xs : List Dt} {vs : List V}, RepL κ H xs vs → RepL κ H' xs vs
  | _, _, .nil => .nil
  | _, _, .cons r t => .cons (r.mono e) (t.mono e)
end
section
variable {κ : KW} {F : Hp} {H H' : Hp}
theorem RepL.length : ∀ {xs : List Dt} {vs : List V}, RepL κ H xs vs → xs.length = vs.length
  | _, _, .nil => rfl
  | _, _, .cons _ t => by rw [List.length_cons, List.length_cons, t.length]
theorem RepL.get : ∀ {xs : List Dt} {vs : List V} {i : Nat} {x : Dt}, RepL κ H xs vs → xs[i]? = some x → ∃ v, vs[i]? = some v ∧ Rep κ H x v
  | _, _, _, _, .nil, e => by simp at e
  | _, _, 0, _, .cons r _, e => by simp at e; subst e; exact ⟨_, rfl, r⟩
  | _, _, i + 1, x, .cons _ t, e => by
    obtain ⟨u, h1, h2⟩ := RepL.get (i := i) (x := x) t (by simpa using e)
    exact ⟨u, by simpa using h1, h2⟩
theorem RepL.getV : ∀ {xs : List Dt} {vs : List V} {i : Nat} {v : V}, RepL κ H xs vs → vs[i]? = some v → ∃ x, xs[i]? = some x ∧ Rep κ H x v
  | _, _, _, _, .nil, e => by simp at e
  | _, _, 0, _, .cons r _, e => by simp at e; subst e; exact ⟨_, rfl, r⟩
  | _, _, i + 1, x, .cons _ t, e => by
    obtain ⟨u, h1, h2⟩ := RepL.getV (i := i) (v := x) t (by simpa using e)
    exact ⟨u, by simpa using h1, h2⟩
theorem RepL.append : ∀ {xs ys : List Dt} {vs ws : List V}, RepL κ H xs vs → RepL κ H ys ws → RepL κ H (xs ++ ys) (vs ++ ws)
  | _, _, _, _, .nil, s => s
  | _, _, _, _, .cons r t, s => .cons r (RepL.append t s)
theorem RepL.take : ∀ {xs : List Dt} {vs : List V} (n : Nat), RepL κ H xs vs → RepL κ H (xs.take n) (vs.take n)
  | _, _, 0, _ => .nil
  | _, _, _ + 1, .nil => .nil
  | _, _, n + 1, .cons r t => .cons r (RepL.take n t)
theorem RepL.drop : ∀ {xs : List Dt} {vs : List V} (n : Nat), RepL κ H xs vs → RepL κ H (xs.drop n) (vs.drop n)
  | _, _, 0, r => r
  | _, _, _ + 1, .nil => .nil
  | _, _, n + 1, .cons _ t => RepL.drop n t
theorem RepL.set : ∀ {xs : List Dt} {vs : List V} {x : Dt} {v : V} (i : Nat), Rep κ H x v → RepL κ H xs vs → RepL κ H (xs.set i x) (vs.set i v)
  | _, _, _, _, _, _, .nil => .nil
  | _, _, _, _, 0, r, .cons _ t => .cons r t
  | _, _, _, _, i + 1, r, .cons q t => .cons q (RepL.set i r t)
theorem RepL.reverse {xs : List Dt} {vs : List V} (h : RepL κ H xs vs) : RepL κ H xs.reverse vs.reverse := by
  have : ∀ {xs ys : List Dt} {vs ws : List V}, RepL κ H xs vs → RepL κ H ys ws → RepL κ H (xs.reverse ++ ys) (vs.reverse ++ ws) := by
    intro xs
    induction xs with
    | nil => intro ys vs ws h s; cases h; exact s
    | cons x xs ih =>
      intro ys vs ws h s
      cases h with
      | cons r t =>
        rw [List.reverse_cons, List.reverse_cons, List.append_assoc, List.append_assoc]
        exact ih t (.cons r s)
  have q := this h (RepL.nil)
  simpa using q
/-- ints -/
theorem RepL.ints : ∀ {ns : List Int} {vs : List V}, RepL κ H (ns.map Dt.int) vs → vs = ns.map V.int
  | [], _, h => by cases h; rfl
  | n :: ns, _, h => by
    cases h with
    | cons r t => cases r; rw [RepL.ints t]; rfl
theorem RepL.of_ints : ∀ (ns : List Int), RepL κ H (ns.map Dt.int) (ns.map V.int)
  | [] => .nil
  | n :: ns => .cons (.int n) (RepL.of_ints ns)
theorem RepL.bls : ∀ {ns : List Bool} {vs : List V}, RepL κ H (ns.map Dt.bl) vs → vs = ns.map V.bl
  | [], _, h => by cases h; rfl
  | n :: ns, _, h => by
    cases h with
    | cons r t => cases r; rw [RepL.bls t]; rfl

def RepV (κ : KW) (H : Hp) (M : List Addr) : Vl → V → Prop
  | .d x, v => Rep κ H x v
  | .r i, v => ∃ a, v = .ref a ∧ M[i]? = some a
  | .e _, v => ∃ a, v = .ref a
inductive RepVs (κ : KW) (H : Hp) (M : List Addr) : List Vl → List V → Prop
  | nil : RepVs κ H M [] []
  | cons {x : Vl} {xs : List Vl} {v : V} {vs : List V} : RepV κ H M x v → RepVs κ H M xs vs → RepVs κ H M (x :: xs) (v :: vs)
theorem pre_get {M M' : List Addr} (p : M <+: M') {i : Nat} {a : Addr} (h : M[i]? = some a) : M'[i]? = some a := by
  obtain ⟨t, rfl⟩ := p
  obtain ⟨hi, e⟩ := List.getElem?_eq_some_iff.mp h
  rw [List.getElem?_append_left hi]
  exact h
theorem RepV.mono {M M' : List Addr} (e : Ext H H') (p : M <+: M') : ∀ {x : Vl} {v : V}, RepV κ H M x v → RepV κ H' M' x v
  | .d _, _, h => Rep.mono e h
  | .r _, _, ⟨a, h1, h2⟩ => ⟨a, h1, pre_get p h2⟩
  | .e _, _, h => h
theorem RepVs.mono {M M' : List Addr} (e : Ext H H') (p : M <+: M') : ∀ {xs : List Vl} {vs : List V}, RepVs κ H M xs vs → RepVs κ H' M' xs vs
  | _, _, .nil => .nil
  | _, _, .cons r t => .cons (r.mono e p) (t.mono e p)
theorem RepVs.length {M : List Addr} : ∀ {xs : List Vl} {vs : List V}, RepVs κ H M xs vs → xs.length = vs.length
  | _, _, .nil => rfl
  | _, _, .cons _ t => by rw [List.length_cons, List.length_cons, t.length]

/-- keys and values told -/
def RepKs (κ : KW) (H : Hp) (kvs : List (Dt × Dt)) (hs : List (Key × V)) : Prop := (hs.map fun p => kD p.1) = kvs.map (·.1) ∧ RepL κ H (kvs.map (·.2)) (hs.map (·.2))
def OcOk (κ : KW) (H : Hp) (a : Addr) (f : HO → HO) : Oc → Prop
  | .dK kvs => ∃ hs, H a = some (f (.dK hs)) ∧ RepKs κ H kvs hs
  | .dN kvs => ∃ ps vs, H a = some (f (.ext (dNφ κ.w a (kvs.map (·.1)) ps vs))) ∧ RepL κ H (kvs.map (·.1)) (ps.map V.ref) ∧ RepL κ H (kvs.map (·.2)) vs
def CeOk (κ : KW) (H : Hp) (a : Addr) : Ce → Prop
  | .lst xs => ∃ vs, H a = some (.lst vs) ∧ RepL κ H xs vs
  | .frz xs => ∃ vs, Frz κ.K H a vs ∧ RepL κ H xs vs
  | .oth o => OcOk κ H a id o
  | .ofz o => ∃ ob, OcOk κ H a (.frz ob) o
/-- what may change -/
def Ce.mut : Ce → Bool
  | .lst _ => true
  | .oth _ => true
  | _ => false
/-- the thing at p may be changed -/
def MutAt (H : Hp) (p : Addr) : Prop := (∃ ys, H p = some (.lst ys)) ∨ (∃ ys, H p = some (.dK ys)) ∨ ∃ φ, H p = some (.ext φ)
theorem Frz.sqL {K : PySem.W.Frag} {H : Hp} {a : Addr} {vs : List V} (h : Frz K H a vs) : SqL K H a vs := by
  rcases h with ⟨o, h⟩ | h
  · exact .inl (.inr ⟨o, h⟩)
  · rcases h with (h | ⟨o, h⟩) | h
    · cases h
    · cases h
    · exact .inr h
/-- the items of a cell -/
def Ce.items : Ce → List Dt
  | .lst xs => xs
  | .frz xs => xs
  | .oth _ => []
  | .ofz _ => []
/-- a cell that is a sequence -/
def sqc : Option Ce → Option Ce
  | some (.lst xs) => some (.lst xs)
  | some (.frz xs) => some (.frz xs)
  | _ => none
def sq (S : Sto) (i : Nat) : Option Ce := sqc S[i]?
theorem sq_at {S : Sto} {i : Nat} {c : Ce} (e : sq S i = some c) : S[i]? = some c := by
  unfold sq sqc at e
  split at e
  · rename_i q; rw [q]; exact e
  · rename_i q; rw [q]; exact e
  · cases e
theorem CeOk.seq {S : Sto} {i : Nat} {a : Addr} {c : Ce} (e : sq S i = some c) (h : CeOk κ H a c) : ∃ vs, SqL κ.K H a vs ∧ RepL κ H c.items vs := by
  have q := sq_at e
  cases c with
  | lst xs => obtain ⟨vs, h, r⟩ := h; exact ⟨vs, SqL.of h, r⟩
  | frz xs => obtain ⟨vs, h, r⟩ := h; exact ⟨vs, h.sqL, r⟩
  | oth o =>
    unfold sq at e
    rw [q] at e
    cases e
  | ofz o =>
    unfold sq at e
    rw [q] at e
    cases e
theorem CeOk.mutAt {a : Addr} {c : Ce} (m : c.mut = true) (h : CeOk κ H a c) : MutAt H a := by
  cases c with
  | lst xs => obtain ⟨vs, h, _⟩ := h; exact .inl ⟨_, h⟩
  | frz xs => cases m
  | ofz xs => cases m
  | oth o =>
    cases o with
    | dK kvs => obtain ⟨hs, h, _⟩ := h; exact .inr (.inl ⟨_, h⟩)
    | dN kvs => obtain ⟨ps, vs, h, _⟩ := h; exact .inr (.inr ⟨_, h⟩)
structure Hold (κ : KW) (F H : Hp) (M : List Addr) (S : Sto) : Prop where
  len : M.length = S.length
  cell : ∀ (i : Nat) (c : Ce) (a : Addr), S[i]? = some c → M[i]? = some a → CeOk κ H a c
  inj : ∀ (i j : Nat) (a : Addr) (x y : Ce), M[i]? = some a → M[j]? = some a → S[i]? = some x → S[j]? = some y → x.mut = true → y.mut = true → i = j
  fr : ∀ (a : Addr) (u : HO), F a = some u → H a = some u
  dis : ∀ (i : Nat) (a : Addr) (c : Ce), M[i]? = some a → S[i]? = some c → c.mut = true → F a = none
variable {M M' : List Addr} {S S' : Sto} {p : Addr} {o : HO}
theorem Hold.at (h : Hold κ F H M S) {i : Nat} {c : Ce} (e : S[i]? = some c) : ∃ a, M[i]? = some a ∧ CeOk κ H a c := by
  have hi : i < M.length := by rw [h.len]; exact (List.getElem?_eq_some_iff.mp e).1
  exact ⟨M[i], List.getElem?_eq_getElem hi, h.cell i c _ e (List.getElem?_eq_getElem hi)⟩
theorem RepKs.mono {kvs : List (Dt × Dt)} {hs : List (Key × V)} (x : Ext H H') (h : RepKs κ H kvs hs) : RepKs κ H' kvs hs := ⟨h.1, h.2.mono x⟩
theorem MutAt.nk {a : Addr} (h : MutAt H a) : ∃ u, H a = some u ∧ ¬ Kept u ∧ Mut (some u) := by
  rcases h with ⟨_, h⟩ | ⟨_, h⟩ | ⟨_, h⟩ <;> exact ⟨_, h, fun z => z, trivial⟩
theorem Ext.mut {a : Addr} (h : MutAt H a) : Ext H (upd H a o) := by
  obtain ⟨u, e, n, _⟩ := h.nk
  exact Ext.at e n
theorem MutAt.some {a : Addr} (h : MutAt H a) : ∃ u, H a = some u := by
  rcases h with ⟨_, h⟩ | ⟨_, h⟩ | ⟨_, h⟩ <;> exact ⟨_, h⟩
theorem OcOk.step {a : Addr} {f : HO → HO} {H' : Hp} (x : Ext H H') (k : ∀ u, H a = Option.some (f u) → H' a = Option.some (f u)) : ∀ {c : Oc}, OcOk κ H a f c → OcOk κ H' a f c
  | .dK _, ⟨hs, h, r⟩ => ⟨hs, k _ h, r.mono x⟩
  | .dN _, ⟨ps, vs, h, r, q⟩ => ⟨ps, vs, k _ h, r.mono x, q.mono x⟩
theorem CeOk.other {a : Addr} (hp : H p = none ∨ MutAt H p) (x : Ext H (upd H p o)) : ∀ {c : Ce}, (c.mut = true → a ≠ p) → CeOk κ H a c → CeOk κ (upd H p o) a c
  | .lst xs, n, ⟨vs, h, r⟩ => ⟨vs, by rw [upd_ne (n rfl)]; exact h, r.mono x⟩
  | .frz xs, _, ⟨vs, h, r⟩ => ⟨vs, x.frz h, r.mono x⟩
  | .oth c, n, h => OcOk.step (f := id) x (fun u e => by rw [upd_ne (n rfl)]; exact e) h
  | .ofz c, _, ⟨ob, h⟩ => ⟨ob, OcOk.step (f := .frz ob) x (fun u e => x a (.frz ob u) trivial e) h⟩
theorem CeOk.ne {a : Addr} {c : Ce} (hp : H p = none) (h : CeOk κ H a c) (m : c.mut = true) : a ≠ p := by
  obtain ⟨u, q⟩ := (h.mutAt m).some
  exact ne_of_none q hp
/-- a new thing that is no cell -/
theorem Hold.new (h : Hold κ F H M S) (hp : H p = none) : Hold κ F (upd H p o) M S :=
  ⟨h.len, fun i c a e m => CeOk.other (.inl hp) (Ext.new hp) (fun q => (h.cell i c a e m).ne hp q) (h.cell i c a e m), h.inj, fun a u e => by rw [upd_ne (ne_of_none (h.fr a u e) hp)]; exact h.fr a u e, h.dis⟩
/-- a new cell of any kind -/
theorem Hold.consC (h : Hold κ F H M S) (hp : H p = none) {c : Ce} (hc : CeOk κ (upd H p o) p c) : Hold κ F (upd H p o) (M ++ [p]) (S ++ [c]) := by
  have h0 := h.new (o := o) hp
  have key : ∀ (i : Nat) (d : Ce) (a : Addr), (S ++ [c])[i]? = some d → (M ++ [p])[i]? = some a → (i < S.length ∧ S[i]? = some d ∧ M[i]? = some a) ∨ (i = S.length ∧ d = c ∧ a = p) := fun i d a e m => by
    by_cases hi : i < S.length
    · rw [List.getElem?_append_left hi] at e
      rw [List.getElem?_append_left (by rw [h.len]; exact hi)] at m
      exact .inl ⟨hi, e, m⟩
    · have hle : i < (S ++ [c]).length := (List.getElem?_eq_some_iff.mp e).1
      rw [List.length_append, List.length_singleton] at hle
      have ei : i = S.length := by omega
      subst ei
      rw [List.getElem?_append_right (Nat.le_refl _), Nat.sub_self] at e
      rw [← h.len, List.getElem?_append_right (Nat.le_refl _), Nat.sub_self] at m
      exact .inr ⟨rfl, (Option.some.inj e).symm, (Option.some.inj m).symm⟩
  refine ⟨by rw [List.length_append, List.length_append, h.len]; rfl, fun i d a e m => ?_, fun i j a x y m1 m2 e1 e2 u1 u2 => ?_, h0.fr, fun i a d m e u => ?_⟩
  rotate_right 1
  · rcases key i d a e m with ⟨_, e', m'⟩ | ⟨_, rfl, rfl⟩
    · exact h.dis i a d m' e' u
    · cases q : F a with
      | none => rfl
      | some v => have z := h.fr a v q; rw [hp] at z; cases z
  · rcases key i d a e m with ⟨_, e', m'⟩ | ⟨_, rfl, rfl⟩
    · exact h0.cell i d a e' m'
    · exact hc
  · rcases key i _ a e1 m1 with ⟨hi, e1', m1'⟩ | ⟨ei, _, ea⟩
    · rcases key j _ a e2 m2 with ⟨hj, e2', m2'⟩ | ⟨ej, _, ea2⟩
      · exact h.inj i j a x y m1' m2' e1' e2' u1 u2
      · exact absurd ea2 ((h.cell i _ a e1' m1').ne hp u1)
    · rcases key j _ a e2 m2 with ⟨hj, e2', m2'⟩ | ⟨ej, _, ea2⟩
      · exact absurd ea ((h.cell j _ a e2' m2').ne hp u2)
      · rw [ei, ej]
/-- a new list -/
theorem Hold.cons (h : Hold κ F H M S) (hp : H p = none) {xs : List Dt} {vs : List V} (r : RepL κ H xs vs) : Hold κ F (upd H p (.lst vs)) (M ++ [p]) (S ++ [.lst xs]) :=
  h.consC hp ⟨vs, upd_same, r.mono (Ext.new hp)⟩
/-- a cell changes -/
theorem Hold.putC (h : Hold κ F H M S) {i : Nat} {a : Addr} {c0 c : Ce} (e : S[i]? = some c0) (u0 : c0.mut = true) (m : M[i]? = some a) (hc : CeOk κ (upd H a o) a c) : Hold κ F (upd H a o) M (S.set i c) := by
  have ha := (h.cell i _ a e m).mutAt u0
  have hi : i < S.length := (List.getElem?_eq_some_iff.mp e).1
  have back : ∀ (j : Nat) (y : Ce), (S.set i c)[j]? = some y → y.mut = true → ∃ y', S[j]? = some y' ∧ y'.mut = true := fun j y q u => by
    by_cases hj : j = i
    · exact ⟨c0, by rw [hj]; exact e, u0⟩
    · rw [List.getElem?_set_ne (Ne.symm hj)] at q
      exact ⟨y, q, u⟩
  have hF : F a = none := h.dis i a c0 m e u0
  refine ⟨by rw [List.length_set]; exact h.len, fun j d b q mj => ?_, fun j k b x y m1 m2 e1 e2 u1 u2 => ?_, fun b u q => ?_, fun j b d mj q u => ?_⟩
  rotate_right 2
  · rw [upd_ne]
    · exact h.fr b u q
    · rintro rfl
      rw [hF] at q
      cases q
  · obtain ⟨y', e', v'⟩ := back j d q u
    exact h.dis j b y' mj e' v'
  · by_cases hj : j = i
    · subst hj
      rw [List.getElem?_set_self hi] at q
      cases q
      rw [m] at mj
      cases mj
      exact hc
    · rw [List.getElem?_set_ne (Ne.symm hj)] at q
      refine CeOk.other (.inr ha) (Ext.mut ha) (fun u => ?_) (h.cell j d b q mj)
      intro eb
      subst eb
      exact hj (h.inj j i _ _ _ mj m q e u u0)
  · obtain ⟨x', e1', v1⟩ := back j x e1 u1
    obtain ⟨y', e2', v2⟩ := back k y e2 u2
    exact h.inj j k b x' y' m1 m2 e1' e2' v1 v2
/-- a list changes -/
theorem Hold.put (h : Hold κ F H M S) {i : Nat} {a : Addr} {xs ys : List Dt} {ws : List V} (e : S[i]? = some (.lst xs)) (m : M[i]? = some a) (r : RepL κ H ys ws) : Hold κ F (upd H a (.lst ws)) M (S.set i (.lst ys)) :=
  h.putC e rfl m ⟨ws, upd_same, r.mono (Ext.mut ((h.cell i _ a e m).mutAt rfl))⟩
/-- the newer cells are dropped -/
theorem Hold.take (h : Hold κ F H M S) (n : Nat) : Hold κ F H (M.take n) (S.take n) := by
  have gt : ∀ {α : Type} (l : List α) (i : Nat) (x : α), (l.take n)[i]? = some x → l[i]? = some x := fun l i x q => by
    rw [List.getElem?_take] at q
    split at q
    · exact q
    · cases q
  exact ⟨by rw [List.length_take, List.length_take, h.len], fun i c a e m => h.cell i c a (gt _ _ _ e) (gt _ _ _ m), fun i j a x y m1 m2 e1 e2 u1 u2 => h.inj i j a x y (gt _ _ _ m1) (gt _ _ _ m2) (gt _ _ _ e1) (gt _ _ _ e2) u1 u2, h.fr, fun i a c m e u => h.dis i a c (gt _ _ _ m) (gt _ _ _ e) u⟩
theorem pre_take {M M' : List Addr} (p : M <+: M') : M'.take M.length = M := by
  obtain ⟨t, rfl⟩ := p
  simp
/-- one of the newer cells is kept, as the first one -/
theorem Hold.keep1 (h : Hold κ F H M S) {n i : Nat} {c : Ce} {a : Addr} (hn : n ≤ i) (e : S[i]? = some c) (m : M[i]? = some a) : Hold κ F H (M.take n ++ [a]) (S.take n ++ [c]) := by
  have ht := h.take n
  have hlS : i < S.length := (List.getElem?_eq_some_iff.mp e).1
  have lS : (S.take n).length = n := by rw [List.length_take]; omega
  have lM : (M.take n).length = n := by rw [List.length_take, h.len]; omega
  have key : ∀ (j : Nat) (d : Ce) (b : Addr), (S.take n ++ [c])[j]? = some d → (M.take n ++ [a])[j]? = some b → (j < n ∧ (S.take n)[j]? = some d ∧ (M.take n)[j]? = some b ∧ S[j]? = some d ∧ M[j]? = some b) ∨ (j = n ∧ d = c ∧ b = a) := fun j d b e1 m1 => by
    by_cases hj : j < n
    · rw [List.getElem?_append_left (by omega)] at e1 m1
      refine .inl ⟨hj, e1, m1, ?_, ?_⟩
      · rw [List.getElem?_take, if_pos hj] at e1; exact e1
      · rw [List.getElem?_take, if_pos hj] at m1; exact m1
    · have hle : j < (S.take n ++ [c]).length := (List.getElem?_eq_some_iff.mp e1).1
      rw [List.length_append, List.length_singleton, lS] at hle
      have ej : j = n := by omega
      subst ej
      rw [List.getElem?_append_right (by omega), lS, Nat.sub_self] at e1
      rw [List.getElem?_append_right (by omega), lM, Nat.sub_self] at m1
      exact .inr ⟨rfl, (Option.some.inj e1).symm, (Option.some.inj m1).symm⟩
  refine ⟨by rw [List.length_append, List.length_append, ht.len]; rfl, fun j d b e1 m1 => ?_, fun j k b x y m1 m2 e1 e2 u1 u2 => ?_, h.fr, fun j b d m1 e1 u => ?_⟩
  rotate_right 1
  · rcases key j d b e1 m1 with ⟨_, _, _, e', m'⟩ | ⟨_, rfl, rfl⟩
    · exact h.dis j b d m' e' u
    · exact h.dis i b d m e u
  · rcases key j d b e1 m1 with ⟨_, _, _, e', m'⟩ | ⟨_, rfl, rfl⟩
    · exact h.cell j d b e' m'
    · exact h.cell i _ _ e m
  · rcases key j _ b e1 m1 with ⟨hj, _, _, e1', m1'⟩ | ⟨ej, ec, eb⟩
    · rcases key k _ b e2 m2 with ⟨hk, _, _, e2', m2'⟩ | ⟨ek, ec2, eb2⟩
      · exact h.inj j k b x y m1' m2' e1' e2' u1 u2
      · rw [eb2] at m1'
        rw [← ec2] at e
        have := h.inj j i a x y m1' m e1' e u1 u2
        omega
    · rcases key k _ b e2 m2 with ⟨hk, _, _, e2', m2'⟩ | ⟨ek, ec2, eb2⟩
      · rw [eb] at m2'
        rw [← ec] at e
        have := h.inj i k a x y m m2' e e2' u1 u2
        omega
      · rw [ej, ek]

def EnvR (κ : KW) (H : Hp) (M : List Addr) (ρ : Rho) (σ : L2.St) : Prop := ρ.length = σ.length ∧ ∀ (i : Nat) (v : Vl), ρ[i]? = some (some v) → ∃ x, σ[i]? = some (some x) ∧ RepV κ H M v x
theorem EnvR.mono {ρ : Rho} {σ : L2.St} (h : EnvR κ H M ρ σ) (e : Ext H H') (p : M <+: M') : EnvR κ H' M' ρ σ :=
  ⟨h.1, fun i v q => let ⟨x, h1, h2⟩ := h.2 i v q; ⟨x, h1, h2.mono e p⟩⟩
theorem EnvR.set {ρ : Rho} {σ : L2.St} (h : EnvR κ H M ρ σ) {v : Vl} {x : V} (r : RepV κ H M v x) (i : Nat) : EnvR κ H M (ρ.set i (some v)) (σ.set i (some x)) := by
  refine ⟨by rw [List.length_set, List.length_set]; exact h.1, fun j u q => ?_⟩
  by_cases hj : j = i
  · subst hj
    have hl : j < ρ.length := by
      have := (List.getElem?_eq_some_iff.mp q).1
      rw [List.length_set] at this
      exact this
    rw [List.getElem?_set_self hl] at q
    cases q
    exact ⟨x, List.getElem?_set_self (by rw [← h.1]; exact hl), r⟩
  · rw [List.getElem?_set_ne (Ne.symm hj)] at q
    obtain ⟨y, h1, h2⟩ := h.2 j u q
    exact ⟨y, by rw [List.getElem?_set_ne (Ne.symm hj)]; exact h1, h2⟩
theorem EnvR.forget {ρ : Rho} {σ : L2.St} (h : EnvR κ H M ρ σ) (i : Nat) (o : Option V) : EnvR κ H M (ρ.set i none) (σ.set i o) := by
  refine ⟨by rw [List.length_set, List.length_set]; exact h.1, fun j u q => ?_⟩
  by_cases hj : j = i
  · subst hj
    have hl : j < ρ.length := by
      have := (List.getElem?_eq_some_iff.mp q).1
      rw [List.length_set] at this
      exact this
    rw [List.getElem?_set_self hl] at q
    cases q
  · rw [List.getElem?_set_ne (Ne.symm hj)] at q
    obtain ⟨y, h1, h2⟩ := h.2 j u q
    exact ⟨y, by rw [List.getElem?_set_ne (Ne.symm hj)]; exact h1, h2⟩
end

/-! ### what is wanted behind -/
section
variable {κ : KW} {F : Hp} {W : WX} {Z : L2.St → Prop} {σ : L2.St} {M M1 : List Addr} {H H1 : Hp} {S : Sto} {ρ : Rho}
/-- behind an expression -/
def Post {α : Type} (κ : KW) (F : Hp) (W : WX) (σ : L2.St) (M : List Addr) (H : Hp) (r : Rs α) (P : α → List Addr → Hp → Prop) : Prop :=
  match r with
  | .ok v S => ∀ H' M', Ext H H' → M <+: M' → Hold κ F H' M' S → P v M' H'
  | .exc e S => ∀ C H' M', Ext H H' → M <+: M' → Hold κ F H' M' S → κ.mg e.cls = some (.ref C) → W (.ref C) none σ H'
  | .bad => False
theorem Post.imp {α : Type} {r : Rs α} {P P' : α → List Addr → Hp → Prop} (h : Post κ F W σ M H r P) (f : ∀ v M' H', Ext H H' → M <+: M' → P v M' H' → P' v M' H') : Post κ F W σ M H r P' := by
  cases r with
  | ok v S => exact fun H' M' e p hh => f v M' H' e p (h H' M' e p hh)
  | exc e S => exact h
  | bad => exact h
theorem Post.ext {α : Type} {r : Rs α} {P : α → List Addr → Hp → Prop} (h : Post κ F W σ M H r P) (x : Ext H H1) : Post κ F W σ M H1 r P := by
  cases r with
  | ok v S => exact fun H' M' e p hh => h H' M' (x.trans e) p hh
  | exc e S => exact fun C H' M' e' p hh g => h C H' M' (x.trans e') p hh g
  | bad => exact h
theorem Post.pre {α : Type} {r : Rs α} {P : α → List Addr → Hp → Prop} (h : Post κ F W σ M H r P) (x : M <+: M1) : Post κ F W σ M1 H r P := by
  cases r with
  | ok v S => exact fun H' M' e p hh => h H' M' e (x.trans p) hh
  | exc e S => exact fun C H' M' e' p hh g => h C H' M' e' (x.trans p) hh g
  | bad => exact h
theorem Post.bind {α β : Type} {r : Rs α} {f : α → Sto → Rs β} {P : β → List Addr → Hp → Prop} (h : Post κ F W σ M H (r.bind f) P) (q : M <+: M1) :
    Post κ F W σ M1 H r (fun v M2 H1 => Ext H H1 ∧ M1 <+: M2 ∧ ∃ S1, Hold κ F H1 M2 S1 ∧ Post κ F W σ M H1 (f v S1) P) := by
  cases r with
  | ok v S => exact fun H' M' e p hh => ⟨e, p, S, hh, Post.ext (r := f v S) h e⟩
  | exc e S => exact fun C H' M' e p hh g => h C H' M' e (q.trans p) hh g
  | bad => exact h
/-- the value stands, nothing has changed but what the cells tell -/
theorem Post.val {α : Type} {v : α} {P : α → List Addr → Hp → Prop} (h : Post κ F W σ M H (.ok v S) P) (hh : Hold κ F H M1 S) (p : M <+: M1) : P v M1 H := h H M1 (Ext.refl H) p hh

abbrev ME := Rho → Sto → Rs Vl
abbrev MT := Rho → Sto → Rs Bool
abbrev MA := Rho → Sto → Rs (List Vl)
def tM (κ : KW) (Z : L2.St → Prop) (W : WX) (m : ME) : TE := fun σ H Q => Z σ ∧ ∃ F M S ρ, Hold κ F H M S ∧ EnvR κ H M ρ σ ∧ Post κ F W σ M H (m ρ S) (fun v M' H' => ∀ x, RepV κ H' M' v x → Q x H')
def tMT (κ : KW) (Z : L2.St → Prop) (W : WX) (m : MT) : TT := fun σ H Q => Z σ ∧ ∃ F M S ρ, Hold κ F H M S ∧ EnvR κ H M ρ σ ∧ Post κ F W σ M H (m ρ S) (fun b _ H' => Q b H')
def tMA (κ : KW) (Z : L2.St → Prop) (W : WX) (m : MA) : TA := fun σ H Q => Z σ ∧ ∃ F M S ρ, Hold κ F H M S ∧ EnvR κ H M ρ σ ∧ Post κ F W σ M H (m ρ S) (fun vs M' H' => ∀ xs, RepVs κ H' M' vs xs → Q xs H')

/-- behind a statement -/
inductive Rss where
  | next (ρ : Rho) (S : Sto) | ret (v : Vl) (S : Sto) | brk (ρ : Rho) (S : Sto) | cont (ρ : Rho) (S : Sto) | exc (e : Xc) (ρ : Rho) (S : Sto) | bad
abbrev MS := Rho → Sto → Rss
def PostS (κ : KW) (F : Hp) (Z : L2.St → Prop) (W : WX) (D : Ends) (M : List Addr) (H : Hp) (r : Rss) : Prop :=
  match r with
  | .next ρ S => ∀ σ' H' M', Z σ' → Ext H H' → M <+: M' → Hold κ F H' M' S → EnvR κ H' M' ρ σ' → D.nx σ' H'
  | .brk ρ S => ∀ σ' H' M', Z σ' → Ext H H' → M <+: M' → Hold κ F H' M' S → EnvR κ H' M' ρ σ' → D.bk σ' H'
  | .cont ρ S => ∀ σ' H' M', Z σ' → Ext H H' → M <+: M' → Hold κ F H' M' S → EnvR κ H' M' ρ σ' → D.ct σ' H'
  | .ret v S => ∀ x H' M', Ext H H' → M <+: M' → Hold κ F H' M' S → RepV κ H' M' v x → D.rt x H'
  | .exc e ρ S => ∀ C σ' H' M', Z σ' → Ext H H' → M <+: M' → Hold κ F H' M' S → EnvR κ H' M' ρ σ' → κ.mg e.cls = some (.ref C) → W (.ref C) none σ' H'
  | .bad => False
def tMS (κ : KW) (Z : L2.St → Prop) (W : WX) (m : MS) : TS := fun D σ H => Z σ ∧ ∃ F M S ρ, Hold κ F H M S ∧ EnvR κ H M ρ σ ∧ PostS κ F Z W D M H (m ρ S)
variable {D : Ends}
theorem PostS.mono {r : Rss} (h : PostS κ F Z W D M H r) (x : Ext H H1) (q : M <+: M1) : PostS κ F Z W D M1 H1 r := by
  cases r with
  | next ρ S => exact fun σ' H' M' z e p hh he => h σ' H' M' z (x.trans e) (q.trans p) hh he
  | brk ρ S => exact fun σ' H' M' z e p hh he => h σ' H' M' z (x.trans e) (q.trans p) hh he
  | cont ρ S => exact fun σ' H' M' z e p hh he => h σ' H' M' z (x.trans e) (q.trans p) hh he
  | ret v S => exact fun y H' M' e p hh hr => h y H' M' (x.trans e) (q.trans p) hh hr
  | exc c ρ S => exact fun C σ' H' M' z e p hh he g => h C σ' H' M' z (x.trans e) (q.trans p) hh he g
  | bad => exact h
/-- an expression, then a statement's end -/
def Rs.thenS (r : Rs Vl) (ρ : Rho) (f : Vl → Sto → Rss) : Rss := match r with
  | .ok v S => f v S
  | .exc e S => .exc e ρ S
  | .bad => .bad
def Rs.thenT (r : Rs Bool) (ρ : Rho) (f : Bool → Sto → Rss) : Rss := match r with
  | .ok v S => f v S
  | .exc e S => .exc e ρ S
  | .bad => .bad
theorem PostS.thenS {r : Rs Vl} {f : Vl → Sto → Rss} (z : Z σ) (he : EnvR κ H M1 ρ σ) (q : M <+: M1) (h : PostS κ F Z W D M H (r.thenS ρ f)) :
    Post κ F W σ M1 H r (fun v M2 H1 => Ext H H1 ∧ M1 <+: M2 ∧ ∃ S1, Hold κ F H1 M2 S1 ∧ PostS κ F Z W D M H1 (f v S1)) := by
  cases r with
  | ok v S => exact fun H' M' e p hh => ⟨e, p, S, hh, PostS.mono (r := f v S) h e (List.prefix_rfl)⟩
  | exc e S => exact fun C H' M' e' p hh g => h C σ H' M' z e' (q.trans p) hh (he.mono e' p) g
  | bad => exact h
theorem PostS.thenT {r : Rs Bool} {f : Bool → Sto → Rss} (z : Z σ) (he : EnvR κ H M1 ρ σ) (q : M <+: M1) (h : PostS κ F Z W D M H (r.thenT ρ f)) :
    Post κ F W σ M1 H r (fun v M2 H1 => Ext H H1 ∧ M1 <+: M2 ∧ ∃ S1, Hold κ F H1 M2 S1 ∧ PostS κ F Z W D M H1 (f v S1)) := by
  cases r with
  | ok v S => exact fun H' M' e p hh => ⟨e, p, S, hh, PostS.mono (r := f v S) h e (List.prefix_rfl)⟩
  | exc e S => exact fun C H' M' e' p hh g => h C σ H' M' z e' (q.trans p) hh (he.mono e' p) g
  | bad => exact h
end
end Mo
/-! Expressions: operators, comparisons, displays, subscripts, calls of built-ins. -/
namespace Mo
open PySem PySem.Spec PyProof.Rows L2

theorem pe_imp {X : Cx} {e : Expr} {t t' : TE} (h : PE X e t) (f : ∀ σ H Q, t' σ H Q → t σ H Q) : PE X e t' := ⟨fun pins s σ H Q I q => h.run pins s σ H Q I (f σ H Q q)⟩
theorem pt_imp {X : Cx} {e : Expr} {t t' : TT} (h : PT X e t) (f : ∀ σ H Q, t' σ H Q → t σ H Q) : PT X e t' := ⟨fun pins s σ H Q I q => h.run pins s σ H Q I (f σ H Q q)⟩
theorem pw_imp {X : Cx} {e : Expr} {t t' : TT} (h : PW X e t) (f : ∀ σ H Q, t' σ H Q → t σ H Q) : PW X e t' := ⟨fun wh pins s σ H Q I q => h.run wh pins s σ H Q I (f σ H Q q)⟩
theorem pa_imp {X : Cx} {e : List Expr} {t t' : TA} (h : PA X e t) (f : ∀ σ H Q, t' σ H Q → t σ H Q) : PA X e t' := ⟨fun pos pins s σ H Q I q => h.run pos pins s σ H Q I (f σ H Q q)⟩
theorem po_imp {X : Cx} {e : Option Expr} {t t' : TO} (h : PO X e t) (f : ∀ σ H Q, t' σ H Q → t σ H Q) : PO X e t' := ⟨fun pins s σ H Q I q => h.run pins s σ H Q I (f σ H Q q)⟩

/-- lengths below this are no concern -/
def big : Nat := 10000000
theorem big_le {n : Nat} (h : n ≤ big) : n ≤ sizeLine := Nat.le_trans h (by rw [sizeLine_eq]; decide)
theorem big_lt {n : Nat} (h : n ≤ big) : n < sizeLine := Nat.lt_of_le_of_lt h (by rw [sizeLine_eq]; decide)

/-! ### the meanings of operators -/
abbrev bl (b : Bool) : Vl := .d (.bl b)
abbrev int (i : Int) : Vl := .d (.int i)
def vAdd (n : Nat) (a b : Vl) (S : Sto) : Rs Vl := match a, b with
  | .d (.int i), .d (.int j) => .ok (.d (.int (i + j))) S
  | .d (.tup xs), .d (.tup ys) => if xs.length + ys.length ≤ big then .ok (.d (.tup (xs ++ ys))) S else .bad
  | .r i, .r j => match S[i]?, S[j]? with
    | some (.lst xs), some (.lst ys) => if xs.length + ys.length ≤ big then .ok (.r n) (S.take n ++ [.lst (xs ++ ys)]) else .bad
    | _, _ => .bad
  | .d (.str x), .d (.str y) => if x.length + y.length ≤ big then .ok (.d (.str (x ++ y))) S else .bad
  | _, _ => .bad
def vSub (_ : Nat) (a b : Vl) (S : Sto) : Rs Vl := match a, b with
  | .d (.int i), .d (.int j) => .ok (.d (.int (i - j))) S
  | _, _ => .bad
/-- products of ints below a million bits -/
def okMul (i j : Int) : Prop := CMul i j ∨ CMulX i j
open Classical in
noncomputable def vMul (n : Nat) (a b : Vl) (S : Sto) : Rs Vl := match a, b with
  | .d (.int i), .d (.int j) => if okMul i j then .ok (.d (.int (i * j))) S else .bad
  | .r i, .d (.int k) => match S[i]? with
    | some (.lst xs) => if k ≤ 1000000 ∧ -1000000 ≤ k ∧ xs.length * k.toNat ≤ big then .ok (.r n) (S.take n ++ [.lst (List.replicate k.toNat xs).flatten]) else .bad
    | _ => .bad
  | _, _ => .bad
def okDiv (i j : Int) : Prop := CDivW i j ∨ CDivN i j
open Classical in
noncomputable def vDiv (_ : Nat) (a b : Vl) (S : Sto) : Rs Vl := match a, b with
  | .d (.int i), .d (.int j) => if okDiv i j then .ok (.d (.int (i.fdiv j))) S else .bad
  | _, _ => .bad
def vMod (_ : Nat) (a b : Vl) (S : Sto) : Rs Vl := match a, b with
  | .d (.int i), .d (.int j) => if j = 0 then .bad else .ok (.d (.int (i.fmod j))) S
  | _, _ => .bad
def vPow (_ : Nat) (a b : Vl) (S : Sto) : Rs Vl := match a, b with
  | .d (.int i), .d (.int j) => if 0 ≤ j ∧ j ≤ 1000000 ∧ i.natAbs < 2 ^ 64 then .ok (.d (.int (i ^ j.toNat))) S else .bad
  | _, _ => .bad
def vShl (_ : Nat) (a b : Vl) (S : Sto) : Rs Vl := match a, b with
  | .d (.int i), .d (.int j) => if 0 ≤ j ∧ j ≤ 1000000 ∧ i.natAbs < 2 ^ 64 then .ok (.d (.int (i * 2 ^ j.toNat))) S else .bad
  | _, _ => .bad
def vShr (_ : Nat) (a b : Vl) (S : Sto) : Rs Vl := match a, b with
  | .d (.int i), .d (.int j) => if 0 ≤ j then .ok (.d (.int (i / 2 ^ j.toNat))) S else .bad
  | _, _ => .bad
def vAnd (_ : Nat) (a b : Vl) (S : Sto) : Rs Vl := match a, b with
  | .d (.int i), .d (.int j) => .ok (.d (.int (Builtin.bitAnd i j))) S
  | _, _ => .bad
def vOr (_ : Nat) (a b : Vl) (S : Sto) : Rs Vl := match a, b with
  | .d (.int i), .d (.int j) => .ok (.d (.int (Builtin.bitOr i j))) S
  | _, _ => .bad
def vXor (_ : Nat) (a b : Vl) (S : Sto) : Rs Vl := match a, b with
  | .d (.int i), .d (.int j) => .ok (.d (.int (Builtin.bitXor i j))) S
  | _, _ => .bad
def vCmp (f : Int → Int → Bool) (_ : Nat) (a b : Vl) (S : Sto) : Rs Vl := match a, b with
  | .d (.int i), .d (.int j) => .ok (.d (.bl (f i j))) S
  | _, _ => .bad
abbrev vLt := vCmp fun i j => decide (i < j)
abbrev vLe := vCmp fun i j => decide (i ≤ j)
abbrev vGt := vCmp fun i j => decide (j < i)
abbrev vGe := vCmp fun i j => decide (j ≤ i)
def vIsN (_ : Nat) (a b : Vl) (S : Sto) : Rs Vl := match a, b with
  | .d .non, .d .non => .ok (.d (.bl true)) S
  | _, .d .non => .ok (.d (.bl false)) S
  | _, _ => .bad
def vNotN (_ : Nat) (a b : Vl) (S : Sto) : Rs Vl := match a, b with
  | .d .non, .d .non => .ok (.d (.bl false)) S
  | _, .d .non => .ok (.d (.bl true)) S
  | _, _ => .bad
mutual
/-- == of data -/
def eqD : Dt → Dt → Bool
  | .non, .non => true
  | .bl a, .bl b => a == b
  | .bl a, .int j => (if a then 1 else 0) == j
  | .int i, .bl b => i == (if b then 1 else 0)
  | .int i, .int j => i == j
  | .str x, .str y => x == y
  | .tup xs, .tup ys => eqDs xs ys
  | .fl xs, .fl ys => eqDs xs ys
  | .non, .bl _ | .non, .int _ | .non, .str _ | .non, .tup _ | .non, .fl _ => false
  | .bl _, .non | .bl _, .str _ | .bl _, .tup _ | .bl _, .fl _ => false
  | .int _, .non | .int _, .str _ | .int _, .tup _ | .int _, .fl _ => false
  | .str _, .non | .str _, .bl _ | .str _, .int _ | .str _, .tup _ | .str _, .fl _ => false
  | .tup _, .non | .tup _, .bl _ | .tup _, .int _ | .tup _, .str _ | .tup _, .fl _ => false
  | .fl _, .non | .fl _, .bl _ | .fl _, .int _ | .fl _, .str _ | .fl _, .tup _ => false
  | .fd _ _ _, _ | .fi _ _ _, _ | _, .fd _ _ _ | _, .fi _ _ _ => false
def eqDs : List Dt → List Dt → Bool
  | [], [] => true
  | x :: xs, y :: ys => eqD x y && eqDs xs ys
  | [], _ :: _ => false
  | _ :: _, [] => false
end
mutual
def toPy : Dt → PyData
  | .non => .none
  | .bl b => .bool b
  | .int i => .int i
  | .str x => .str x
  | .tup xs => .tuple (toPys xs)
  | .fl xs => .list (toPys xs)
  | .fd _ _ _ => .none
  | .fi _ _ _ => .none
def toPys : List Dt → List PyData
  | [] => []
  | x :: xs => toPy x :: toPys xs
end
mutual
/-- no dicts, no instances within -/
def dataD : Dt → Bool
  | .tup xs => dataDs xs
  | .fl xs => dataDs xs
  | .fd _ _ _ => false
  | .fi _ _ _ => false
  | _ => true
def dataDs : List Dt → Bool
  | [] => true
  | x :: xs => dataD x && dataDs xs
end
mutual
theorem eqD_py : ∀ x y : Dt, dataD x = true → dataD y = true → eqD x y = PyData.eqv (toPy x) (toPy y)
  | .tup xs, .tup ys, h, k => by
    rw [dataD] at h k
    rw [eqD, toPy, toPy, PyData.eqv, eqDs_py xs ys h k]
  | .fl xs, .fl ys, h, k => by
    rw [dataD] at h k
    rw [eqD, toPy, toPy, PyData.eqv, eqDs_py xs ys h k]
  | .non, y, _, k => by cases y <;> first | (rw [dataD] at k; cases k; done) | simp only [eqD, toPy, PyData.eqv]
  | .bl _, y, _, k => by cases y <;> first | (rw [dataD] at k; cases k; done) | simp only [eqD, toPy, PyData.eqv]
  | .int _, y, _, k => by cases y <;> first | (rw [dataD] at k; cases k; done) | simp only [eqD, toPy, PyData.eqv]
  | .str _, y, _, k => by cases y <;> first | (rw [dataD] at k; cases k; done) | simp only [eqD, toPy, PyData.eqv]
  | .fd _ _ _, _, h, _ => by rw [dataD] at h; cases h
  | .fi _ _ _, _, h, _ => by rw [dataD] at h; cases h
  | _, .fd _ _ _, _, h => by rw [dataD] at h; cases h
  | _, .fi _ _ _, _, h => by rw [dataD] at h; cases h
  | .tup _, .non, _, _ => by simp only [eqD, toPy, PyData.eqv]
  | .tup _, .bl _, _, _ => by simp only [eqD, toPy, PyData.eqv]
  | .tup _, .int _, _, _ => by simp only [eqD, toPy, PyData.eqv]
  | .tup _, .str _, _, _ => by simp only [eqD, toPy, PyData.eqv]
  | .tup _, .fl _, _, _ => by simp only [eqD, toPy, PyData.eqv]
  | .fl _, .non, _, _ => by simp only [eqD, toPy, PyData.eqv]
  | .fl _, .bl _, _, _ => by simp only [eqD, toPy, PyData.eqv]
  | .fl _, .int _, _, _ => by simp only [eqD, toPy, PyData.eqv]
  | .fl _, .str _, _, _ => by simp only [eqD, toPy, PyData.eqv]
  | .fl _, .tup _, _, _ => by simp only [eqD, toPy, PyData.eqv]
theorem eqDs_py : ∀ xs ys : List Dt, dataDs xs = true → dataDs ys = true → eqDs xs ys = PyData.eqvAll (toPys xs) (toPys ys)
  | [], [], _, _ => by simp only [eqDs, toPys, PyData.eqvAll]
  | x :: xs, y :: ys, h, k => by
    rw [dataDs, Bool.and_eq_true] at h k
    simp only [eqDs, toPys, PyData.eqvAll]
    rw [eqD_py x y h.1 k.1, eqDs_py xs ys h.2 k.2]
  | [], _ :: _, _, _ => by simp only [eqDs, toPys, PyData.eqvAll]
  | _ :: _, [], _, _ => by simp only [eqDs, toPys, PyData.eqvAll]
end
/-- data that may be compared: no more than 64 deep, its texts in order -/
def okD (d : Dt) : Bool := dataD d && SeqAt.shaped (toPy d)
def okDs (ds : List Dt) : Bool := dataDs ds && SeqAt.shaped (.list (toPys ds))
theorem okD_1 {d : Dt} (h : okD d = true) : dataD d = true := (Bool.and_eq_true_iff.mp h).1
theorem okD_2 {d : Dt} (h : okD d = true) : SeqAt.shaped (toPy d) = true := (Bool.and_eq_true_iff.mp h).2
theorem okDs_1 {d : List Dt} (h : okDs d = true) : dataDs d = true := (Bool.and_eq_true_iff.mp h).1
theorem okDs_2 {d : List Dt} (h : okDs d = true) : SeqAt.shaped (.list (toPys d)) = true := (Bool.and_eq_true_iff.mp h).2
section
variable {κ : KW} {H : Hp}
mutual
theorem Rep.dp : ∀ {x : Dt} {v : V}, dataD x = true → Rep κ H x v → Dp κ.K H v (toPy x)
  | _, _, _, .non => by simp only [toPy]; exact .non
  | _, _, _, .bl b => by simp only [toPy]; exact .bl b
  | _, _, _, .int i => by simp only [toPy]; exact .int i
  | _, _, _, .str x => by simp only [toPy]; exact .str x
  | _, _, d, .tup h r => by rw [dataD] at d; simp only [toPy]; exact .tup h (RepL.dp d r)
  | _, _, d, .fl h r => by rw [dataD] at d; simp only [toPy]; exact .lst h.sqL (RepL.dp d r)
  | _, _, d, .fdK _ _ _ => by rw [dataD] at d; cases d
  | _, _, d, .fdN _ _ _ _ => by rw [dataD] at d; cases d
  | _, _, d, .fi _ _ _ _ => by rw [dataD] at d; cases d
theorem RepL.dp : ∀ {xs : List Dt} {vs : List V}, dataDs xs = true → RepL κ H xs vs → DpAll κ.K H vs (toPys xs)
  | _, _, _, .nil => by simp only [toPys]; exact .nil
  | _, _, d, .cons r t => by
    rw [dataDs, Bool.and_eq_true] at d
    simp only [toPys]; exact .cons (Rep.dp d.1 r) (RepL.dp d.2 t)
end
end
/-- == of two values, as a Bool; none where the layer says nothing -/
def eqB (a b : Vl) (S : Sto) : Option Bool := match a, b with
  | .d (.int i), .d (.int j) => some (decide (i = j))
  | .d (.bl i), .d (.bl j) => some (decide (i = j))
  | .d x, .d y => if okD x && okD y then some (eqD x y) else none
  | .r i, .r j => match sq S i, sq S j with
    | some c, some d => if okDs c.items && okDs d.items then some (eqDs c.items d.items) else none
    | _, _ => none
  | .r i, .d x => match sq S i with
    | some c => if okDs c.items && okD x then some (eqD (.fl c.items) x) else none
    | _ => none
  | .d x, .r i => match sq S i with
    | some c => if okDs c.items && okD x then some (eqD x (.fl c.items)) else none
    | _ => none
  | _, _ => none
def vEq (n : Nat) (a b : Vl) (S : Sto) : Rs Vl := match eqB a b S with
  | some k => .ok (.d (.bl k)) (S.take n)
  | none => .bad
def vNe (n : Nat) (a b : Vl) (S : Sto) : Rs Vl := match eqB a b S with
  | some k => .ok (.d (.bl (!k))) (S.take n)
  | none => .bad
def memD (x : Dt) (xs : List Dt) : Bool := xs.any fun y => eqD y x
def flatD : Dt → Bool
  | .non => true
  | .bl _ => true
  | .int _ => true
  | .str _ => true
  | _ => false
/-- x in a list or tuple of flat things -/
def inB (a b : Vl) (S : Sto) : Option Bool := match a, b with
  | .d x, .d (.tup ys) => if flatD x && ys.all flatD then some (memD x ys) else none
  | .d x, .d (.fl ys) => if flatD x && ys.all flatD then some (memD x ys) else none
  | .d x, .r i => match sq S i with
    | some c => if flatD x && c.items.all flatD then some (memD x c.items) else none
    | _ => none
  | _, _ => none
def vIn (n : Nat) (a b : Vl) (S : Sto) : Rs Vl := match inB a b S with
  | some k => .ok (.d (.bl k)) (S.take n)
  | none => .bad
def vNotIn (n : Nat) (a b : Vl) (S : Sto) : Rs Vl := match inB a b S with
  | some k => .ok (.d (.bl (!k))) (S.take n)
  | none => .bad
def vIx (_ : Nat) (a b : Vl) (S : Sto) : Rs Vl := match a, b with
  | .d (.tup xs), .d (.int i) => match atI xs i with
    | some x => .ok (.d x) S
    | none => .bad
  | .r c, .d (.int i) => match sq S c with
    | some ce => match atI ce.items i with
      | some x => .ok (.d x) S
      | none => .bad
    | none => .bad
  | .d (.fl xs), .d (.int i) => match atI xs i with
    | some x => .ok (.d x) S
    | none => .bad
  | _, _ => .bad

/-! ### operators by values -/
/-- a two-place meaning's soundness -/
def RO (κ : KW) (f : Nat → Vl → Vl → Sto → Rs Vl) (r : R2) : Prop :=
  ∀ (F : Hp) (W : WX) (σ : L2.St) (H : Hp) (M0 M : List Addr) (S : Sto) (a b : Vl) (x y : V) (Q : VK), M0 <+: M → Hold κ F H M S → RepV κ H M a x → RepV κ H M b y →
    Post κ F W σ M0 H (f M0.length a b S) (fun v M' H' => ∀ x, RepV κ H' M' v x → Q x H') → r x y H Q
section
variable {κ : KW} {F : Hp}
theorem take_pre {M0 M : List Addr} (p : M0 <+: M) : M0 <+: M.take M0.length := by
  rw [pre_take p]
  exact List.prefix_rfl
theorem pre_app {M0 M : List Addr} {a : Addr} (p : M0 <+: M) : M0 <+: M ++ [a] := List.IsPrefix.trans p ⟨[a], rfl⟩
theorem take_app {M0 M : List Addr} {a : Addr} (p : M0 <+: M) : M0 <+: M.take M0.length ++ [a] := by
  rw [pre_take p]
  exact ⟨[a], rfl⟩
theorem at_new {M0 M : List Addr} {a : Addr} (p : M0 <+: M) : (M.take M0.length ++ [a])[M0.length]? = some a := by
  rw [pre_take p, List.getElem?_append_right (Nat.le_refl _), Nat.sub_self]
  rfl
def rAdd3 (κ : KW) : R2 := fun x y H Q => (rI0 (fun i j => .int (i + j)) x y H Q ∨ rCatA κ.K x y H Q) ∨ (rCat x y H Q ∨ ∃ i j, x = .str i ∧ y = .str j ∧ i.length + j.length ≤ sizeLine ∧ Q (.str (i ++ j)) H)
theorem op_add3 {X : Cx} : OpR X (binaryOp .Add) (rAdd3 X.κ) := (op_add.or op_catA).or (op_cat.or op_add_str)
theorem RepL.nilD {H : Hp} {vs : List V} {xs : List Dt} (r : RepL κ H xs vs) (h : vs = []) : xs = [] := by
  subst h
  cases r
  rfl
theorem ro_add : RO κ vAdd (rAdd3 κ) := by
  intro F W σ H M0 M S a b x y Q p hh ra rb hp
  unfold vAdd at hp
  split at hp
  · cases (show Rep κ H _ x from ra)
    cases (show Rep κ H _ y from rb)
    exact .inl (.inl ⟨_, _, rfl, rfl, hp.val hh p _ (.int _)⟩)
  · rename_i xs ys
    split at hp
    · rename_i hl
      cases (show Rep κ H _ x from ra) with
      | @tup a _ vs h1 r1 =>
      cases (show Rep κ H _ y from rb) with
      | @tup b _ ws h2 r2 =>
      refine .inl (.inr ⟨a, b, vs, ws, rfl, rfl, h1, h2, by rw [← r1.length, ← r2.length]; exact big_le hl, fun e => ?_, fun _ e => ?_, fun _ _ q hq => ?_⟩)
      · have e2 := r1.nilD e
        refine hp.val hh p _ ?_
        rw [e2, List.nil_append]
        exact Rep.tup h2 r2
      · have e2 := r2.nilD e
        refine hp.val hh p _ ?_
        rw [e2, List.append_nil]
        exact Rep.tup h1 r1
      · exact hp _ M (Ext.new hq) p (hh.new hq) _ (Rep.tup (SqT.of upd_same) ((r1.append r2).mono (Ext.new hq)))
    · exact hp.elim
  · rename_i i j
    split at hp
    · rename_i xs ys e1 e2
      split at hp
      · rename_i hl
        obtain ⟨a, rfl, m1⟩ := ra
        obtain ⟨b, rfl, m2⟩ := rb
        obtain ⟨vs, h1, r1⟩ := hh.cell i _ a e1 m1
        obtain ⟨ws, h2, r2⟩ := hh.cell j _ b e2 m2
        refine .inr (.inl ⟨a, b, vs, ws, rfl, rfl, h1, h2, by rw [← r1.length, ← r2.length]; exact big_le hl, fun q hq => ?_⟩)
        have ht := (hh.take M0.length).cons hq (r1.append r2)
        exact hp _ _ (Ext.new hq) (take_app p) ht _ ⟨q, rfl, at_new p⟩
      · exact hp.elim
    · exact hp.elim
  · rename_i x1 y1
    split at hp
    · rename_i hl
      cases (show Rep κ H _ x from ra)
      cases (show Rep κ H _ y from rb)
      exact .inr (.inr ⟨_, _, rfl, rfl, big_le hl, hp.val hh p _ (.str _)⟩)
    · exact hp.elim
  · exact hp.elim
theorem ro_sub : RO κ vSub (rI0 fun i j => .int (i - j)) := by
  intro F W σ H M0 M S a b x y Q p hh ra rb hp
  unfold vSub at hp
  split at hp
  · cases (show Rep κ H _ x from ra)
    cases (show Rep κ H _ y from rb)
    exact ⟨_, _, rfl, rfl, hp.val hh p _ (.int _)⟩
  · exact hp.elim
def rMul3 : R2 := fun x y H Q => (rI CMul (fun i j => .int (i * j)) x y H Q ∨ rI CMulX (fun i j => .int (i * j)) x y H Q) ∨ rRep x y H Q
theorem op_mul3 {X : Cx} : OpR X (binaryOp .Mult) rMul3 := (op_mul.or op_mulX).or op_rep
theorem ro_mul : RO κ vMul rMul3 := by
  intro F W σ H M0 M S a b x y Q p hh ra rb hp
  unfold vMul at hp
  split at hp
  · split at hp
    · rename_i hm
      cases (show Rep κ H _ x from ra)
      cases (show Rep κ H _ y from rb)
      rcases hm with hm | hm
      · exact .inl (.inl ⟨_, _, rfl, rfl, hm, hp.val hh p _ (.int _)⟩)
      · exact .inl (.inr ⟨_, _, rfl, rfl, hm, hp.val hh p _ (.int _)⟩)
    · exact hp.elim
  · rename_i i k
    split at hp
    · rename_i xs e1
      split at hp
      · rename_i hl
        obtain ⟨a, rfl, m1⟩ := ra
        cases (show Rep κ H _ y from rb)
        obtain ⟨vs, h1, r1⟩ := hh.cell i _ a e1 m1
        refine .inr ⟨a, k, vs, rfl, rfl, h1, by omega, by omega, by rw [← r1.length]; exact big_le hl.2.2, fun q hq => ?_⟩
        have rr : ∀ n : Nat, RepL κ H (List.replicate n xs).flatten (List.replicate n vs).flatten := fun n => by
          induction n with
          | zero => exact .nil
          | succ n ih => rw [List.replicate_succ, List.replicate_succ, List.flatten_cons, List.flatten_cons]; exact r1.append ih
        have ht := (hh.take M0.length).cons hq (rr k.toNat)
        exact hp _ _ (Ext.new hq) (take_app p) ht _ ⟨q, rfl, at_new p⟩
      · exact hp.elim
    · exact hp.elim
  · exact hp.elim
def rDiv3 : R2 := fun x y H Q => rI CDivW (fun i j => .int (i / j)) x y H Q ∨ rI CDivN (fun i j => .int (i.fdiv j)) x y H Q
theorem op_div3 {X : Cx} : OpR X (binaryOp .FloorDiv) rDiv3 := op_fdivW.or op_fdivN
theorem ro_div : RO κ vDiv rDiv3 := by
  intro F W σ H M0 M S a b x y Q p hh ra rb hp
  unfold vDiv at hp
  split at hp
  · rename_i i j
    split at hp
    · rename_i hm
      cases (show Rep κ H _ x from ra)
      cases (show Rep κ H _ y from rb)
      rcases hm with hm | hm
      · refine .inl ⟨_, _, rfl, rfl, hm, ?_⟩
        have e : i.fdiv j = i / j := Int.fdiv_eq_ediv_of_nonneg i (Int.le_of_lt hm.1)
        rw [e] at hp
        exact hp.val hh p _ (.int _)
      · exact .inr ⟨_, _, rfl, rfl, hm, hp.val hh p _ (.int _)⟩
    · exact hp.elim
  · exact hp.elim
theorem ro_mod : RO κ vMod (rI (fun _ j => j ≠ 0) fun i j => .int (i.fmod j)) := by
  intro F W σ H M0 M S a b x y Q p hh ra rb hp
  unfold vMod at hp
  split at hp
  · split at hp
    · exact hp.elim
    · rename_i hm
      cases (show Rep κ H _ x from ra)
      cases (show Rep κ H _ y from rb)
      exact ⟨_, _, rfl, rfl, hm, hp.val hh p _ (.int _)⟩
  · exact hp.elim
theorem ro_pow : RO κ vPow (rI CPow fun i j => .int (i ^ j.toNat)) := by
  intro F W σ H M0 M S a b x y Q p hh ra rb hp
  unfold vPow at hp
  split at hp
  · split at hp
    · rename_i hm
      cases (show Rep κ H _ x from ra)
      cases (show Rep κ H _ y from rb)
      exact ⟨_, _, rfl, rfl, hm, hp.val hh p _ (.int _)⟩
    · exact hp.elim
  · exact hp.elim
theorem ro_shl : RO κ vShl (rI CPow fun i j => .int (i * 2 ^ j.toNat)) := by
  intro F W σ H M0 M S a b x y Q p hh ra rb hp
  unfold vShl at hp
  split at hp
  · split at hp
    · rename_i hm
      cases (show Rep κ H _ x from ra)
      cases (show Rep κ H _ y from rb)
      exact ⟨_, _, rfl, rfl, hm, hp.val hh p _ (.int _)⟩
    · exact hp.elim
  · exact hp.elim
theorem ro_shr : RO κ vShr (rI (fun _ j => 0 ≤ j) fun i j => .int (i / 2 ^ j.toNat)) := by
  intro F W σ H M0 M S a b x y Q p hh ra rb hp
  unfold vShr at hp
  split at hp
  · split at hp
    · rename_i hm
      cases (show Rep κ H _ x from ra)
      cases (show Rep κ H _ y from rb)
      exact ⟨_, _, rfl, rfl, hm, hp.val hh p _ (.int _)⟩
    · exact hp.elim
  · exact hp.elim
theorem ro_and : RO κ vAnd (rI0 fun i j => .int (Builtin.bitAnd i j)) := by
  intro F W σ H M0 M S a b x y Q p hh ra rb hp
  unfold vAnd at hp
  split at hp
  · cases (show Rep κ H _ x from ra)
    cases (show Rep κ H _ y from rb)
    exact ⟨_, _, rfl, rfl, hp.val hh p _ (.int _)⟩
  · exact hp.elim
theorem ro_or : RO κ vOr (rI0 fun i j => .int (Builtin.bitOr i j)) := by
  intro F W σ H M0 M S a b x y Q p hh ra rb hp
  unfold vOr at hp
  split at hp
  · cases (show Rep κ H _ x from ra)
    cases (show Rep κ H _ y from rb)
    exact ⟨_, _, rfl, rfl, hp.val hh p _ (.int _)⟩
  · exact hp.elim
theorem ro_xor : RO κ vXor (rI0 fun i j => .int (Builtin.bitXor i j)) := by
  intro F W σ H M0 M S a b x y Q p hh ra rb hp
  unfold vXor at hp
  split at hp
  · cases (show Rep κ H _ x from ra)
    cases (show Rep κ H _ y from rb)
    exact ⟨_, _, rfl, rfl, hp.val hh p _ (.int _)⟩
  · exact hp.elim
theorem ro_cmp {f : Int → Int → Bool} : RO κ (vCmp f) (rI0 fun i j => .bl (f i j)) := by
  intro F W σ H M0 M S a b x y Q p hh ra rb hp
  unfold vCmp at hp
  split at hp
  · cases (show Rep κ H _ x from ra)
    cases (show Rep κ H _ y from rb)
    exact ⟨_, _, rfl, rfl, hp.val hh p _ (.bl _)⟩
  · exact hp.elim
theorem not_non {H : Hp} {M : List Addr} {a : Vl} {x : V} (r : RepV κ H M a x) (h : a = .d .non → False) : decide (x = V.non) = false := by
  refine decide_eq_false fun e => ?_
  subst e
  cases a with
  | d z => exact h (by cases (show Rep κ H z _ from r); rfl)
  | r i => obtain ⟨_, q, _⟩ := r; cases q
  | e c => obtain ⟨_, q⟩ := r; cases q
theorem ro_isN : RO κ vIsN (fun x y H Q => y = .non ∧ Q (.bl (decide (x = .non))) H) := by
  intro F W σ H M0 M S a b x y Q p hh ra rb hp
  unfold vIsN at hp
  split at hp
  · cases (show Rep κ H _ x from ra)
    cases (show Rep κ H _ y from rb)
    exact ⟨rfl, hp.val hh p _ (.bl _)⟩
  · rename_i hn
    cases (show Rep κ H _ y from rb)
    refine ⟨rfl, ?_⟩
    rw [not_non ra fun e => hn e]
    exact hp.val hh p _ (.bl _)
  · exact hp.elim
theorem ro_notN : RO κ vNotN (fun x y H Q => y = .non ∧ Q (.bl (!decide (x = .non))) H) := by
  intro F W σ H M0 M S a b x y Q p hh ra rb hp
  unfold vNotN at hp
  split at hp
  · cases (show Rep κ H _ x from ra)
    cases (show Rep κ H _ y from rb)
    exact ⟨rfl, hp.val hh p _ (.bl _)⟩
  · rename_i hn
    cases (show Rep κ H _ y from rb)
    refine ⟨rfl, ?_⟩
    rw [not_non ra fun e => hn e]
    exact hp.val hh p _ (.bl _)
  · exact hp.elim
end
end Mo
namespace Mo
open PySem PySem.Spec PyProof.Rows L2
section
variable {κ : KW} {F : Hp}
/-- scalars are compared as they are, other data by their pictures -/
def rEq3 (κ : KW) : R2 := fun x y H Q => rEq x y H Q ∨ rEqD κ.K x y H Q
def rNe3 (κ : KW) : R2 := fun x y H Q => rNe x y H Q ∨ rNeD κ.K x y H Q
theorem op_eq3 {X : Cx} (hu : X.A.units + 64 < cLine) : OpR X (compareOp .Eq) (rEq3 X.κ) := op_eq.or (op_eqD hu)
theorem op_ne3 {X : Cx} (hu : X.A.units + 64 < cLine) : OpR X (compareOp .NotEq) (rNe3 X.κ) := op_ne.or (op_neD hu)
theorem okDs_tup {ds : List Dt} : okD (.tup ds) = okDs ds := by
  unfold okD okDs
  simp only [toPy, dataD]
  rfl
theorem eq_core {H : Hp} {M : List Addr} {S : Sto} {a b : Vl} {x y : V} {k : Bool} (hh : Hold κ F H M S) (ra : RepV κ H M a x) (rb : RepV κ H M b y) (e : eqB a b S = some k) (Q : VK) :
    (Q (.bl k) H → rEq3 κ x y H Q) ∧ (Q (.bl (!k)) H → rNe3 κ x y H Q) := by
  have viaD : ∀ {d e : PyData}, Dp κ.K H x d → Dp κ.K H y e → SeqAt.shaped d = true → SeqAt.shaped e = true → PyData.eqv d e = k → (Q (.bl k) H → rEq3 κ x y H Q) ∧ (Q (.bl (!k)) H → rNe3 κ x y H Q) := fun h1 h2 s1 s2 ek =>
    ⟨fun q => .inr ⟨_, _, h1, h2, s1, s2, by rw [ek]; exact q⟩, fun q => .inr ⟨_, _, h1, h2, s1, s2, by rw [ek]; exact q⟩⟩
  have cellD : ∀ {i : Nat} {c : Ce} {z : V}, sq S i = some c → RepV κ H M (.r i) z → dataDs c.items = true → Dp κ.K H z (.list (toPys c.items)) := fun {i c z} e1 r dd => by
    obtain ⟨p, rfl, m⟩ := r
    obtain ⟨vs, hs, rr⟩ := CeOk.seq e1 (hh.cell i c p (sq_at e1) m)
    exact .lst hs (rr.dp dd)
  unfold eqB at e
  split at e
  · cases (show Rep κ H _ x from ra)
    cases (show Rep κ H _ y from rb)
    rename_i i j
    cases e
    refine ⟨fun q => .inl ⟨rfl, ?_⟩, fun q => .inl ⟨rfl, ?_⟩⟩
    · rw [dec_int, Bool.beq_eq_decide_eq]
      exact q
    · rw [dec_int, Bool.beq_eq_decide_eq]
      exact q
  · cases (show Rep κ H _ x from ra)
    cases (show Rep κ H _ y from rb)
    rename_i i j
    cases e
    refine ⟨fun q => .inl ⟨rfl, ?_⟩, fun q => .inl ⟨rfl, ?_⟩⟩
    · rw [dec_bl, Bool.beq_eq_decide_eq]
      exact q
    · rw [dec_bl, Bool.beq_eq_decide_eq]
      exact q
  · rename_i dx dy _ _
    split at e
    · rename_i hc
      cases e
      rw [Bool.and_eq_true] at hc
      exact viaD (Rep.dp (okD_1 hc.1) (show Rep κ H dx x from ra)) (Rep.dp (okD_1 hc.2) (show Rep κ H dy y from rb)) (okD_2 hc.1) (okD_2 hc.2) (eqD_py dx dy (okD_1 hc.1) (okD_1 hc.2)).symm
    · cases e
  · split at e
    · rename_i c d e1 e2
      split at e
      · rename_i hc
        cases e
        rw [Bool.and_eq_true] at hc
        refine viaD (cellD e1 ra (okDs_1 hc.1)) (cellD e2 rb (okDs_1 hc.2)) (okDs_2 hc.1) (okDs_2 hc.2) ?_
        rw [PyData.eqv, eqDs_py _ _ (okDs_1 hc.1) (okDs_1 hc.2)]
      · cases e
    · cases e
  · rename_i i dx
    split at e
    · rename_i c e1
      split at e
      · rename_i hc
        cases e
        rw [Bool.and_eq_true] at hc
        refine viaD (cellD e1 ra (okDs_1 hc.1)) (Rep.dp (okD_1 hc.2) (show Rep κ H dx y from rb)) (okDs_2 hc.1) (okD_2 hc.2) ?_
        rw [eqD_py (.fl c.items) dx (by rw [dataD]; exact okDs_1 hc.1) (okD_1 hc.2), toPy]
      · cases e
    · cases e
  · rename_i dx i
    split at e
    · rename_i c e1
      split at e
      · rename_i hc
        cases e
        rw [Bool.and_eq_true] at hc
        refine viaD (Rep.dp (okD_1 hc.2) (show Rep κ H dx x from ra)) (cellD e1 rb (okDs_1 hc.1)) (okD_2 hc.2) (okDs_2 hc.1) ?_
        rw [eqD_py dx (.fl c.items) (okD_1 hc.2) (by rw [dataD]; exact okDs_1 hc.1), toPy.eq_6]
      · cases e
    · cases e
  · cases e
theorem ro_eq : RO κ vEq (rEq3 κ) := by
  intro F W σ H M0 M S a b x y Q p hh ra rb hp
  unfold vEq at hp
  split at hp
  · rename_i k e
    exact (eq_core hh ra rb e Q).1 (hp.val (hh.take _) (take_pre p) _ (.bl _))
  · exact hp.elim
theorem ro_ne : RO κ vNe (rNe3 κ) := by
  intro F W σ H M0 M S a b x y Q p hh ra rb hp
  unfold vNe at hp
  split at hp
  · rename_i k e
    exact (eq_core hh ra rb e Q).2 (hp.val (hh.take _) (take_pre p) _ (.bl _))
  · exact hp.elim
theorem flat_rep {H : Hp} {x : Dt} {v : V} (r : Rep κ H x v) (f : flatD x = true) : flatV v = true ∧ ∀ {y : Dt} {w : V}, Rep κ H y w → flatD y = true → eqV w v = eqD y x := by
  refine ⟨by (cases r <;> first | rfl | cases f), fun {y w} q g => ?_⟩
  cases r <;> first
    | (cases q <;> first
      | rfl
      | (cases g; done)
      | (simp only [eqV, eqD]; done)
      | (simp [eqV, eqD]; done))
    | (cases f; done)
theorem flats_rep {H : Hp} {x : Dt} {v : V} (r : Rep κ H x v) (f : flatD x = true) : ∀ {ys : List Dt} {ws : List V}, RepL κ H ys ws → ys.all flatD = true → ws.all flatV = true ∧ inV v ws = memD x ys
  | _, _, .nil, _ => ⟨rfl, rfl⟩
  | y :: ys, w :: ws, .cons q t, g => by
    rw [List.all_cons, Bool.and_eq_true] at g
    obtain ⟨h1, h2⟩ := flats_rep r f t g.2
    refine ⟨by rw [List.all_cons, h1, (flat_rep q g.1).1]; rfl, ?_⟩
    unfold inV memD at *
    rw [List.any_cons, List.any_cons, h2, (flat_rep r f).2 q g.1]
theorem in_core {H : Hp} {M : List Addr} {S : Sto} {a b : Vl} {x y : V} {k : Bool} (hh : Hold κ F H M S) (ra : RepV κ H M a x) (rb : RepV κ H M b y) (e : inB a b S = some k) (neg : Bool) (Q : VK) (q : Q (.bl (if neg then !k else k)) H) : rIn κ.K neg x y H Q := by
  unfold inB at e
  split at e
  · rename_i dx ys
    split at e
    · rename_i hc
      rw [Bool.and_eq_true] at hc
      cases e
      cases (show Rep κ H _ y from rb) with
      | @tup p _ ws h r =>
      have rx : Rep κ H dx x := ra
      obtain ⟨h1, h2⟩ := flats_rep rx hc.1 r hc.2
      refine ⟨p, ws, rfl, .inr h, (flat_rep rx hc.1).1, h1, ?_⟩
      rw [h2]
      exact q
    · cases e
  · rename_i dx ys
    split at e
    · rename_i hc
      rw [Bool.and_eq_true] at hc
      cases e
      cases (show Rep κ H _ y from rb) with
      | @fl p _ ws h r =>
      have rx : Rep κ H dx x := ra
      obtain ⟨h1, h2⟩ := flats_rep rx hc.1 r hc.2
      refine ⟨p, ws, rfl, .inl h.sqL, (flat_rep rx hc.1).1, h1, ?_⟩
      rw [h2]
      exact q
    · cases e
  · rename_i dx i
    split at e
    · rename_i c e1
      split at e
      · rename_i hc
        rw [Bool.and_eq_true] at hc
        cases e
        obtain ⟨p, rfl, m⟩ := rb
        obtain ⟨ws, hs, r⟩ := CeOk.seq e1 (hh.cell i c p (sq_at e1) m)
        have rx : Rep κ H dx x := ra
        obtain ⟨h1, h2⟩ := flats_rep rx hc.1 r hc.2
        refine ⟨p, ws, rfl, .inl hs, (flat_rep rx hc.1).1, h1, ?_⟩
        rw [h2]
        exact q
      · cases e
    · cases e
  · cases e
theorem ro_in : RO κ vIn (rIn κ.K false) := by
  intro F W σ H M0 M S a b x y Q p hh ra rb hp
  unfold vIn at hp
  split at hp
  · rename_i k e
    exact in_core hh ra rb e false Q (hp.val (hh.take _) (take_pre p) _ (.bl _))
  · exact hp.elim
theorem ro_notIn : RO κ vNotIn (rIn κ.K true) := by
  intro F W σ H M0 M S a b x y Q p hh ra rb hp
  unfold vNotIn at hp
  split at hp
  · rename_i k e
    exact in_core hh ra rb e true Q (hp.val (hh.take _) (take_pre p) _ (.bl _))
  · exact hp.elim
theorem atI_rep {H : Hp} {xs : List Dt} {vs : List V} {i : Int} {x : Dt} (r : RepL κ H xs vs) (e : atI xs i = some x) : ∃ v, atI vs i = some v ∧ Rep κ H x v := by
  unfold atI at *
  rw [← r.length]
  cases q : ixN xs.length i with
  | none => rw [q] at e; cases e
  | some j =>
    rw [q] at e
    have e' : xs[j]? = some x := e
    obtain ⟨v, h1, h2⟩ := r.get e'
    exact ⟨v, h1, h2⟩
theorem ro_ix : RO κ vIx (rIx κ.K) := by
  intro F W σ H M0 M S a b x y Q p hh ra rb hp
  unfold vIx at hp
  split at hp
  · rename_i xs i
    split at hp
    · rename_i d e
      cases (show Rep κ H _ x from ra) with
      | @tup a _ vs h r =>
      cases (show Rep κ H _ y from rb)
      obtain ⟨v, h1, h2⟩ := atI_rep r e
      exact .inr (.inl ⟨a, vs, i, v, rfl, rfl, h, h1, hp.val hh p _ h2⟩)
    · exact hp.elim
  · rename_i c i
    split at hp
    · rename_i ce e1
      split at hp
      · rename_i d e
        obtain ⟨a, rfl, m⟩ := ra
        cases (show Rep κ H _ y from rb)
        obtain ⟨vs, hs, r⟩ := CeOk.seq e1 (hh.cell c ce a (sq_at e1) m)
        obtain ⟨v, h1, h2⟩ := atI_rep r e
        exact .inl ⟨a, vs, i, v, rfl, rfl, hs, h1, hp.val hh p _ h2⟩
      · exact hp.elim
    · exact hp.elim
  · rename_i xs i
    split at hp
    · rename_i d e
      cases (show Rep κ H _ x from ra) with
      | @fl a _ vs h r =>
      cases (show Rep κ H _ y from rb)
      obtain ⟨v, h1, h2⟩ := atI_rep r e
      exact .inl ⟨a, vs, i, v, rfl, rfl, h.sqL, h1, hp.val hh p _ h2⟩
    · exact hp.elim
  · exact hp.elim
end

/-! ### expressions -/
section
variable {X : Cx} {Z : L2.St → Prop} {W : WX} {a b c e : Expr} {es : List Expr} {pos : Pos} {ma mb mc me : ME} {mas : MA} {mt mu : MT}
abbrev DE (X : Cx) (Z : L2.St → Prop) (W : WX) (e : Expr) (m : ME) : Prop := PE X e (tM X.κ Z W m)
abbrev DT (X : Cx) (Z : L2.St → Prop) (W : WX) (e : Expr) (m : MT) : Prop := PT X e (tMT X.κ Z W m)
abbrev DA (X : Cx) (Z : L2.St → Prop) (W : WX) (e : List Expr) (m : MA) : Prop := PA X e (tMA X.κ Z W m)
def mVar (i : Nat) : ME := fun ρ S => match ρ[i]? with
  | some (some v) => .ok v S
  | _ => .bad
def mC (d : Dt) : ME := fun _ S => .ok (.d d) S
theorem de_var (i : Nat) {x : Str} (hN : X.N[i]? = some x := by rfl) (hv : Vis X.env.scope x := by first | exact Or.inl rfl | exact Or.inr (Or.inl rfl) | exact Or.inr (Or.inr rfl)) (hd : (x == ("__debug__" : Str)) = false := by decide)
    (hcd : (x == ("__classdict__" : Str)) = false := by decide) : DE X Z W (.Name x pos) (mVar i) := pe_imp (pe_var hN hv hd hcd) fun σ H Q ⟨_, F, M, S, ρ, hh, he, hp⟩ => by
  unfold mVar at hp
  split at hp
  · rename_i v e
    obtain ⟨x, h1, h2⟩ := he.2 i v e
    exact ⟨x, h1, hp.val hh List.prefix_rfl x h2⟩
  · exact hp.elim
theorem de_int {i : Int} {j : Nat} : DE X Z W (.Constant (.int i) j pos) (mC (.int i)) := pe_imp pe_int fun _ _ _ ⟨_, F, M, S, ρ, hh, he, hp⟩ => Post.val hp hh List.prefix_rfl _ (Rep.int i)
theorem de_bl {i : Bool} {j : Nat} : DE X Z W (.Constant (.bool i) j pos) (mC (.bl i)) := pe_imp pe_bl fun _ _ _ ⟨_, F, M, S, ρ, hh, he, hp⟩ => Post.val hp hh List.prefix_rfl _ (Rep.bl i)
theorem de_non {j : Nat} : DE X Z W (.Constant .none j pos) (mC .non) := pe_imp pe_non fun _ _ _ ⟨_, F, M, S, ρ, hh, he, hp⟩ => Post.val hp hh List.prefix_rfl _ Rep.non
theorem de_str {x : Str} {j : Nat} : DE X Z W (.Constant (.str x) j pos) (mC (.str x)) := pe_imp pe_str fun _ _ _ ⟨_, F, M, S, ρ, hh, he, hp⟩ => Post.val hp hh List.prefix_rfl _ (Rep.str x)
/-- a constant of the module -/
theorem de_glob {x : Str} {v : V} {u : Value} {d : Dt} (hm : X.mg x = some u) (r : RelV v u) (hr : ∀ H, Rep X.κ H d v) (hg : Gl X x := by rfl) (hd : (x == ("__debug__" : Str)) = false := by decide) : DE X Z W (.Name x pos) (mC d) :=
  pe_imp (pe_glob hg hm r hd) fun _ H _ ⟨_, F, M, S, ρ, hh, he, hp⟩ => Post.val hp hh List.prefix_rfl _ (hr H)

theorem step {α β : Type} {κ : KW} {F : Hp} {σ : L2.St} {M M1 : List Addr} {H : Hp} {r : Rs α} {f : α → Sto → Rs β} {P : β → List Addr → Hp → Prop} {P' : α → List Addr → Hp → Prop} (h : Post κ F W σ M H (r.bind f) P) (q : M <+: M1)
    (k : ∀ v M2 H1 S1, Ext H H1 → M1 <+: M2 → Hold κ F H1 M2 S1 → Post κ F W σ M H1 (f v S1) P → P' v M2 H1) : Post κ F W σ M1 H r P' :=
  (Post.bind h q).imp fun v M2 H1 _ _ ⟨x, p, S1, hh, q⟩ => k v M2 H1 S1 x p hh q

def mOp (f : Nat → Vl → Vl → Sto → Rs Vl) (ma mb : ME) : ME := fun ρ S => (ma ρ S).bind fun a S1 => (mb ρ S1).bind fun b S2 => f S.length a b S2
theorem op_read {f : Nat → Vl → Vl → Sto → Rs Vl} {r : R2} (hf : RO X.κ f r) (σ : L2.St) (H : Hp) (Q : VK) (h : tM X.κ Z W (mOp f ma mb) σ H Q) : tOp r (tM X.κ Z W ma) (tM X.κ Z W mb) σ H Q := by
  obtain ⟨z, F, M, S, ρ, hh, he, hp⟩ := h
  refine ⟨z, F, M, S, ρ, hh, he, step hp List.prefix_rfl fun v M1 H1 S1 x1 p1 hh1 hp1 => ?_⟩
  intro x rx
  refine ⟨z, F, M1, S1, ρ, hh1, he.mono x1 p1, step hp1 p1 fun u M2 H2 S2 x2 p2 hh2 hp2 => ?_⟩
  intro y ry
  rw [← hh.len] at hp2
  exact hf _ _ _ _ _ _ _ _ _ _ _ _ (p1.trans p2) hh2 (rx.mono x2 p2) ry hp2
theorem de_op {op : Operator} {f : Nat → Vl → Vl → Sto → Rs Vl} {r : R2} (ho : OpR X (binaryOp op) r) (hf : RO X.κ f r) (ha : DE X Z W a ma) (hb : DE X Z W b mb) : DE X Z W (.BinOp a op b pos) (mOp f ma mb) :=
  pe_imp (pe_op ho ha hb) (op_read hf)
theorem de_add (ha : DE X Z W a ma) (hb : DE X Z W b mb) : DE X Z W (.BinOp a .Add b pos) (mOp vAdd ma mb) := de_op op_add3 ro_add ha hb
theorem de_sub (ha : DE X Z W a ma) (hb : DE X Z W b mb) : DE X Z W (.BinOp a .Sub b pos) (mOp vSub ma mb) := de_op op_sub ro_sub ha hb
theorem de_mul (ha : DE X Z W a ma) (hb : DE X Z W b mb) : DE X Z W (.BinOp a .Mult b pos) (mOp vMul ma mb) := de_op op_mul3 ro_mul ha hb
theorem de_div (ha : DE X Z W a ma) (hb : DE X Z W b mb) : DE X Z W (.BinOp a .FloorDiv b pos) (mOp vDiv ma mb) := de_op op_div3 ro_div ha hb
theorem de_mod (ha : DE X Z W a ma) (hb : DE X Z W b mb) : DE X Z W (.BinOp a .Mod b pos) (mOp vMod ma mb) := de_op op_modN ro_mod ha hb
theorem de_pow (ha : DE X Z W a ma) (hb : DE X Z W b mb) : DE X Z W (.BinOp a .Pow b pos) (mOp vPow ma mb) := de_op op_pow ro_pow ha hb
theorem de_shl (ha : DE X Z W a ma) (hb : DE X Z W b mb) : DE X Z W (.BinOp a .LShift b pos) (mOp vShl ma mb) := de_op op_shl ro_shl ha hb
theorem de_shr (ha : DE X Z W a ma) (hb : DE X Z W b mb) : DE X Z W (.BinOp a .RShift b pos) (mOp vShr ma mb) := de_op op_shr ro_shr ha hb
theorem de_band (ha : DE X Z W a ma) (hb : DE X Z W b mb) : DE X Z W (.BinOp a .BitAnd b pos) (mOp vAnd ma mb) := de_op op_and ro_and ha hb
theorem de_bor (ha : DE X Z W a ma) (hb : DE X Z W b mb) : DE X Z W (.BinOp a .BitOr b pos) (mOp vOr ma mb) := de_op op_or ro_or ha hb
theorem de_bxor (ha : DE X Z W a ma) (hb : DE X Z W b mb) : DE X Z W (.BinOp a .BitXor b pos) (mOp vXor ma mb) := de_op op_xor ro_xor ha hb
/-- one comparison: as a value, as a test -/
theorem de_cmp {op : CmpOp} {f : Nat → Vl → Vl → Sto → Rs Vl} {r : R2} (ho : OpR X (compareOp op) r) (hf : RO X.κ f r) (ha : DE X Z W a ma) (hb : DE X Z W b mb) (hm : behindInMarks op b = false) : DE X Z W (.Compare a [op] [b] pos) (mOp f ma mb) :=
  pe_imp (pe_cmpR ho ha hb hm) (op_read hf)
/-- a value that must be True or False -/
def mT (me : ME) : MT := fun ρ S => (me ρ S).bind fun v S' => match v with
  | .d (.bl b) => .ok b S'
  | _ => .bad
theorem t_read {te : TE} (f : ∀ σ H Q, tM X.κ Z W me σ H Q → te σ H Q) (σ : L2.St) (H : Hp) (Q : Bool → Hp → Prop) (h : tMT X.κ Z W (mT me) σ H Q) : te σ H fun x H' => ∃ k, x = .bl k ∧ Q k H' := by
  obtain ⟨z, F, M, S, ρ, hh, he, hp⟩ := h
  refine f _ _ _ ⟨z, F, M, S, ρ, hh, he, step hp List.prefix_rfl fun v M1 H1 S1 x1 p1 hh1 hp1 => ?_⟩
  intro x rx
  split at hp1
  · cases (show Rep X.κ H1 _ x from rx)
    exact ⟨_, rfl, hp1.val hh1 p1⟩
  · exact hp1.elim
theorem dt_cmp {op : CmpOp} {f : Nat → Vl → Vl → Sto → Rs Vl} {r : R2} (ho : OpR X (compareOp op) r) (hf : RO X.κ f r) (ha : DE X Z W a ma) (hb : DE X Z W b mb) (hm : behindInMarks op b = false) : DT X Z W (.Compare a [op] [b] pos) (mT (mOp f ma mb)) :=
  pt_imp (pt_cmpR ho ha hb hm) (t_read (op_read hf))
theorem dt_val (he : DE X Z W e me) (hs : ∀ whole, isTrue e X.env whole = (do let v ← whole; standAt e.pos; holding [v] (truthy v)) := by intro _; rfl) : DT X Z W e (mT me) :=
  pt_imp (pt_val he hs) (t_read fun _ _ _ h => h)
/-- a < b < c -/
def mChain (f g : Nat → Vl → Vl → Sto → Rs Vl) (ma mb mc : ME) : ME := fun ρ S => (ma ρ S).bind fun a S1 => (mb ρ S1).bind fun b S2 => (f S2.length a b S2).bind fun z S3 => match z with
  | .d (.bl true) => (mc ρ S3).bind fun c S4 => g S4.length b c S4
  | .d (.bl false) => .ok (.d (.bl false)) S3
  | _ => .bad
end
end Mo
namespace Mo
open PySem PySem.Spec PyProof.Rows L2
section
variable {X : Cx} {Z : L2.St → Prop} {W : WX} {a b c e : Expr} {es : List Expr} {pos : Pos} {ma mb mc me : ME} {mas : MA} {mt mu : MT} {rest : List Expr}
theorem chain_read {f g : Nat → Vl → Vl → Sto → Rs Vl} {r r' : R2} (hf : RO X.κ f r) (hg : RO X.κ g r') (σ : L2.St) (H : Hp) (Q : VK) (h : tM X.κ Z W (mChain f g ma mb mc) σ H Q) :
    tChain r r' (tM X.κ Z W ma) (tM X.κ Z W mb) (tM X.κ Z W mc) σ H Q := by
  obtain ⟨z, F, M, S, ρ, hh, he, hp⟩ := h
  refine ⟨z, F, M, S, ρ, hh, he, step hp List.prefix_rfl fun v M1 H1 S1 x1 p1 hh1 hp1 => ?_⟩
  intro x rx
  refine ⟨z, F, M1, S1, ρ, hh1, he.mono x1 p1, step hp1 p1 fun u M2 H2 S2 x2 p2 hh2 hp2 => ?_⟩
  intro y ry
  refine hf F W σ _ M2 M2 S2 v u _ _ _ List.prefix_rfl hh2 (rx.mono x2 p2) ry ?_
  rw [hh2.len]
  refine step hp2 (p1.trans p2) fun w M3 H3 S3 x3 p3 hh3 hp3 => ?_
  intro t rt
  split at hp3
  · cases (show Rep X.κ H3 _ t from rt)
    refine ⟨true, rfl, ?_⟩
    rw [if_pos rfl]
    refine ⟨z, F, M3, S3, ρ, hh3, he.mono ((x1.trans x2).trans x3) ((p1.trans p2).trans p3), step hp3 ((p1.trans p2).trans p3) fun w4 M4 H4 S4 x4 p4 hh4 hp4 => ?_⟩
    intro t4 rt4
    refine hg F W σ _ M4 M4 S4 u w4 _ _ _ List.prefix_rfl hh4 (ry.mono (x3.trans x4) (p3.trans p4)) rt4 ?_
    rw [hh4.len]
    exact Post.pre hp4 (((p1.trans p2).trans p3).trans p4)
  · cases (show Rep X.κ H3 _ t from rt)
    refine ⟨false, rfl, ?_⟩
    rw [if_neg Bool.false_ne_true]
    exact hp3.val hh3 ((p1.trans p2).trans p3) _ (.bl false)
  · exact hp3.elim
theorem de_chain {op op' : CmpOp} {f g : Nat → Vl → Vl → Sto → Rs Vl} {r r' : R2} (ho : OpR X (compareOp op) r) (hf : RO X.κ f r) (ho' : OpR X (compareOp op') r') (hg : RO X.κ g r') (ha : DE X Z W a ma) (hb : DE X Z W b mb) (hc : DE X Z W c mc)
    (hm : lastMarks [op, op'] [b, c] = false := by with_unfolding_all rfl) : DE X Z W (.Compare a [op, op'] [b, c] pos) (mChain f g ma mb mc) := pe_imp (pe_chain ho ho' ha hb hc hm) (chain_read hf hg)
theorem dt_chain {op op' : CmpOp} {f g : Nat → Vl → Vl → Sto → Rs Vl} {r r' : R2} (ho : OpR X (compareOp op) r) (hf : RO X.κ f r) (ho' : OpR X (compareOp op') r') (hg : RO X.κ g r') (ha : DE X Z W a ma) (hb : DE X Z W b mb) (hc : DE X Z W c mc)
    (hm : lastMarks [op, op'] [b, c] = false := by with_unfolding_all rfl) : DT X Z W (.Compare a [op, op'] [b, c] pos) (mT (mChain f g ma mb mc)) := pt_imp (pt_chain ho ho' ha hb hc hm) (t_read (chain_read hf hg))
/-! the comparisons by name -/
theorem de_lt (ha : DE X Z W a ma) (hb : DE X Z W b mb) : DE X Z W (.Compare a [.Lt] [b] pos) (mOp vLt ma mb) := de_cmp op_lt ro_cmp ha hb (nomark _)
theorem de_le (ha : DE X Z W a ma) (hb : DE X Z W b mb) : DE X Z W (.Compare a [.LtE] [b] pos) (mOp vLe ma mb) := de_cmp op_le ro_cmp ha hb (nomark _)
theorem de_gt (ha : DE X Z W a ma) (hb : DE X Z W b mb) : DE X Z W (.Compare a [.Gt] [b] pos) (mOp vGt ma mb) := de_cmp op_gt ro_cmp ha hb (nomark _)
theorem de_ge (ha : DE X Z W a ma) (hb : DE X Z W b mb) : DE X Z W (.Compare a [.GtE] [b] pos) (mOp vGe ma mb) := de_cmp op_ge ro_cmp ha hb (nomark _)
theorem dt_lt (ha : DE X Z W a ma) (hb : DE X Z W b mb) : DT X Z W (.Compare a [.Lt] [b] pos) (mT (mOp vLt ma mb)) := dt_cmp op_lt ro_cmp ha hb (nomark _)
theorem dt_le (ha : DE X Z W a ma) (hb : DE X Z W b mb) : DT X Z W (.Compare a [.LtE] [b] pos) (mT (mOp vLe ma mb)) := dt_cmp op_le ro_cmp ha hb (nomark _)
theorem dt_gt (ha : DE X Z W a ma) (hb : DE X Z W b mb) : DT X Z W (.Compare a [.Gt] [b] pos) (mT (mOp vGt ma mb)) := dt_cmp op_gt ro_cmp ha hb (nomark _)
theorem dt_ge (ha : DE X Z W a ma) (hb : DE X Z W b mb) : DT X Z W (.Compare a [.GtE] [b] pos) (mT (mOp vGe ma mb)) := dt_cmp op_ge ro_cmp ha hb (nomark _)
theorem de_eq (hu : X.A.units + 64 < cLine) (ha : DE X Z W a ma) (hb : DE X Z W b mb) : DE X Z W (.Compare a [.Eq] [b] pos) (mOp vEq ma mb) := de_cmp (op_eq3 hu) ro_eq ha hb (nomark _)
theorem de_ne (hu : X.A.units + 64 < cLine) (ha : DE X Z W a ma) (hb : DE X Z W b mb) : DE X Z W (.Compare a [.NotEq] [b] pos) (mOp vNe ma mb) := de_cmp (op_ne3 hu) ro_ne ha hb (nomark _)
theorem dt_eq (hu : X.A.units + 64 < cLine) (ha : DE X Z W a ma) (hb : DE X Z W b mb) : DT X Z W (.Compare a [.Eq] [b] pos) (mT (mOp vEq ma mb)) := dt_cmp (op_eq3 hu) ro_eq ha hb (nomark _)
theorem dt_ne (hu : X.A.units + 64 < cLine) (ha : DE X Z W a ma) (hb : DE X Z W b mb) : DT X Z W (.Compare a [.NotEq] [b] pos) (mT (mOp vNe ma mb)) := dt_cmp (op_ne3 hu) ro_ne ha hb (nomark _)
theorem de_is (ha : DE X Z W a ma) (hb : DE X Z W b mb) : DE X Z W (.Compare a [.Is] [b] pos) (mOp vIsN ma mb) := de_cmp op_isN ro_isN ha hb (nomark _)
theorem de_isnot (ha : DE X Z W a ma) (hb : DE X Z W b mb) : DE X Z W (.Compare a [.IsNot] [b] pos) (mOp vNotN ma mb) := de_cmp op_notN ro_notN ha hb (nomark _)
theorem dt_is (ha : DE X Z W a ma) (hb : DE X Z W b mb) : DT X Z W (.Compare a [.Is] [b] pos) (mT (mOp vIsN ma mb)) := dt_cmp op_isN ro_isN ha hb (nomark _)
theorem dt_isnot (ha : DE X Z W a ma) (hb : DE X Z W b mb) : DT X Z W (.Compare a [.IsNot] [b] pos) (mT (mOp vNotN ma mb)) := dt_cmp op_notN ro_notN ha hb (nomark _)
theorem de_in (ha : DE X Z W a ma) (hb : DE X Z W b mb) (hm : behindInMarks .In b = false := by rfl) : DE X Z W (.Compare a [.In] [b] pos) (mOp vIn ma mb) := de_cmp op_in_seq ro_in ha hb hm
theorem de_notIn (ha : DE X Z W a ma) (hb : DE X Z W b mb) (hm : behindInMarks .NotIn b = false := by rfl) : DE X Z W (.Compare a [.NotIn] [b] pos) (mOp vNotIn ma mb) := de_cmp op_notIn_seq ro_notIn ha hb hm
theorem dt_in (ha : DE X Z W a ma) (hb : DE X Z W b mb) (hm : behindInMarks .In b = false := by rfl) : DT X Z W (.Compare a [.In] [b] pos) (mT (mOp vIn ma mb)) := dt_cmp op_in_seq ro_in ha hb hm
theorem dt_notIn (ha : DE X Z W a ma) (hb : DE X Z W b mb) (hm : behindInMarks .NotIn b = false := by rfl) : DT X Z W (.Compare a [.NotIn] [b] pos) (mT (mOp vNotIn ma mb)) := dt_cmp op_notIn_seq ro_notIn ha hb hm
theorem de_chLL (ha : DE X Z W a ma) (hb : DE X Z W b mb) (hc : DE X Z W c mc) (hm : lastMarks [.LtE, .LtE] [b, c] = false := by with_unfolding_all rfl) : DE X Z W (.Compare a [.LtE, .LtE] [b, c] pos) (mChain vLe vLe ma mb mc) := de_chain op_le ro_cmp op_le ro_cmp ha hb hc hm
theorem dt_chLL (ha : DE X Z W a ma) (hb : DE X Z W b mb) (hc : DE X Z W c mc) (hm : lastMarks [.LtE, .LtE] [b, c] = false := by with_unfolding_all rfl) : DT X Z W (.Compare a [.LtE, .LtE] [b, c] pos) (mT (mChain vLe vLe ma mb mc)) := dt_chain op_le ro_cmp op_le ro_cmp ha hb hc hm
theorem de_chLT (ha : DE X Z W a ma) (hb : DE X Z W b mb) (hc : DE X Z W c mc) (hm : lastMarks [.LtE, .Lt] [b, c] = false := by with_unfolding_all rfl) : DE X Z W (.Compare a [.LtE, .Lt] [b, c] pos) (mChain vLe vLt ma mb mc) := de_chain op_le ro_cmp op_lt ro_cmp ha hb hc hm
theorem dt_chLT (ha : DE X Z W a ma) (hb : DE X Z W b mb) (hc : DE X Z W c mc) (hm : lastMarks [.LtE, .Lt] [b, c] = false := by with_unfolding_all rfl) : DT X Z W (.Compare a [.LtE, .Lt] [b, c] pos) (mT (mChain vLe vLt ma mb mc)) := dt_chain op_le ro_cmp op_lt ro_cmp ha hb hc hm

/-! ### and, or, not, if .. else -/
def mAnd (mt mu : MT) : MT := fun ρ S => (mt ρ S).bind fun k S1 => if k = true then mu ρ S1 else .ok false S1
def mOr (mt mu : MT) : MT := fun ρ S => (mt ρ S).bind fun k S1 => if k = true then .ok true S1 else mu ρ S1
def mNot (mt : MT) : MT := fun ρ S => (mt ρ S).bind fun k S1 => .ok (!k) S1
theorem and_read (σ : L2.St) (H : Hp) (Q : Bool → Hp → Prop) (h : tMT X.κ Z W (mAnd mt mu) σ H Q) : tAnd (tMT X.κ Z W mt) (tMT X.κ Z W mu) σ H Q := by
  obtain ⟨z, F, M, S, ρ, hh, he, hp⟩ := h
  refine ⟨z, F, M, S, ρ, hh, he, step hp List.prefix_rfl fun k M1 H1 S1 x1 p1 hh1 hp1 => ?_⟩
  cases k with
  | true =>
    rw [if_pos rfl] at hp1 ⊢
    exact ⟨z, F, M1, S1, ρ, hh1, he.mono x1 p1, Post.pre hp1 p1⟩
  | false =>
    rw [if_neg Bool.false_ne_true] at hp1 ⊢
    exact hp1.val hh1 p1
theorem or_read (σ : L2.St) (H : Hp) (Q : Bool → Hp → Prop) (h : tMT X.κ Z W (mOr mt mu) σ H Q) : tOr (tMT X.κ Z W mt) (tMT X.κ Z W mu) σ H Q := by
  obtain ⟨z, F, M, S, ρ, hh, he, hp⟩ := h
  refine ⟨z, F, M, S, ρ, hh, he, step hp List.prefix_rfl fun k M1 H1 S1 x1 p1 hh1 hp1 => ?_⟩
  cases k with
  | true =>
    rw [if_pos rfl] at hp1 ⊢
    exact hp1.val hh1 p1
  | false =>
    rw [if_neg Bool.false_ne_true] at hp1 ⊢
    exact ⟨z, F, M1, S1, ρ, hh1, he.mono x1 p1, Post.pre hp1 p1⟩
abbrev DW (X : Cx) (Z : L2.St → Prop) (W : WX) (e : Expr) (m : MT) : Prop := PW X e (tMT X.κ Z W m)
theorem dw_and1 (ha : DT X Z W a mt) : DW X Z W (.BoolOp .And [a] pos) mt := pw_and1 ha
theorem dw_or1 (ha : DT X Z W a mt) : DW X Z W (.BoolOp .Or [a] pos) mt := pw_or1 ha
theorem dw_and (ha : DT X Z W a mt) (hb : DW X Z W (.BoolOp .And (b :: rest) pos) mu) : DW X Z W (.BoolOp .And (a :: b :: rest) pos) (mAnd mt mu) := pw_imp (pw_and ha hb) and_read
theorem dw_or (ha : DT X Z W a mt) (hb : DW X Z W (.BoolOp .Or (b :: rest) pos) mu) : DW X Z W (.BoolOp .Or (a :: b :: rest) pos) (mOr mt mu) := pw_imp (pw_or ha hb) or_read
theorem DW.t (h : DW X Z W e mt) : DT X Z W e mt := h.pt
theorem dt_not (ha : DT X Z W a mt) : DT X Z W (.UnaryOp .Not a pos) (mNot mt) := pt_imp (pt_not ha) fun σ H Q ⟨z, F, M, S, ρ, hh, he, hp⟩ =>
  ⟨z, F, M, S, ρ, hh, he, step hp List.prefix_rfl fun k M1 H1 S1 x1 p1 hh1 hp1 => hp1.val hh1 p1⟩
/-- the values -/
def mAndV (ma mb : ME) : ME := fun ρ S => (ma ρ S).bind fun v S1 => match v with
  | .d (.bl true) => mb ρ S1
  | .d (.bl false) => .ok (.d (.bl false)) S1
  | _ => .bad
def mOrV (ma mb : ME) : ME := fun ρ S => (ma ρ S).bind fun v S1 => match v with
  | .d (.bl true) => .ok (.d (.bl true)) S1
  | .d (.bl false) => mb ρ S1
  | _ => .bad
def mNotV (ma : ME) : ME := fun ρ S => (ma ρ S).bind fun v S1 => match v with
  | .d (.bl k) => .ok (.d (.bl (!k))) S1
  | _ => .bad
theorem de_one {op : BoolOp} (h : DE X Z W a ma) : DE X Z W (.BoolOp op [a] pos) ma := pe_one h
theorem de_and (ha : DE X Z W a ma) (hb : DE X Z W (.BoolOp .And (b :: rest) pos) mb) : DE X Z W (.BoolOp .And (a :: b :: rest) pos) (mAndV ma mb) := pe_imp (pe_and ha hb) fun σ H Q ⟨z, F, M, S, ρ, hh, he, hp⟩ => by
  refine ⟨z, F, M, S, ρ, hh, he, step hp List.prefix_rfl fun v M1 H1 S1 x1 p1 hh1 hp1 => ?_⟩
  intro x rx
  split at hp1
  · cases (show Rep X.κ H1 _ x from rx)
    refine ⟨true, rfl, ?_⟩
    rw [if_pos rfl]
    exact ⟨z, F, M1, S1, ρ, hh1, he.mono x1 p1, Post.pre hp1 p1⟩
  · cases (show Rep X.κ H1 _ x from rx)
    refine ⟨false, rfl, ?_⟩
    rw [if_neg Bool.false_ne_true]
    exact hp1.val hh1 p1 _ (.bl false)
  · exact hp1.elim
theorem de_or (ha : DE X Z W a ma) (hb : DE X Z W (.BoolOp .Or (b :: rest) pos) mb) : DE X Z W (.BoolOp .Or (a :: b :: rest) pos) (mOrV ma mb) := pe_imp (pe_or ha hb) fun σ H Q ⟨z, F, M, S, ρ, hh, he, hp⟩ => by
  refine ⟨z, F, M, S, ρ, hh, he, step hp List.prefix_rfl fun v M1 H1 S1 x1 p1 hh1 hp1 => ?_⟩
  intro x rx
  split at hp1
  · cases (show Rep X.κ H1 _ x from rx)
    refine ⟨true, rfl, ?_⟩
    rw [if_pos rfl]
    exact hp1.val hh1 p1 _ (.bl true)
  · cases (show Rep X.κ H1 _ x from rx)
    refine ⟨false, rfl, ?_⟩
    rw [if_neg Bool.false_ne_true]
    exact ⟨z, F, M1, S1, ρ, hh1, he.mono x1 p1, Post.pre hp1 p1⟩
  · exact hp1.elim
theorem de_not (ha : DE X Z W a ma) : DE X Z W (.UnaryOp .Not a pos) (mNotV ma) := pe_imp (pe_not ha) fun σ H Q ⟨z, F, M, S, ρ, hh, he, hp⟩ => by
  refine ⟨z, F, M, S, ρ, hh, he, step hp List.prefix_rfl fun v M1 H1 S1 x1 p1 hh1 hp1 => ?_⟩
  intro x rx
  split at hp1
  · cases (show Rep X.κ H1 _ x from rx)
    exact ⟨_, rfl, hp1.val hh1 p1 _ (.bl _)⟩
  · exact hp1.elim
def mNeg (ma : ME) : ME := fun ρ S => (ma ρ S).bind fun v S1 => match v with
  | .d (.int i) => .ok (.d (.int (-i))) S1
  | _ => .bad
theorem de_neg (ha : DE X Z W a ma) : DE X Z W (.UnaryOp .USub a pos) (mNeg ma) := pe_imp (pe_un un_neg ha) fun σ H Q ⟨z, F, M, S, ρ, hh, he, hp⟩ => by
  refine ⟨z, F, M, S, ρ, hh, he, step hp List.prefix_rfl fun v M1 H1 S1 x1 p1 hh1 hp1 => ?_⟩
  intro x rx
  split at hp1
  · cases (show Rep X.κ H1 _ x from rx)
    exact ⟨_, rfl, hp1.val hh1 p1 _ (.int _)⟩
  · exact hp1.elim
def mIfE (mt : MT) (ma mb : ME) : ME := fun ρ S => (mt ρ S).bind fun k S1 => if k = true then ma ρ S1 else mb ρ S1
theorem de_ifE (hc : DT X Z W c mt) (ha : DE X Z W a ma) (hb : DE X Z W b mb) : DE X Z W (.IfExp c a b pos) (mIfE mt ma mb) := pe_imp (pe_ifExp hc ha hb) fun σ H Q ⟨z, F, M, S, ρ, hh, he, hp⟩ => by
  refine ⟨z, F, M, S, ρ, hh, he, step hp List.prefix_rfl fun k M1 H1 S1 x1 p1 hh1 hp1 => ?_⟩
  cases k with
  | true =>
    rw [if_pos rfl] at hp1 ⊢
    exact ⟨z, F, M1, S1, ρ, hh1, he.mono x1 p1, Post.pre hp1 p1⟩
  | false =>
    rw [if_neg Bool.false_ne_true] at hp1 ⊢
    exact ⟨z, F, M1, S1, ρ, hh1, he.mono x1 p1, Post.pre hp1 p1⟩

/-! ### argument lists, displays -/
def mNil : MA := fun _ S => .ok [] S
def mCons (me : ME) (mas : MA) : MA := fun ρ S => (me ρ S).bind fun v S1 => (mas ρ S1).bind fun vs S2 => .ok (v :: vs) S2
theorem da_nil : DA X Z W [] mNil := pa_imp pa_nil fun σ H Q ⟨z, F, M, S, ρ, hh, he, hp⟩ => hp.val hh List.prefix_rfl _ .nil
theorem da_cons (ha : DE X Z W e me) (hr : DA X Z W es mas) (hs : starEach (e :: es) X.env = (false, eval e X.env) :: starEach es X.env := by rfl) : DA X Z W (e :: es) (mCons me mas) := pa_imp (pa_cons ha hr hs) fun σ H Q ⟨z, F, M, S, ρ, hh, he, hp⟩ => by
  refine ⟨z, F, M, S, ρ, hh, he, step hp List.prefix_rfl fun v M1 H1 S1 x1 p1 hh1 hp1 => ?_⟩
  intro x rx
  refine ⟨z, F, M1, S1, ρ, hh1, he.mono x1 p1, step hp1 p1 fun vs M2 H2 S2 x2 p2 hh2 hp2 => ?_⟩
  intro xs rxs
  exact hp2.val hh2 (p1.trans p2) _ (.cons (rx.mono x2 p2) rxs)
/-- all of them data -/
def toDs : List Vl → Option (List Dt)
  | [] => some []
  | .d x :: vs => match toDs vs with
    | some xs => some (x :: xs)
    | none => none
  | _ :: _ => none
theorem toDs_rep {κ : KW} {H : Hp} {M : List Addr} : ∀ {vs : List Vl} {xs : List V} {ds : List Dt}, toDs vs = some ds → RepVs κ H M vs xs → RepL κ H ds xs
  | [], _, _, e, .nil => by cases e; exact .nil
  | .d x :: vs, _, ds, e, .cons r t => by
    unfold toDs at e
    split at e
    · rename_i ys e2
      cases e
      exact .cons r (toDs_rep e2 t)
    · cases e
  | .r _ :: _, _, _, e, _ => by cases e
  | .e _ :: _, _, _, e, _ => by cases e
def mTup (mas : MA) : ME := fun ρ S => (mas ρ S).bind fun vs S1 => match toDs vs with
  | some ds => if ds.length ≤ big then .ok (.d (.tup ds)) S1 else .bad
  | none => .bad
def mLst (mas : MA) : ME := fun ρ S => (mas ρ S).bind fun vs S1 => match toDs vs with
  | some ds => if ds.length ≤ big then .ok (.r S1.length) (S1 ++ [.lst ds]) else .bad
  | none => .bad
theorem at_end {M : List Addr} {a : Addr} {n : Nat} (h : M.length = n) : (M ++ [a])[n]? = some a := by
  subst h
  rw [List.getElem?_append_right (Nat.le_refl _), Nat.sub_self]
  rfl
theorem de_tup {k : Nat} (h : DA X Z W es mas) : DE X Z W (.Tuple es k pos) (mTup mas) := pe_imp (pe_tup h) fun σ H Q ⟨z, F, M, S, ρ, hh, he, hp⟩ => by
  refine ⟨z, F, M, S, ρ, hh, he, step hp List.prefix_rfl fun vs M1 H1 S1 x1 p1 hh1 hp1 => ?_⟩
  intro xs rxs
  split at hp1
  · rename_i ds e
    split at hp1
    · rename_i hl
      have r := toDs_rep e rxs
      refine ⟨by rw [← r.length]; exact big_le hl, fun p hn => ?_⟩
      exact hp1 _ M1 (Ext.new hn) p1 (hh1.new hn) _ (Rep.tup (SqT.of upd_same) (r.mono (Ext.new hn)))
    · exact hp1.elim
  · exact hp1.elim
theorem de_lst (h : DA X Z W es mas) : DE X Z W (.List es pos) (mLst mas) := pe_imp (pe_lst h) fun σ H Q ⟨z, F, M, S, ρ, hh, he, hp⟩ => by
  refine ⟨z, F, M, S, ρ, hh, he, step hp List.prefix_rfl fun vs M1 H1 S1 x1 p1 hh1 hp1 => ?_⟩
  intro xs rxs
  split at hp1
  · rename_i ds e
    split at hp1
    · rename_i hl
      have r := toDs_rep e rxs
      refine ⟨by rw [← r.length]; exact big_le hl, fun p hn => ?_⟩
      exact hp1 _ _ (Ext.new hn) (pre_app p1) (hh1.cons hn r) _ ⟨p, rfl, at_end hh1.len⟩
    · exact hp1.elim
  · exact hp1.elim

/-! ### subscripts, slices -/
theorem de_ix (ha : DE X Z W a ma) (hb : DE X Z W b mb) (hs : PlainIx b := by intro _ _; rfl) : DE X Z W (.Subscript a b pos) (mOp vIx ma mb) := pe_imp (pe_ix ix_seq ha hb hs) (op_read ro_ix)
abbrev MO := Rho → Sto → Rs (Option Int)
def tMO (κ : KW) (Z : L2.St → Prop) (W : WX) (m : MO) : TO := fun σ H Q => Z σ ∧ ∃ F M S ρ, Hold κ F H M S ∧ EnvR κ H M ρ σ ∧ Post κ F W σ M H (m ρ S) (fun b _ H' => Q b H')
abbrev DO (X : Cx) (Z : L2.St → Prop) (W : WX) (e : Option Expr) (m : MO) : Prop := PO X e (tMO X.κ Z W m)
def mNoPart : MO := fun _ S => .ok none S
def mPart (me : ME) : MO := fun ρ S => (me ρ S).bind fun v S1 => match v with
  | .d (.int i) => .ok (some i) S1
  | _ => .bad
theorem do_none : DO X Z W none mNoPart := po_imp po_none fun σ H Q ⟨z, F, M, S, ρ, hh, he, hp⟩ => hp.val hh List.prefix_rfl
theorem do_some (h : DE X Z W e me) : DO X Z W (some e) (mPart me) := po_imp (po_some h) fun σ H Q ⟨z, F, M, S, ρ, hh, he, hp⟩ => by
  refine ⟨z, F, M, S, ρ, hh, he, step hp List.prefix_rfl fun v M1 H1 S1 x1 p1 hh1 hp1 => ?_⟩
  intro x rx
  split at hp1
  · cases (show Rep X.κ H1 _ x from rx)
    exact ⟨_, rfl, hp1.val hh1 p1⟩
  · exact hp1.elim
def cutD (xs : List Dt) (lo hi : Option Int) : List Dt := (xs.drop (HT.sIx xs.length 0 lo)).take (HT.sIx xs.length xs.length hi - HT.sIx xs.length 0 lo)
def mSl (ma : ME) (ml mh : MO) : ME := fun ρ S => (ma ρ S).bind fun v S1 => (ml ρ S1).bind fun lo S2 => (mh ρ S2).bind fun hi S3 => match v with
  | .d (.tup xs) => .ok (.d (.tup (cutD xs lo hi))) S3
  | .r i => match sq S3 i with
    | some c => .ok (.r S3.length) (S3 ++ [.lst (cutD c.items lo hi)])
    | none => .bad
  | .d (.fl xs) => .ok (.r S3.length) (S3 ++ [.lst (cutD xs lo hi)])
  | _ => .bad
theorem cut_rep {κ : KW} {H : Hp} {xs : List Dt} {vs : List V} (r : RepL κ H xs vs) (lo hi : Option Int) : RepL κ H (cutD xs lo hi) (cutV vs lo hi) := by
  unfold cutD cutV
  rw [r.length]
  exact (r.drop _).take _
theorem cut_all {xs : List Dt} {lo hi : Option Int} (h : HT.sIx xs.length 0 lo = 0 ∧ HT.sIx xs.length xs.length hi = xs.length) : cutD xs lo hi = xs := by
  unfold cutD
  rw [h.1, h.2]
  simp
theorem de_sl {ml mh : MO} {lo hi : Option Expr} {p2 : Pos} (ha : DE X Z W a ma) (hl : DO X Z W lo ml) (hh : DO X Z W hi mh) : DE X Z W (.Subscript a (.Slice lo hi none p2) pos) (mSl ma ml mh) :=
  pe_imp (pe_slice (sl_tupA.or sl_list) ha hl hh) fun σ H Q ⟨z, F, M, S, ρ, hh, he, hp⟩ => by
    refine ⟨z, F, M, S, ρ, hh, he, step hp List.prefix_rfl fun v M1 H1 S1 x1 p1 hh1 hp1 => ?_⟩
    intro x rx
    refine ⟨z, F, M1, S1, ρ, hh1, he.mono x1 p1, step hp1 p1 fun lo M2 H2 S2 x2 p2 hh2 hp2 => ?_⟩
    refine ⟨z, F, M2, S2, ρ, hh2, he.mono (x1.trans x2) (p1.trans p2), step hp2 (p1.trans p2) fun hi M3 H3 S3 x3 p3 hh3 hp3 => ?_⟩
    have rx3 := rx.mono (x2.trans x3) (p2.trans p3)
    have pp := (p1.trans p2).trans p3
    split at hp3
    · rename_i xs
      cases (show Rep X.κ H3 _ x from rx3) with
      | @tup a _ vs h r =>
      refine .inl ⟨a, vs, rfl, h, fun q => ?_, fun _ p hn => ?_⟩
      · rw [← r.length] at q
        have e := cut_all q
        refine hp3.val hh3 pp _ ?_
        rw [e]
        exact Rep.tup h r
      · exact hp3 _ M3 (Ext.new hn) pp (hh3.new hn) _ (Rep.tup (SqT.of upd_same) ((cut_rep r lo hi).mono (Ext.new hn)))
    · rename_i i
      split at hp3
      · rename_i c e1
        obtain ⟨a, rfl, m⟩ := rx3
        obtain ⟨vs, hs, r⟩ := CeOk.seq e1 (hh3.cell i c a (sq_at e1) m)
        refine .inr ⟨a, vs, rfl, hs, fun p hn => ?_⟩
        exact hp3 _ _ (Ext.new hn) (pre_app pp) (hh3.cons hn (cut_rep r lo hi)) _ ⟨p, rfl, at_end hh3.len⟩
      · exact hp3.elim
    · rename_i xs
      cases (show Rep X.κ H3 _ x from rx3) with
      | @fl a _ vs h r =>
      refine .inr ⟨a, vs, rfl, h.sqL, fun p hn => ?_⟩
      exact hp3 _ _ (Ext.new hn) (pre_app pp) (hh3.cons hn (cut_rep r lo hi)) _ ⟨p, rfl, at_end hh3.len⟩
    · exact hp3.elim

/-! ### calls of built-ins -/
def RC (κ : KW) (f : Nat → List Vl → Sto → Rs Vl) (r : List V → Hp → VK → Prop) : Prop :=
  ∀ (F : Hp) (W : WX) (σ : L2.St) (H : Hp) (M0 M : List Addr) (S : Sto) (vs : List Vl) (xs : List V) (Q : VK), M0 <+: M → Hold κ F H M S → RepVs κ H M vs xs →
    Post κ F W σ M0 H (f M0.length vs S) (fun v M' H' => ∀ x, RepV κ H' M' v x → Q x H') → r xs H Q
def mCall (f : Nat → List Vl → Sto → Rs Vl) (mas : MA) : ME := fun ρ S => (mas ρ S).bind fun vs S1 => f S.length vs S1
theorem call_read {f : Nat → List Vl → Sto → Rs Vl} {r : List V → Hp → VK → Prop} (hf : RC X.κ f r) (σ : L2.St) (H : Hp) (Q : VK) (h : tM X.κ Z W (mCall f mas) σ H Q) : tCB r (tMA X.κ Z W mas) σ H Q := by
  obtain ⟨z, F, M, S, ρ, hh, he, hp⟩ := h
  refine ⟨z, F, M, S, ρ, hh, he, step hp List.prefix_rfl fun vs M1 H1 S1 x1 p1 hh1 hp1 => ?_⟩
  intro xs rxs
  rw [← hh.len] at hp1
  exact hf _ _ _ _ _ _ _ _ _ _ p1 hh1 rxs hp1
theorem de_callB {f : Nat → List Vl → Sto → Rs Vl} {r : List V → Hp → VK → Prop} {x : Str} {id : String} {p : Pos} (hc : CallR X (.builtin id) r) (hf : RC X.κ f r) (hm : X.mg x = none) (hv : bootBuiltins x = some (.builtin id)) (ha : DA X Z W (e :: es) mas) (hg : Gl X x := by rfl) (hn : x ≠ "__name__" := by decide) (hdb : (x == ("__debug__" : Str)) = false := by decide)
    (he : starEach (e :: es) X.env = (false, eval e X.env) :: starEach es X.env := by rfl) (hpl : (backTo pos (starEach es X.env)).any (·.1) = false := by rfl) : DE X Z W (.Call (.Name x p) (e :: es) [] pos) (mCall f mas) :=
  pe_imp (pe_callB hc hg hm hv ha hn hdb he hpl) (call_read hf)
theorem de_callTy {f : Nat → List Vl → Sto → Rs Vl} {r : List V → Hp → VK → Prop} {x : Str} {T : String} {p : Pos} (hc : CallR X (.type T) r) (hf : RC X.κ f r) (hm : X.mg x = none) (hv : bootBuiltins x = some (.type T)) (ha : DA X Z W (e :: es) mas) (hg : Gl X x := by rfl) (hn : x ≠ "__name__" := by decide) (hdb : (x == ("__debug__" : Str)) = false := by decide)
    (he : starEach (e :: es) X.env = (false, eval e X.env) :: starEach es X.env := by rfl) (hpl : (backTo pos (starEach es X.env)).any (·.1) = false := by rfl) : DE X Z W (.Call (.Name x p) (e :: es) [] pos) (mCall f mas) :=
  pe_imp (pe_callTy hc hg hm hv ha hn hdb he hpl) (call_read hf)
end
end Mo
/-! Built-ins by name, own calls, targets, statements, loops, comprehensions. -/
namespace Mo
open PySem PySem.Spec PyProof.Rows L2
section
variable {κ : KW} {F : Hp}
/-- what a sequence holds -/
def itemsOf (v : Vl) (S : Sto) : Option (List Dt) := match v with
  | .d (.tup xs) => some xs
  | .r i => match sq S i with
    | some c => some c.items
    | none => none
  | .d (.fl xs) => some xs
  | _ => none
theorem itemsOf_rep {H : Hp} {M : List Addr} {S : Sto} {v : Vl} {x : V} {ds : List Dt} (hh : Hold κ F H M S) (e : itemsOf v S = some ds) (r : RepV κ H M v x) : ∃ p vs, x = .ref p ∧ (SqL κ.K H p vs ∨ SqT κ.K H p vs) ∧ RepL κ H ds vs := by
  unfold itemsOf at e
  split at e
  · cases e
    cases (show Rep κ H _ x from r) with
    | @tup a _ vs h rr => exact ⟨a, vs, rfl, .inr h, rr⟩
  · rename_i i
    split at e
    · rename_i c e1
      cases e
      obtain ⟨p, rfl, m⟩ := r
      obtain ⟨vs, hs, rr⟩ := CeOk.seq e1 (hh.cell i c p (sq_at e1) m)
      exact ⟨p, vs, rfl, .inl hs, rr⟩
    · cases e
  · cases e
    cases (show Rep κ H _ x from r) with
    | @fl a _ vs h rr => exact ⟨a, vs, rfl, .inl h.sqL, rr⟩
  · cases e
def bLen (n : Nat) (vs : List Vl) (S : Sto) : Rs Vl := match vs with
  | [.d (.str x)] => if x.length ≤ big then .ok (.d (.int x.length)) S else .bad
  | [v] => match itemsOf v S with
    | some ds => .ok (.d (.int ds.length)) (S.take n)
    | none => .bad
  | _ => .bad
theorem repV1 {H : Hp} {M : List Addr} {v : Vl} {xs : List V} (r : RepVs κ H M [v] xs) : ∃ x, xs = [x] ∧ RepV κ H M v x := by
  cases r with
  | cons r t => cases t; exact ⟨_, rfl, r⟩
theorem repV2 {H : Hp} {M : List Addr} {v w : Vl} {xs : List V} (r : RepVs κ H M [v, w] xs) : ∃ x y, xs = [x, y] ∧ RepV κ H M v x ∧ RepV κ H M w y := by
  cases r with
  | cons r t => cases t with
    | cons r2 t => cases t; exact ⟨_, _, rfl, r, r2⟩
theorem rc_len : RC κ bLen (fun xs H Q => ∃ x n, xs = [x] ∧ LenV κ.K x H n ∧ Q (.int n) H) := by
  intro F W σ H M0 M S vs xs Q p hh rv hp
  unfold bLen at hp
  split at hp
  · split at hp
    · rename_i hl
      obtain ⟨x, rfl, r⟩ := repV1 rv
      cases (show Rep κ H _ x from r)
      exact ⟨_, _, rfl, ⟨big_le hl, rfl⟩, hp.val hh p _ (.int _)⟩
    · exact hp.elim
  · split at hp
    · rename_i ds e
      obtain ⟨x, rfl, r⟩ := repV1 rv
      obtain ⟨q, vs, rfl, hs, rr⟩ := itemsOf_rep hh e r
      have fin := hp.val (hh.take _) (take_pre p) _ (Rep.int _)
      rw [rr.length] at fin
      refine ⟨.ref q, vs.length, rfl, ?_, fin⟩
      rcases hs with hs | hs
      · exact .inl ⟨vs, hs, rfl⟩
      · exact .inr ⟨vs, hs, rfl⟩
    · exact hp.elim
  · exact hp.elim
def bInt (_ : Nat) (vs : List Vl) (S : Sto) : Rs Vl := match vs with
  | [.d (.int i)] => .ok (.d (.int i)) S
  | [.d (.bl k)] => .ok (.d (.int (if k then 1 else 0))) S
  | _ => .bad
theorem rc_int : RC κ bInt (fun xs H Q => (∃ i, xs = [.int i] ∧ Q (.int i) H) ∨ ∃ k, xs = [.bl k] ∧ Q (.int (if k then 1 else 0)) H) := by
  intro F W σ H M0 M S vs xs Q p hh rv hp
  unfold bInt at hp
  split at hp
  · obtain ⟨x, rfl, r⟩ := repV1 rv
    cases (show Rep κ H _ x from r)
    exact .inl ⟨_, rfl, hp.val hh p _ (.int _)⟩
  · obtain ⟨x, rfl, r⟩ := repV1 rv
    cases (show Rep κ H _ x from r)
    exact .inr ⟨_, rfl, hp.val hh p _ (.int _)⟩
  · exact hp.elim
def bAbs (_ : Nat) (vs : List Vl) (S : Sto) : Rs Vl := match vs with
  | [.d (.int i)] => .ok (.d (.int (if i < 0 then -i else i))) S
  | _ => .bad
theorem rc_abs : RC κ bAbs (fun xs H Q => ∃ i, xs = [.int i] ∧ Q (.int (if i < 0 then -i else i)) H) := by
  intro F W σ H M0 M S vs xs Q p hh rv hp
  unfold bAbs at hp
  split at hp
  · obtain ⟨x, rfl, r⟩ := repV1 rv
    cases (show Rep κ H _ x from r)
    exact ⟨_, rfl, hp.val hh p _ (.int _)⟩
  · exact hp.elim
/-- all of them ints, all of them bools -/
def toInts : List Dt → Option (List Int)
  | [] => some []
  | .int i :: ds => match toInts ds with
    | some ns => some (i :: ns)
    | none => none
  | _ :: _ => none
def toBls : List Dt → Option (List Bool)
  | [] => some []
  | .bl i :: ds => match toBls ds with
    | some ns => some (i :: ns)
    | none => none
  | _ :: _ => none
theorem toInts_eq : ∀ {ds : List Dt} {ns : List Int}, toInts ds = some ns → ds = ns.map Dt.int
  | [], _, e => by cases e; rfl
  | .int i :: ds, ns, e => by
    unfold toInts at e
    split at e
    · rename_i ms e2
      cases e
      rw [toInts_eq e2]
      rfl
    · cases e
  | .non :: _, _, e => by cases e
  | .bl _ :: _, _, e => by cases e
  | .str _ :: _, _, e => by cases e
  | .tup _ :: _, _, e => by cases e
  | .fl _ :: _, _, e => by cases e
  | .fd _ _ _ :: _, _, e => by cases e
  | .fi _ _ _ :: _, _, e => by cases e
theorem toBls_eq : ∀ {ds : List Dt} {ns : List Bool}, toBls ds = some ns → ds = ns.map Dt.bl
  | [], _, e => by cases e; rfl
  | .bl i :: ds, ns, e => by
    unfold toBls at e
    split at e
    · rename_i ms e2
      cases e
      rw [toBls_eq e2]
      rfl
    · cases e
  | .non :: _, _, e => by cases e
  | .int _ :: _, _, e => by cases e
  | .str _ :: _, _, e => by cases e
  | .tup _ :: _, _, e => by cases e
  | .fl _ :: _, _, e => by cases e
  | .fd _ _ _ :: _, _, e => by cases e
  | .fi _ _ _ :: _, _, e => by cases e
theorem toInts_map (ns : List Int) : toInts (ns.map Dt.int) = some ns := by
  induction ns with
  | nil => rfl
  | cons n ns ih => rw [List.map_cons, toInts, ih]
theorem toBls_map (ns : List Bool) : toBls (ns.map Dt.bl) = some ns := by
  induction ns with
  | nil => rfl
  | cons n ns ih => rw [List.map_cons, toBls, ih]
/-- the greatest, the least of ints -/
def maxI : List Int → Int
  | [] => 0
  | [n] => n
  | n :: m :: r => if maxI (m :: r) > n then maxI (m :: r) else n
def minI : List Int → Int
  | [] => 0
  | [n] => n
  | n :: m :: r => if minI (m :: r) < n then minI (m :: r) else n
theorem maxI_max : ∀ {ns : List Int} {m : Int}, m ∈ ns → (∀ y, y ∈ ns → y ≤ m) → m = maxI ns
  | [], _, h, _ => by cases h
  | [n], m, h, _ => by simpa [maxI] using h
  | n :: k :: r, m, h, hm => by
    rw [maxI]
    have h1 := hm n List.mem_cons_self
    rcases List.mem_cons.mp h with e | e
    · subst e
      split
      · rename_i g
        have q : maxI (k :: r) ≤ m := by
          have : ∀ {l : List Int}, l ≠ [] → maxI l ∈ l := fun {l} => by
            induction l with
            | nil => intro q; exact absurd rfl q
            | cons a l ih =>
              intro _
              cases l with
              | nil => simp [maxI]
              | cons b l =>
                rw [maxI]
                split
                · exact List.mem_cons_of_mem _ (ih (by simp))
                · exact List.mem_cons_self
          exact hm _ (List.mem_cons_of_mem _ (this (by simp)))
        omega
      · rfl
    · have q := maxI_max e fun y hy => hm y (List.mem_cons_of_mem _ hy)
      rw [← q]
      split <;> omega
theorem minI_min : ∀ {ns : List Int} {m : Int}, m ∈ ns → (∀ y, y ∈ ns → m ≤ y) → m = minI ns
  | [], _, h, _ => by cases h
  | [n], m, h, _ => by simpa [minI] using h
  | n :: k :: r, m, h, hm => by
    rw [minI]
    have h1 := hm n List.mem_cons_self
    rcases List.mem_cons.mp h with e | e
    · subst e
      split
      · rename_i g
        have q : m ≤ minI (k :: r) := by
          have : ∀ {l : List Int}, l ≠ [] → minI l ∈ l := fun {l} => by
            induction l with
            | nil => intro q; exact absurd rfl q
            | cons a l ih =>
              intro _
              cases l with
              | nil => simp [minI]
              | cons b l =>
                rw [minI]
                split
                · exact List.mem_cons_of_mem _ (ih (by simp))
                · exact List.mem_cons_self
          exact hm _ (List.mem_cons_of_mem _ (this (by simp)))
        omega
      · rfl
    · have q := minI_min e fun y hy => hm y (List.mem_cons_of_mem _ hy)
      rw [← q]
      split <;> omega
/-- the ints of a list (not of a tuple) -/
def listInts (v : Vl) (S : Sto) : Option (List Int) := match v with
  | .r i => match sq S i with
    | some c => toInts c.items
    | none => none
  | .d (.fl xs) => toInts xs
  | _ => none
theorem listInts_rep {H : Hp} {M : List Addr} {S : Sto} {v : Vl} {x : V} {ns : List Int} (hh : Hold κ F H M S) (e : listInts v S = some ns) (r : RepV κ H M v x) : ∃ p, x = .ref p ∧ SqL κ.K H p (ns.map V.int) := by
  unfold listInts at e
  split at e
  · rename_i i
    split at e
    · rename_i c e1
      obtain ⟨p, rfl, m⟩ := r
      obtain ⟨vs, hs, rr⟩ := CeOk.seq e1 (hh.cell i c p (sq_at e1) m)
      rw [toInts_eq e] at rr
      rw [rr.ints] at hs
      exact ⟨p, rfl, hs⟩
    · cases e
  · cases (show Rep κ H _ x from r) with
    | @fl a _ vs h rr =>
      rw [toInts_eq e] at rr
      rw [rr.ints] at h
      exact ⟨a, rfl, h.sqL⟩
  · cases e
def bMax (n : Nat) (vs : List Vl) (S : Sto) : Rs Vl := match vs with
  | [.d (.int i), .d (.int j)] => .ok (.d (.int (if j > i then j else i))) S
  | [v] => match listInts v S with
    | some (m :: ns) => .ok (.d (.int (maxI (m :: ns)))) (S.take n)
    | _ => .bad
  | _ => .bad
def bMin (n : Nat) (vs : List Vl) (S : Sto) : Rs Vl := match vs with
  | [.d (.int i), .d (.int j)] => .ok (.d (.int (if j < i then j else i))) S
  | [v] => match listInts v S with
    | some (m :: ns) => .ok (.d (.int (minI (m :: ns)))) (S.take n)
    | _ => .bad
  | _ => .bad
def rMax3 (κ : KW) : List V → Hp → VK → Prop := fun xs H Q => (∃ i j, xs = [.int i, .int j] ∧ Q (.int (if j > i then j else i)) H) ∨ rMax κ.K xs H Q
def rMin3 (κ : KW) : List V → Hp → VK → Prop := fun xs H Q => (∃ i j, xs = [.int i, .int j] ∧ Q (.int (if j < i then j else i)) H) ∨ rMin κ.K xs H Q
theorem call_max3 {X : Cx} (hc : X.calm = true) : CallR X (.builtin "max") (rMax3 X.κ) := (call_max2 hc).or (cr_max hc)
theorem call_min3 {X : Cx} (hc : X.calm = true) : CallR X (.builtin "min") (rMin3 X.κ) := (call_min2 hc).or (cr_min hc)
theorem rc_max : RC κ bMax (rMax3 κ) := by
  intro F W σ H M0 M S vs xs Q p hh rv hp
  unfold bMax at hp
  split at hp
  · obtain ⟨x, y, rfl, r1, r2⟩ := repV2 rv
    cases (show Rep κ H _ x from r1)
    cases (show Rep κ H _ y from r2)
    exact .inl ⟨_, _, rfl, hp.val hh p _ (.int _)⟩
  · split at hp
    · rename_i m ns e
      obtain ⟨x, rfl, r⟩ := repV1 rv
      obtain ⟨q, rfl, hs⟩ := listInts_rep hh e r
      refine .inr ⟨q, m :: ns, rfl, hs, Nat.zero_lt_succ _, fun k hk hm => ?_⟩
      rw [maxI_max hk hm]
      exact hp.val (hh.take _) (take_pre p) _ (.int _)
    · exact hp.elim
  · exact hp.elim
theorem rc_min : RC κ bMin (rMin3 κ) := by
  intro F W σ H M0 M S vs xs Q p hh rv hp
  unfold bMin at hp
  split at hp
  · obtain ⟨x, y, rfl, r1, r2⟩ := repV2 rv
    cases (show Rep κ H _ x from r1)
    cases (show Rep κ H _ y from r2)
    exact .inl ⟨_, _, rfl, hp.val hh p _ (.int _)⟩
  · split at hp
    · rename_i m ns e
      obtain ⟨x, rfl, r⟩ := repV1 rv
      obtain ⟨q, rfl, hs⟩ := listInts_rep hh e r
      refine .inr ⟨q, m :: ns, rfl, hs, Nat.zero_lt_succ _, fun k hk hm => ?_⟩
      rw [minI_min hk hm]
      exact hp.val (hh.take _) (take_pre p) _ (.int _)
    · exact hp.elim
  · exact hp.elim
/-- sum of a tuple of ints -/
def rSumT (κ : KW) : List V → Hp → VK → Prop := fun vs H Q => ∃ (a : Addr) (ns : List Int), vs = [V.ref a] ∧ SqT κ.K H a (ns.map V.int) ∧ Q (.int ns.sum) H
theorem cr_sumT {X : Cx} (hc : X.calm = true) : CallR X (.builtin "sum") (rSumT X.κ) := by
  intro pins s σ H vs us Q I r h
  obtain ⟨a, ns, rfl, hs, q⟩ := h
  obtain ⟨its, rv, hl, _⟩ := I.tuple hs
  rw [Vals.ref1 r]
  have hi := rv.ints
  obtain ⟨xs, e⟩ := hi.allInts.items
  have hn : numsOf (intItems xs).toList = ns := by rw [← e]; exact hi.numsOf
  have hl' : s.heap.IsTuple a its.toArray := hl
  rw [e] at hl'
  refine PySem.W.ktm_sumG (I.ok.hd hc) hl' fun h' tk t' hk => ?_
  refine ⟨.int ns.sum, H, I.kept hk, ⟨t', ?_⟩, q⟩
  rw [nums_intItems] at hn
  subst hn
  rw [preSum_eq, List.take_of_length_le (by simp)]
def bSum (n : Nat) (vs : List Vl) (S : Sto) : Rs Vl := match vs with
  | [v] => match itemsOf v S with
    | some ds => match toInts ds with
      | some ns => .ok (.d (.int ns.sum)) (S.take n)
      | none => .bad
    | none => .bad
  | _ => .bad
def rSum3 (κ : KW) : List V → Hp → VK → Prop := fun xs H Q => rSum κ.K xs H Q ∨ rSumT κ xs H Q
theorem call_sum3 {X : Cx} (hc : X.calm = true) : CallR X (.builtin "sum") (rSum3 X.κ) := (cr_sum hc).or (cr_sumT hc)
theorem rc_sum : RC κ bSum (rSum3 κ) := by
  intro F W σ H M0 M S vs xs Q p hh rv hp
  unfold bSum at hp
  split at hp
  · split at hp
    · rename_i ds e
      split at hp
      · rename_i ns e2
        obtain ⟨x, rfl, r⟩ := repV1 rv
        obtain ⟨q, vs, rfl, hs, rr⟩ := itemsOf_rep hh e r
        rw [toInts_eq e2] at rr
        rw [rr.ints] at hs
        have fin := hp.val (hh.take _) (take_pre p) _ (Rep.int _)
        rcases hs with hs | hs
        · exact .inl ⟨q, ns, rfl, hs, fin⟩
        · exact .inr ⟨q, ns, rfl, hs, fin⟩
      · exact hp.elim
    · exact hp.elim
  · exact hp.elim
def listBls (v : Vl) (S : Sto) : Option (List Bool) := match v with
  | .r i => match sq S i with
    | some c => toBls c.items
    | none => none
  | .d (.fl xs) => toBls xs
  | _ => none
theorem listBls_rep {H : Hp} {M : List Addr} {S : Sto} {v : Vl} {x : V} {ns : List Bool} (hh : Hold κ F H M S) (e : listBls v S = some ns) (r : RepV κ H M v x) : ∃ p, x = .ref p ∧ SqL κ.K H p (ns.map V.bl) := by
  unfold listBls at e
  split at e
  · rename_i i
    split at e
    · rename_i c e1
      obtain ⟨p, rfl, m⟩ := r
      obtain ⟨vs, hs, rr⟩ := CeOk.seq e1 (hh.cell i c p (sq_at e1) m)
      rw [toBls_eq e] at rr
      rw [rr.bls] at hs
      exact ⟨p, rfl, hs⟩
    · cases e
  · cases (show Rep κ H _ x from r) with
    | @fl a _ vs h rr =>
      rw [toBls_eq e] at rr
      rw [rr.bls] at h
      exact ⟨a, rfl, h.sqL⟩
  · cases e
def bAll (n : Nat) (vs : List Vl) (S : Sto) : Rs Vl := match vs with
  | [v] => match listBls v S with
    | some ns => .ok (.d (.bl (ns.all id))) (S.take n)
    | none => .bad
  | _ => .bad
def bAny (n : Nat) (vs : List Vl) (S : Sto) : Rs Vl := match vs with
  | [v] => match listBls v S with
    | some ns => .ok (.d (.bl (ns.any id))) (S.take n)
    | none => .bad
  | _ => .bad
theorem rc_all : RC κ bAll (rAll κ.K) := by
  intro F W σ H M0 M S vs xs Q p hh rv hp
  unfold bAll at hp
  split at hp
  · split at hp
    · rename_i ns e
      obtain ⟨x, rfl, r⟩ := repV1 rv
      obtain ⟨q, rfl, hs⟩ := listBls_rep hh e r
      exact ⟨q, ns, rfl, hs, hp.val (hh.take _) (take_pre p) _ (.bl _)⟩
    · exact hp.elim
  · exact hp.elim
theorem rc_any : RC κ bAny (rAny κ.K) := by
  intro F W σ H M0 M S vs xs Q p hh rv hp
  unfold bAny at hp
  split at hp
  · split at hp
    · rename_i ns e
      obtain ⟨x, rfl, r⟩ := repV1 rv
      obtain ⟨q, rfl, hs⟩ := listBls_rep hh e r
      exact ⟨q, ns, rfl, hs, hp.val (hh.take _) (take_pre p) _ (.bl _)⟩
    · exact hp.elim
  · exact hp.elim
def bTuple (n : Nat) (vs : List Vl) (S : Sto) : Rs Vl := match vs with
  | [v] => match itemsOf v S with
    | some ds => .ok (.d (.tup ds)) (S.take n)
    | none => .bad
  | _ => .bad
theorem rc_tuple : RC κ bTuple (fun xs H Q => ∃ p ys, xs = [.ref p] ∧ ((SqL κ.K H p ys ∧ ∀ l, H l = none → Q (.ref l) (upd H l (.tup ys))) ∨ (SqT κ.K H p ys ∧ Q (.ref p) H))) := by
  intro F W σ H M0 M S vs xs Q p hh rv hp
  unfold bTuple at hp
  split at hp
  · split at hp
    · rename_i ds e
      obtain ⟨x, rfl, r⟩ := repV1 rv
      obtain ⟨q, vs, rfl, hs, rr⟩ := itemsOf_rep hh e r
      refine ⟨q, vs, rfl, ?_⟩
      rcases hs with hs | hs
      · exact .inl ⟨hs, fun l hl => hp _ _ (Ext.new hl) (take_pre p) ((hh.take _).new hl) _ (Rep.tup (SqT.of upd_same) (rr.mono (Ext.new hl)))⟩
      · exact .inr ⟨hs, hp.val (hh.take _) (take_pre p) _ (Rep.tup hs rr)⟩
    · exact hp.elim
  · exact hp.elim
def bList (n : Nat) (vs : List Vl) (S : Sto) : Rs Vl := match vs with
  | [v] => match itemsOf v S with
    | some ds => .ok (.r n) (S.take n ++ [.lst ds])
    | none => .bad
  | _ => .bad
theorem rc_list : RC κ bList (fun xs H Q => ∃ p ys, xs = [.ref p] ∧ (SqL κ.K H p ys ∨ SqT κ.K H p ys) ∧ ∀ l, H l = none → Q (.ref l) (upd H l (.lst ys))) := by
  intro F W σ H M0 M S vs xs Q p hh rv hp
  unfold bList at hp
  split at hp
  · split at hp
    · rename_i ds e
      obtain ⟨x, rfl, r⟩ := repV1 rv
      obtain ⟨q, vs, rfl, hs, rr⟩ := itemsOf_rep hh e r
      exact ⟨q, vs, rfl, hs, fun l hl => hp _ _ (Ext.new hl) (take_app p) ((hh.take _).cons hl rr) _ ⟨l, rfl, at_new p⟩⟩
    · exact hp.elim
  · exact hp.elim
/-- the built-in class of a value -/
def tyOf (v : Vl) (S : Sto) : Option String := match v with
  | .d .non => some "NoneType"
  | .d (.bl _) => some "bool"
  | .d (.int _) => some "int"
  | .d (.str _) => some "str"
  | .d (.tup _) => some "tuple"
  | .r i => match S[i]? with
    | some (.lst _) => some "list"
    | some (.frz _) => some "list"
    | some (.oth (.dK _)) => some "dict"
    | _ => none
  | .d (.fl _) => some "list"
  | _ => none
theorem frz_ty {H : Hp} {p : Addr} {vs : List V} (h : Frz κ.K H p vs) : TyX κ.K H (.ref p) (.type "list") := by
  rcases h with ⟨o, h⟩ | h
  · exact .base (.frz h)
  · rcases h with (h | ⟨o, h⟩) | ⟨o, its, n, h, hc, _⟩
    · cases h
    · cases h
    · exact .kList h hc
theorem tyOf_rep {H : Hp} {M : List Addr} {S : Sto} {v : Vl} {x : V} {t : String} (hh : Hold κ F H M S) (e : tyOf v S = some t) (r : RepV κ H M v x) : TyX κ.K H x (.type t) := by
  unfold tyOf at e
  split at e
  · cases e
    cases (show Rep κ H _ x from r)
    exact .base .non
  · cases e
    cases (show Rep κ H _ x from r)
    exact .base (.bl _)
  · cases e
    cases (show Rep κ H _ x from r)
    exact .base (.int _)
  · cases e
    cases (show Rep κ H _ x from r)
    exact .base (.str _)
  · cases e
    cases (show Rep κ H _ x from r) with
    | @tup a _ vs h rr =>
      rcases h with (h | ⟨o, h⟩) | ⟨o, its, n, h, hc, _⟩
      · exact .base (.tup h)
      · exact .fTuple h
      · exact .kTuple h hc
  · rename_i i
    split at e
    · rename_i xs e1
      cases e
      obtain ⟨p, rfl, m⟩ := r
      obtain ⟨vs, h, _⟩ := hh.cell i _ p e1 m
      exact .base (.lst h)
    · rename_i xs e1
      cases e
      obtain ⟨p, rfl, m⟩ := r
      obtain ⟨vs, h, _⟩ := hh.cell i _ p e1 m
      exact frz_ty h
    · rename_i xs e1
      cases e
      obtain ⟨p, rfl, m⟩ := r
      obtain ⟨hs, h, _⟩ := hh.cell i _ p e1 m
      exact .base (.dK h)
    · cases e
  · cases e
    cases (show Rep κ H _ x from r) with
    | @fl a _ vs h rr => exact frz_ty h
  · cases e
end
section
variable {X : Cx} {Z : L2.St → Prop} {W : WX} {a b c e : Expr} {es : List Expr} {pos : Pos} {ma mb mc me : ME} {mas : MA} {mt mu : MT}
/-- isinstance(x, T), T a built-in class -/
def mIsi (T : String) (me : ME) : ME := fun ρ S => (me ρ S).bind fun v S1 => match tyOf v S1 with
  | some t => match kitB t T with
    | some k => .ok (.d (.bl k)) (S1.take S.length)
    | none => .bad
  | none => .bad
theorem de_isi {p p2 : Pos} {tn : Str} (T : String) (hm : X.mg "isinstance" = none) (hm2 : X.mg tn = none) (hv : bootBuiltins tn = some (.type T)) (he : DE X Z W e me) (hg : Gl X "isinstance" := by rfl) (hg2 : Gl X tn := by rfl) (hn : tn ≠ "__name__" := by decide) (hd : (tn == ("__debug__" : Str)) = false := by decide)
    (hb : bootBuiltins "isinstance" = some (.builtin "isinstance") := by decide +kernel)
    (h1 : starEach (e :: [.Name tn p2]) X.env = (false, eval e X.env) :: starEach [.Name tn p2] X.env := by rfl) (h2 : starEach [.Name tn p2] X.env = (false, eval (.Name tn p2) X.env) :: starEach [] X.env := by rfl)
    (hpl : (backTo pos (starEach [.Name tn p2] X.env)).any (·.1) = false := by rfl) : DE X Z W (.Call (.Name "isinstance" p) [e, .Name tn p2] [] pos) (mIsi T me) :=
  pe_imp (pe_callB call_isi hg hm hb (pa_cons he (pa_cons (pe_bltn (v := .ty T) hg2 hm2 hv rfl hn hd) pa_nil h2) h1) (by decide) (by decide) h1 hpl) fun σ H Q ⟨z, F, M, S, ρ, hh, he, hp⟩ => by
    refine ⟨z, F, M, S, ρ, hh, he, step hp List.prefix_rfl fun v M1 H1 S1 x1 p1 hh1 hp1 => ?_⟩
    intro x rx
    split at hp1
    · rename_i t et
      split at hp1
      · rename_i k ek
        refine ⟨x, .ty T, .type t, .type T, k, rfl, .ty T, tyOf_rep hh1 et rx, kit_ty ek, ?_⟩
        rw [← hh.len] at hp1
        exact hp1.val (hh1.take _) (take_pre p1) _ (.bl k)
      · exact hp1.elim
    · exact hp1.elim
end
end Mo
/-! Own calls, targets, statements, loops, comprehensions. -/
namespace Mo
open PySem PySem.Spec PyProof.Rows L2

abbrev ZT : L2.St → Prop := fun _ => True
/-! ### what a def promises -/
def spM (κ : KW) (g : List Vl → Sto → Rs Vl) : Sp := fun vs H Q E => ∃ F M S as, Hold κ F H M S ∧ RepVs κ H M as vs ∧
  Post κ F (fun cls d _ H => E cls d H) [] M H (g as S) (fun v M' H' => ∀ x, RepV κ H' M' v x → Q x H')
def exitR (n : Nat) : Rss → Rs Vl
  | .ret (.d x) S => .ok (.d x) (S.take n)
  | .ret (.r i) S => if i < n then .ok (.r i) (S.take n) else match S[i]? with
    | some c => .ok (.r n) (S.take n ++ [c])
    | none => .bad
  | .next _ S => .ok (.d .non) (S.take n)
  | .exc e _ S => .exc e (S.take n)
  | _ => .bad
/-- a def of k parameters and n names -/
def fnM (k n : Nat) (body : MS) : List Vl → Sto → Rs Vl := fun as S => if as.length = k then exitR S.length (body (as.map some ++ List.replicate (n - k) none) S) else .bad
theorem post_W {α : Type} {κ : KW} {F : Hp} {W : WX} {σ : L2.St} {M : List Addr} {H : Hp} {r : Rs α} {P : α → List Addr → Hp → Prop} (h : Post κ F W σ M H r P) : Post κ F (fun cls d _ H => W cls d σ H) [] M H r P := by
  cases r with
  | ok v S => exact h
  | exc e S => exact h
  | bad => exact h
theorem start_env {κ : KW} {H : Hp} {M : List Addr} {as : List Vl} {vs : List V} {N : List Str} (r : RepVs κ H M as vs) : EnvR κ H M (as.map some ++ List.replicate (N.length - as.length) none) (L2.start N vs) := by
  have hl := r.length
  have key : ∀ {as : List Vl} {vs : List V}, RepVs κ H M as vs → ∀ (i : Nat) (v : Vl), as[i]? = some v → ∃ x, vs[i]? = some x ∧ RepV κ H M v x := by
    intro as vs r
    induction r with
    | nil => intro i v e; simp at e
    | cons r t ih =>
      intro i v e
      cases i with
      | zero => simp at e; subst e; exact ⟨_, rfl, r⟩
      | succ i => simpa using ih i v (by simpa using e)
  unfold L2.start
  rw [← hl]
  refine ⟨by simp [hl], fun i v e => ?_⟩
  by_cases hi : i < as.length
  · rw [List.getElem?_append_left (by simpa using hi)] at e
    rw [List.getElem?_append_left (by simpa [← hl] using hi)]
    rw [List.getElem?_map] at e ⊢
    cases q : as[i]? with
    | none => rw [q] at e; cases e
    | some w =>
      rw [q] at e
      have e' : w = v := Option.some.inj (Option.some.inj e)
      subst e'
      obtain ⟨x, h1, h2⟩ := key r i w q
      exact ⟨x, by rw [h1]; rfl, h2⟩
  · rw [List.getElem?_append_right (by simpa using hi), List.getElem?_replicate] at e
    split at e
    · cases e
    · cases e
section
variable {κ : KW} {base : Heap}
theorem exit_post {F : Hp} {W : WX} {Q : VK} {M : List Addr} {S : Sto} {H : Hp} {r : Rss} {E : XK} (hh : Hold κ F H M S) (h : Post κ F (fun cls d _ H => E cls d H) [] M H (exitR S.length r) (fun v M' H' => ∀ x, RepV κ H' M' v x → Q x H')) :
    PostS κ F ZT (fun cls d _ H => E cls d H) { nx := fun _ H' => Q .non H', rt := Q } M H r := by
  have fin : ∀ {M' : List Addr} {H' : Hp} {S' : Sto}, M <+: M' → Hold κ F H' M' S' → Hold κ F H' M (S'.take S.length) := fun {M' H' S'} p h' => by
    have q := h'.take M.length
    rw [pre_take p, hh.len] at q
    exact q
  cases r with
  | next ρ S' => exact fun σ' H' M' _ x p h' _ => h H' M x List.prefix_rfl (fin p h') .non Rep.non
  | ret v S' =>
    intro x H' M' ex p h' rx
    cases v with
    | d y => exact h H' M ex List.prefix_rfl (fin p h') x rx
    | r i =>
      obtain ⟨a, ea, m⟩ := rx
      have h2 : Post κ F (fun cls d _ H => E cls d H) [] M H (if i < S.length then .ok (.r i) (S'.take S.length) else match S'[i]? with
        | some c => .ok (.r S.length) (S'.take S.length ++ [c])
        | none => .bad) (fun v M' H' => ∀ x, RepV κ H' M' v x → Q x H') := h
      by_cases hi : i < S.length
      · rw [if_pos hi] at h2
        refine h2 H' M ex List.prefix_rfl (fin p h') x ⟨a, ea, ?_⟩
        obtain ⟨t, rfl⟩ := p
        rw [List.getElem?_append_left (by rw [hh.len]; exact hi)] at m
        exact m
      · rw [if_neg hi] at h2
        cases e : S'[i]? with
        | some c =>
          rw [e] at h2
          have q := h'.keep1 (n := M.length) (by rw [hh.len]; omega) e m
          rw [pre_take p, hh.len] at q
          exact h2 H' _ ex (pre_app List.prefix_rfl) q x ⟨a, ea, at_end hh.len⟩
        | none =>
          rw [e] at h2
          exact h2.elim
    | e c => exact h.elim
  | brk ρ S' => exact h.elim
  | cont ρ S' => exact h.elim
  | exc e ρ S' => exact fun C σ' H' M' _ x p h' _ g => h C H' M x List.prefix_rfl (fin p h') g
  | bad => exact h.elim
theorem fn_okM {x qual : Str} {st : Stmt} {f : Addr} {fd : FuncData} {N ps : List Str} {k : Nat} {body : MS} (Fu : Fun κ.K x qual st f fd) (Sc : FnScope N ps (defScope st))
    (hb : ∀ (cdv : Value) (A : Around) (outer : List PySem.Env) (s : Shared) (H : Hp) (E : XK), Room k (A.deeper (envOfC qual (defScope st) s.heap.objs.size f cdv)) →
      PSs (cxOf (L2.CX κ.P κ.w) κ.P κ.w κ.K κ.mg base N qual (defScope st) f cdv A outer s H E) (defBody st) (tMS κ ZT (fun cls d _ H => E cls d H) body)) :
    FnOk κ.P κ.w κ.K κ.mg base (L2.CX κ.P κ.w) (k + 1) f fd ps (spM κ (fnM ps.length N.length body)) := by
  refine Fu.okX Sc (fun vs H Q E h => ?_) (fun cdv A outer s H vs Q E hr h => ⟨_, hb cdv A outer s H E hr, ?_⟩)
  · obtain ⟨F, M, S, as, hh, r, hp⟩ := h
    unfold fnM at hp
    split at hp
    · rename_i e
      rw [← r.length, e]
    · exact hp.elim
  · obtain ⟨F, M, S, as, hh, r, hp⟩ := h
    unfold fnM at hp
    split at hp
    · rename_i e
      refine ⟨trivial, F, M, S, _, hh, start_env r, ?_⟩
      rw [e]
      exact exit_post (W := fun _ _ _ _ => False) hh hp
    · exact hp.elim
end

section
variable {X : Cx} {Z : L2.St → Prop} {W : WX} {a b c e : Expr} {es : List Expr} {pos : Pos} {ma mb mc me : ME} {mas : MA} {mt mu : MT} {st : Stmt} {rest body : List Stmt} {m1 m2 : MS}
/-- f(..) -/
def mFn (g : List Vl → Sto → Rs Vl) (mas : MA) : ME := fun ρ S => (mas ρ S).bind fun vs S1 => g vs S1
theorem de_call {k : Nat} {f : Addr} {fd : FuncData} {ps : List Str} {g : List Vl → Sto → Rs Vl} {x : Str} {p : Pos} (Fn : FnOk X.prog X.w X.K X.mg X.base (L2.CX X.prog X.w) k f fd ps (spM X.κ g)) (hr : Room k X.A) (hm : X.mg x = some (.ref f)) (hk : PySem.W.keepIn X.K (.ref f) = true) (hb : Binds X.K fd ps []) (tk : Takes X W)
    (ha : DA X Z W (e :: es) mas) (hg : Gl X x := by rfl) (hdb : (x == ("__debug__" : Str)) = false := by decide) (he : starEach (e :: es) X.env = (false, eval e X.env) :: starEach es X.env := by rfl) (hpl : (backTo pos (starEach es X.env)).any (·.1) = false := by rfl) :
    DE X Z W (.Call (.Name x p) (e :: es) [] pos) (mFn g mas) := pe_imp (pe_callS Fn hr hg hm hk hb (fun σ => passAt tk σ) ha hdb he hpl) fun σ H Q ⟨z, F, M, S, ρ, hh, he, hp⟩ => by
  refine ⟨z, F, M, S, ρ, hh, he, step hp List.prefix_rfl fun vs M1 H1 S1 x1 p1 hh1 hp1 => ?_⟩
  intro xs rxs
  exact ⟨F, M1, S1, vs, hh1, rxs, post_W (Post.pre hp1 p1)⟩

/-! ### targets -/
/-- a name, or a tuple of names, by slots -/
inductive Tg where
  | one (i : Nat) | many (is : List Nat)
def Tg.slots : Tg → List Nat
  | .one i => [i]
  | .many is => is
def gsOf : List Nat → TGs
  | [] => gNil
  | i :: is => gCons (gName i) (gsOf is)
def tgT (κ : KW) : Tg → TG
  | .one i => gName i
  | .many is => gTup κ.K is.length (gsOf is)
def setAll : Rho → List Nat → List Dt → Rho
  | ρ, i :: is, x :: xs => setAll (ρ.set i (some (.d x))) is xs
  | ρ, _, _ => ρ
def setV : L2.St → List Nat → List V → L2.St
  | σ, i :: is, x :: xs => setV (σ.set i (some x)) is xs
  | σ, _, _ => σ
def tgM (t : Tg) (v : Vl) (ρ : Rho) : Option Rho := match t, v with
  | .one i, v => some (ρ.set i (some v))
  | .many is, .d (.tup xs) => if xs.length = is.length then some (setAll ρ is xs) else none
  | _, _ => none
abbrev DG (X : Cx) (e : Expr) (t : Tg) : Prop := PG X e (tgT X.κ t)
theorem dg_one (i : Nat) {x : Str} (hN : X.N.Nodup) (hi : X.N[i]? = some x := by rfl) (hx : Loc X.env.scope x := by first | exact Or.inl rfl | exact Or.inr rfl) (hf : X.fn x = true ∨ X.env.scope.names.lookup x = some .local := by first | exact .inl rfl | exact .inr rfl) : DG X (.Name x pos) (.one i) := pg_name hN hi hx hf
theorem dg_many {is : List Nat} {es : List Expr} {k : Nat} (hc : X.calm = true) (h : PGs X es (gsOf is)) (hn : (assignEach es X.env).length = is.length := by rfl) (hst : (assignEach es X.env).findIdx? (·.1) = none := by rfl) : DG X (.Tuple es k pos) (.many is) := pg_tup hc h hn hst
theorem dgs_nil : PGs X [] (gsOf []) := pgs_nil
theorem dgs_cons (i : Nat) {x : Str} {is : List Nat} {es : List Expr} {p : Pos} (hN : X.N.Nodup) (h : PGs X es (gsOf is)) (hi : X.N[i]? = some x := by rfl) (hx : Loc X.env.scope x := by first | exact Or.inl rfl | exact Or.inr rfl) (hf : X.fn x = true ∨ X.env.scope.names.lookup x = some .local := by first | exact .inl rfl | exact .inr rfl)
    (hs : (assignEach (.Name x p :: es) X.env).map (·.2) = assign (.Name x p) X.env :: (assignEach es X.env).map (·.2) := by rfl) : PGs X (.Name x p :: es) (gsOf (i :: is)) := pgs_cons (pg_name hN hi hx hf) h hs
theorem wipe_get (σ : L2.St) (j : Nat) : ∀ vs : List Nat, (wipe σ vs)[j]? = if j ∈ vs then (if j < σ.length then some none else none) else σ[j]?
  | [] => by simp [wipe]
  | v :: vs => by
    unfold wipe
    by_cases h : v = j
    · subst h
      rw [if_pos List.mem_cons_self]
      by_cases hl : v < σ.length
      · rw [if_pos hl, List.getElem?_set_self (by rw [wipe_length]; exact hl)]
      · rw [if_neg hl, List.getElem?_eq_none (by rw [List.length_set, wipe_length]; omega)]
    · rw [List.getElem?_set_ne h, wipe_get σ j vs]
      by_cases hm : j ∈ vs
      · rw [if_pos hm, if_pos (List.mem_cons_of_mem _ hm)]
      · rw [if_neg hm, if_neg (by simp only [List.mem_cons, not_or]; exact ⟨fun e => h e.symm, hm⟩)]
theorem wipe_set {σ : L2.St} {vs : List Nat} {i : Nat} (h : i ∈ vs) (x : Option V) : wipe (σ.set i x) vs = wipe σ vs := by
  apply List.ext_getElem?
  intro j
  rw [wipe_get, wipe_get]
  split
  · rw [List.length_set]
  · rename_i hj
    rw [List.getElem?_set_ne (fun e => hj (by rw [← e]; exact h))]
theorem wipe_wipe {σ : L2.St} {vs : List Nat} : wipe (wipe σ vs) vs = wipe σ vs := by
  apply List.ext_getElem?
  intro j
  rw [wipe_get, wipe_get, wipe_length]
  split
  · rfl
  · rfl
theorem tg_read {κ : KW} {H : Hp} {M : List Addr} {ρ ρ' : Rho} {σ : L2.St} {w : Vl} {v : V} {Q : L2.St → Hp → Prop} {t : Tg} (h : tgM t w ρ = some ρ') (r : RepV κ H M w v) (he : EnvR κ H M ρ σ)
    (k : ∀ σ', EnvR κ H M ρ' σ' → (∀ vs : List Nat, (∀ i ∈ t.slots, i ∈ vs) → wipe σ' vs = wipe σ vs) → Q σ' H) : tgT κ t v σ H Q := by
  unfold tgM at h
  split at h
  · rename_i i
    cases h
    exact k _ (he.set r i) fun vs hv => wipe_set (hv i (List.mem_singleton.mpr rfl)) _
  · rename_i is xs
    split at h
    · rename_i hl
      cases h
      cases (show Rep κ H _ v from r) with
      | @tup a _ vs hs rr =>
      refine ⟨a, vs, rfl, hs, by rw [← rr.length, hl], ?_⟩
      have all : ∀ (is : List Nat) (xs : List Dt) (vs : List V) (ρ : Rho) (σ : L2.St), xs.length = is.length → RepL κ H xs vs → EnvR κ H M ρ σ →
          (∀ σ', EnvR κ H M (setAll ρ is xs) σ' → (∀ ws : List Nat, (∀ i ∈ is, i ∈ ws) → wipe σ' ws = wipe σ ws) → Q σ' H) → gsOf is vs σ H Q := by
        intro is
        induction is with
        | nil =>
          intro xs vs ρ σ hl rr he k
          cases xs with
          | nil => cases rr; exact ⟨rfl, k σ (by unfold setAll; exact he) fun _ _ => rfl⟩
          | cons x xs => cases hl
        | cons i is ih =>
          intro xs vs ρ σ hl rr he k
          cases xs with
          | nil => cases hl
          | cons x xs =>
            cases rr with
            | cons r1 rt =>
              refine ⟨_, _, rfl, ?_⟩
              refine ih xs _ (ρ.set i (some (.d x))) _ (by simpa using hl) rt (he.set (v := .d x) r1 i) fun σ' he' hw => ?_
              refine k σ' he' fun ws hi => ?_
              rw [hw ws fun j hj => hi j (List.mem_cons_of_mem _ hj), wipe_set (hi i List.mem_cons_self)]
      exact all is xs vs ρ σ hl rr he k
    · cases h
  · cases h

/-! ### statements -/
abbrev DS (X : Cx) (Z : L2.St → Prop) (W : WX) (e : Stmt) (m : MS) : Prop := PS X e (tMS X.κ Z W m)
abbrev DSs (X : Cx) (Z : L2.St → Prop) (W : WX) (e : List Stmt) (m : MS) : Prop := PSs X e (tMS X.κ Z W m)
theorem ps_imp {t t' : TS} (h : PS X st t) (f : ∀ D σ H, t' D σ H → t D σ H) : PS X st t' := ⟨fun pins s σ H D I q => h.run pins s σ H D I (f D σ H q)⟩
theorem pss_imp {t t' : TS} (h : PSs X rest t) (f : ∀ D σ H, t' D σ H → t D σ H) : PSs X rest t' := ⟨fun pins s σ H D I q => h.run pins s σ H D I (f D σ H q)⟩
def mSkip : MS := fun ρ S => .next ρ S
def mSeq (m1 m2 : MS) : MS := fun ρ S => match m1 ρ S with
  | .next ρ1 S1 => m2 ρ1 S1
  | r => r
theorem dss_nil : DSs X Z W [] mSkip := pss_imp pss_nil fun D σ H ⟨z, F, M, S, ρ, hh, he, hp⟩ => hp σ H M z (Ext.refl H) List.prefix_rfl hh he
theorem dss_one (h : DS X Z W st m1) : DSs X Z W [st] m1 := pss_one h
theorem dss_cons (h1 : DS X Z W st m1) (h2 : DSs X Z W rest m2) : DSs X Z W (st :: rest) (mSeq m1 m2) := pss_imp (pss_cons h1 h2) fun D σ H ⟨z, F, M, S, ρ, hh, he, hp⟩ => by
  refine ⟨z, F, M, S, ρ, hh, he, ?_⟩
  unfold mSeq at hp
  cases e : m1 ρ S with
  | next ρ1 S1 =>
    rw [e] at hp
    exact fun σ' H' M' z' x p hh' he' => ⟨z', F, M', S1, ρ1, hh', he', PostS.mono hp x p⟩
  | ret v S1 => rw [e] at hp; exact hp
  | brk ρ1 S1 => rw [e] at hp; exact hp
  | cont ρ1 S1 => rw [e] at hp; exact hp
  | exc x ρ1 S1 => rw [e] at hp; exact hp
  | bad => rw [e] at hp; exact hp
theorem ds_pass : DS X Z W (.Pass pos) mSkip := ps_imp ps_pass fun D σ H ⟨z, F, M, S, ρ, hh, he, hp⟩ => hp σ H M z (Ext.refl H) List.prefix_rfl hh he
def mBreak : MS := fun ρ S => .brk ρ S
def mCont : MS := fun ρ S => .cont ρ S
theorem ds_break : DS X Z W (.Break pos) mBreak := ps_imp ps_break fun D σ H ⟨z, F, M, S, ρ, hh, he, hp⟩ => hp σ H M z (Ext.refl H) List.prefix_rfl hh he
theorem ds_continue : DS X Z W (.Continue pos) mCont := ps_imp ps_continue fun D σ H ⟨z, F, M, S, ρ, hh, he, hp⟩ => hp σ H M z (Ext.refl H) List.prefix_rfl hh he
/-- from a statement's wish to an expression's -/
theorem stepS {D : Ends} {σ : L2.St} {M : List Addr} {H : Hp} {ρ : Rho} {r : Rs Vl} {f : Vl → Sto → Rss} {P' : Vl → List Addr → Hp → Prop} (z : Z σ) (he : EnvR X.κ H M ρ σ) (h : PostS X.κ F Z W D M H (r.thenS ρ f))
    (k : ∀ v M2 H1 S1, Ext H H1 → M <+: M2 → Hold X.κ F H1 M2 S1 → PostS X.κ F Z W D M H1 (f v S1) → P' v M2 H1) : Post X.κ F W σ M H r P' :=
  (PostS.thenS z he List.prefix_rfl h).imp fun v M2 H1 _ _ ⟨x, p, S1, hh, q⟩ => k v M2 H1 S1 x p hh q
theorem stepT {D : Ends} {σ : L2.St} {M : List Addr} {H : Hp} {ρ : Rho} {r : Rs Bool} {f : Bool → Sto → Rss} {P' : Bool → List Addr → Hp → Prop} (z : Z σ) (he : EnvR X.κ H M ρ σ) (h : PostS X.κ F Z W D M H (r.thenT ρ f))
    (k : ∀ v M2 H1 S1, Ext H H1 → M <+: M2 → Hold X.κ F H1 M2 S1 → PostS X.κ F Z W D M H1 (f v S1) → P' v M2 H1) : Post X.κ F W σ M H r P' :=
  (PostS.thenT z he List.prefix_rfl h).imp fun v M2 H1 _ _ ⟨x, p, S1, hh, q⟩ => k v M2 H1 S1 x p hh q
def mRet (me : ME) : MS := fun ρ S => (me ρ S).thenS ρ fun v S1 => .ret v S1
theorem ds_ret (h : DE X Z W e me) : DS X Z W (.Return (some e) pos) (mRet me) := ps_imp (ps_ret h) fun D σ H ⟨z, F, M, S, ρ, hh, he, hp⟩ =>
  ⟨z, F, M, S, ρ, hh, he, stepS z he hp fun v M1 H1 S1 x1 p1 hh1 hp1 x rx => hp1 x H1 M1 (Ext.refl _) p1 hh1 rx⟩
def mRetN : MS := fun _ S => .ret (.d .non) S
theorem ds_retN : DS X Z W (.Return none pos) mRetN := ps_imp ps_retN fun D σ H ⟨z, F, M, S, ρ, hh, he, hp⟩ => hp .non H M (Ext.refl H) List.prefix_rfl hh Rep.non
def mDrop (me : ME) : MS := fun ρ S => (me ρ S).thenS ρ fun _ S1 => .next ρ S1
theorem ds_expr (h : DE X Z W e me) (hs : swapsWith e none pos.line X.env = pure false := by rfl) : DS X Z W (.Expr e pos) (mDrop me) := ps_imp (ps_expr h hs) fun D σ H ⟨z, F, M, S, ρ, hh, he, hp⟩ =>
  ⟨z, F, M, S, ρ, hh, he, stepS z he hp fun v M1 H1 S1 x1 p1 hh1 hp1 x rx => hp1 σ H1 M1 z (Ext.refl _) p1 hh1 (he.mono x1 p1)⟩
def mIf (mt : MT) (m1 m2 : MS) : MS := fun ρ S => (mt ρ S).thenT ρ fun k S1 => if k = true then m1 ρ S1 else m2 ρ S1
theorem ds_if {sa sb : List Stmt} (hc : DT X Z W c mt) (ha : DSs X Z W sa m1) (hb : DSs X Z W sb m2) : DS X Z W (.If c sa sb pos) (mIf mt m1 m2) := ps_imp (ps_if hc ha hb) fun D σ H ⟨z, F, M, S, ρ, hh, he, hp⟩ => by
  refine ⟨z, F, M, S, ρ, hh, he, stepT z he hp fun k M1 H1 S1 x1 p1 hh1 hp1 => ?_⟩
  cases k with
  | true =>
    rw [if_pos rfl] at hp1 ⊢
    exact ⟨z, F, M1, S1, ρ, hh1, he.mono x1 p1, PostS.mono hp1 (Ext.refl _) p1⟩
  | false =>
    rw [if_neg Bool.false_ne_true] at hp1 ⊢
    exact ⟨z, F, M1, S1, ρ, hh1, he.mono x1 p1, PostS.mono hp1 (Ext.refl _) p1⟩
/-- target = value -/
def mAsg (t : Tg) (me : ME) : MS := fun ρ S => (me ρ S).thenS ρ fun v S1 => match tgM t v ρ with
  | some ρ1 => .next ρ1 S1
  | none => .bad
theorem asg_read {t : Tg} (D : Ends) (σ : L2.St) (H : Hp) (h : tMS X.κ ZT W (mAsg t me) D σ H) : tAsg (tM X.κ ZT W me) (tgT X.κ t) D σ H := by
  obtain ⟨z, F, M, S, ρ, hh, he, hp⟩ := h
  refine ⟨z, F, M, S, ρ, hh, he, stepS z he hp fun v M1 H1 S1 x1 p1 hh1 hp1 x rx => ?_⟩
  split at hp1
  · rename_i ρ1 e
    exact tg_read e rx (he.mono x1 p1) fun σ' he' _ => hp1 σ' H1 M1 trivial (Ext.refl _) p1 hh1 he'
  · exact hp1.elim
theorem ds_set (i : Nat) {x : Str} {pos' : Pos} (hN : X.N.Nodup) (h : DE X ZT W e me) (hi : X.N[i]? = some x := by rfl) (hx : Loc X.env.scope x := by first | exact Or.inl rfl | exact Or.inr rfl) (hs : swapsWith e (some (.Name x pos')) pos.line X.env = pure false := by rfl) (hf : X.fn x = true ∨ X.env.scope.names.lookup x = some .local := by first | exact .inl rfl | exact .inr rfl) :
    DS X ZT W (.Assign [.Name x pos'] e pos) (mAsg (.one i) me) := ps_imp (ps_set hN hi hx h hs hf) asg_read
theorem ds_asg {t : Tg} {tg : Expr} (h : DE X ZT W e me) (hg : DG X tg t) (hs : swapsWithSole [tg] e pos.line X.env = pure false := by rfl) (hw : swappedStores [tg] e X.env = pure none := by rfl) (h1 : (assignEach [tg] X.env).map (·.2) = [assign tg X.env] := by rfl) :
    DS X ZT W (.Assign [tg] e pos) (mAsg t me) := ps_imp (ps_asg h hg hs hw h1) asg_read
/-- a, b = x, y -/
def mPar (i j : Nat) (mas : MA) : MS := fun ρ S => match mas ρ S with
  | .ok [v, w] S1 => .next ((ρ.set i (some v)).set j (some w)) S1
  | .exc e S1 => .exc e ρ S1
  | _ => .bad
theorem ds_par (i j : Nat) {x y : Str} {px py pt : Pos} {kt k2 : Nat} {pt2 : Pos} (hc : X.calm = true) (hN : X.N.Nodup) (ha : DA X ZT W [a, b] mas) (hi : X.N[i]? = some x := by rfl) (hj : X.N[j]? = some y := by rfl) (hij : i ≠ j := by decide) (hx : X.env.scope.names.lookup x = some .local := by rfl) (hy : X.env.scope.names.lookup y = some .local := by rfl)
    (hw : swappedStores [.Tuple [.Name x px, .Name y py] kt pt] (.Tuple [a, b] k2 pt2) X.env = pure (some [x, y]) := by rfl) (hs : swapsWithSole [.Tuple [.Name x px, .Name y py] kt pt] (.Tuple [a, b] k2 pt2) pos.line X.env = pure false := by rfl) :
    DS X ZT W (.Assign [.Tuple [.Name x px, .Name y py] kt pt] (.Tuple [a, b] k2 pt2) pos) (mPar i j mas) := ps_imp (ps_par hc hN hi hj hij hx hy ha hw hs) fun D σ H ⟨z, F, M, S, ρ, hh, he, hp⟩ => by
  refine ⟨z, F, M, S, ρ, hh, he, ?_⟩
  unfold mPar at hp
  split at hp
  · rename_i v w S1 e
    rw [e]
    intro H' M' x p hh' xs rxs
    obtain ⟨y1, y2, rfl, r1, r2⟩ := repV2 rxs
    exact ⟨y1, y2, rfl, hp _ H' M' trivial x p hh' (((he.mono x p).set r1 i).set r2 j)⟩
  · rename_i e' S1 e
    rw [e]
    exact fun C H' M' x p hh' g => hp C σ H' M' trivial x p hh' (he.mono x p) g
  · exact hp.elim
end
end Mo
/-! Loops, comprehensions, raise, try, methods of lists. -/
namespace Mo
open PySem PySem.Spec PyProof.Rows L2
/-! ### what is walked -/
inductive Iv where
  | tup (xs : List Dt) | cell (i : Nat) | rng (lo : Int) (n : Nat)
abbrev MI := Rho → Sto → Rs Iv
/-- J walks the items xs, which stand still -/
def Walks (κ : KW) (F H : Hp) (xs : List Dt) (J : It) : Prop := ∃ Go : Hp → Prop, Go H ∧ (∀ H' H'', Go H' → Ext H' H'' → Go H'') ∧ (∀ i H', Go H' → i = xs.length → J.stop i H') ∧ (∀ i H', Go H' → i < xs.length → J.go i H') ∧
  ∀ i H' x H'', Go H' → i < xs.length → J.yld i H' x H'' → Ext H' H'' ∧ (∀ M S, Hold κ F H' M S → Hold κ F H'' M S) ∧ ∃ d, xs[i]? = some d ∧ Rep κ H'' d x
theorem walks_tup {κ : KW} {F H : Hp} {xs : List Dt} {a : Addr} {vs : List V} (h : SqT κ.K H a vs) (r : RepL κ H xs vs) : Walks κ F H xs (Itt κ.K a) := by
  refine ⟨fun H' => SqT κ.K H' a vs ∧ RepL κ H' xs vs, ⟨h, r⟩, fun _ _ g x => ⟨x.sqT g.1, g.2.mono x⟩, fun i H' g hi => ⟨vs, g.1, by rw [← g.2.length]; exact Nat.le_of_eq hi.symm⟩, fun i H' g hi => ?_, fun i H' x H'' g _ y => ?_⟩
  · have hv : i < vs.length := by rw [← g.2.length]; exact hi
    exact ⟨vs, vs[i], g.1, List.getElem?_eq_getElem hv⟩
  · obtain ⟨e, y⟩ := y
    subst e
    obtain ⟨d, h1, h2⟩ := g.2.getV (y vs g.1)
    exact ⟨Ext.refl _, fun _ _ h => h, d, h1, h2⟩
theorem walks_fl {κ : KW} {F H : Hp} {xs : List Dt} {a : Addr} {vs : List V} (h : Frz κ.K H a vs) (r : RepL κ H xs vs) : Walks κ F H xs (Itl κ.K a) := by
  refine ⟨fun H' => Frz κ.K H' a vs ∧ RepL κ H' xs vs, ⟨h, r⟩, fun _ _ g x => ⟨x.frz g.1, g.2.mono x⟩, fun i H' g hi => ⟨vs, g.1.sqL, by rw [← g.2.length]; exact Nat.le_of_eq hi.symm⟩, fun i H' g hi => ?_, fun i H' x H'' g _ y => ?_⟩
  · have hv : i < vs.length := by rw [← g.2.length]; exact hi
    exact ⟨vs, vs[i], g.1.sqL, List.getElem?_eq_getElem hv⟩
  · obtain ⟨e, y⟩ := y
    subst e
    obtain ⟨d, h1, h2⟩ := g.2.getV (y vs g.1.sqL)
    exact ⟨Ext.refl _, fun _ _ h => h, d, h1, h2⟩
def IvRep (κ : KW) (F H : Hp) (M : List Addr) (v : Iv) (J : It) : Prop := match v with
  | .tup xs => Walks κ F H xs J
  | .cell i => ∃ a, J = Itl κ.K a ∧ M[i]? = some a
  | .rng lo n => J = Itr lo n
def tMI (κ : KW) (Z : L2.St → Prop) (W : WX) (m : MI) : TI := fun σ H R => Z σ ∧ ∃ F M S ρ, Hold κ F H M S ∧ EnvR κ H M ρ σ ∧ Post κ F W σ M H (m ρ S) (fun v M' H' => ∀ J, IvRep κ F H' M' v J → R J H')
section
variable {X : Cx} {Z : L2.St → Prop} {W : WX} {a b c e tg iter elt : Expr} {es ifs : List Expr} {pos : Pos} {ma mb mc me : ME} {mas : MA} {mt mu : MT} {mi : MI} {st : Stmt} {rest body : List Stmt} {m1 m2 : MS} {t : Tg}
abbrev DI (X : Cx) (Z : L2.St → Prop) (W : WX) (tg e : Expr) (m : MI) : Prop := PI X tg e (tMI X.κ Z W m)
theorem pi_imp {w w' : TI} (h : PI X tg e w) (f : ∀ σ H R, w' σ H R → w σ H R) : PI X tg e w' := ⟨fun pins s σ H R I q => h.run pins s σ H R I (f σ H R q)⟩
theorem pi_or {w w' : TI} (h : PI X tg e w) (h' : PI X tg e w') : PI X tg e (fun σ H R => w σ H R ∨ w' σ H R) := ⟨fun pins s σ H R I q => q.elim (h.run pins s σ H R I) (h'.run pins s σ H R I)⟩
/-- a list or a tuple -/
def mSeqI (me : ME) : MI := fun ρ S => (me ρ S).bind fun v S1 => match v with
  | .d (.tup xs) => .ok (.tup xs) S1
  | .r i => match sq S1 i with
    | some _ => .ok (.cell i) S1
    | none => .bad
  | .d (.fl xs) => .ok (.tup xs) S1
  | _ => .bad
theorem di_seq (he : DE X Z W e me) : DI X Z W tg e (mSeqI me) := pi_imp (pi_or (pi_list he) (pi_tup he)) fun σ H R ⟨z, F, M, S, ρ, hh, hr, hp⟩ => by
  unfold mSeqI at hp
  cases q : me ρ S with
  | ok v S1 =>
    rw [q] at hp
    cases v with
    | d x =>
      cases x with
      | tup xs =>
        refine .inr ⟨z, F, M, S, ρ, hh, hr, ?_⟩
        rw [q]
        intro H' M' x p hh' y ry
        cases (show Rep X.κ H' _ y from ry) with
        | @tup a _ vs h r => exact ⟨a, rfl, ⟨vs, h⟩, hp H' M' x p hh' _ (walks_tup h r)⟩
      | fl xs =>
        refine .inl ⟨z, F, M, S, ρ, hh, hr, ?_⟩
        rw [q]
        intro H' M' x p hh' y ry
        cases (show Rep X.κ H' _ y from ry) with
        | @fl a _ vs h r => exact ⟨a, rfl, ⟨vs, h.sqL⟩, hp H' M' x p hh' _ (walks_fl h r)⟩
      | fd _ _ _ => exact hp.elim
      | fi _ _ _ => exact hp.elim
      | non => exact hp.elim
      | bl _ => exact hp.elim
      | int _ => exact hp.elim
      | str _ => exact hp.elim
    | r i =>
      refine .inl ⟨z, F, M, S, ρ, hh, hr, ?_⟩
      rw [q]
      have hp1 : Post X.κ F W σ M H (match sq S1 i with
        | some _ => .ok (.cell i) S1
        | none => .bad) (fun v M' H' => ∀ J, IvRep X.κ F H' M' v J → R J H') := hp
      cases hc : sq S1 i with
      | none => rw [hc] at hp1; exact hp1.elim
      | some c =>
        rw [hc] at hp1
        intro H' M' x p hh' y ry
        obtain ⟨a, rfl, m⟩ := ry
        obtain ⟨vs, hs, _⟩ := CeOk.seq hc (hh'.cell i c a (sq_at hc) m)
        exact ⟨a, rfl, ⟨vs, hs⟩, hp1 H' M' x p hh' _ ⟨a, rfl, m⟩⟩
    | e c => exact hp.elim
  | exc x S1 =>
    rw [q] at hp
    refine .inl ⟨z, F, M, S, ρ, hh, hr, ?_⟩
    rw [q]
    exact hp
  | bad =>
    rw [q] at hp
    exact hp.elim
/-- range(n), range(a, b) -/
def lim : Int := 1000000000000
def mRng1 (mas : MA) : MI := fun ρ S => (mas ρ S).bind fun vs S1 => match vs with
  | [.d (.int j)] => if -lim ≤ j ∧ j ≤ lim then .ok (.rng 0 j.toNat) S1 else .bad
  | _ => .bad
def mRng2 (mas : MA) : MI := fun ρ S => (mas ρ S).bind fun vs S1 => match vs with
  | [.d (.int i), .d (.int j)] => if (-lim ≤ i ∧ i ≤ lim) ∧ (-lim ≤ j ∧ j ≤ lim) then .ok (.rng i (j - i).toNat) S1 else .bad
  | _ => .bad
theorem di_range1 {p : Pos} (hm : X.mg "range" = none) (ha : DA X Z W [a] mas) (hg : Gl X "range" := by rfl) (hs : starEach [a] X.env = [(false, eval a X.env)] := by rfl) : DI X Z W tg (.Call (.Name "range" p) [a] [] pos) (mRng1 mas) := pi_imp (pi_range1 hg hm ha hs) fun σ H R ⟨z, F, M, S, ρ, hh, he, hp⟩ => by
  refine ⟨z, F, M, S, ρ, hh, he, step hp List.prefix_rfl fun vs M1 H1 S1 x1 p1 hh1 hp1 => ?_⟩
  intro xs rxs
  split at hp1
  · rename_i j
    split at hp1
    · rename_i hl
      obtain ⟨x, rfl, r⟩ := repV1 rxs
      cases (show Rep X.κ H1 _ x from r)
      unfold lim at hl
      exact ⟨j, rfl, by omega, by omega, hp1.val hh1 p1 _ rfl⟩
    · exact hp1.elim
  · exact hp1.elim
theorem di_range2 {p : Pos} (hm : X.mg "range" = none) (ha : DA X Z W [a, b] mas) (hg : Gl X "range" := by rfl) (hs : starEach [a, b] X.env = [(false, eval a X.env), (false, eval b X.env)] := by rfl) (hs2 : starEach [b] X.env = [(false, eval b X.env)] := by rfl) :
    DI X Z W tg (.Call (.Name "range" p) [a, b] [] pos) (mRng2 mas) := pi_imp (pi_range2 hg hm ha hs hs2) fun σ H R ⟨z, F, M, S, ρ, hh, he, hp⟩ => by
  refine ⟨z, F, M, S, ρ, hh, he, step hp List.prefix_rfl fun vs M1 H1 S1 x1 p1 hh1 hp1 => ?_⟩
  intro xs rxs
  split at hp1
  · rename_i i j
    split at hp1
    · rename_i hl
      obtain ⟨x, y, rfl, r1, r2⟩ := repV2 rxs
      cases (show Rep X.κ H1 _ x from r1)
      cases (show Rep X.κ H1 _ y from r2)
      unfold lim at hl
      exact ⟨i, j, rfl, ⟨by omega, by omega, by omega, by omega⟩, hp1.val hh1 p1 _ rfl⟩
    · exact hp1.elim
  · exact hp1.elim

/-! ### for, while -/
/-- what follows a turn -/
def after (next : MS) : Rss → Rss
  | .next ρ S => next ρ S
  | .cont ρ S => next ρ S
  | .brk ρ S => .next ρ S
  | .ret v S => .ret v S
  | .exc e ρ S => .exc e ρ S
  | .bad => .bad
/-- over items that stand still -/
def loopL (t : Tg) (mb : MS) : List Dt → Rho → Sto → Rss
  | [], ρ, S => .next ρ S
  | x :: xs, ρ, S => match tgM t (.d x) ρ with
    | none => .bad
    | some ρ1 => after (loopL t mb xs) (mb ρ1 S)
/-- over a cell, as it stands at each turn -/
def loopC (t : Tg) (mb : MS) (c : Nat) : Nat → Nat → Rho → Sto → Rss
  | 0, _, _, _ => .bad
  | f + 1, k, ρ, S => match sq S c with
    | none => .bad
    | some ce => match ce.items[k]? with
      | none => .next ρ S
      | some x => match tgM t (.d x) ρ with
        | none => .bad
        | some ρ1 => after (loopC t mb c f (k + 1)) (mb ρ1 S)
def rngD (lo : Int) (n : Nat) : List Dt := (List.range n).map fun k => .int (lo + (k : Nat))
def loopIv (t : Tg) (mb : MS) (it : Iv) (ρ : Rho) (S : Sto) : Rss := match it with
  | .tup xs => loopL t mb xs ρ S
  | .rng lo n => loopL t mb (rngD lo n) ρ S
  | .cell i => match sq S i with
    | some c => loopC t mb i (c.items.length + 1) 0 ρ S
    | none => .bad
def mFor (t : Tg) (mi : MI) (mb : MS) : MS := fun ρ S => match mi ρ S with
  | .ok it S1 => loopIv t mb it ρ S1
  | .exc e S1 => .exc e ρ S1
  | .bad => .bad
/-- a turn's body, before its end is told -/
theorem after_body {D : Ends} {N : L2.St → Hp → Prop} {M : List Addr} {H : Hp} {r : Rss} {next : MS} (h : PostS X.κ F ZT W D M H (after next r))
    (hN : ∀ ρ S σ' H' M', Ext H H' → M <+: M' → Hold X.κ F H' M' S → EnvR X.κ H' M' ρ σ' → PostS X.κ F ZT W D M' H' (next ρ S) → N σ' H') : PostS X.κ F ZT W { D with nx := N, ct := N, bk := D.nx } M H r := by
  cases r with
  | next ρ S => exact fun σ' H' M' z x p hh he => hN ρ S σ' H' M' x p hh he (PostS.mono (r := next ρ S) h x p)
  | cont ρ S => exact fun σ' H' M' z x p hh he => hN ρ S σ' H' M' x p hh he (PostS.mono (r := next ρ S) h x p)
  | brk ρ S => exact h
  | ret v S => exact h
  | exc e ρ S => exact h
  | bad => exact h
theorem rng_get {lo : Int} {n i : Nat} (h : i < n) : (rngD lo n)[i]? = some (.int (lo + (i : Nat))) := by
  unfold rngD
  rw [List.getElem?_map, List.getElem?_range h]
  rfl
theorem ds_for (hp : PassesOwn (model X.prog X.w) X.A X.env X.xe) (hc : X.calm = true) (hi : DI X ZT W tg iter mi) (hg : DG X tg t) (hb : DSs X ZT W body m1) (hs : ∀ x, foldedSetIterable iter X.env x = pure x := by intro _; rfl) :
    DS X ZT W (.For tg iter body [] pos) (mFor t mi m1) := ps_imp (ps_for hp hc hi hg hb hs) fun D σ H ⟨z, F, M, S, ρ, hh, he, hp⟩ => by
  refine ⟨z, F, M, S, ρ, hh, he, ?_⟩
  unfold mFor at hp
  cases q : mi ρ S with
  | bad => rw [q] at hp; exact hp.elim
  | exc x S1 =>
    rw [q] at hp
    exact fun C H' M' x p hh' g => hp C σ H' M' trivial x p hh' (he.mono x p) g
  | ok it S1 =>
    rw [q] at hp
    intro H1 M1 x1 p1 hh1 J hJ
    have he1 := he.mono x1 p1
    have hp1 := PostS.mono hp x1 p1
    have overL : ∀ (xs : List Dt) (Go : Hp → Prop), Go H1 → (∀ H' H'', Go H' → Ext H' H'' → Go H'') → (∀ i H', Go H' → i = xs.length → J.stop i H') → (∀ i H', Go H' → i < xs.length → J.go i H') →
        (∀ i H' x H'', Go H' → i < xs.length → J.yld i H' x H'' → Ext H' H'' ∧ (∀ M S, Hold X.κ F H' M S → Hold X.κ F H'' M S) ∧ ∃ d, xs[i]? = some d ∧ Rep X.κ H'' d x) → PostS X.κ F ZT W D M1 H1 (loopL t m1 xs ρ S1) →
        ∃ W' : Nat → Nat → L2.St → Hp → Prop, (∃ m, W' 0 m σ H1) ∧ ∀ i m σ H, W' i m σ H → (J.stop i H ∧ D.nx σ H) ∨ (J.go i H ∧ ∃ N : L2.St → Hp → Prop, (∀ σ' H', N σ' H' → ∃ m', m' < m ∧ W' (i + 1) m' σ' H') ∧
          ∀ x H', J.yld i H x H' → tgT X.κ t x σ H' fun σ2 H2 => tMS X.κ ZT W m1 { D with nx := N, ct := N, bk := D.nx } σ2 H2) := by
      intro xs Go g0 gx gs gg gy hL
      refine ⟨fun i m σ' H' => m = xs.length - i ∧ i ≤ xs.length ∧ Go H' ∧ ∃ M' S' ρ', Hold X.κ F H' M' S' ∧ EnvR X.κ H' M' ρ' σ' ∧ PostS X.κ F ZT W D M' H' (loopL t m1 (xs.drop i) ρ' S'), ⟨xs.length, by simp, Nat.zero_le _, g0, M1, S1, ρ, hh1, he1, by simpa using hL⟩, ?_⟩
      rintro i m σ' H' ⟨rfl, hi, g, M', S', ρ', hh', he', hL'⟩
      by_cases hlt : i < xs.length
      · refine .inr ⟨gg i H' g hlt, fun σ2 H2 => i + 1 ≤ xs.length ∧ Go H2 ∧ ∃ M2 S2 ρ2, Hold X.κ F H2 M2 S2 ∧ EnvR X.κ H2 M2 ρ2 σ2 ∧ PostS X.κ F ZT W D M2 H2 (loopL t m1 (xs.drop (i + 1)) ρ2 S2), fun σ2 H2 n => ⟨xs.length - (i + 1), by omega, rfl, n⟩, fun x H2 y => ?_⟩
        obtain ⟨xy, hy, d, hd, rd⟩ := gy i H' x H2 g hlt y
        have hh' := hy _ _ hh'
        have he' := he'.mono xy List.prefix_rfl
        have g := gx _ _ g xy
        have hL' := PostS.mono hL' xy List.prefix_rfl
        have ed : xs.drop i = d :: xs.drop (i + 1) := by
          obtain ⟨hi2, e2⟩ := List.getElem?_eq_some_iff.mp hd
          rw [List.drop_eq_getElem_cons hi2, e2]
        rw [ed, loopL] at hL'
        cases eT : tgM t (.d d) ρ' with
        | none => rw [eT] at hL'; exact hL'.elim
        | some ρ1 =>
          rw [eT] at hL'
          refine tg_read eT (show RepV X.κ H2 M' (.d d) x from rd) he' fun σ2 he2 _ => ⟨trivial, F, M', S', ρ1, hh', he2, after_body hL' fun ρ3 S3 σ3 H3 M3 x3 p3 hh3 he3 hL3 => ⟨hlt, gx _ _ g x3, M3, S3, ρ3, hh3, he3, hL3⟩⟩
      · have ei : i = xs.length := by omega
        subst ei
        rw [List.drop_length] at hL'
        exact .inl ⟨gs _ _ g rfl, hL' σ' H' M' trivial (Ext.refl _) List.prefix_rfl hh' he'⟩
    cases it with
    | tup xs =>
      obtain ⟨Go, g0, gx, gs, gg, gy⟩ := hJ
      exact overL xs Go g0 gx gs gg gy hp1
    | rng lo n =>
      obtain rfl : J = Itr lo n := hJ
      have hl : (rngD lo n).length = n := by simp [rngD]
      refine overL (rngD lo n) (fun _ => True) trivial (fun _ _ _ _ => trivial) (fun i H' _ hi => by rw [hl] at hi; exact Nat.le_of_eq hi.symm) (fun i H' _ hi => by rw [hl] at hi; exact hi) (fun i H' x H'' g hi y => ?_) hp1
      obtain ⟨e, e2⟩ := y
      subst e2 e
      exact ⟨Ext.refl _, fun _ _ h => h, _, rng_get (by rw [hl] at hi; exact hi), .int _⟩
    | cell c =>
      obtain ⟨a, rfl, m⟩ := hJ
      have hp2 : PostS X.κ F ZT W D M1 H1 (match sq S1 c with
        | some ce => loopC t m1 c (ce.items.length + 1) 0 ρ S1
        | none => .bad) := hp1
      cases eC : sq S1 c with
      | none => rw [eC] at hp2; exact hp2.elim
      | some ce0 =>
        rw [eC] at hp2
        refine ⟨fun i m' σ' H' => ∃ M' S' ρ', Hold X.κ F H' M' S' ∧ EnvR X.κ H' M' ρ' σ' ∧ M'[c]? = some a ∧ PostS X.κ F ZT W D M' H' (loopC t m1 c m' i ρ' S'), ⟨_, M1, S1, ρ, hh1, he1, m, hp2⟩, ?_⟩
        rintro i m' σ' H' ⟨M', S', ρ', hh', he', ma', hL'⟩
        cases m' with
        | zero => exact hL'.elim
        | succ f =>
          rw [loopC] at hL'
          cases e1 : sq S' c with
          | none => rw [e1] at hL'; exact hL'.elim
          | some ce =>
            rw [e1] at hL'
            obtain ⟨vs, hs, rr⟩ := CeOk.seq e1 (hh'.cell c ce a (sq_at e1) ma')
            have hL2 : PostS X.κ F ZT W D M' H' (match ce.items[i]? with
              | none => .next ρ' S'
              | some x => match tgM t (.d x) ρ' with
                | none => .bad
                | some ρ1 => after (loopC t m1 c f (i + 1)) (m1 ρ1 S')) := hL'
            cases e2 : ce.items[i]? with
            | none =>
              rw [e2] at hL2
              refine .inl ⟨⟨vs, hs, ?_⟩, hL2 σ' H' M' trivial (Ext.refl _) List.prefix_rfl hh' he'⟩
              rw [← rr.length]
              exact List.getElem?_eq_none_iff.mp e2
            | some d =>
              rw [e2] at hL2
              obtain ⟨v, hv, rd⟩ := rr.get e2
              refine .inr ⟨⟨vs, v, hs, hv⟩, fun σ2 H2 => ∃ M2 S2 ρ2, Hold X.κ F H2 M2 S2 ∧ EnvR X.κ H2 M2 ρ2 σ2 ∧ M2[c]? = some a ∧ PostS X.κ F ZT W D M2 H2 (loopC t m1 c f (i + 1) ρ2 S2), fun σ2 H2 n => ⟨f, Nat.lt_succ_self _, n⟩, fun x H2 y => ?_⟩
              obtain ⟨rfl, y⟩ := y
              have ex : v = x := Option.some.inj (hv.symm.trans (y vs hs))
              subst ex
              have hL3 : PostS X.κ F ZT W D M' H2 (match tgM t (.d d) ρ' with
                | none => .bad
                | some ρ1 => after (loopC t m1 c f (i + 1)) (m1 ρ1 S')) := hL2
              cases eT : tgM t (.d d) ρ' with
              | none => rw [eT] at hL3; exact hL3.elim
              | some ρ1 =>
                rw [eT] at hL3
                exact tg_read eT (show RepV X.κ H2 M' (.d d) v from rd) he' fun σ2 he2 _ => ⟨trivial, F, M', S', ρ1, hh', he2, after_body hL3 fun ρ3 S3 σ3 H3 M3 x3 p3 hh3 he3 hL4 => ⟨M3, S3, ρ3, hh3, he3, pre_get p3 ma', hL4⟩⟩
/-- while, f turns at most -/
def mWhile (mt : MT) (mb : MS) : Nat → Rho → Sto → Rss
  | 0, _, _ => .bad
  | f + 1, ρ, S => (mt ρ S).thenT ρ fun k S1 => if k = true then after (mWhile mt mb f) (mb ρ S1) else .next ρ S1
theorem ds_while (f : Nat) (hp : PassesOwn (model X.prog X.w) X.A X.env X.xe) (hc : DT X ZT W c mt) (hb : DSs X ZT W body m1) : DS X ZT W (.While c body [] pos) (mWhile mt m1 f) := ps_imp (ps_while hp hc hb) fun D σ H ⟨z, F, M, S, ρ, hh, he, hp⟩ => by
  refine ⟨fun m σ' H' => ∃ M' S' ρ', Hold X.κ F H' M' S' ∧ EnvR X.κ H' M' ρ' σ' ∧ PostS X.κ F ZT W D M' H' (mWhile mt m1 m ρ' S'), ⟨f, M, S, ρ, hh, he, hp⟩, ?_⟩
  rintro m σ' H' ⟨M', S', ρ', hh', he', hL'⟩
  cases m with
  | zero => exact hL'.elim
  | succ f =>
    rw [mWhile] at hL'
    refine ⟨trivial, F, M', S', ρ', hh', he', stepT (Z := ZT) trivial he' hL' fun k M1 H1 S1 x1 p1 hh1 hp1 => ?_⟩
    cases k with
    | false =>
      rw [if_neg Bool.false_ne_true] at hp1 ⊢
      exact hp1 σ' H1 M1 trivial (Ext.refl _) p1 hh1 (he'.mono x1 p1)
    | true =>
      rw [if_pos rfl] at hp1 ⊢
      refine ⟨fun σ2 H2 => ∃ M2 S2 ρ2, Hold X.κ F H2 M2 S2 ∧ EnvR X.κ H2 M2 ρ2 σ2 ∧ PostS X.κ F ZT W D M2 H2 (mWhile mt m1 f ρ2 S2), fun σ2 H2 n => ⟨f, Nat.lt_succ_self _, n⟩, ?_⟩
      exact ⟨trivial, F, M1, S1, ρ', hh1, he'.mono x1 p1, after_body (PostS.mono hp1 (Ext.refl _) p1) fun ρ3 S3 σ3 H3 M3 x3 p3 hh3 he3 hL4 => ⟨M3, S3, ρ3, hh3, he3, hL4⟩⟩

/-! ### comprehensions -/
def wipeR (ρ : Rho) : List Nat → Rho
  | [] => ρ
  | v :: vs => (wipeR ρ vs).set v none
theorem wipeR_env {κ : KW} {H : Hp} {M : List Addr} {ρ : Rho} {σ : L2.St} (he : EnvR κ H M ρ σ) : ∀ vs : List Nat, EnvR κ H M (wipeR ρ vs) (wipe σ vs)
  | [] => he
  | v :: vs => (wipeR_env he vs).forget v none
/-- one more item; the list is the cell n -/
def compT (t : Tg) (mt : MT) (me : ME) (ρ : Rho) (n : Nat) (x : Dt) (S : Sto) (next : Sto → Rs Vl) : Rs Vl := match tgM t (.d x) ρ with
  | none => .bad
  | some ρ1 => match mt ρ1 S with
    | .ok k S2 => if k = true then match me ρ1 S2 with
        | .ok v S3 => match v with
          | .d y => match S3[n]? with
            | some (.lst acc) => if acc.length ≤ big then next (S3.set n (.lst (acc ++ [y]))) else .bad
            | _ => .bad
          | _ => .bad
        | _ => .bad
      else next S2
    | _ => .bad
def compL (t : Tg) (mt : MT) (me : ME) (ρ : Rho) (n : Nat) : List Dt → Sto → Rs Vl
  | [], S => .ok (.r n) S
  | x :: xs, S => compT t mt me ρ n x S (compL t mt me ρ n xs)
def compC (t : Tg) (mt : MT) (me : ME) (ρ : Rho) (n c : Nat) : Nat → Nat → Sto → Rs Vl
  | 0, _, _ => .bad
  | f + 1, k, S => match sq S c with
    | none => .bad
    | some ce => match ce.items[k]? with
      | none => .ok (.r n) S
      | some x => compT t mt me ρ n x S (compC t mt me ρ n c f (k + 1))
def compIv (t : Tg) (mt : MT) (me : ME) (ρ : Rho) (it : Iv) (S : Sto) : Rs Vl := match it with
  | .tup xs => compL t mt me ρ S.length xs (S ++ [.lst []])
  | .rng lo n => compL t mt me ρ S.length (rngD lo n) (S ++ [.lst []])
  | .cell i => match sq S i with
    | some c => compC t mt me ρ S.length i (c.items.length + 1) 0 (S ++ [.lst []])
    | none => .bad
def mLc (vs : List Nat) (t : Tg) (mi : MI) (mt : MT) (me : ME) : ME := fun ρ S => (mi ρ S).bind fun it S1 => compIv t mt me (wipeR ρ vs) it S1
abbrev DTs (X : Cx) (ifs : List Expr) (m : MT) : Prop := PTs X ifs (tMT X.κ ZT (fun _ _ _ _ => False) m)
def mYes : MT := fun _ S => .ok true S
theorem dts_nil : DTs X [] mYes := ⟨fun pins s σ H Q I h => by
  obtain ⟨z, F, M, S, ρ, hh, he, hp⟩ := h
  exact pts_nil.run pins s σ H Q I (hp.val hh List.prefix_rfl)⟩
theorem dts_one {m : MT} (h : DT X ZT (fun _ _ _ _ => False) c m) : DTs X [c] m := pts_one h
theorem comp_turn {P : Vl → List Addr → Hp → Prop} {κ : KW} {F : Hp} {M0 M : List Addr} {H : Hp} {S : Sto} {ρ : Rho} {σ : L2.St} {t : Tg} {mt : MT} {me : ME} {vs : List Nat} {n : Nat} {x : Dt} {v : V} {next : Sto → Rs Vl} {Dl : Addr} {Nx : Hp → Prop} {W : WX}
    (hh : Hold κ F H M S) (he : EnvR κ H M ρ (wipe σ vs)) (p0 : M0 <+: M) (hv : ∀ i ∈ t.slots, i ∈ vs) (rx : Rep κ H x v) (hn : M[n]? = some Dl)
    (hp : Post κ F W σ M0 H (compT t mt me ρ n x S next) P) (hN : ∀ H' M' S', Ext H H' → M <+: M' → Hold κ F H' M' S' → Post κ F W σ M0 H' (next S') P → Nx H') :
    tgT κ t v (wipe σ vs) H fun σ2 H2 => wipe σ2 vs = wipe σ vs ∧ tMT κ ZT (fun _ _ _ _ => False) mt σ2 H2 fun b H3 => if b = true then tM κ ZT (fun _ _ _ _ => False) me σ2 H3 fun y H4 =>
      ∃ acc, H4 Dl = some (.lst acc) ∧ acc.length < sizeLine ∧ Nx (upd H4 Dl (.lst (acc ++ [y]))) else Nx H3 := by
  unfold compT at hp
  split at hp
  · exact hp.elim
  · rename_i ρ1 eT
    refine tg_read eT (show RepV κ H M (.d x) v from rx) he fun σ2 he2 hw => ⟨(hw vs hv).trans wipe_wipe, trivial, F, M, S, ρ1, hh, he2, ?_⟩
    split at hp
    · rename_i k S2 ek
      rw [ek]
      intro H3 M3 x3 p3 hh3
      split at hp
      · rename_i hk
        subst hk
        refine iteT ⟨trivial, F, M3, S2, ρ1, hh3, he2.mono x3 p3, ?_⟩
        split at hp
        · rename_i w S3 ew
          rw [ew]
          intro H4 M4 x4 p4 hh4 y ry
          split at hp
          · rename_i d
            split at hp
            · rename_i acc ea
              split at hp
              · rename_i hl
                have m4 : M4[n]? = some Dl := pre_get p4 (pre_get p3 hn)
                obtain ⟨vs4, h4, r4⟩ := hh4.cell n _ Dl ea m4
                refine ⟨vs4, h4, by rw [← r4.length]; exact big_lt hl, ?_⟩
                have rd : Rep κ H4 d y := ry
                have hh5 := hh4.put (ys := acc ++ [d]) (ws := vs4 ++ [y]) ea m4 (r4.append (.cons rd .nil))
                exact hN _ M4 _ ((x3.trans x4).trans (Ext.lst h4)) (p3.trans p4) hh5 (Post.ext hp ((x3.trans x4).trans (Ext.lst h4)))
              · exact hp.elim
            · exact hp.elim
          · exact hp.elim
        · exact hp.elim
      · rename_i hk
        have hk' : k = false := by simpa using hk
        subst hk'
        exact iteF (hN H3 M3 S2 x3 p3 hh3 (Post.ext hp x3))
    · exact hp.elim
theorem lc_read {t : Tg} {vs : List Nat} (hv : ∀ i ∈ t.slots, i ∈ vs) (σ : L2.St) (H : Hp) (Q : VK) (h : tM X.κ Z W (mLc vs t mi mt me) σ H Q) :
    tLc (tMI X.κ Z W mi) (tgT X.κ t) (tMT X.κ ZT (fun _ _ _ _ => False) mt) (tM X.κ ZT (fun _ _ _ _ => False) me) vs σ H Q := by
  obtain ⟨z, F, M, S, ρ, hh, he, hp⟩ := h
  refine ⟨z, F, M, S, ρ, hh, he, step hp List.prefix_rfl fun it M1 H1 S1 x1 p1 hh1 hp1 => ?_⟩
  intro J hJ Dl hD
  have he1 := wipeR_env (he.mono x1 p1) vs
  have hh2 : Hold X.κ F (upd H1 Dl (.lst [])) (M1 ++ [Dl]) (S1 ++ [.lst []]) := hh1.cons hD .nil
  have x2 : Ext H1 (upd H1 Dl (.lst [])) := Ext.new hD
  have mD : (M1 ++ [Dl])[S1.length]? = some Dl := at_end hh1.len
  have pD : M <+: M1 ++ [Dl] := pre_app p1
  have he2 : EnvR X.κ (upd H1 Dl (.lst [])) (M1 ++ [Dl]) (wipeR ρ vs) (wipe σ vs) := he1.mono x2 (pre_app List.prefix_rfl)
  have overL : ∀ (xs : List Dt) (Go : Hp → Prop), Go (upd H1 Dl (.lst [])) → (∀ H' H'', Go H' → Ext H' H'' → Go H'') → (∀ i H', Go H' → i = xs.length → J.stop i H') → (∀ i H', Go H' → i < xs.length → J.go i H') →
      (∀ i H' x H'', Go H' → i < xs.length → J.yld i H' x H'' → Ext H' H'' ∧ (∀ M S, Hold X.κ F H' M S → Hold X.κ F H'' M S) ∧ ∃ d, xs[i]? = some d ∧ Rep X.κ H'' d x) → Post X.κ F W σ M (upd H1 Dl (.lst [])) (compL t mt me (wipeR ρ vs) S1.length xs (S1 ++ [.lst []])) (fun v M' H' => ∀ x, RepV X.κ H' M' v x → Q x H') →
      ∃ W' : Nat → Nat → Hp → Prop, (∃ m, W' 0 m (upd H1 Dl (.lst []))) ∧ ∀ i m H, W' i m H → (J.stop i H ∧ Q (.ref Dl) H) ∨ (J.go i H ∧ ∃ Nx : Hp → Prop, (∀ H', Nx H' → ∃ m', m' < m ∧ W' (i + 1) m' H') ∧ ∀ x H', J.yld i H x H' →
        tgT X.κ t x (wipe σ vs) H' fun σ2 H2 => wipe σ2 vs = wipe σ vs ∧ tMT X.κ ZT (fun _ _ _ _ => False) mt σ2 H2 fun b H3 => if b = true then tM X.κ ZT (fun _ _ _ _ => False) me σ2 H3 fun y H4 =>
          ∃ acc, H4 Dl = some (.lst acc) ∧ acc.length < sizeLine ∧ Nx (upd H4 Dl (.lst (acc ++ [y]))) else Nx H3) := by
    intro xs Go g0 gx gs gg gy hL
    refine ⟨fun i m H' => m = xs.length - i ∧ i ≤ xs.length ∧ Go H' ∧ ∃ M' S', Hold X.κ F H' M' S' ∧ EnvR X.κ H' M' (wipeR ρ vs) (wipe σ vs) ∧ M <+: M' ∧ M'[S1.length]? = some Dl ∧ Post X.κ F W σ M H' (compL t mt me (wipeR ρ vs) S1.length (xs.drop i) S') (fun v M' H' => ∀ x, RepV X.κ H' M' v x → Q x H'),
      ⟨xs.length, by simp, Nat.zero_le _, g0, _, _, hh2, he2, pD, mD, by simpa using hL⟩, ?_⟩
    rintro i m H' ⟨rfl, hi, g, M', S', hh', he', pM', mM', hL'⟩
    by_cases hlt : i < xs.length
    · refine .inr ⟨gg i H' g hlt, fun H2 => i + 1 ≤ xs.length ∧ Go H2 ∧ ∃ M2 S2, Hold X.κ F H2 M2 S2 ∧ EnvR X.κ H2 M2 (wipeR ρ vs) (wipe σ vs) ∧ M <+: M2 ∧ M2[S1.length]? = some Dl ∧ Post X.κ F W σ M H2 (compL t mt me (wipeR ρ vs) S1.length (xs.drop (i + 1)) S2) (fun v M' H' => ∀ x, RepV X.κ H' M' v x → Q x H'),
        fun H2 n => ⟨xs.length - (i + 1), by omega, rfl, n⟩, fun x H2 y => ?_⟩
      obtain ⟨xy, hy, d, hd, rd⟩ := gy i H' x H2 g hlt y
      have hh' := hy _ _ hh'
      have he' := he'.mono xy List.prefix_rfl
      have g := gx _ _ g xy
      have hL' := Post.ext hL' xy
      have ed : xs.drop i = d :: xs.drop (i + 1) := by
        obtain ⟨hi2, e2⟩ := List.getElem?_eq_some_iff.mp hd
        rw [List.drop_eq_getElem_cons hi2, e2]
      rw [ed, compL] at hL'
      exact comp_turn hh' he' pM' hv rd mM' hL' fun H3 M3 S3 x3 p3 hh3 hp3 => ⟨hlt, gx _ _ g x3, M3, S3, hh3, he'.mono x3 p3, pM'.trans p3, pre_get p3 mM', hp3⟩
    · have ei : i = xs.length := by omega
      subst ei
      rw [List.drop_length] at hL'
      exact .inl ⟨gs _ _ g rfl, hL'.val hh' pM' _ ⟨Dl, rfl, mM'⟩⟩
  cases it with
  | tup xs =>
    obtain ⟨Go, g0, gx, gs, gg, gy⟩ := hJ
    exact overL xs Go (gx _ _ g0 x2) gx gs gg gy (Post.ext hp1 x2)
  | rng lo n =>
    obtain rfl : J = Itr lo n := hJ
    have hl : (rngD lo n).length = n := by simp [rngD]
    refine overL (rngD lo n) (fun _ => True) trivial (fun _ _ _ _ => trivial) (fun i H' _ hi => by rw [hl] at hi; exact Nat.le_of_eq hi.symm) (fun i H' _ hi => by rw [hl] at hi; exact hi) (fun i H' x H'' g hi y => ?_) (Post.ext hp1 x2)
    obtain ⟨e, e2⟩ := y
    subst e2 e
    exact ⟨Ext.refl _, fun _ _ h => h, _, rng_get (by rw [hl] at hi; exact hi), .int _⟩
  | cell c =>
    obtain ⟨a, rfl, m⟩ := hJ
    have hp2 : Post X.κ F W σ M H1 (match sq S1 c with
      | some ce => compC t mt me (wipeR ρ vs) S1.length c (ce.items.length + 1) 0 (S1 ++ [.lst []])
      | none => .bad) (fun v M' H' => ∀ x, RepV X.κ H' M' v x → Q x H') := hp1
    cases eC : sq S1 c with
    | none => rw [eC] at hp2; exact hp2.elim
    | some ce0 =>
      rw [eC] at hp2
      refine ⟨fun i m' H' => ∃ M' S', Hold X.κ F H' M' S' ∧ EnvR X.κ H' M' (wipeR ρ vs) (wipe σ vs) ∧ M <+: M' ∧ M'[c]? = some a ∧ M'[S1.length]? = some Dl ∧ Post X.κ F W σ M H' (compC t mt me (wipeR ρ vs) S1.length c m' i S') (fun v M' H' => ∀ x, RepV X.κ H' M' v x → Q x H'),
        ⟨_, _, _, hh2, he2, pD, pre_get (pre_app List.prefix_rfl) m, mD, Post.ext hp2 x2⟩, ?_⟩
      rintro i m' H' ⟨M', S', hh', he', pM', ma', mM', hL'⟩
      cases m' with
      | zero => exact hL'.elim
      | succ f =>
        rw [compC] at hL'
        cases e1 : sq S' c with
        | none => rw [e1] at hL'; exact hL'.elim
        | some ce =>
          rw [e1] at hL'
          obtain ⟨ws, hs, rr⟩ := CeOk.seq e1 (hh'.cell c ce a (sq_at e1) ma')
          have hL2 : Post X.κ F W σ M H' (match ce.items[i]? with
            | none => .ok (.r S1.length) S'
            | some x => compT t mt me (wipeR ρ vs) S1.length x S' (compC t mt me (wipeR ρ vs) S1.length c f (i + 1))) (fun v M' H' => ∀ x, RepV X.κ H' M' v x → Q x H') := hL'
          cases e2 : ce.items[i]? with
          | none =>
            rw [e2] at hL2
            refine .inl ⟨⟨ws, hs, ?_⟩, hL2.val hh' pM' _ ⟨Dl, rfl, mM'⟩⟩
            rw [← rr.length]
            exact List.getElem?_eq_none_iff.mp e2
          | some d =>
            rw [e2] at hL2
            obtain ⟨v, hv2, rd⟩ := rr.get e2
            refine .inr ⟨⟨ws, v, hs, hv2⟩, fun H2 => ∃ M2 S2, Hold X.κ F H2 M2 S2 ∧ EnvR X.κ H2 M2 (wipeR ρ vs) (wipe σ vs) ∧ M <+: M2 ∧ M2[c]? = some a ∧ M2[S1.length]? = some Dl ∧ Post X.κ F W σ M H2 (compC t mt me (wipeR ρ vs) S1.length c f (i + 1) S2) (fun v M' H' => ∀ x, RepV X.κ H' M' v x → Q x H'),
              fun H2 n => ⟨f, Nat.lt_succ_self _, n⟩, fun x H2 y => ?_⟩
            obtain ⟨rfl, y⟩ := y
            have ex : v = x := Option.some.inj (hv2.symm.trans (y ws hs))
            subst ex
            exact comp_turn hh' he' pM' hv rd mM' hL2 fun H3 M3 S3 x3 p3 hh3 hp3 => ⟨M3, S3, hh3, he'.mono x3 p3, pM'.trans p3, pre_get p3 ma', pre_get p3 mM', hp3⟩
theorem de_lc {scope : Scope} (own : List (Str × Nat)) {t : Tg} (hc : X.calm = true) (hN : X.N.Nodup) (hi : DI X Z W tg iter mi) (ok : BlkOk X.N X.env.scope scope own) (hv : ∀ i ∈ t.slots, i ∈ own.map (·.2))
    (hg : ∀ (s : Shared) (H : Hp) (C : Addr) (cl : List (Str × Addr)) (fp : List Addr), DG (X.blk s H scope (compEnvC scope cl C X.env) fp) tg t)
    (ht : ∀ (s : Shared) (H : Hp) (C : Addr) (cl : List (Str × Addr)) (fp : List Addr), DTs (X.blk s H scope (compEnvC scope cl C X.env) fp) ifs mt)
    (he : ∀ (s : Shared) (H : Hp) (C : Addr) (cl : List (Str × Addr)) (fp : List Addr), DE (X.blk s H scope (compEnvC scope cl C X.env) fp) ZT (fun _ _ _ _ => False) elt me) (hs : ∀ x, foldedSetIterable iter X.env x = pure x := by intro _; rfl) :
    DE X Z W (.ListComp elt [⟨tg, iter, ifs, 0⟩] scope pos) (mLc (own.map (·.2)) t mi mt me) := pe_imp (pe_lc hc hN hi ok hg ht he hs) (lc_read hv)
theorem ds_setLc (i : Nat) {y : Str} {py spos : Pos} {scope : Scope} (own : List (Str × Nat)) {t : Tg} (hc : X.calm = true) (hN : X.N.Nodup) (hi : DI X ZT W tg iter mi) (ok : BlkOk X.N X.env.scope scope own) (hv : ∀ i ∈ t.slots, i ∈ own.map (·.2))
    (hg : ∀ (s : Shared) (H : Hp) (C : Addr) (cl : List (Str × Addr)) (fp : List Addr), DG (X.blk s H scope (compEnvC scope cl C X.env) fp) tg t)
    (ht : ∀ (s : Shared) (H : Hp) (C : Addr) (cl : List (Str × Addr)) (fp : List Addr), DTs (X.blk s H scope (compEnvC scope cl C X.env) fp) ifs mt)
    (he : ∀ (s : Shared) (H : Hp) (C : Addr) (cl : List (Str × Addr)) (fp : List Addr), DE (X.blk s H scope (compEnvC scope cl C X.env) fp) ZT (fun _ _ _ _ => False) elt me)
    (hsw : swapsWith (.ListComp elt [⟨tg, iter, ifs, 0⟩] scope pos) (some (.Name y py)) spos.line X.env = pure true) (hy : X.N[i]? = some y := by rfl) (hyl : X.env.scope.names.lookup y = some .local := by rfl) (hs : ∀ x, foldedSetIterable iter X.env x = pure x := by intro _; rfl) :
    DS X ZT W (.Assign [.Name y py] (.ListComp elt [⟨tg, iter, ifs, 0⟩] scope pos) spos) (mAsg (.one i) (mLc (own.map (·.2)) t mi mt me)) := ps_imp (ps_setLc hc hN hy hyl hsw hi ok hg ht he hs) fun D σ H h => by
  have q := asg_read D σ H h
  exact lc_read hv σ H _ q
end
end Mo
/-! raise, try, methods of lists. -/
namespace Mo
open PySem PySem.Spec PyProof.Rows L2
section
variable {X : Cx} {Z : L2.St → Prop} {W : WX} {a b c e tg iter elt : Expr} {es ifs : List Expr} {pos : Pos} {ma mb mc me : ME} {mas : MA} {mt mu : MT} {mi : MI} {st : Stmt} {rest body : List Stmt} {m1 m2 : MS} {t : Tg}
/-- what the top says of an error's class that is raised with a text -/
structure XcOk (K : PySem.W.Frag) (mg : Str → Option Value) (x : Str) (C : Addr) : Prop where
  g : mg x = some (.ref C)
  q : PySem.W.excIn K C [.type "ValueError", .type "Exception", .type "BaseException", .type "object"] "ValueError.__new__" = true
  k : PySem.W.keepIn K (.ref C) = true
  s : PySem.W.subIn K (.ref C) (.type "BaseException") = some true
  t : PySem.W.typeIn K (.ref C) = some (.type "type")
def mRaise (x : Str) : MS := fun ρ S => .exc ⟨x⟩ ρ S
theorem ds_raise {x m : Str} {C : Addr} {j : Nat} {p p2 pos2 : Pos} (hc : X.calm = true) (tk : Takes X W) (T : XcOk X.K X.mg x C) (hg : Gl X x := by rfl) (hdb : (x == ("__debug__" : Str)) = false := by decide) :
    DS X Z W (.Raise (some (.Call (.Name x p) [.Constant (.str m) j p2] [] pos)) none pos2) (mRaise x) :=
  ps_imp (ps_raise hc tk (pmk_own PySem.F.excBase_ValueError T.q T.g T.k (raises_own T.s T.t) hg hdb)) fun D σ H ⟨z, F, M, S, ρ, hh, he, hp⟩ => hp C σ H M z (Ext.refl H) List.prefix_rfl hh he T.g
/-- which of the errors the clause takes -/
abbrev Tbl := List (Str × Bool)
/-- try: body / except c as n: suite (n in slot i) -/
def endSuite (i : Nat) : Rss → Rss
  | .next ρ S => .next (ρ.set i none) S
  | .brk ρ S => .brk (ρ.set i none) S
  | .cont ρ S => .cont (ρ.set i none) S
  | .ret v S => .ret v S
  | .exc _ _ _ => .bad
  | .bad => .bad
def mTry (tb : Tbl) (i : Nat) (mb : MS) (suite : Xc → MS) : MS := fun ρ S => match mb ρ S with
  | .exc e ρ1 S1 => match tb.lookup e.cls with
    | some true => if i < ρ1.length then endSuite i (suite e (ρ1.set i (some (.e e.cls))) S1) else .bad
    | some false => .exc e ρ1 S1
    | none => .bad
  | r => r
def ZE (i : Nat) (a : Addr) : L2.St → Prop := fun σ => σ[i]? = some (some (V.ref a))
/-- the suite's reading, the error known by its class's name -/
def tSuite (κ : KW) (i : Nat) (suite : Xc → MS) : Addr → Value → Option Addr → TS := fun a cls d D σ H =>
  ∃ (e : Xc) (C : Addr), cls = .ref C ∧ d = none ∧ κ.mg e.cls = some (.ref C) ∧ tMS κ (ZE i a) (fun _ _ _ _ => False) (suite e) D σ H
theorem lookup_mem {tb : Tbl} {x : Str} {k : Bool} (h : tb.lookup x = some k) : (x, k) ∈ tb := by
  induction tb with
  | nil => cases h
  | cons p r ih =>
    obtain ⟨y, j⟩ := p
    rw [List.lookup_cons] at h
    split at h
    · rename_i e
      cases h
      have : x = y := by simpa using e
      subst this
      exact List.mem_cons_self
    · exact List.mem_cons_of_mem _ (ih h)
theorem ds_try (i : Nat) {x n : Str} {cl : Value} {tb : Tbl} {b₀ : Stmt} {suite : List Stmt} {np pos' : Pos} {ms : Xc → MS} (hs : X.stack = X.env :: X.outer) (hf : X.env.frame = some X.env.locals) (hN : X.N.Nodup) (hcn : Names X x cl) (tk : Takes X W)
    (hb : ∀ (W' : WX) (pn : List (Addr × Obj)) (xe : Value → Shared → Prop), Takes (X.tr pn xe) W' → PassesOwn (model X.prog X.w) X.A X.env xe → DSs (X.tr pn xe) ZT W' body m1)
    (hsu : ∀ (e : Xc) (a : Addr) (oe : Obj) (C : Addr) (pn : List (Addr × Obj)), Zc (.ref C) none oe → (∃ vs, oe.data = .fields vs) → X.mg e.cls = some (.ref C) → DSs (X.suite a ((a, oe) :: pn)) (ZE i a) (fun _ _ _ _ => False) (b₀ :: suite) (ms e))
    (htb : ∀ y k, (y, k) ∈ tb → ∀ C, X.mg y = some (.ref C) → PySem.W.exmOne X.K (.ref C) cl = some k) (hi : X.N[i]? = some n := by rfl) (hln : X.env.kindOf n = some .local := by rfl) :
    DS X ZT W (.Try body [.ExceptHandler (some (.Name x np)) (some n) (b₀ :: suite) pos'] [] [] pos) (mTry tb i m1 ms) := by
  refine ps_imp (ps_try_as (i := i) (tb := fun W' => tMS X.κ ZT W' m1) (ts := tSuite X.κ i ms) (Wout := W) hs hf hN hi hln hcn tk (fun W' pn xe t1 t2 => hb W' pn xe t1 t2) (fun a oe cls d pn hz hv => ?_)) fun D σ H ⟨z, F, M, S, ρ, hh, he, hp⟩ => ?_
  · refine ⟨fun pins s σ H D I h => ?_⟩
    obtain ⟨e, C, rfl, rfl, hg, h⟩ := h
    exact (hsu e a oe C pn hz hv hg).run pins s σ H D I h
  · refine ⟨z, F, M, S, ρ, hh, he, ?_⟩
    unfold mTry at hp
    cases q : m1 ρ S with
    | next ρ1 S1 => rw [q] at hp; exact hp
    | ret v S1 => rw [q] at hp; exact hp
    | brk ρ1 S1 => rw [q] at hp; exact hp
    | cont ρ1 S1 => rw [q] at hp; exact hp
    | bad => rw [q] at hp; exact hp
    | exc e ρ1 S1 =>
      rw [q] at hp
      have hp2 : PostS X.κ F ZT W D M H (match tb.lookup e.cls with
        | some true => if i < ρ1.length then endSuite i (ms e (ρ1.set i (some (.e e.cls))) S1) else .bad
        | some false => .exc e ρ1 S1
        | none => .bad) := hp
      intro C σ' H' M' _ x' p' hh' he' hg
      cases ql : tb.lookup e.cls with
      | none => rw [ql] at hp2; exact hp2.elim
      | some k =>
        rw [ql] at hp2
        refine ⟨k, htb _ _ (lookup_mem ql) C hg, fun hk a ha => ?_, fun hk => ?_⟩
        · subst hk
          have hp3 : PostS X.κ F ZT W D M H (if i < ρ1.length then endSuite i (ms e (ρ1.set i (some (.e e.cls))) S1) else .bad) := hp2
          split at hp3
          · rename_i hl
            have he2 : EnvR X.κ H' M' (ρ1.set i (some (.e e.cls))) (σ'.set i (some (.ref a))) := he'.set (v := .e e.cls) (x := .ref a) ⟨a, rfl⟩ i
            refine ⟨e, C, rfl, rfl, hg, List.getElem?_set_self (by rw [← he'.1]; exact hl), F, M', S1, _, hh', he2, ?_⟩
            have hp4 := PostS.mono hp3 x' p'
            cases qs : ms e (ρ1.set i (some (.e e.cls))) S1 with
            | next ρ2 S2 =>
              rw [qs] at hp4
              exact fun σ2 H2 M2 _ x2 p2 hh2 he3 => hp4 _ H2 M2 trivial x2 p2 hh2 (he3.forget i none)
            | brk ρ2 S2 =>
              rw [qs] at hp4
              exact fun σ2 H2 M2 _ x2 p2 hh2 he3 => hp4 _ H2 M2 trivial x2 p2 hh2 (he3.forget i none)
            | cont ρ2 S2 =>
              rw [qs] at hp4
              exact fun σ2 H2 M2 _ x2 p2 hh2 he3 => hp4 _ H2 M2 trivial x2 p2 hh2 (he3.forget i none)
            | ret v S2 => rw [qs] at hp4; exact hp4
            | exc e2 ρ2 S2 => rw [qs] at hp4; exact hp4.elim
            | bad => rw [qs] at hp4; exact hp4.elim
          · exact hp3.elim
        · subst hk
          exact hp2 C σ' H' M' trivial x' p' hh' he' hg
/-- isinstance(e, c) in the suite of e: which classes are c's -/
def mIsE (tb : Tbl) (x : Xc) : ME := fun _ S => match tb.lookup x.cls with
  | some k => .ok (.d (.bl k)) S
  | none => .bad
theorem de_isE {a C : Addr} {oe : Obj} {pn : List (Addr × Obj)} {i : Nat} {x : Xc} {n cn : Str} {p p1 p2 : Pos} {cv : Value} {vv : V} {tb : Tbl} (hz : Zc (.ref C) none oe) (hf : ∃ vs, oe.data = .fields vs) (hg : X.mg x.cls = some (.ref C))
    (htb : ∀ y k, (y, k) ∈ tb → ∀ C, X.mg y = some (.ref C) → ExcC X.K C ∧ PySem.W.kitOne X.K (.ref C) cv = some k) (hm : X.mg "isinstance" = none) (hc : PE (X.suite a ((a, oe) :: pn)) (.Name cn p2) (tC vv)) (hcv : ∀ u, RelV vv u → u = cv)
    (hi : X.N[i]? = some n := by rfl) (hv : Vis X.env.scope n := by first | exact Or.inl rfl | exact Or.inr (Or.inl rfl) | exact Or.inr (Or.inr rfl)) (hgi : Gl X "isinstance" := by rfl) (hb : bootBuiltins "isinstance" = some (.builtin "isinstance") := by decide +kernel) (hd1 : (n == ("__debug__" : Str)) = false := by decide) (hd2 : (n == ("__classdict__" : Str)) = false := by decide)
    (h1 : starEach [.Name n p1, .Name cn p2] X.env = (false, eval (.Name n p1) X.env) :: starEach [.Name cn p2] X.env := by rfl) (h2 : starEach [.Name cn p2] X.env = (false, eval (.Name cn p2) X.env) :: starEach [] X.env := by rfl)
    (hpl : (backTo pos (starEach [.Name cn p2] X.env)).any (·.1) = false := by rfl) :
    DE (X.suite a ((a, oe) :: pn)) (ZE i a) W (.Call (.Name "isinstance" p) [.Name n p1, .Name cn p2] [] pos) (mIsE tb x) := by
  refine ⟨fun pins s σ H Q I h => ?_⟩
  obtain ⟨z, F, M, S, ρ, hh, he, hp⟩ := h
  have hp2 : Post X.κ F W σ M H (match tb.lookup x.cls with
    | some k => .ok (.d (.bl k)) S
    | none => .bad) (fun v M' H' => ∀ x, RepV X.κ H' M' v x → Q x H') := hp
  cases q : tb.lookup x.cls with
  | none => rw [q] at hp2; exact hp2.elim
  | some k =>
    rw [q] at hp2
    obtain ⟨hE, hk⟩ := htb _ _ (lookup_mem q) C hg
    refine (pe_callB (call_isE hE hz hf) hgi hm hb (pa_cons (pe_var hi hv hd1 hd2) (pa_cons hc pa_nil h2) h1) (by decide) (by decide) h1 hpl).run pins s σ H Q I ?_
    exact ⟨.ref a, z, vv, cv, k, rfl, hcv, hk, hp2.val hh List.prefix_rfl _ (.bl k)⟩

/-! ### lists changed -/
/-- xs.append(e) as a statement -/
def mAppend (ma me : ME) : ME := fun ρ S => (ma ρ S).bind fun v S1 => match v with
  | .r i => match sq S1 i with
    | none => .bad
    | some _ => (me ρ S1).bind fun w S2 => match w with
      | .d x => match S2[i]? with
        | some (.lst xs) => if xs.length ≤ big then .ok (.d .non) (S2.set i (.lst (xs ++ [x]))) else .bad
        | _ => .bad
      | _ => .bad
  | _ => .bad
theorem de_append {apos : Pos} (ha : DE X Z W a ma) (he : DE X Z W e me)
    (h : PE X (.Call (.Attribute a "append" apos) [e] [] pos) (tBM X.K "list" rAppend (tM X.κ Z W ma) (tCons (tM X.κ Z W me) tNil))) : DE X Z W (.Call (.Attribute a "append" apos) [e] [] pos) (mAppend ma me) :=
  pe_imp h fun σ H Q ⟨z, F, M, S, ρ, hh, he, hp⟩ => by
    refine ⟨z, F, M, S, ρ, hh, he, step hp List.prefix_rfl fun v M1 H1 S1 x1 p1 hh1 hp1 => ?_⟩
    intro x rx
    split at hp1
    · rename_i i
      obtain ⟨l, rfl, m⟩ := rx
      cases hc : sq S1 i with
      | none => rw [hc] at hp1; exact hp1.elim
      | some c =>
      rw [hc] at hp1
      obtain ⟨vs0, hs0, _⟩ := CeOk.seq hc (hh1.cell i c l (sq_at hc) m)
      refine ⟨?_, z, F, M1, S1, ρ, hh1, he.mono x1 p1, step hp1 p1 fun w M2 H2 S2 x2 p2 hh2 hp2 => ?_⟩
      · exact .inl ⟨rfl, _, hs0⟩
      intro y ry
      have hp2' : Post X.κ F W σ M H2 (match w with
        | .d x => match S2[i]? with
          | some (.lst xs) => if xs.length ≤ big then .ok (.d .non) (S2.set i (.lst (xs ++ [x]))) else .bad
          | _ => .bad
        | _ => .bad) (fun v M' H' => ∀ x, RepV X.κ H' M' v x → Q x H') := hp2
      split at hp2'
      · rename_i d
        split at hp2'
        · rename_i xs eS
          split at hp2'
          · rename_i hl
            obtain ⟨vs, h2, r2⟩ := hh2.cell i _ l eS (pre_get p2 m)
            have rd : Rep X.κ H2 d y := ry
            refine ⟨l, vs, y, rfl, rfl, h2, by rw [← r2.length]; exact big_lt hl, ?_⟩
            exact hp2' _ M2 (Ext.lst h2) (p1.trans p2) (hh2.put eS (pre_get p2 m) (r2.append (.cons rd .nil))) _ Rep.non
          · exact hp2'.elim
        · exact hp2'.elim
      · exact hp2'.elim
    · exact hp1.elim
/-- xs[i] = e -/
def putM (v k w : Vl) (ρ : Rho) (S3 : Sto) : Rss := match v, k, w with
  | .r i, .d (.int j), .d x => match S3[i]? with
    | some (.lst xs) => match ixN xs.length j with
      | some n => .next ρ (S3.set i (.lst (xs.set n x)))
      | none => .bad
    | _ => .bad
  | _, _, _ => .bad
def mPut (ma mb me : ME) : MS := fun ρ S => (me ρ S).thenS ρ fun w S1 => (ma ρ S1).thenS ρ fun v S2 => (mb ρ S2).thenS ρ fun k S3 => putM v k w ρ S3
theorem stepS' {D : Ends} {σ : L2.St} {M M1 : List Addr} {H : Hp} {ρ : Rho} {r : Rs Vl} {f : Vl → Sto → Rss} {P' : Vl → List Addr → Hp → Prop} (z : Z σ) (he : EnvR X.κ H M1 ρ σ) (h : PostS X.κ F Z W D M H (r.thenS ρ f)) (q : M <+: M1)
    (k : ∀ v M2 H1 S1, Ext H H1 → M1 <+: M2 → Hold X.κ F H1 M2 S1 → PostS X.κ F Z W D M H1 (f v S1) → P' v M2 H1) : Post X.κ F W σ M1 H r P' :=
  (PostS.thenS z he q h).imp fun v M2 H1 _ _ ⟨x, p, S1, hh, q⟩ => k v M2 H1 S1 x p hh q
theorem ds_put {tpos : Pos} (he : DE X ZT W e me) (ha : DE X ZT W a ma) (hb : DE X ZT W b mb) (h : PS X (.Assign [.Subscript a b tpos] e pos) (tAsg (tM X.κ ZT W me) (gSub (tM X.κ ZT W ma) (tM X.κ ZT W mb) rSetL))) :
    DS X ZT W (.Assign [.Subscript a b tpos] e pos) (mPut ma mb me) := ps_imp h fun D σ H ⟨z, F, M, S, ρ, hh, he, hp⟩ => by
  refine ⟨z, F, M, S, ρ, hh, he, stepS z he hp fun w M1 H1 S1 x1 p1 hh1 hp1 => ?_⟩
  intro y ry
  refine ⟨z, F, M1, S1, ρ, hh1, he.mono x1 p1, stepS' z (he.mono x1 p1) hp1 p1 fun v M2 H2 S2 x2 p2 hh2 hp2 => ?_⟩
  intro o ro
  refine ⟨z, F, M2, S2, ρ, hh2, he.mono (x1.trans x2) (p1.trans p2), stepS' z (he.mono (x1.trans x2) (p1.trans p2)) hp2 (p1.trans p2) fun k M3 H3 S3 x3 p3 hh3 hp3 => ?_⟩
  intro i ri
  unfold putM at hp3
  split at hp3
  · rename_i c j d
    split at hp3
    · rename_i xs eS
      split at hp3
      · rename_i n en
        obtain ⟨l, rfl, m⟩ := ro
        cases (show Rep X.κ H3 _ i from ri)
        have m3 := pre_get p3 m
        obtain ⟨vs, h3, r3⟩ := hh3.cell c _ l eS m3
        have rd : Rep X.κ H3 d y := (show Rep X.κ H1 d y from ry).mono (x2.trans x3)
        refine ⟨l, vs, j, n, rfl, rfl, h3, by rw [← r3.length]; exact en, ?_⟩
        exact hp3 σ _ M3 trivial (Ext.lst h3) ((p1.trans p2).trans p3) (hh3.put eS m3 (r3.set n rd)) (((he.mono (x1.trans x2) (p1.trans p2)).mono x3 p3).mono (Ext.lst h3) List.prefix_rfl)
      · exact hp3.elim
    · exact hp3.elim
  · exact hp3.elim
end
end Mo
/-! Facts of the top, promises of defs, in short. -/
namespace Mo
open PySem PySem.Spec PyProof.Rows L2
/-- a def stands at the top -/
def DefOk (K : PySem.W.Frag) (mg : Str → Option Value) (x : Str) (st : Stmt) (ps : List Str) : Prop :=
  ∃ f fd, mg x = some (.ref f) ∧ PySem.W.keepIn K (.ref f) = true ∧ Fun K x x st f fd ∧ ∀ (s : Shared) (us : List Value), us.length = ps.length → BindsTo s fd ⟨us, []⟩ (ps.zip us)
/-- a def keeps its promise -/
def CallOk (P : Program) (w : World) (K : PySem.W.Frag) (mg : Str → Option Value) (base : Heap) (k : Nat) (x : Str) (ps : List Str) (g : List Vl → Sto → Rs Vl) : Prop :=
  ∃ f fd, FnOk P w K mg base (L2.CX P w) k f fd ps (spM ⟨K, mg, w, P⟩ g) ∧ mg x = some (.ref f) ∧ PySem.W.keepIn K (.ref f) = true ∧ Binds K fd ps [] ∧ ∃ oc od osl, K.lookup f = some ⟨oc, od, .func fd, osl⟩
theorem defOk_mk {K : PySem.W.Frag} {h : Heap} {mg : Str → Option Value} {x : Str} {st : Stmt} {ps : List Str} {f : Addr} {od an : Option Addr} {sl : Array (Option Value)} {oc kV dc pm cd ct : Value} (X : K.In h) (G : h.Ns mainGlobals mg)
    (a : PySem.W.nsIn K mainGlobals x = some (some (.ref f))) (l : K.lookup f = some ⟨oc, od, .func (PySem.W.fnOf x x (defArgs st) (defBody st) (defScope st) .none kV dc pm an cd ct), sl⟩) (c : PySem.W.codeIn K cd x = true) (k : PySem.W.keepIn K (.ref f) = true)
    (b : ∀ (kV doc pm : Value) (an : Option Addr) (cdv ct : Value) (us : List Value), us.length = ps.length → bindArgs (PySem.W.fnOf x x (defArgs st) (defBody st) (defScope st) .none kV doc pm an cdv ct) ⟨us, []⟩ = pure (ps.zip us)) : DefOk K mg x st ps := by
  have F := fun_mk (st := st) l c k
  exact ⟨f, _, PySem.W.mg_of X G a, k, F, fun s us hl => .of_eq (b _ _ _ _ _ _ us hl)⟩
section
variable {P : Program} {w : World} {K : PySem.W.Frag} {mg : Str → Option Value} {base : Heap}
theorem DefOk.mk {x : Str} {st : Stmt} {N ps : List Str} {k : Nat} {body : MS} (D : DefOk K mg x st ps) (Sc : FnScope N ps (defScope st))
    (hb : ∀ (f : Addr) (cdv : Value) (A : Around) (outer : List PySem.Env) (s : Shared) (H : Hp) (E : XK), Room k (A.deeper (envOfC x (defScope st) s.heap.objs.size f cdv)) →
      PSs (cxOf (L2.CX P w) P w K mg base N x (defScope st) f cdv A outer s H E) (defBody st) (tMS ⟨K, mg, w, P⟩ ZT (fun cls d _ H => E cls d H) body)) :
    CallOk P w K mg base (k + 1) x ps (fnM ps.length N.length body) := by
  obtain ⟨f, fd, hm, hk, F, B⟩ := D
  obtain ⟨oc, od, kV, doc, pm, an, cdv, ct, osl, e, lk, _⟩ := id F.ex
  exact ⟨f, fd, fn_okM (κ := ⟨K, mg, w, P⟩) F Sc fun cdv A outer s H E hr => hb f cdv A outer s H E hr, hm, hk, fun s us _ hl => by rw [List.append_nil] at hl ⊢; exact B s us hl, oc, od, osl, lk⟩
theorem CallOk.mono {x : Str} {ps : List Str} {g : List Vl → Sto → Rs Vl} {j k : Nat} (C : CallOk P w K mg base j x ps g) (h : j ≤ k) : CallOk P w K mg base k x ps g := by
  obtain ⟨f, fd, F, r⟩ := C
  exact ⟨f, fd, F.mono h, r⟩
end
section
variable {X : Cx} {Z : L2.St → Prop} {W : WX} {a b c e : Expr} {es : List Expr} {pos : Pos} {ma mb mc me : ME} {mas : MA}
theorem de_fn {j k : Nat} {ps : List Str} {g : List Vl → Sto → Rs Vl} {x : Str} {p : Pos} (F : CallOk X.prog X.w X.K X.mg X.base j x ps g) (hr : Room k X.A) (hj : j ≤ k) (tk : Takes X W)
    (ha : DA X Z W (e :: es) mas) (hg : Gl X x := by rfl) (hdb : (x == ("__debug__" : Str)) = false := by decide) (he : starEach (e :: es) X.env = (false, eval e X.env) :: starEach es X.env := by rfl) (hpl : (backTo pos (starEach es X.env)).any (·.1) = false := by rfl) :
    DE X Z W (.Call (.Name x p) (e :: es) [] pos) (mFn g mas) := by
  obtain ⟨f, fd, F, hm, hk, hb, _⟩ := F
  exact de_call F (hr.mono hj) hm hk hb tk ha hg hdb he hpl
theorem de_gint {x : Str} {i : Int} (h : ∃ t, X.mg x = some (.int i t)) (hg : Gl X x := by rfl) (hd : (x == ("__debug__" : Str)) = false := by decide) : DE X Z W (.Name x pos) (mC (.int i)) := by
  obtain ⟨t, h⟩ := h
  exact de_glob (v := .int i) h ⟨t, rfl⟩ (fun _ => .int i) hg hd
theorem de_gdat {x : Str} {d : Dt} (h : ∃ (u : Value) (v : V), X.mg x = some u ∧ RelV v u ∧ ∀ H, Rep X.κ H d v) (hg : Gl X x := by rfl) (hd : (x == ("__debug__" : Str)) = false := by decide) : DE X Z W (.Name x pos) (mC d) := by
  obtain ⟨u, v, h, r, q⟩ := h
  exact de_glob h r q hg hd
/-! built-ins by name -/
section
variable {p : Pos} {f : Nat → List Vl → Sto → Rs Vl}
theorem de_len (hm : X.mg "len" = none) (ha : DA X Z W (e :: es) mas) (hg : Gl X "len" := by rfl) (he : starEach (e :: es) X.env = (false, eval e X.env) :: starEach es X.env := by rfl) (hpl : (backTo pos (starEach es X.env)).any (·.1) = false := by rfl) : DE X Z W (.Call (.Name "len" p) (e :: es) [] pos) (mCall bLen mas) :=
  de_callB call_len rc_len hm (by decide +kernel) ha hg (by decide) (by decide) he hpl
theorem de_abs (hm : X.mg "abs" = none) (ha : DA X Z W (e :: es) mas) (hg : Gl X "abs" := by rfl) (he : starEach (e :: es) X.env = (false, eval e X.env) :: starEach es X.env := by rfl) (hpl : (backTo pos (starEach es X.env)).any (·.1) = false := by rfl) : DE X Z W (.Call (.Name "abs" p) (e :: es) [] pos) (mCall bAbs mas) :=
  de_callB call_abs rc_abs hm (by decide +kernel) ha hg (by decide) (by decide) he hpl
theorem de_max (hc : X.calm = true) (hm : X.mg "max" = none) (ha : DA X Z W (e :: es) mas) (hg : Gl X "max" := by rfl) (he : starEach (e :: es) X.env = (false, eval e X.env) :: starEach es X.env := by rfl) (hpl : (backTo pos (starEach es X.env)).any (·.1) = false := by rfl) : DE X Z W (.Call (.Name "max" p) (e :: es) [] pos) (mCall bMax mas) :=
  de_callB (call_max3 hc) rc_max hm (by decide +kernel) ha hg (by decide) (by decide) he hpl
theorem de_min (hc : X.calm = true) (hm : X.mg "min" = none) (ha : DA X Z W (e :: es) mas) (hg : Gl X "min" := by rfl) (he : starEach (e :: es) X.env = (false, eval e X.env) :: starEach es X.env := by rfl) (hpl : (backTo pos (starEach es X.env)).any (·.1) = false := by rfl) : DE X Z W (.Call (.Name "min" p) (e :: es) [] pos) (mCall bMin mas) :=
  de_callB (call_min3 hc) rc_min hm (by decide +kernel) ha hg (by decide) (by decide) he hpl
theorem de_sum (hc : X.calm = true) (hm : X.mg "sum" = none) (ha : DA X Z W (e :: es) mas) (hg : Gl X "sum" := by rfl) (he : starEach (e :: es) X.env = (false, eval e X.env) :: starEach es X.env := by rfl) (hpl : (backTo pos (starEach es X.env)).any (·.1) = false := by rfl) : DE X Z W (.Call (.Name "sum" p) (e :: es) [] pos) (mCall bSum mas) :=
  de_callB (call_sum3 hc) rc_sum hm (by decide +kernel) ha hg (by decide) (by decide) he hpl
theorem de_all (hc : X.calm = true) (hm : X.mg "all" = none) (ha : DA X Z W (e :: es) mas) (hg : Gl X "all" := by rfl) (he : starEach (e :: es) X.env = (false, eval e X.env) :: starEach es X.env := by rfl) (hpl : (backTo pos (starEach es X.env)).any (·.1) = false := by rfl) : DE X Z W (.Call (.Name "all" p) (e :: es) [] pos) (mCall bAll mas) :=
  de_callB (cr_all hc) rc_all hm (by decide +kernel) ha hg (by decide) (by decide) he hpl
theorem de_any (hc : X.calm = true) (hm : X.mg "any" = none) (ha : DA X Z W (e :: es) mas) (hg : Gl X "any" := by rfl) (he : starEach (e :: es) X.env = (false, eval e X.env) :: starEach es X.env := by rfl) (hpl : (backTo pos (starEach es X.env)).any (·.1) = false := by rfl) : DE X Z W (.Call (.Name "any" p) (e :: es) [] pos) (mCall bAny mas) :=
  de_callB (cr_any hc) rc_any hm (by decide +kernel) ha hg (by decide) (by decide) he hpl
theorem de_intc (hm : X.mg "int" = none) (ha : DA X Z W (e :: es) mas) (hg : Gl X "int" := by rfl) (he : starEach (e :: es) X.env = (false, eval e X.env) :: starEach es X.env := by rfl) (hpl : (backTo pos (starEach es X.env)).any (·.1) = false := by rfl) : DE X Z W (.Call (.Name "int" p) (e :: es) [] pos) (mCall bInt mas) :=
  de_callTy call_int1 rc_int hm (by decide +kernel) ha hg (by decide) (by decide) he hpl
theorem de_tuple (hm : X.mg "tuple" = none) (ha : DA X Z W (e :: es) mas) (hg : Gl X "tuple" := by rfl) (he : starEach (e :: es) X.env = (false, eval e X.env) :: starEach es X.env := by rfl) (hpl : (backTo pos (starEach es X.env)).any (·.1) = false := by rfl) : DE X Z W (.Call (.Name "tuple" p) (e :: es) [] pos) (mCall bTuple mas) :=
  de_callTy call_tuple_of rc_tuple hm (by decide +kernel) ha hg (by decide) (by decide) he hpl
theorem de_list (hm : X.mg "list" = none) (ha : DA X Z W (e :: es) mas) (hg : Gl X "list" := by rfl) (he : starEach (e :: es) X.env = (false, eval e X.env) :: starEach es X.env := by rfl) (hpl : (backTo pos (starEach es X.env)).any (·.1) = false := by rfl) : DE X Z W (.Call (.Name "list" p) (e :: es) [] pos) (mCall bList mas) :=
  de_callTy call_list_of rc_list hm (by decide +kernel) ha hg (by decide) (by decide) he hpl
end
/-- what the suite's clause takes, by the errors' names -/
def TblOk (K : PySem.W.Frag) (mg : Str → Option Value) (cl : Value) (tb : Tbl) : Prop := ∀ y k, (y, k) ∈ tb → ∀ C, mg y = some (.ref C) → PySem.W.exmOne K (.ref C) cl = some k
def IsTbl (K : PySem.W.Frag) (mg : Str → Option Value) (cv : Value) (tb : Tbl) : Prop := ∀ y k, (y, k) ∈ tb → ∀ C, mg y = some (.ref C) → ExcC K C ∧ PySem.W.kitOne K (.ref C) cv = some k
end
end Mo
/-! t[::-1] of a tuple; list(range(a, b)) whatever the size of a and b. -/
namespace Mo
open PySem PySem.Spec PyProof.Rows L2 PySem.W
section
variable {prog : Program} {w : World} {A : Around} {E : Value → Shared → Prop} {s : Shared}
theorem back_places (n : Nat) : Builtin.Slice.slicePlaces ((n : Int) - 1) (-1) (-1) = n := by
  unfold Builtin.Slice.slicePlaces
  rw [if_neg (by decide)]
  by_cases h : (n : Int) - 1 > -1
  · rw [if_pos h]
    have e : -(-1 : Int) = 1 := by decide
    rw [e, Int.ediv_one]
    omega
  · rw [if_neg h]
    omega
theorem back_applied {sl : Addr} {vs : Value} {n : Nat} {Q : Int × Int × Nat → Shared → Prop} (hs : s.heap.IsSliceOf sl .none .none vs) (pv : IsPart vs (some (-1))) (q : Q ((n : Int) - 1, -1, n) s) :
    wpAny (model prog w) A (Builtin.Slice.sliceApplied (.ref sl) (pure (n : Int))) Q E s := by
  obtain ⟨ob, h1, h2, h3⟩ := hs
  unfold Builtin.Slice.sliceApplied Builtin.Slice.sliceFields
  refine wpAny_bind (wpAny_bind (wpAny_field h1 h3 (x := .none) rfl (wpAny_bind (wpAny_field h1 h3 (x := .none) rfl (wpAny_bind (wpAny_field h1 h3 (x := vs) rfl (wpAny_pure ?_)))))))
  refine wpAny_bind (HT.slicePart_ pv ?_)
  show wpAny _ _ (if ((-1 : Int) == 0) = true then _ else _) _ _ s
  rw [if_neg (by decide)]
  refine wpAny_bind (HT.slicePart_ IsPart.none (wpAny_bind (HT.slicePart_ IsPart.none (wpAny_bind (wpAny_pure ?_)))))
  have ea : Builtin.Slice.sliceAdjust none none (-1) (n : Int) = ((n : Int) - 1, -1) := rfl
  show wpAny _ _ (match Builtin.Slice.sliceAdjust none none (-1) (n : Int) with | (x, y) => pure (x, (-1 : Int), Builtin.Slice.slicePlaces x y (-1))) _ _ s
  rw [ea]
  show wpAny _ _ (pure ((n : Int) - 1, (-1 : Int), Builtin.Slice.slicePlaces ((n : Int) - 1) (-1) (-1))) _ _ s
  rw [back_places]
  exact wpAny_pure q
theorem fm_congr {α β : Type} {f g : α → Option β} : ∀ {l : List α}, (∀ m ∈ l, f m = g m) → l.filterMap f = l.filterMap g
  | [], _ => rfl
  | a :: l, h => by
    rw [List.filterMap_cons, List.filterMap_cons, h a List.mem_cons_self, fm_congr fun m hm => h m (List.mem_cons_of_mem _ hm)]
theorem back_pick (xs : Array Value) : ((List.range xs.size).filterMap fun (m : Nat) => xs[((xs.size : Int) - 1 + (m : Int) * (-1)).toNat]?) = xs.toList.reverse := by
  have e : ∀ m ∈ List.range xs.size, xs[((xs.size : Int) - 1 + (m : Int) * (-1)).toNat]? = xs[xs.size - 1 - m]? := fun m hm => by
    have := List.mem_range.mp hm
    have e2 : ((xs.size : Int) - 1 + (m : Int) * (-1)).toNat = xs.size - 1 - m := by omega
    rw [e2]
  have e1 : ((List.range xs.size).filterMap fun (m : Nat) => xs[((xs.size : Int) - 1 + (m : Int) * (-1)).toNat]?) = (List.range xs.size).filterMap fun m => xs[xs.size - 1 - m]? := fm_congr e
  rw [e1]
  have e3 : ((List.range xs.size).filterMap fun m => xs[xs.size - 1 - m]?) = (((List.range xs.size).map fun k => xs.size - 1 - k).filterMap (xs[·]?)) := by
    rw [List.filterMap_map]
    rfl
  rw [e3, krv_range, List.filterMap_reverse, krv_all]
theorem back_getItem {t sl : Addr} {items : Array Value} {vs : Value} {Q : Value → Shared → Prop} (ht : IsTup s.heap t items) (hs : s.heap.IsSliceOf sl .none .none vs) (pv : IsPart vs (some (-1))) (hz : items.size ≤ sizeLine)
    (q : Q (.ref s.heap.objs.size) { s with heap := s.heap.push { cls := .type "tuple", data := .seq items.toList.reverse.toArray } }) : wpAny (model prog w) A (getItem (.ref t) (.ref sl)) Q E s := by
  have ok : sizeOk (.seq items.toList.reverse.toArray) := by
    show items.toList.reverse.toArray.size ≤ sizeLine
    simpa using hz
  have hT : s.TypeIs (.ref sl) "slice" := let ⟨ob, h1, h2, _⟩ := hs; ⟨ob, h1, h2⟩
  unfold getItem
  try with_reducible refine wpAny_holding ?_
  first | refine wpAny_bind (wpAny_pure ?_) | skip
  refine wpAny_bind (wpAny_sequenceKey ht.typeIs (by decide) ?_)
  refine wpAny_bind (wpAny_callSpecial?_slot (name := Str.ofString "__getitem__") ht.typeIs slot_tuple_getitem (wpAny_call_entry slot_tuple_getitem ht.typeIs entry_tuple_getitem ?_ (args_tuple_getitem _ _)))
  show wpAny _ _ (Builtin.Tuple.tupleItemsOf (.ref t) >>= _) _ _ s
  refine wpAny_bind (tupleItemsOf_ ht (wpAny_bind (wpAny_typeOf hT ?_)))
  rw [if_pos (by decide)]
  refine wpAny_bind (back_applied hs pv ?_)
  have no : ¬ ((((items.size : Int) - 1) == 0 && (-1 : Int) == 1 && items.size == items.size) = true) := by
    rw [show ((-1 : Int) == 1) = false by decide, Bool.and_false, Bool.false_and]
    decide
  show wpAny _ _ (if ((((items.size : Int) - 1) == 0 && (-1 : Int) == 1 && items.size == items.size) = true) then _ else _) _ _ s
  rw [if_neg no, back_pick]
  first
    | exact wpAny_bind (m := Builtin.Tuple.tupleExact _) (wpAny_newObj_type (wpAny_pure ⟨_, rfl, wpAny_pure q⟩) ok)
    | exact wpAny_bind (m := Builtin.Tuple.tupleExact _) (wpAny_newObj_type (wpAny_bind (wpAny_pure (wpAny_pure ⟨_, rfl, wpAny_pure q⟩))) ok)
    | exact wpAny_bind (wpAny_bind (m := Builtin.Tuple.tupleExact _) (wpAny_newObj_type (wpAny_pure (wpAny_pure ⟨_, rfl, wpAny_pure q⟩)) ok))
    | exact wpAny_bind (wpAny_bind (m := Builtin.Tuple.tupleExact _) (wpAny_newObj_type (wpAny_pure ⟨_, rfl, wpAny_pure q⟩) ok))
end
section
variable {X : Cx} {Z : L2.St → Prop} {W : WX} {a b c e : Expr} {es : List Expr} {pos : Pos} {ma mb mc me : ME} {mas : MA}
def tRevT (κ : KW) (te : TE) : TE := fun σ H Q => te σ H fun x H1 => ∃ a xs, x = .ref a ∧ SqT κ.K H1 a xs ∧ ∀ p, H1 p = none → Q (.ref p) (upd H1 p (.tup xs.reverse))
theorem pe_revT {te : TE} {k : Nat} {p1 p2 p3 : Pos} (he : PE X e te) : PE X (.Subscript e (.Slice none none (some (.UnaryOp .USub (.Constant (.int 1) k p1) p2)) p3) pos) (tRevT X.κ te) := by
  refine ⟨fun pins s σ H Q I h => Subscript_ (thn (he.run pins s σ H _ I h) fun v s1 ⟨x, H1, I1, r1, q1⟩ => ?_)⟩
  obtain ⟨a, xs, ex, hx, q⟩ := q1
  subst ex
  cases r1
  have st : PO X (some (.UnaryOp .USub (.Constant (.int 1) k p1) p2)) (tPart (tUn (rU fun i => .int (-i)) (tC (.int 1)))) := po_some (pe_un un_neg pe_int)
  refine wpAny_Slice (thn (po_none.run pins s1 σ H1 (fun o G => o = none ∧ G = H1) I1 ⟨rfl, rfl⟩) fun vl s2 ⟨l, H2, I2, pl, el, e2⟩ => ?_)
  subst el e2
  refine thn (po_none.run pins s2 σ H2 (fun o G => o = none ∧ G = H2) I2 ⟨rfl, rfl⟩) fun vu s3 ⟨u, H3, I3, pu, eu, e3⟩ => ?_
  subst eu e3
  refine thn (st.run pins s3 σ H3 (fun o G => o = some (-1) ∧ G = H3) I3 ⟨1, rfl, -1, rfl, rfl, rfl⟩) fun vs s4 ⟨o, H4, I4, ps, eo, e4⟩ => ?_
  subst eo e4
  cases pl
  cases pu
  have I5 : Inv X pins σ H4 { s4 with heap := s4.heap.push { cls := .type "slice", data := .fields #[.none, .none, vs] } } := I4.kept (t' := s4.toks) fun b ob z => Heap.get?_push_of_some _ z
  obtain ⟨its, r, ht, hz⟩ := I5.tuple hx
  have hlen := r.length
  show wpAny (model X.prog X.w) X.A (subscriptTail e (.Slice none none (some (.UnaryOp .USub (.Constant (.int 1) k p1) p2)) p3) (.ref a) (.ref s4.heap.objs.size)) (EP X pins σ Q) X.xe _
  refine tail_any (ops := [.ref a, .ref s4.heap.objs.size]) ht.typeIs slot_tuple_getitem.lookup ?_ (by with_unfolding_all rfl)
  refine back_getItem ht (Heap.IsSliceOf.new _ .none .none vs) ps (by rw [List.size_toArray, ← hlen]; exact hz) ?_
  refine ⟨.ref _, _, I5.laid (t' := s4.toks) (o := .tup xs.reverse) (fun b ob z => Heap.get?_push_of_some _ z) (Nat.le_refl _) ?_, rfl, q _ (I5.hok.fresh (Nat.le_refl _))⟩
  refine ⟨by rw [List.length_reverse]; exact hz, its.reverse, r.reverse, ?_⟩
  have := IsTup.new (Heap.push s4.heap { cls := .type "slice", data := .fields #[.none, .none, vs] }) its.reverse.toArray
  simpa using this
def mRev (ma : ME) : ME := fun ρ S => (ma ρ S).bind fun v S1 => match v with
  | .d (.tup xs) => .ok (.d (.tup xs.reverse)) S1
  | _ => .bad
theorem pe_or {t t' : TE} (h : PE X e t) (h' : PE X e t') : PE X e (fun σ H Q => t σ H Q ∨ t' σ H Q) := ⟨fun pins s σ H Q I q => q.elim (h.run pins s σ H Q I) (h'.run pins s σ H Q I)⟩
theorem de_rev {k : Nat} {p1 p2 p3 : Pos} (ha : DE X Z W a ma) : DE X Z W (.Subscript a (.Slice none none (some (.UnaryOp .USub (.Constant (.int 1) k p1) p2)) p3) pos) (mRev ma) := pe_imp (pe_revT ha) fun σ H Q ⟨z, F, M, S, ρ, hh, he, hp⟩ => by
  refine ⟨z, F, M, S, ρ, hh, he, ?_⟩
  unfold mRev at hp
  refine step hp List.prefix_rfl fun v M1 H1 S1 x1 p1 hh1 hp1 => ?_
  intro x rx
  split at hp1
  · cases (show Rep X.κ H1 _ x from rx) with
    | @tup a _ vs h r => exact ⟨a, vs, rfl, h, fun p hn => hp1 _ M1 (Ext.new hn) p1 (hh1.new hn) _ (Rep.tup (SqT.of upd_same) (r.reverse.mono (Ext.new hn)))⟩
  · exact hp1.elim
end
/-! list(range(a, b)), the bounds of any size -/
section
variable {prog : Program} {w : World} {A : Around} {E : Value → Shared → Prop} {s : Shared}
/-- the list S, empty so far, takes what the range r gives, by the long iterator -/
theorem ext_long {R : Result → Shared → Prop} {r : Addr} {a b c : Int} {t u v : Tok} {n : Nat} (hh : A.handled = none) (hr : IsRange s.heap r a b c t u v) (big : Builtin.Range.small a b c = false) (hn : Builtin.Range.rangeSize a b c = n) (hl : n ≤ 2 ^ 24)
    (L : Addr) (res : Value) (c0 : Nat) (hL : s.heap.get? L = some { cls := .type "list", data := .seq #[] c0 })
    (k : ∀ h' tk acc c', (∀ x o, x ≠ L → s.heap.get? x = some o → h'.get? x = some o) → h'.get? L = some { cls := .type "list", dict := none, data := .seq acc c', slots := #[] } → ItemsOf (fun i v => ∃ t, v = .int (a + i * c) t) acc n → R (.ok (.ret res)) { s with heap := h', toks := tk }) :
    wpAny (model prog w) A.in1 (Builtin.List.listExtendWith (.ref L) (.ref r) res) (fun fin s' => match fin with | .done f => R (.ok f) s' | .again c' => c'.quiet = true ∧ codeAny (model prog w) A c' R s') (fun e s' => R (.error e) s') s := by
  have nr : L ≠ r := fun z => by rw [z, hr] at hL; simp at hL
  have nI : L ≠ s.heap.objs.size := Nat.ne_of_lt (Heap.lt_size hL)
  have nf : L ∉ [s.heap.objs.size] := fun z => nI (List.mem_singleton.mp z)
  have Wk := (Walks.longrange (prog := prog) (w := w) (A := A.in1) hh s.heap.objs.size a c n).toS
  have run : ∀ (h : Heap) (c1 tk : Nat), IsLongIter h s.heap.objs.size (a + ((0 : Nat) : Int) * c) ((n : Int) - ((0 : Nat) : Int)) c → (∀ x o, x ≠ L → s.heap.get? x = some o → h.get? x = some o) →
      h.get? L = some { cls := .type "list", data := .seq #[] c1 } → codeAny (model prog w) A (.builtin "list.extend.loop" ⟨[.ref L, .ref s.heap.objs.size, res], []⟩) R { s with heap := h, toks := tk } := by
    intro h c1 tk hi hk h1
    refine codeAny_extend_loopS Wk (by rw [sizeLine_eq]; omega) L nf res n 0 _ #[] c1 rfl (Nat.zero_le _) hi h1 (ItemsOf.nil _) fun s' acc c' hm h2 ha => ?_
    rw [Moved.eq_with hm]
    refine k s'.heap s'.toks acc c' (fun x o nx e => hm.heap x o (fun z => ?_) (hk x o nx e)) h2 ha
    rcases List.mem_cons.mp z with z | z
    · exact nx z
    · exact absurd (Heap.lt_size e) (by rw [List.mem_singleton.mp z]; exact Nat.lt_irrefl _)
  unfold Builtin.List.listExtendWith
  refine wpAny_bind (wpAny_typeOf (T := "range") ⟨_, hr, rfl⟩ ?_)
  have t1 : Builtin.List.listSameRef (.ref L) (.ref r) = false := by simp [Builtin.List.listSameRef, nr]
  have t2 : (Value.type "range" == Value.type "list") = false := by decide
  have t3 : (Value.type "range" == Value.type "tuple") = false := by decide
  simp only [t1, t2, t3, Bool.or_false, Bool.false_eq_true, if_false]
  refine wpAny_bind (wpAny_pyIter_longrange hr big (wpAny_bind (wpAny_holding (wpAny_hint_range (n := n) (Heap.get?_push_of_some _ hr) hn hl ?_))))
  have i1 : IsLongIter (s.heap.push { cls := .type "longrange_iterator", data := .fields #[rawInt a, rawInt (Builtin.Range.rangeSize a b c), rawInt c] }) s.heap.objs.size (a + ((0 : Nat) : Int) * c) ((n : Int) - ((0 : Nat) : Int)) c := by
    show IsLongIter _ _ _ _ _
    rw [hn]
    simpa using Heap.get?_push_size _ rfl
  have l1 := Heap.get?_push_of_some { cls := .type "longrange_iterator", data := .fields #[rawInt a, rawInt (Builtin.Range.rangeSize a b c), rawInt c] } hL
  refine wpAny_ite_split (fun _ => ?_) (fun _ => wpAny_pure ⟨plainId_quiet F.plain_extend_loop _, run _ c0 _ i1 (fun x o _ e => Heap.get?_push_of_some _ e) l1⟩)
  refine wpAny_bind (wpAny_rule (wpAny_bind ?_))
  show wpAny _ _ (updateSeq L (·.push .none) >>= fun _ => updateSeq L (·.pop)) _ _ _
  refine wpAny_bind (wpAny_updateSeq l1 rfl ?_)
  have l2 := Heap.get?_update_self (Obj.mapSeq (·.push Value.none)) l1 rfl
  refine wpAny_updateSeq (hz := by seq_fits) l2 rfl ?_
  have l3 := Heap.get?_update_self (Obj.mapSeq (·.pop)) l2 rfl
  refine wpAny_pure ⟨plainId_quiet F.plain_extend_loop _, run _ _ _ ?_ (fun x o nx e => ?_) l3⟩
  · exact (Heap.get?_update_other _ _ nI).trans ((Heap.get?_update_other _ _ nI).trans i1)
  · exact (Heap.get?_update_other _ _ (Ne.symm nx)).trans ((Heap.get?_update_other _ _ (Ne.symm nx)).trans (Heap.get?_push_of_some _ e))
theorem list_long {Q : Value → Shared → Prop} {r : Addr} {a b c : Int} {t u v : Tok} {n : Nat} (hh : A.handled = none) (hr : IsRange s.heap r a b c t u v) (big : Builtin.Range.small a b c = false) (hn : Builtin.Range.rangeSize a b c = n) (hl : n ≤ 2 ^ 24)
    (k : ∀ h' tk acc c', (∀ x o, s.heap.get? x = some o → h'.get? x = some o) → h'.get? s.heap.objs.size = some { cls := .type "list", dict := none, data := .seq acc c', slots := #[] } → ItemsOf (fun i v => ∃ t, v = .int (a + i * c) t) acc n → Q (.ref s.heap.objs.size) { s with heap := h', toks := tk }) :
    wpAny (model prog w) A (call (.type "list") [.ref r]) Q E s := by
  refine callType_codes (Q₁ := fun obj s1 => obj = .ref s.heap.objs.size ∧ s1 = { s with heap := s.heap.push { cls := .type "list", data := .seq #[] } }) F.called_list (F.typeCall_list_1 _) F.entry_list_init (code_list_new _ ⟨rfl, rfl⟩) fun obj s1 h1 => ?_
  obtain ⟨rfl, rfl⟩ := h1
  have l0 : (s.heap.push { cls := .type "list", data := .seq #[] }).get? s.heap.objs.size = some { cls := .type "list", data := .seq #[] } := Heap.get?_push_size _ rfl
  have hr' : IsRange (s.heap.push { cls := .type "list", data := .seq #[] }) r a b c t u v := Heap.get?_push_of_some _ hr
  refine ⟨⟨_, l0, rfl⟩, F.args_list_init_2 _ _, ?_⟩
  have nr : s.heap.objs.size ≠ r := Nat.ne_of_gt (Heap.lt_size hr)
  show wpAny _ A.in1.in1 (do let old ← Builtin.List.listItems (.ref s.heap.objs.size); Builtin.List.listUpdate (.ref s.heap.objs.size) (fun _ => #[]); letGo old.toList.reverse; Builtin.List.listExtendWith (.ref s.heap.objs.size) (.ref r) .none) _ _ _
  refine wpAny_bind ?_
  unfold Builtin.List.listItems
  refine wpAny_bind (wpAny_seqItems l0 rfl (wpAny_pure ?_))
  show wpAny _ _ (updateSeq s.heap.objs.size (fun _ => #[]) >>= fun _ => letGo (#[] : Array Value).toList.reverse >>= fun _ => Builtin.List.listExtendWith (.ref s.heap.objs.size) (.ref r) .none) _ _ _
  refine wpAny_bind (wpAny_updateSeq l0 rfl (wpAny_bind (wpAny_letGo ?_)))
  have l2 := Heap.get?_update_self (Obj.mapSeq (fun _ => (#[] : Array Value))) l0 rfl
  have oth : ∀ x o, x ≠ s.heap.objs.size → (s.heap.push { cls := .type "list", data := .seq #[] }).get? x = some o → ((s.heap.push { cls := .type "list", data := .seq #[] }).update s.heap.objs.size (Obj.mapSeq (fun _ => (#[] : Array Value)))).get? x = some o :=
    fun x o nx e => (Heap.get?_update_other _ _ (Ne.symm nx)).trans e
  exact ext_long (A := A.in1) hh (oth r _ (Ne.symm nr) hr') big hn hl _ .none _ l2 fun h' tk acc c' hk h3 ha =>
    ⟨rfl, k h' tk acc c' (fun x o e => hk x o (Nat.ne_of_lt (Heap.lt_size e)) (oth x o (Nat.ne_of_lt (Heap.lt_size e)) (Heap.get?_push_of_some _ e))) h3 ha⟩
end
section
variable {X : Cx} {Z : L2.St → Prop} {W : WX} {a b c e : Expr} {es : List Expr} {pos : Pos} {ma mb mc me : ME} {mas : MA}
/-- the ints a .. b - 1 as a new list, fewer than a million -/
def tLstR (te : L2.St → Hp → (Int → Int → Hp → Prop) → Prop) : TE := fun σ H Q => te σ H fun a b H1 => (b - a).toNat ≤ big ∧ ∀ q, H1 q = none → Q (.ref q) (upd H1 q (.lst (rgV a b)))
theorem pe_listR {te : L2.St → Hp → (Int → Int → Hp → Prop) → Prop} {p : Pos} (hc : X.calm = true) (hg : Gl X "list") (hm : X.mg "list" = none) (he : PRg X e te) (na : starEach [e] X.env = (false, eval e X.env) :: starEach [] X.env := by rfl) : PE X (.Call (.Name "list" p) [e] [] pos) (tLstR te) := by
  refine ⟨fun pins s σ H Q I h => Call_ (ld_blt I hg hm boot_list (PyProof.Rows.callWith_type1 (args_cons (thn (he pins s σ H _ I h) fun x s1 ⟨r, a, b, t, u, v, H1, ex, hr, I1, ok, q⟩ => args_nil ?_) na) na))⟩
  subst ex
  unfold big at ok
  have fin : ∀ h' tk acc c', (∀ x o, s1.heap.get? x = some o → h'.get? x = some o) → h'.get? s1.heap.objs.size = some { cls := .type "list", dict := none, data := .seq acc c', slots := #[] } → ItemsOf (fun i v => ∃ t, v = .int (a + i * 1) t) acc (b - a).toNat →
      EP X pins σ Q (.ref s1.heap.objs.size) { s1 with heap := h', toks := tk } := fun h' tk acc c' hk e' hi => by
    refine ⟨.ref s1.heap.objs.size, upd H1 s1.heap.objs.size (.lst (rgV a b)), I1.laid hk (Nat.le_refl _) ?_, rfl, q _ (I1.hok.fresh (Nat.le_refl _))⟩
    exact ⟨by rw [rgV_length, sizeLine_eq]; omega, acc.toList, c', vals_rg hi, by rw [Array.toArray_toList]; exact e'⟩
  by_cases sm : Builtin.Range.small a b 1 = true
  · exact call_list_range (n := (b - a).toNat) (I1.ok.hd hc) hr sm (rangeSize_nat a b) (by omega) fin
  · exact list_long (n := (b - a).toNat) (I1.ok.hd hc) hr (by simpa using sm) (rangeSize_nat a b) (by omega) fin
def mListRg1 (ma : ME) : ME := fun ρ S => (ma ρ S).bind fun x S1 => match x with
  | .d (.int j) => if j.toNat ≤ big then .ok (.r S1.length) (S1 ++ [.lst (rngD 0 j.toNat)]) else .bad
  | _ => .bad
def mListRg2 (ma mb : ME) : ME := fun ρ S => (ma ρ S).bind fun x S1 => (mb ρ S1).bind fun y S2 => match x, y with
  | .d (.int i), .d (.int j) => if (j - i).toNat ≤ big then .ok (.r S2.length) (S2 ++ [.lst (rngD i (j - i).toNat)]) else .bad
  | _, _ => .bad
theorem rng_rep {κ : KW} {H : Hp} (i j : Int) : RepL κ H (rngD i (j - i).toNat) (rgV i j) := by
  unfold rngD rgV
  have : ∀ l : List Nat, RepL κ H (l.map fun k => Dt.int (i + (k : Nat))) (l.map fun k => V.int (i + (k : Nat))) := fun l => by
    induction l with
    | nil => exact .nil
    | cons k l ih => exact .cons (.int _) ih
  exact this _
theorem de_listRg2 {p p2 pos2 : Pos} (hm : X.mg "list" = none) (hm2 : X.mg "range" = none) (hA : DE X Z W a ma) (hB : DE X Z W b mb) (hc : X.calm = true := by rfl) (hg : Gl X "list" := by rfl) (hg2 : Gl X "range" := by rfl)
    (na : starEach [.Call (.Name "range" p2) [a, b] [] pos2] X.env = (false, eval (.Call (.Name "range" p2) [a, b] [] pos2) X.env) :: starEach [] X.env := by rfl) (na2 : starEach [a, b] X.env = (false, eval a X.env) :: starEach [b] X.env := by rfl)
    (nb : starEach [b] X.env = (false, eval b X.env) :: starEach [] X.env := by rfl) (hp : (backTo pos2 (starEach [b] X.env)).any (·.1) = false := by rfl) :
    DE X Z W (.Call (.Name "list" p) [.Call (.Name "range" p2) [a, b] [] pos2] [] pos) (mListRg2 ma mb) := by
  refine pe_imp (pe_listR hc hg hm (prg_2 hg2 hm2 hA hB na2 nb hp) na) fun σ H Q ⟨z, F, M, S, ρ, hh, he, hp⟩ => ?_
  refine ⟨z, F, M, S, ρ, hh, he, step hp List.prefix_rfl fun v M1 H1 S1 x1 p1 hh1 hp1 => ?_⟩
  intro x rx
  refine ⟨z, F, M1, S1, ρ, hh1, he.mono x1 p1, step hp1 p1 fun u M2 H2 S2 x2 p2 hh2 hp2 => ?_⟩
  intro y ry
  split at hp2
  · split at hp2
    · rename_i hl
      cases (show Rep X.κ H1 _ x from rx)
      cases (show Rep X.κ H2 _ y from ry)
      refine ⟨_, _, rfl, rfl, hl, fun q hq => ?_⟩
      exact hp2 _ _ (Ext.new hq) (pre_app (p1.trans p2)) (hh2.cons hq (rng_rep _ _)) _ ⟨q, rfl, at_end hh2.len⟩
    · exact hp2.elim
  · exact hp2.elim
theorem de_listRg1 {p p2 pos2 : Pos} (hm : X.mg "list" = none) (hm2 : X.mg "range" = none) (hA : DE X Z W a ma) (hc : X.calm = true := by rfl) (hg : Gl X "list" := by rfl) (hg2 : Gl X "range" := by rfl)
    (na : starEach [.Call (.Name "range" p2) [a] [] pos2] X.env = (false, eval (.Call (.Name "range" p2) [a] [] pos2) X.env) :: starEach [] X.env := by rfl) (na2 : starEach [a] X.env = (false, eval a X.env) :: starEach [] X.env := by rfl) :
    DE X Z W (.Call (.Name "list" p) [.Call (.Name "range" p2) [a] [] pos2] [] pos) (mListRg1 ma) := by
  refine pe_imp (pe_listR hc hg hm (prg_1 hg2 hm2 hA na2) na) fun σ H Q ⟨z, F, M, S, ρ, hh, he, hp⟩ => ?_
  refine ⟨z, F, M, S, ρ, hh, he, step hp List.prefix_rfl fun v M1 H1 S1 x1 p1 hh1 hp1 => ?_⟩
  intro x rx
  split at hp1
  · rename_i j
    split at hp1
    · rename_i hl
      cases (show Rep X.κ H1 _ x from rx)
      refine ⟨_, rfl, by simpa using hl, fun q hq => ?_⟩
      have rr := rng_rep (κ := X.κ) (H := H1) 0 j
      rw [Int.sub_zero] at rr
      exact hp1 _ _ (Ext.new hq) (pre_app p1) (hh1.cons hq rr) _ ⟨q, rfl, at_end hh1.len⟩
    · exact hp1.elim
  · exact hp1.elim
end
end Mo
/-! for i, x in enumerate(t), t a tuple. -/
namespace Mo
open PySem PySem.Spec PyProof.Rows L2
section
variable {u : Value} {ob : Obj} {Hq : Heap → Prop}
theorem enum_new1 (B : Begins u ob Hq) :
    Meets (Builtin.«enumerate.__new__» ⟨[.type "enumerate", u], []⟩) (fun _ R z => Hq z.heap ∧ R (.ok (.ret (.ref (z.heap.push ob).objs.size)))
      { z with heap := (z.heap.push ob).push { cls := .type "enumerate", data := .fields #[.none, .bool false, .ref z.heap.objs.size, rawInt 0, .none, .none] } }) :=
  .of_wp fun prog w A R z hz => by
    obtain ⟨hh, gg, dd, tt, oo⟩ := z
    obtain ⟨hh1, hz⟩ := hz
    have sub0 := sub_enumerate
    have it1 : ∀ {A1 : Around} {E1 : Value → Shared → Prop} {R1 : Value → Shared → Prop}, R1 (.ref hh.objs.size) ⟨hh.push ob, gg, dd, tt, oo⟩ → wpAny (model prog w) A1 (pyIter u) R1 E1 ⟨hh, gg, dd, tt, oo⟩ := fun r1 => B.iter prog w _ _ ⟨hh, gg, dd, tt, oo⟩ _ hh1 r1
    wp_walk using it1
    refine wpAny_stack_any fun _ => wpAny_pure ?_
    split
    · rename_i cc _ _ _ _ _
      cases (cc == Value.type "enumerate") <;> (wp_walk using it1; exact ⟨_, rfl, hz⟩)
    · wp_walk using it1
      exact ⟨_, rfl, hz⟩
end
section
variable {prog : Program} {w : World} {A : Around} {E : Value → Shared → Prop} {z : Shared}
theorem enum_call1 {u : Value} {ob : Obj} {Hq : Heap → Prop} {R : Value → Shared → Prop} (B : Begins u ob Hq) (h1 : Hq z.heap)
    (hR : ∀ hp, IsEnum hp (z.heap.objs.size + 1) z.heap.objs.size 0 .none → hp.get? z.heap.objs.size = some ob → hp.objs.size = z.heap.objs.size + 2 → (∀ c x, z.heap.get? c = some x → hp.get? c = some x) → R (.ref (z.heap.objs.size + 1)) { z with heap := hp }) :
    wpAny (model prog w) A (call (.type "enumerate") [u]) R E z := by
  refine callType_new F.called_enumerate (by decide) (F.typeCall_enumerate_1 _) (F.newCall_enumerate_1 _) (fun x => F.args_object_init_2 x _) F.entry_enumerate_new (enum_new1 B) ⟨h1, ?_⟩
  have size1 : (z.heap.push ob).objs.size = z.heap.objs.size + 1 := Heap.size_push ..
  show _ ∧ _
  rw [size1]
  have isE : IsEnum ((z.heap.push ob).push { cls := .type "enumerate", data := .fields #[.none, .bool false, .ref z.heap.objs.size, rawInt 0, .none, .none] }) (z.heap.objs.size + 1) z.heap.objs.size 0 .none := by
    have q := Heap.get?_push_size (z.heap.push ob) (o := { cls := .type "enumerate", data := .fields #[.none, .bool false, .ref z.heap.objs.size, rawInt 0, .none, .none] }) rfl
    rw [size1] at q
    exact q
  exact ⟨⟨_, isE, rfl⟩, hR _ isE (Heap.get?_push_of_some _ (Heap.get?_push_size _ B.free)) (by rw [Heap.size_push, size1]) fun c x q => Heap.get?_push_of_some _ (Heap.get?_push_of_some _ q)⟩
end
/-- the tuple at a, each item in a new pair -/
def ItPairs (K : PySem.W.Frag) (a : Addr) : It where
  go i H := ∃ (vs : List V) (v : V), SqT K H a vs ∧ vs[i]? = some v
  yld i H y H' := ∃ T v, y = .ref T ∧ H T = none ∧ H' = upd H T (.tup [.int (i : Nat), v]) ∧ ∀ vs, SqT K H a vs → vs[i]? = some v
  stop i H := ∃ vs : List V, SqT K H a vs ∧ vs.length = i
theorem turn_pairs {P : Program} {w : World} {K : PySem.W.Frag} {elts : List Expr} {kk : Nat} {tpos : Pos} {a e it : Addr} (hea : a ≠ it) (hec : a ≠ e) :
    Turn P w K (.Tuple elts kk tpos) (ItPairs K a) [e, it] e (fun i hp => (∃ old, IsEnum hp e it ((i : Nat) : Int) old) ∧ hp.IsTupleIter it a i ∧ e ≠ it) where
  mem := List.mem_cons_self
  obj := by
    rintro i hp ⟨⟨old, q1⟩, ⟨x, q2, _, q3⟩, _⟩ b hb
    rcases List.mem_cons.mp hb with rfl | hb
    · exact ⟨_, q1, fun v q => nomatch q⟩
    · rw [List.mem_singleton.mp hb]
      exact ⟨x, q2, fun v q => by rw [q3] at q; cases q⟩
  keep := by
    rintro i hp hp' ⟨⟨old, q1⟩, q2, q3⟩ kp
    exact ⟨⟨old, kp e (by simp) _ q1⟩, q2.at fun x q => kp it (by simp) x q, q3⟩
  item := by
    rintro X rfl rfl rfl hc i pins s σ H E I hf ⟨⟨old, q1⟩, q2, q3⟩ ⟨vs, v, hq, hv⟩
    obtain ⟨its, rv, p, _⟩ := I.tuple hq
    obtain ⟨u, hu, ru⟩ := rv.get hv
    have pt : s.heap.IsTuple a its.toArray := p
    have lt1 : e < s.heap.objs.size := Heap.lt_size q1
    have lt2 : it < s.heap.objs.size := by
      obtain ⟨x, q, _⟩ := q2
      exact Heap.lt_size q
    have hi : i < its.toArray.size := by
      have := (List.getElem?_eq_some_iff.mp hu).1
      simpa using this
    have D := Draws.tuple (prog := X.prog) (w := X.w) (A := X.A.in1) (I.ok.hd hc) it a hea its.toArray
    refine wpAny_pyNext_enum_itemC (c := ((i : Nat) : Int)) D q1 ⟨q2, pt⟩ hi q3 (by simp [q3, Ne.symm hec]) fun x hp tk hx ho st ht hz kp => ?_
    have ex : x = u := by
      have : its.toArray[i]? = some u := by simpa using hu
      rw [this] at hx
      exact (Option.some.inj hx).symm
    subst ex
    refine ⟨_, rfl, wpAny_letOwnedTupleGo_enum (s := { s with heap := hp, toks := tk + 1 }) ho fun hp2 he2 sb => ?_⟩
    have ht2 : hp2.get? s.heap.objs.size = some { cls := .type "tuple", data := .seq #[.int (i : Nat) tk, x] } := (sb.2 _ (Nat.ne_of_gt lt1)).trans ht
    have I2 : Inv X pins σ (upd H s.heap.objs.size (.tup [.int (i : Nat), v])) { s with heap := hp2, toks := tk + 1 } :=
      I.turnedNew (ch := [e, it]) (fun b o hb q => (sb.2 b fun q' => hb (by simp [q'])).trans (kp b o (fun q' => hb (by simp [q'])) (fun q' => hb (by simp [q'])) q)) hf (Nat.le_refl _)
        ⟨by show 2 ≤ sizeLine; decide, [.int (i : Nat) tk, x], .cons ⟨_, rfl⟩ (.cons ru .nil), ⟨_, ht2, rfl, _, rfl⟩⟩
    refine ⟨.ref s.heap.objs.size, _, I2, rfl, ⟨_, v, rfl, I.hok.fresh (Nat.le_refl _), rfl, fun ws hw => by rw [I.tuple_inj hw hq]; exact hv⟩, ⟨⟨x, ?_⟩, st.1.at fun o q => (sb.2 it (Ne.symm q3)).trans q, q3⟩, fun b hb => ?_⟩
    · rw [show ((i + 1 : Nat) : Int) = ((i : Nat) : Int) + 1 from by omega]
      exact he2
    · have hb2 : b < s.heap.objs.size := by
        rcases List.mem_cons.mp hb with rfl | hb
        · exact lt1
        · rw [List.mem_singleton.mp hb]; exact lt2
      rw [upd_ne (Nat.ne_of_lt hb2)]
      exact (hf b hb).1
  done := by
    rintro X rfl rfl rfl hc i pins s σ H E I hf ⟨⟨old, q1⟩, q2, q3⟩ ⟨vs, hq, hv⟩
    obtain ⟨its, rv, p, _⟩ := I.tuple hq
    have pt : s.heap.IsTuple a its.toArray := p
    obtain ⟨f0, f1, f2, f3, f4, f5⟩ := hf it (by simp)
    have hl := rv.length
    have hn : i = its.toArray.size := by simp; omega
    subst hn
    have D := Draws.tuple (prog := X.prog) (w := X.w) (A := X.A.in1) (I.ok.hd hc) it a hea its.toArray
    exact wpAny_pyNext_enum_endD D q1 ⟨q2, pt⟩ fun hp xb => ⟨rfl, I.turned (t' := s.toks) (fun b o hb q => xb b o hb q) f0 f1 f3 f4 f5⟩
  self := by
    rintro A i s Q E ⟨⟨_, q1⟩, _⟩ hQ
    exact wpAny_pyIter_enum q1 hQ
def iPairs (K : PySem.W.Frag) (te : TA) : TI := fun σ H R => te σ H fun us H1 => ∃ a vs, us = [.ref a] ∧ SqT K H1 a vs ∧ R (ItPairs K a) H1
theorem pi_pairs {X : Cx} {e : Expr} {te : TA} {p pos tpos : Pos} {elts : List Expr} {kk : Nat} (hg : Gl X "enumerate") (hm : X.mg "enumerate" = none) (ha : PA X [e] te) (hs : starEach [e] X.env = [(false, eval e X.env)] := by rfl) :
    PI X (.Tuple elts kk tpos) (.Call (.Name "enumerate" p) [e] [] pos) (iPairs X.K te) := by
  refine ⟨fun pins s σ H R I h => Call_ (ld_blt I hg hm boot_enumerate (PyProof.Rows.callWith_type1 (thn (ha.run pos pins s σ H _ I h) fun us s1 ⟨vs, H1, I1, r1, a, ws, ev, hq, q⟩ => ?_) hs rfl))⟩
  subst ev
  cases r1 with
  | cons r rr =>
    cases rr
    cases r
    obtain ⟨its, rv, pt, _⟩ := I1.tuple hq
    have pt2 : s1.heap.IsTuple a its.toArray := pt
    have la : a < s1.heap.objs.size := by
      obtain ⟨_, q0, _⟩ := pt2
      exact Heap.lt_size q0
    refine enum_call1 (begins_tuple a its.toArray) pt2 fun hp he hit hz kp => wpAny_pyIter_enum he ?_
    have I2 : Inv X pins σ H1 { s1 with heap := hp } := I1.kept (t' := s1.toks) kp
    refine ⟨s1.heap.objs.size + 1, [s1.heap.objs.size + 1, s1.heap.objs.size], _, _, H1, rfl, I2, turn_pairs (Nat.ne_of_lt la) (Nat.ne_of_lt (Nat.lt_succ_of_lt la)), ⟨⟨.none, he⟩, ⟨_, hit, rfl, rfl⟩, Nat.succ_ne_self _⟩, fun b hb => ?_, q⟩
    have hle : s1.heap.objs.size ≤ b := by
      rcases List.mem_cons.mp hb with rfl | hb
      · exact Nat.le_succ _
      · rw [List.mem_singleton.mp hb]; exact Nat.le_refl _
    exact I1.fpOk hle (I1.hok.fresh hle)
/-- the pairs of enumerate, from k on -/
def enuD : Nat → List Dt → List Dt
  | _, [] => []
  | k, x :: xs => .tup [.int (k : Nat), x] :: enuD (k + 1) xs
theorem enuD_get : ∀ (xs : List Dt) (k i : Nat), (enuD k xs)[i]? = (xs[i]?).map fun x => .tup [.int ((k + i : Nat) : Int), x]
  | [], k, i => by simp [enuD]
  | x :: xs, k, 0 => by simp [enuD]
  | x :: xs, k, i + 1 => by
    rw [enuD, List.getElem?_cons_succ, List.getElem?_cons_succ, enuD_get xs (k + 1) i, show k + 1 + i = k + (i + 1) by omega]
theorem enuD_len : ∀ (xs : List Dt) (k : Nat), (enuD k xs).length = xs.length
  | [], k => rfl
  | x :: xs, k => by rw [enuD, List.length_cons, List.length_cons, enuD_len xs]
theorem walks_pairs {κ : KW} {F H : Hp} {a : Addr} {xs : List Dt} {vs : List V} (h : SqT κ.K H a vs) (r : RepL κ H xs vs) : Walks κ F H (enuD 0 xs) (ItPairs κ.K a) := by
  refine ⟨fun H' => SqT κ.K H' a vs ∧ RepL κ H' xs vs, ⟨h, r⟩, fun _ _ g x => ⟨x.sqT g.1, g.2.mono x⟩, fun i H' g hi => ?_, fun i H' g hi => ?_, fun i H' x H'' g hi y => ?_⟩
  · rw [enuD_len] at hi
    exact ⟨vs, g.1, by rw [← g.2.length]; exact hi.symm⟩
  · rw [enuD_len] at hi
    have hv : i < vs.length := by rw [← g.2.length]; exact hi
    exact ⟨vs, vs[i], g.1, List.getElem?_eq_getElem hv⟩
  · obtain ⟨T, v, rfl, hT, rfl, hv2⟩ := y
    obtain ⟨d, hd, rd⟩ := g.2.getV (hv2 vs g.1)
    have xt : Ext H' (upd H' T (.tup [.int (i : Nat), v])) := Ext.new hT
    refine ⟨xt, fun _ _ hh => hh.new hT, _, by rw [enuD_get, hd, Nat.zero_add]; rfl, ?_⟩
    exact .tup (SqT.of upd_same) (.cons (.int _) (.cons (rd.mono xt) .nil))
theorem walks_ite {κ : KW} {F H : Hp} {a : Addr} {xs : List Dt} {vs : List V} (h : Frz κ.K H a vs) (r : RepL κ H xs vs) : Walks κ F H (enuD 0 xs) (Ite κ.K a) := by
  refine ⟨fun H' => Frz κ.K H' a vs ∧ RepL κ H' xs vs, ⟨h, r⟩, fun _ _ g x => ⟨x.frz g.1, g.2.mono x⟩, fun i H' g hi => ?_, fun i H' g hi => ?_, fun i H' x H'' g hi y => ?_⟩
  · rw [enuD_len] at hi
    exact ⟨vs, g.1.sqL, by rw [← g.2.length]; exact Nat.le_of_eq hi.symm⟩
  · rw [enuD_len] at hi
    have hv : i < vs.length := by rw [← g.2.length]; exact hi
    exact ⟨vs, vs[i], g.1.sqL, List.getElem?_eq_getElem hv⟩
  · obtain ⟨T, v, rfl, hT, rfl, hv2⟩ := y
    obtain ⟨d, hd, rd⟩ := g.2.getV (hv2 vs g.1.sqL)
    have xt : Ext H' (upd H' T (.tup [.int (i : Nat), v])) := Ext.new hT
    refine ⟨xt, fun _ _ hh => hh.new hT, _, by rw [enuD_get, hd, Nat.zero_add]; rfl, ?_⟩
    exact .tup (SqT.of upd_same) (.cons (.int _) (.cons (rd.mono xt) .nil))
/-- enumerate of a tuple, of a list that is not changed any more -/
def mEnum (mas : MA) : MI := fun ρ S => (mas ρ S).bind fun vs S1 => match vs with
  | [.d (.tup xs)] => .ok (.tup (enuD 0 xs)) S1
  | [.d (.fl xs)] => .ok (.tup (enuD 0 xs)) S1
  | _ => .bad
section
variable {X : Cx} {Z : L2.St → Prop} {W : WX} {e : Expr} {pos : Pos} {mas : MA} {body : List Stmt} {m1 : MS} {t : Tg}
theorem di_enum {p p2 tpos : Pos} {elts : List Expr} {kk : Nat} (hm : X.mg "enumerate" = none) (ha : DA X Z W [e] mas) (hge : Gl X "enumerate" := by rfl)
    (h1 : starEach [e] X.env = [(false, eval e X.env)] := by rfl) : DI X Z W (.Tuple elts kk tpos) (.Call (.Name "enumerate" p) [e] [] p2) (mEnum mas) := pi_imp (pi_or (pi_pairs hge hm ha h1) (pi_enum hge hm ha h1)) fun σ H R ⟨z, F, M, S, ρ, hh, he, hp⟩ => by
  unfold mEnum at hp
  cases q : mas ρ S with
  | bad => rw [q] at hp; exact hp.elim
  | exc x S1 =>
    rw [q] at hp
    refine .inl ⟨z, F, M, S, ρ, hh, he, ?_⟩
    rw [q]
    exact hp
  | ok us S1 =>
    rw [q] at hp
    have hp1 : Post X.κ F W σ M H (match us with
      | [.d (.tup xs)] => .ok (.tup (enuD 0 xs)) S1
      | [.d (.fl xs)] => .ok (.tup (enuD 0 xs)) S1
      | _ => .bad) (fun v M' H' => ∀ J, IvRep X.κ F H' M' v J → R J H') := hp
    split at hp1
    · rename_i xs
      refine .inl ⟨z, F, M, S, ρ, hh, he, ?_⟩
      rw [q]
      intro H1 M1 x1 p1 hh1 ys rys
      obtain ⟨y, rfl, ry⟩ := repV1 rys
      cases (show Rep X.κ H1 _ y from ry) with
      | @tup a _ vs hq rr => exact ⟨a, vs, rfl, hq, hp1 H1 M1 x1 p1 hh1 _ (walks_pairs hq rr)⟩
    · rename_i xs
      refine .inr ⟨z, F, M, S, ρ, hh, he, ?_⟩
      rw [q]
      intro H1 M1 x1 p1 hh1 ys rys
      obtain ⟨y, rfl, ry⟩ := repV1 rys
      cases (show Rep X.κ H1 _ y from ry) with
      | @fl a _ vs hq rr => exact ⟨a, vs, rfl, hq.sqL, hp1 H1 M1 x1 p1 hh1 _ (walks_ite hq rr)⟩
    · exact hp1.elim
end
/-! max of three ints -/
def bMaxT (_ : Nat) (vs : List Vl) (S : Sto) : Rs Vl := match vs with
  | [.d (.int i), .d (.int j), .d (.int k)] => .ok (.d (.int (if j > i then (if k > j then k else j) else (if k > i then k else i)))) S
  | _ => .bad
def rMaxT : List V → Hp → VK → Prop := fun xs H Q => ∃ i j k : Int, xs = [.int i, .int j, .int k] ∧ Q (.int (if j > i then (if k > j then k else j) else (if k > i then k else i))) H
theorem cr_maxT {X : Cx} (hc : X.calm = true) : CallR X (.builtin "max") rMaxT := by
  rintro pins s σ H xs us Q I r ⟨i, j, k, rfl, q⟩
  cases r with
  | cons r1 r => cases r with
    | cons r2 r => cases r with
      | cons r3 r =>
        cases r
        obtain ⟨t1, rfl⟩ := r1
        obtain ⟨t2, rfl⟩ := r2
        obtain ⟨t3, rfl⟩ := r3
        refine max_three_ints (I.ok.hd hc) fun h' tk kp => ⟨_, H, I.kept kp, ?_, q⟩
        by_cases c1 : j > i
        · by_cases c2 : k > j
          · simp only [c1, c2, if_true]; exact ⟨_, rfl⟩
          · simp only [c1, c2, if_true, if_false]; exact ⟨_, rfl⟩
        · by_cases c2 : k > i
          · simp only [c1, c2, if_true, if_false]; exact ⟨_, rfl⟩
          · simp only [c1, c2, if_false]; exact ⟨_, rfl⟩
theorem rc_maxT {κ : KW} : RC κ bMaxT rMaxT := by
  intro F W σ H M0 M S vs xs Q p hh rv hp
  unfold bMaxT at hp
  split at hp
  · cases rv with
    | cons r1 rv => cases rv with
      | cons r2 rv => cases rv with
        | cons r3 rv =>
          cases rv
          cases (show Rep κ H _ _ from r1)
          cases (show Rep κ H _ _ from r2)
          cases (show Rep κ H _ _ from r3)
          exact ⟨_, _, _, rfl, hp.val hh p _ (.int _)⟩
  · exact hp.elim
section
variable {X : Cx} {Z : L2.St → Prop} {W : WX} {e : Expr} {es : List Expr} {p pos : Pos} {mas : MA}
theorem de_maxT (hc : X.calm = true) (hm : X.mg "max" = none) (ha : DA X Z W (e :: es) mas) (hg : Gl X "max" := by rfl) (he : starEach (e :: es) X.env = (false, eval e X.env) :: starEach es X.env := by rfl) (hpl : (backTo pos (starEach es X.env)).any (·.1) = false := by rfl) : DE X Z W (.Call (.Name "max" p) (e :: es) [] pos) (mCall bMaxT mas) :=
  de_callB (cr_maxT hc) rc_maxT hm (by decide +kernel) ha hg (by decide) (by decide) he hpl
end
end Mo
/-! The end: from the law's meaning to the law's row; the top's facts. -/
namespace Mo
open PySem PySem.Spec PyProof.Rows L2
def spLaw (K : PySem.W.Frag) : Sp := fun vs H Q _ => ∃ (a : Addr) (ns : List Int), vs = [.ref a] ∧ Frz K H a (ns.map V.int) ∧ ns.length ≤ 63 ∧ ∀ H', Q (.bl true) H'
theorem law_imp {κ : KW} {g : List Vl → Sto → Rs Vl} (h : ∀ ns : List Int, ns.length ≤ 63 → ∃ S, g [.r 0] [.frz (ns.map Dt.int)] = .ok (.d (.bl true)) S) (vs : List V) (H : Hp) (Q : VK) (E : XK) (q : spLaw κ.K vs H Q E) : spM κ g vs H Q E := by
  obtain ⟨a, ns, rfl, hf, hl, k⟩ := q
  obtain ⟨S, e⟩ := h ns hl
  refine ⟨fun _ => none, [a], [.frz (ns.map Dt.int)], [.r 0], ⟨rfl, fun i c b e1 m1 => ?_, fun i j b x y m1 m2 e1 e2 u1 u2 => ?_, fun _ _ e => (nomatch e), fun _ _ _ _ _ _ => rfl⟩, .cons ⟨a, rfl, rfl⟩ .nil, ?_⟩
  · cases i with
    | zero =>
      cases e1
      cases m1
      exact ⟨_, hf, RepL.of_ints ns⟩
    | succ i => cases e1
  · cases i with
    | zero => cases e1; cases u1
    | succ i => cases e1
  · rw [e]
    intro H' M' _ _ _ x rx
    cases (show Rep κ H' (.bl true) x from rx)
    exact k H'
theorem frz_of {K : PySem.W.Frag} {H : Hp} {a : Addr} {xs : List V} (o : Only H) (h : SqL K H a xs) : Frz K H a xs := by
  rcases h with (h | ⟨u, h⟩) | h
  · rcases o a with z | ⟨_, _, z⟩
    · rw [h] at z; cases z
    · rw [h] at z; cases z
  · exact .inl ⟨u, h⟩
  · exact .inr (.inr h)
theorem cx_none {P : Program} {w : World} {H : Hp} {s : Shared} {e : Value} {s' : Shared} (h : L2.CX P w [] H s (fun _ _ _ => False) e s') : False := by
  obtain ⟨_, _, _, _, _, _, _, _, _, _, _, _, z⟩ := h
  exact z
theorem walk {l : PySem.W.OpenLaw} {q : Program} {loose : List Str} {XP : (Str → Option Value) → Heap → Prop} {YP : World → Heap → Prop} {d : DefRec} {K : Params → PySem.W.Frag} {k : Nat} {x : Str} {st : Stmt} {g : List Vl → Sto → Rs Vl} (hn : l.most = some 63) (hdf : d.params.defaults = []) (hr : Room k callerA)
    (hY : ∀ (w : World) (h : Heap), YP w h → (K w.params).In h)
    (F : ∀ (w : World) (mg : Str → Option Value) (h : Heap), (K w.params).In h → h.Ns mainGlobals mg → DefOk (K w.params) mg d.name st [x] ∧ ∀ base : Heap, CallOk l.prog w (K w.params) mg base k d.name [x] g)
    (pure : ∀ ns : List Int, ns.length ≤ 63 → ∃ S, g [.r 0] [.frz (ns.map Dt.int)] = .ok (.d (.bl true)) S) : PySem.W.WalkO q loose XP YP l.row.toRowW d [] (fun f vs => PySem.call f vs) := by
  refine L2.walk_of (n := 63) (k := k) (x := x) (CX := fun w => L2.CX l.prog w) (sp := fun w => spLaw (K w.params)) hn (by decide) hdf hr hY (fun w mg fa h KX G hmg => ?_) (fun w H a ns hl o hS => ⟨a, ns, rfl, frz_of o hS, hl, fun _ => rfl⟩) fun w H s e s' z => cx_none z
  obtain ⟨⟨f, fd, hm, hk, Fu, B⟩, C⟩ := F w mg h KX G
  rw [hmg] at hm
  cases hm
  refine ⟨fd, fun s u => B s [u] rfl, fun base _ _ => ?_⟩
  obtain ⟨f2, fd2, FO, hm2, _, _, oc, od, osl, lk⟩ := C base
  rw [hmg] at hm2
  cases hm2
  obtain ⟨oc1, od1, kV, doc, pm, an, cdv, ct, osl1, e, lk1, _⟩ := Fu.ex
  rw [lk] at lk1
  cases lk1
  exact FO.imp (law_imp (κ := ⟨K w.params, mg, w, l.prog⟩) pure)
end Mo
namespace Mo
open PySem PySem.Spec PyProof.Rows L2
section
variable {K : PySem.W.Frag} {h : Heap} {mg : Str → Option Value}
theorem xcOk_mk {x : Str} {C : Addr} (X : K.In h) (G : h.Ns mainGlobals mg) (a : PySem.W.nsIn K mainGlobals x = some (some (.ref C))) (q : PySem.W.excIn K C [.type "ValueError", .type "Exception", .type "BaseException", .type "object"] "ValueError.__new__" = true)
    (k : PySem.W.keepIn K (.ref C) = true) (s : PySem.W.subIn K (.ref C) (.type "BaseException") = some true) (t : PySem.W.typeIn K (.ref C) = some (.type "type")) : XcOk K mg x C := ⟨PySem.W.mg_of X G a, q, k, s, t⟩
theorem tblOk_nil {cl : Value} : TblOk K mg cl [] := fun _ _ m => by cases m
theorem tblOk_cons {x : Str} {b : Bool} {C D : Addr} {tb : Tbl} (hm : mg x = some (.ref D)) (h1 : PySem.W.subIn K (.ref C) (.type "BaseException") = some true) (h2 : PySem.W.hasDictIn K C = true) (h3 : PySem.W.typeIn K (.ref C) = some (.type "type")) (h4 : PySem.W.subIn K (.ref D) (.ref C) = some b)
    (r : TblOk K mg (.ref C) tb) : TblOk K mg (.ref C) ((x, b) :: tb) := fun y k m E hE => by
  rcases List.mem_cons.mp m with z | z
  · injection z with z1 z2
    subst z1 z2
    rw [hm] at hE
    cases hE
    exact PySem.W.exm_ref h1 h2 h3 h4
  · exact r y k z E hE
theorem isTbl_nil {cv : Value} : IsTbl K mg cv [] := fun _ _ m => by cases m
theorem isTbl_cons {x : Str} {b : Bool} {D : Addr} {cv : Value} {tb : Tbl} (hm : mg x = some (.ref D)) (hE : ExcC K D) (hk : PySem.W.kitOne K (.ref D) cv = some b) (r : IsTbl K mg cv tb) : IsTbl K mg cv ((x, b) :: tb) := fun y k m E hE' => by
  rcases List.mem_cons.mp m with z | z
  · injection z with z1 z2
    subst z1 z2
    rw [hm] at hE'
    cases hE'
    exact ⟨hE, hk⟩
  · exact r y k z E hE'
theorem gint_mk {x : Str} {i : Int} {t : Tok} (X : K.In h) (G : h.Ns mainGlobals mg) (a : PySem.W.nsIn K mainGlobals x = some (some (.int i t))) : ∃ t, mg x = some (.int i t) := ⟨t, PySem.W.mg_of X G a⟩
theorem gdat_mk {x : Str} {a : Addr} {d : Dt} (X : K.In h) (G : h.Ns mainGlobals mg) (e : PySem.W.nsIn K mainGlobals x = some (some (.ref a))) {w : World} {P : Program} (r : ∀ H, Rep ⟨K, mg, w, P⟩ H d (.ref a)) : ∃ (u : Value) (v : V), mg x = some u ∧ RelV v u ∧ ∀ H, Rep ⟨K, mg, w, P⟩ H d v := ⟨_, .ref a, PySem.W.mg_of X G e, rfl, r⟩
theorem gnone_mk {x : Str} (X : K.In h) (G : h.Ns mainGlobals mg) (e : PySem.W.nsIn K mainGlobals x = some none) : mg x = none := PySem.W.ns_none_of X G e
/-- a tuple of the top -/
theorem rep_top {a : Addr} {xs : List Dt} {vs : List V} {its : Array Value} {n : Nat} {od : Option Addr} {sl : Array (Option Value)} (hk : K.lookup a = some ⟨.type "tuple", od, .seq its n, sl⟩) (hz : its.size ≤ sizeLine) (hv : Vals vs its.toList) {w : World} {P : Program} (hr : ∀ H, RepL ⟨K, mg, w, P⟩ H xs vs) (H : Hp) : Rep ⟨K, mg, w, P⟩ H (.tup xs) (.ref a) :=
  .tup (.inr ⟨_, its, n, hk, rfl, rfl, hz, hv⟩) (hr H)
end
end Mo
/-! Dicts: keys ints and texts, or tuples. -/
namespace Mo
open PySem PySem.Spec PyProof.Rows L2
/-! ### the plain side -/
def getD (kvs : List (Dt × Dt)) (k : Dt) : Option Dt := (kvs.find? fun p => eqD p.1 k).map (·.2)
def setD (kvs : List (Dt × Dt)) (k v : Dt) : List (Dt × Dt) := if (kvs.any fun p => eqD p.1 k) = true then kvs.map (fun p => if eqD p.1 k = true then (p.1, v) else p) else kvs ++ [(k, v)]
def Oc.kvs : Oc → List (Dt × Dt)
  | .dK kvs => kvs
  | .dN kvs => kvs
/-- an int or a text -/
def keyOf : Dt → Option Key
  | .int i => some (.inl i)
  | .str x => some (.inr x)
  | _ => none
/-- such a key may be asked of such a dict -/
def keyOk : Oc → Dt → Bool
  | .dK _, k => (keyOf k).isSome
  | .dN _, k => keyT k
mutual
theorem eqD_nk : ∀ x y : Dt, keyD x = true → keyD y = true → eqD x y = NestedKey.beq (nk x) (nk y)
  | .tup xs, .tup ys, h, k => by
    rw [keyD] at h k
    rw [eqD, nk, nk, NestedKey.beq, eqDs_nk xs ys h k]
  | .non, y, _, k => by cases y <;> first | (rw [keyD] at k; cases k; done) | simp [eqD, nk, NestedKey.beq]
  | .bl a, y, _, k => by cases y <;> first | (rw [keyD] at k; cases k; done) | (simp [eqD, nk, NestedKey.beq, Bool.beq_eq_decide_eq] <;> cases a <;> simp_all [Bool.beq_eq_decide_eq])
  | .int i, y, _, k => by cases y <;> first | (rw [keyD] at k; cases k; done) | simp [eqD, nk, NestedKey.beq] <;> rfl
  | .str i, y, _, k => by cases y <;> first | (rw [keyD] at k; cases k; done) | simp [eqD, nk, NestedKey.beq] <;> rfl
  | .fl _, _, h, _ => by rw [keyD] at h; cases h
  | .fd _ _ _, _, h, _ => by rw [keyD] at h; cases h
  | .fi _ _ _, _, h, _ => by rw [keyD] at h; cases h
  | .tup _, .non, _, _ => by simp [eqD, nk, NestedKey.beq]
  | .tup _, .bl _, _, _ => by simp [eqD, nk, NestedKey.beq]
  | .tup _, .int _, _, _ => by simp [eqD, nk, NestedKey.beq]
  | .tup _, .str _, _, _ => by simp [eqD, nk, NestedKey.beq]
  | .tup _, .fl _, _, k => by rw [keyD] at k; cases k
  | .tup _, .fd _ _ _, _, k => by rw [keyD] at k; cases k
  | .tup _, .fi _ _ _, _, k => by rw [keyD] at k; cases k
theorem eqDs_nk : ∀ xs ys : List Dt, keyDs xs = true → keyDs ys = true → eqDs xs ys = NestedKey.beqAll (nks xs) (nks ys)
  | [], [], _, _ => by simp [eqDs, nks, NestedKey.beqAll]
  | x :: xs, y :: ys, h, k => by
    rw [keyDs, Bool.and_eq_true] at h k
    rw [eqDs, nks, nks, NestedKey.beqAll, eqD_nk x y h.1 k.1, eqDs_nk xs ys h.2 k.2]
  | [], _ :: _, _, _ => by simp [eqDs, nks, NestedKey.beqAll]
  | _ :: _, [], _, _ => by simp [eqDs, nks, NestedKey.beqAll]
end
theorem keyT_1 {x : Dt} (h : keyT x = true) : keyD x = true := by
  cases x <;> first | (cases h; done) | (unfold keyT at h; rw [keyD]; exact (Bool.and_eq_true_iff.mp h).1)
theorem keyT_2 {x : Dt} (h : keyT x = true) : (nk x).depth ≤ 8 := by
  cases x <;> first | (cases h; done) | (unfold keyT at h; exact of_decide_eq_true (Bool.and_eq_true_iff.mp h).2)
theorem keyT_ref {κ : KW} {H : Hp} {x : Dt} {v : V} (h : keyT x = true) (r : Rep κ H x v) : ∃ b, v = .ref b := by
  cases r <;> first | (cases h; done) | exact ⟨_, rfl⟩
theorem eqT {x y : Dt} (h : keyT x = true) (k : keyT y = true) : eqD x y = decide (nk x = nk y) := by
  rw [eqD_nk x y (keyT_1 h) (keyT_1 k), NestedKey.decide_eq]
theorem eq_kD {a b : Key} : eqD (kD a) (kD b) = decide (a = b) := by
  cases a <;> cases b <;> simp [kD, eqD, Bool.beq_eq_decide_eq]
theorem keyOf_kD {d : Dt} {k : Key} (e : keyOf d = some k) : d = kD k := by
  unfold keyOf at e
  split at e <;> cases e <;> rfl
theorem keyOf_rep {κ : KW} {H : Hp} {d : Dt} {v : V} {k : Key} (e : keyOf d = some k) (r : Rep κ H d v) : v = kV k := by
  cases r <;> cases e <;> rfl

/-! ### keys int or text -/
section
variable {κ : KW} {H : Hp}
theorem getK_rep {k : Key} : ∀ {kvs : List (Dt × Dt)} {hs : List (Key × V)}, RepKs κ H kvs hs → (∀ x, getD kvs (kD k) = some x → ∃ v, valV hs k = some v ∧ Rep κ H x v) ∧ (getD kvs (kD k) = none → valV hs k = none)
  | [], hs, ⟨h1, h2⟩ => by
    cases hs with
    | nil => exact ⟨fun x e => (by cases e), fun _ => rfl⟩
    | cons q r => cases h1
  | p :: kvs, hs, ⟨h1, h2⟩ => by
    cases hs with
    | nil => cases h1
    | cons q r =>
      simp only [List.map_cons, List.cons.injEq] at h1
      cases h2 with
      | cons r1 r2 =>
        have ih := getK_rep (k := k) ⟨h1.2, r2⟩
        by_cases c : q.1 = k
        · refine ⟨fun x e => ⟨q.2, valV_pos c, ?_⟩, fun e => ?_⟩
          · simp [getD, List.find?_cons, ← h1.1, eq_kD, c] at e
            rw [← e]
            exact r1
          · simp [getD, List.find?_cons, ← h1.1, eq_kD, c] at e
        · have e0 : getD (p :: kvs) (kD k) = getD kvs (kD k) := by simp [getD, List.find?_cons, ← h1.1, eq_kD, c]
          rw [e0, valV_neg c]
          exact ih
theorem RepKs.any {k : Key} {kvs : List (Dt × Dt)} {hs : List (Key × V)} (h : RepKs κ H kvs hs) : (kvs.any fun p => eqD p.1 (kD k)) = hs.any fun p => decide (p.1 = k) := by
  have e : (kvs.any fun p => eqD p.1 (kD k)) = (kvs.map (·.1)).any fun x => eqD x (kD k) := by rw [List.any_map]; rfl
  rw [e, ← h.1, List.any_map]
  congr
  funext p
  exact eq_kD
theorem RepKs.put {k : Key} {d : Dt} {v : V} {kvs : List (Dt × Dt)} {hs : List (Key × V)} (h : RepKs κ H kvs hs) (r : Rep κ H d v) : RepKs κ H (setD kvs (kD k) d) (putK hs k v) := by
  unfold setD putK
  rw [h.any]
  split
  · have key : ∀ {kvs : List (Dt × Dt)} {hs : List (Key × V)}, RepKs κ H kvs hs → RepKs κ H (kvs.map fun p => if eqD p.1 (kD k) = true then (p.1, d) else p) (hs.map fun p => if p.1 = k then (p.1, v) else p) := by
      intro kvs
      induction kvs with
      | nil =>
        intro hs h
        cases hs with
        | nil => exact ⟨rfl, .nil⟩
        | cons q t => cases h.1
      | cons p kvs ih =>
        intro hs h
        cases hs with
        | nil => cases h.1
        | cons q t =>
          obtain ⟨h1, h2⟩ := h
          simp only [List.map_cons, List.cons.injEq] at h1
          cases h2 with
          | cons r1 r2 =>
            obtain ⟨i1, i2⟩ := ih ⟨h1.2, r2⟩
            have e0 : eqD p.1 (kD k) = decide (q.1 = k) := by rw [← h1.1, eq_kD]
            by_cases c : q.1 = k
            · refine ⟨?_, ?_⟩
              · simp only [List.map_cons, e0, c, decide_true, if_true]
                rw [i1]
                rw [← h1.1, c]
              · simp only [List.map_cons, e0, c, decide_true, if_true]
                exact .cons r i2
            · refine ⟨?_, ?_⟩
              · simp only [List.map_cons, e0, c, decide_false, if_false, Bool.false_eq_true]
                rw [i1, h1.1]
              · simp only [List.map_cons, e0, c, decide_false, if_false, Bool.false_eq_true]
                exact .cons r1 i2
    exact key h
  · refine ⟨by rw [List.map_append, List.map_append, h.1]; rfl, ?_⟩
    rw [List.map_append, List.map_append]
    exact h.2.append (.cons r .nil)
theorem RepKs.length {kvs : List (Dt × Dt)} {hs : List (Key × V)} (h : RepKs κ H kvs hs) : kvs.length = hs.length := by
  have := congrArg List.length h.1
  simpa using this.symm
end

/-! ### keys tuples, at the level of the invariant -/
section
variable {X : Cx} {pins : List (Addr × Obj)} {σ : L2.St} {H : Hp} {s : Shared}
mutual
theorem rep_nested (I : L2.Inv X pins σ H s) : ∀ {d : Dt} {v : V} {u : Value}, Rep X.κ H d v → RelV v u → keyD d = true → NestedIs s.heap (nk d) u
  | _, _, _, .non, r, _ => by cases (show _ = Value.none from r); rw [nk]; exact .none
  | _, _, _, .bl b, r, _ => by cases (show _ = Value.bool b from r); rw [nk]; exact .bool rfl
  | _, _, _, .int i, r, _ => by obtain ⟨t, rfl⟩ := (show ∃ t, _ = Value.int i t from r); rw [nk]; exact .int _ _
  | _, _, _, .str i, r, _ => by obtain ⟨t, rfl⟩ := (show ∃ t, _ = Value.str i t from r); rw [nk]; exact .text _ _
  | _, _, _, .tup h q, r, k => by
    cases (show _ = Value.ref _ from r)
    rw [keyD] at k
    obtain ⟨its, rv, ⟨o, e, c, n, dd⟩, _⟩ := I.tuple h
    rw [nk]
    exact .tup e c dd (by simpa using rep_nesteds I q rv k)
  | _, _, _, .fl _ _, _, k => by rw [keyD] at k; cases k
  | _, _, _, .fdK _ _ _, _, k => by rw [keyD] at k; cases k
  | _, _, _, .fdN _ _ _ _, _, k => by rw [keyD] at k; cases k
  | _, _, _, .fi _ _ _ _, _, k => by rw [keyD] at k; cases k
theorem rep_nesteds (I : L2.Inv X pins σ H s) : ∀ {ds : List Dt} {vs : List V} {us : List Value}, RepL X.κ H ds vs → Vals vs us → keyDs ds = true → NestedAll s.heap (nks ds) us
  | _, _, _, .nil, .nil, _ => by rw [nks]; exact .nil
  | _, _, _, .cons q t, .cons r u, k => by
    rw [keyDs, Bool.and_eq_true] at k
    rw [nks]
    exact .cons (rep_nested I q r k.1) (rep_nesteds I t u k.2)
end
theorem isN_of (I : L2.Inv X pins σ H s) {d : Dt} {b : Addr} (r : Rep X.κ H d (.ref b)) (k : keyT d = true) : (nestedKind X.prog X.w).is s.heap (nk d) b := ⟨rep_nested I r rfl (keyT_1 k), keyT_2 k⟩
/-- the entries of such a dict, as the library tells them -/
theorem dN_of (I : L2.Inv X pins σ H s) {a : Addr} {ks : List Dt} {ps : List Addr} {vs : List V} (e : Rd H a (.ext (dNφ X.w a ks ps vs))) (rk : RepL X.κ H ks (ps.map V.ref)) :
    (a == sysModules) = false ∧ ks.length ≤ sizeLine ∧ ks.all keyT = true ∧ ∃ xs : List (NestedKey × Addr × Value), xs.map (·.1) = ks.map nk ∧ xs.map (·.2.1) = ps ∧ Vals vs (xs.map (·.2.2)) ∧ s.heap.DictOfH (nestedKind X.prog X.w) a xs := by
  obtain ⟨⟨h1, h2, h3, o, es, ep, xs, q1, q2, q3, q4, q5, q6, q7, q8⟩, _⟩ := (show ObjOk X.prog X.w H s.heap a (.ext (dNφ X.w a ks ps vs)) from rd_of I.hok e)
  refine ⟨h1, h2, h3, xs, q5, q6, q7, o, es, ep, q1, q2, q3, q4, ?_, q8⟩
  have all : ∀ (xs : List (NestedKey × Addr × Value)) (ks : List Dt), xs.map (·.1) = ks.map nk → RepL X.κ H ks ((xs.map (·.2.1)).map V.ref) → ks.all keyT = true → ∀ x ∈ xs, (nestedKind X.prog X.w).is s.heap x.1 x.2.1 := by
    intro xs
    induction xs with
    | nil => intro ks _ _ _ x hx; cases hx
    | cons y ys ih =>
      intro ks e r k x hx
      cases ks with
      | nil => cases e
      | cons d ds =>
        simp only [List.map_cons, List.cons.injEq] at e r
        rw [List.all_cons, Bool.and_eq_true] at k
        cases r with
        | cons r1 r2 =>
          rcases List.mem_cons.mp hx with rfl | hx
          · rw [e.1]; exact isN_of I r1 k.1
          · exact ih ds e.2 r2 k.2 x hx
  rw [← q6] at rk
  exact all xs ks q5 rk h3
theorem getN_rep {k : Dt} (hk : keyT k = true) : ∀ {kvs : List (Dt × Dt)} {xs : List (NestedKey × Addr × Value)} {vs : List V}, xs.map (·.1) = (kvs.map (·.1)).map nk → (kvs.map (·.1)).all keyT = true → RepL X.κ H (kvs.map (·.2)) vs → Vals vs (xs.map (·.2.2)) →
    (∀ d, getD kvs k = some d → ∃ p v, atKey xs (nk k) = some p ∧ RelV v p.2 ∧ Rep X.κ H d v) ∧ (getD kvs k = none → atKey xs (nk k) = none)
  | [], xs, vs, e, _, r, rv => by
    cases xs with
    | nil => exact ⟨fun d h => (by cases h), fun _ => rfl⟩
    | cons => cases e
  | p :: kvs, xs, vs, e, ok, r, rv => by
    cases xs with
    | nil => cases e
    | cons x xs =>
      simp only [List.map_cons, List.cons.injEq] at e r rv
      rw [List.map_cons, List.all_cons, Bool.and_eq_true] at ok
      cases r with
      | cons r1 r2 =>
      cases rv with
      | cons v1 v2 =>
        have ih := getN_rep hk e.2 ok.2 r2 v2
        have e0 : eqD p.1 k = decide (x.1 = nk k) := by rw [eqT ok.1 hk, ← e.1]
        by_cases c : x.1 = nk k
        · refine ⟨fun d h => ⟨x.2, _, by simp [atKey, List.find?_cons, c], v1, ?_⟩, fun h => ?_⟩
          · simp [getD, List.find?_cons, e0, c] at h
            rw [← h]
            exact r1
          · simp [getD, List.find?_cons, e0, c] at h
        · have a1 : getD (p :: kvs) k = getD kvs k := by simp [getD, List.find?_cons, e0, c]
          have a2 : atKey (x :: xs) (nk k) = atKey xs (nk k) := by simp [atKey, List.find?_cons, c]
          rw [a1, a2]
          exact ih
/-- behind a store: addresses, values -/
theorem setN_rep {k d : Dt} {b : Addr} {v : V} {u : Value} (hk : keyT k = true) (rk : Rep X.κ H k (.ref b)) (rd : Rep X.κ H d v) (ru : RelV v u) : ∀ {kvs : List (Dt × Dt)} {xs : List (NestedKey × Addr × Value)} {vs : List V},
    xs.map (·.1) = (kvs.map (·.1)).map nk → (kvs.map (·.1)).all keyT = true → RepL X.κ H (kvs.map (·.1)) ((xs.map (·.2.1)).map V.ref) → RepL X.κ H (kvs.map (·.2)) vs → Vals vs (xs.map (·.2.2)) →
    ∃ ws, (storedH xs (nk k) b u).map (·.1) = ((setD kvs k d).map (·.1)).map nk ∧ ((setD kvs k d).map (·.1)).all keyT = true ∧ RepL X.κ H ((setD kvs k d).map (·.1)) (((storedH xs (nk k) b u).map (·.2.1)).map V.ref) ∧ RepL X.κ H ((setD kvs k d).map (·.2)) ws ∧ Vals ws ((storedH xs (nk k) b u).map (·.2.2)) := by
  intro kvs xs vs e ok ra r rv
  have g := getN_rep (k := k) hk e ok r rv
  have same : (kvs.any fun p => eqD p.1 k) = (atKey xs (nk k)).isSome := by
    have q : (kvs.any fun p => eqD p.1 k) = (getD kvs k).isSome := by
      unfold getD
      rw [Option.isSome_map]
      have : ∀ l : List (Dt × Dt), (l.any fun p => eqD p.1 k) = (l.find? fun p => eqD p.1 k).isSome := fun l => by
        induction l with
        | nil => rfl
        | cons z l ih =>
          rw [List.any_cons, List.find?_cons, ih]
          cases eqD z.1 k <;> rfl
      exact this kvs
    rw [q]
    cases c : getD kvs k with
    | none => rw [g.2 c]; rfl
    | some z => obtain ⟨p, _, h, _⟩ := g.1 z c; rw [h]; rfl
  unfold setD storedH
  rw [same]
  by_cases c : (atKey xs (nk k)).isSome = true
  · rw [if_pos c, if_pos c]
    have key : ∀ {kvs : List (Dt × Dt)} {xs : List (NestedKey × Addr × Value)} {vs : List V},
        xs.map (·.1) = (kvs.map (·.1)).map nk → (kvs.map (·.1)).all keyT = true → RepL X.κ H (kvs.map (·.1)) ((xs.map (·.2.1)).map V.ref) → RepL X.κ H (kvs.map (·.2)) vs → Vals vs (xs.map (·.2.2)) →
        ∃ ws, (xs.map (putAt (nk k) u)).map (·.1) = ((kvs.map (fun p => if eqD p.1 k = true then (p.1, d) else p)).map (·.1)).map nk ∧ ((kvs.map (fun p => if eqD p.1 k = true then (p.1, d) else p)).map (·.1)).all keyT = true ∧
          RepL X.κ H ((kvs.map (fun p => if eqD p.1 k = true then (p.1, d) else p)).map (·.1)) (((xs.map (putAt (nk k) u)).map (·.2.1)).map V.ref) ∧ RepL X.κ H ((kvs.map (fun p => if eqD p.1 k = true then (p.1, d) else p)).map (·.2)) ws ∧ Vals ws ((xs.map (putAt (nk k) u)).map (·.2.2)) := by
      intro kvs
      induction kvs with
      | nil =>
        intro xs vs e _ ra r rv
        cases xs with
        | nil => exact ⟨[], rfl, rfl, .nil, .nil, .nil⟩
        | cons => cases e
      | cons p kvs ih =>
        intro xs vs e ok ra r rv
        cases xs with
        | nil => cases e
        | cons x xs =>
          simp only [List.map_cons, List.cons.injEq] at e ra r rv
          rw [List.map_cons, List.all_cons, Bool.and_eq_true] at ok
          cases ra with
          | cons a1 a2 =>
          cases r with
          | @cons _ _ v0 _ r1 r2 =>
          cases rv with
          | cons v1 v2 =>
            obtain ⟨ws, i1, i2, i3, i4, i5⟩ := ih e.2 ok.2 a2 r2 v2
            have e0 : eqD p.1 k = decide (x.1 = nk k) := by rw [eqT ok.1 hk, ← e.1]
            by_cases c : x.1 = nk k
            · refine ⟨v :: ws, ?_, ?_, ?_, ?_, ?_⟩
              · simp only [List.map_cons, e0, c, decide_true, if_true, putAt, i1]
                rw [← e.1, c]
              · simp only [List.map_cons, e0, c, decide_true, if_true, List.all_cons, ok.1, Bool.true_and]
                exact i2
              · simp only [List.map_cons, e0, c, decide_true, if_true, putAt]
                exact .cons a1 i3
              · simp only [List.map_cons, e0, c, decide_true, if_true]
                exact .cons rd i4
              · simp only [List.map_cons, putAt, c, if_true]
                exact .cons ru i5
            · refine ⟨v0 :: ws, ?_, ?_, ?_, ?_, ?_⟩
              · simp only [List.map_cons, e0, c, decide_false, if_false, Bool.false_eq_true, putAt, i1]
                rw [e.1]
              · simp only [List.map_cons, e0, c, decide_false, if_false, Bool.false_eq_true, List.all_cons, ok.1, Bool.true_and]
                exact i2
              · simp only [List.map_cons, e0, c, decide_false, if_false, Bool.false_eq_true, putAt]
                exact .cons a1 i3
              · simp only [List.map_cons, e0, c, decide_false, if_false, Bool.false_eq_true]
                exact .cons r1 i4
              · simp only [List.map_cons, putAt, c, if_false]
                exact .cons v1 i5
    exact key e ok ra r rv
  · rw [if_neg c, if_neg c]
    refine ⟨vs ++ [v], ?_, ?_, ?_, ?_, ?_⟩
    · rw [List.map_append, List.map_append, List.map_append, e]; rfl
    · rw [List.map_append, List.all_append, ok]; simp [hk]
    · rw [List.map_append, List.map_append, List.map_append]
      exact ra.append (.cons rk .nil)
    · rw [List.map_append]
      exact r.append (.cons rd .nil)
    · rw [List.map_append]
      exact rv.append (.cons ru .nil)
end
end Mo
/-! Things that are not changed any more; dicts read, asked, stored, walked. -/
namespace Mo
open PySem PySem.Spec PyProof.Rows L2
/-! ### freezing -/
/-- the value may be locked for good -/
def FzQ (v : V) (H : Hp) (Q : VK) : Prop := Q v H ∨ ∃ a u, v = .ref a ∧ H a = some u ∧ Mut (some u) ∧ ∀ od, Q v (upd H a (.frz od u))
def tFz (t : TE) : TE := fun σ H Q => t σ H fun v H' => FzQ v H' Q
theorem pe_fz {X : Cx} {e : Expr} {t : TE} (h : PE X e t) : PE X e (tFz t) := by
  refine ⟨fun pins s σ H Q I hw => ?_⟩
  refine thn (h.run pins s σ H _ I hw) fun v s1 ⟨x, H1, I1, r, q⟩ => ?_
  rcases q with q | ⟨a, u, rfl, hu, mu, q⟩
  · exact ⟨x, H1, I1, r, q⟩
  · obtain ⟨od, I2⟩ := I1.lock hu mu
    exact ⟨.ref a, _, I2, r, q od⟩
/-- a cell becomes data -/
def frzR (v : Vl) (S : Sto) : Rs Vl := match v with
  | .r i => match S[i]? with
    | some (.lst xs) => .ok (.d (.fl xs)) (S.set i (.frz xs))
    | some (.frz xs) => .ok (.d (.fl xs)) S
    | some (.oth (.dK kvs)) => .ok (.d (.fd false (kvs.map (·.1)) (kvs.map (·.2)))) (S.set i (.ofz (.dK kvs)))
    | some (.oth (.dN kvs)) => .ok (.d (.fd true (kvs.map (·.1)) (kvs.map (·.2)))) (S.set i (.ofz (.dN kvs)))
    | some (.ofz (.dK kvs)) => .ok (.d (.fd false (kvs.map (·.1)) (kvs.map (·.2)))) S
    | some (.ofz (.dN kvs)) => .ok (.d (.fd true (kvs.map (·.1)) (kvs.map (·.2)))) S
    | none => .bad
  | v => .ok v S
def mFz (me : ME) : ME := fun ρ S => (me ρ S).bind fun v S1 => frzR v S1
section
variable {κ : KW} {F H : Hp} {M : List Addr} {S : Sto}
/-- the lock of a changeable cell -/
theorem Hold.frz (h : Hold κ F H M S) {i : Nat} {a : Addr} {c0 c : Ce} {od : Obj} {u : HO} (e : S[i]? = some c0) (u0 : c0.mut = true) (m : M[i]? = some a) (hc : CeOk κ (upd H a (.frz od u)) a c) : Hold κ F (upd H a (.frz od u)) M (S.set i c) := h.putC e u0 m hc
theorem frz_post {W : WX} {σ : L2.St} {M0 : List Addr} {v : Vl} {x : V} {Q : VK} (p : M0 <+: M) (hh : Hold κ F H M S) (rx : RepV κ H M v x) (hp : Post κ F W σ M0 H (frzR v S) (fun v M' H' => ∀ x, RepV κ H' M' v x → Q x H')) : FzQ x H Q := by
  unfold frzR at hp
  split at hp
  · rename_i i
    obtain ⟨a, rfl, m⟩ := rx
    split at hp
    · rename_i xs e
      obtain ⟨vs, h, r⟩ := hh.cell i _ a e m
      refine .inr ⟨a, _, rfl, h, trivial, fun od => ?_⟩
      have xt : Ext H (upd H a (.frz od (.lst vs))) := Ext.at h fun z => z
      have hf : Frz κ.K (upd H a (.frz od (.lst vs))) a vs := .inl ⟨od, upd_same⟩
      exact hp _ M xt p (hh.frz e rfl m ⟨vs, hf, r.mono xt⟩) _ (Rep.fl hf (r.mono xt))
    · rename_i xs e
      obtain ⟨vs, h, r⟩ := hh.cell i _ a e m
      exact .inl (hp.val hh p _ (Rep.fl h r))
    · rename_i kvs e
      obtain ⟨hs, h, r⟩ := hh.cell i _ a e m
      refine .inr ⟨a, _, rfl, h, trivial, fun od => ?_⟩
      have xt : Ext H (upd H a (.frz od (.dK hs))) := Ext.at h fun z => z
      exact hp _ M xt p (hh.frz e rfl m ⟨od, hs, upd_same, r.mono xt⟩) _ (Rep.fdK upd_same r.1 (r.2.mono xt))
    · rename_i kvs e
      obtain ⟨ps, vs, h, r1, r2⟩ := hh.cell i _ a e m
      refine .inr ⟨a, _, rfl, h, trivial, fun od => ?_⟩
      have xt : Ext H (upd H a (.frz od (.ext (dNφ κ.w a (kvs.map (·.1)) ps vs)))) := Ext.at h fun z => z
      exact hp _ M xt p (hh.frz e rfl m ⟨od, ps, vs, upd_same, r1.mono xt, r2.mono xt⟩) _ (Rep.fdN upd_same (by simp) (r1.mono xt) (r2.mono xt))
    · rename_i kvs e
      obtain ⟨od, hs, h, r⟩ := hh.cell i _ a e m
      exact .inl (hp.val hh p _ (Rep.fdK h r.1 r.2))
    · rename_i kvs e
      obtain ⟨od, ps, vs, h, r1, r2⟩ := hh.cell i _ a e m
      exact .inl (hp.val hh p _ (Rep.fdN h (by simp) r1 r2))
    · exact hp.elim
  · exact .inl (hp.val hh p _ rx)
end
section
variable {X : Cx} {Z : L2.St → Prop} {W : WX} {a b c e : Expr} {es : List Expr} {pos : Pos} {ma mb mc me : ME} {mas : MA} {mt mu : MT}
theorem de_fz (h : DE X Z W e me) : DE X Z W e (mFz me) := pe_imp (pe_fz h) fun σ H Q ⟨z, F, M, S, ρ, hh, he, hp⟩ => by
  refine ⟨z, F, M, S, ρ, hh, he, step hp List.prefix_rfl fun v M1 H1 S1 x1 p1 hh1 hp1 => ?_⟩
  intro x rx
  exact frz_post p1 hh1 rx hp1
end

/-! ### dicts read -/
def dcell : Option Ce → Option Oc
  | some (.oth o) => some o
  | some (.ofz o) => some o
  | _ => none
def dOf (v : Vl) (S : Sto) : Option Oc := match v with
  | .r i => dcell S[i]?
  | .d (.fd false ks xs) => some (.dK (ks.zip xs))
  | .d (.fd true ks xs) => some (.dN (ks.zip xs))
  | _ => none
def OcRd (κ : KW) (H : Hp) (a : Addr) : Oc → Prop
  | .dK kvs => ∃ hs, Rd H a (.dK hs) ∧ RepKs κ H kvs hs
  | .dN kvs => ∃ ps vs, Rd H a (.ext (dNφ κ.w a (kvs.map (·.1)) ps vs)) ∧ RepL κ H (kvs.map (·.1)) (ps.map V.ref) ∧ RepL κ H (kvs.map (·.2)) vs
section
variable {κ : KW} {F H : Hp} {M : List Addr} {S : Sto}
theorem RepL.len {xs : List Dt} {vs : List V} (r : RepL κ H xs vs) : xs.length = vs.length := r.length
theorem zip_fst {α β : Type} : ∀ {xs : List α} {ys : List β}, xs.length = ys.length → (xs.zip ys).map (·.1) = xs
  | [], _, _ => by simp
  | x :: xs, [], e => by cases e
  | x :: xs, y :: ys, e => by simp [zip_fst (xs := xs) (ys := ys) (by simpa using e)]
theorem zip_snd {α β : Type} : ∀ {xs : List α} {ys : List β}, xs.length = ys.length → (xs.zip ys).map (·.2) = ys
  | [], [], _ => by simp
  | [], y :: ys, e => by cases e
  | x :: xs, [], e => by cases e
  | x :: xs, y :: ys, e => by simp [zip_snd (xs := xs) (ys := ys) (by simpa using e)]
theorem OcOk.rd {a : Addr} {o : Oc} (h : OcOk κ H a id o) : OcRd κ H a o := by
  cases o with
  | dK kvs => obtain ⟨hs, h, r⟩ := h; exact ⟨hs, .inl h, r⟩
  | dN kvs => obtain ⟨ps, vs, h, r⟩ := h; exact ⟨ps, vs, .inl h, r⟩
theorem OcOk.rdF {a : Addr} {o : Oc} {od : Obj} (h : OcOk κ H a (.frz od) o) : OcRd κ H a o := by
  cases o with
  | dK kvs => obtain ⟨hs, h, r⟩ := h; exact ⟨hs, .inr ⟨_, h⟩, r⟩
  | dN kvs => obtain ⟨ps, vs, h, r⟩ := h; exact ⟨ps, vs, .inr ⟨_, h⟩, r⟩
theorem dOf_rep {v : Vl} {x : V} {o : Oc} (hh : Hold κ F H M S) (e : dOf v S = some o) (r : RepV κ H M v x) : ∃ a, x = .ref a ∧ OcRd κ H a o := by
  unfold dOf at e
  split at e
  · rename_i i
    obtain ⟨a, rfl, m⟩ := r
    refine ⟨a, rfl, ?_⟩
    unfold dcell at e
    split at e
    · rename_i o' q
      cases e
      exact (show OcOk κ H a id o from hh.cell i _ a q m).rd
    · rename_i o' q
      cases e
      obtain ⟨od, h⟩ := (show ∃ ob, OcOk κ H a (.frz ob) o from hh.cell i _ a q m)
      exact h.rdF
    · cases e
  · cases e
    cases (show Rep κ H _ x from r) with
    | fdK h k rr =>
      refine ⟨_, rfl, _, .inr ⟨_, h⟩, ?_, ?_⟩
      · rw [zip_fst (by rw [rr.len, ← k]; simp)]; exact k
      · rw [zip_snd (by rw [rr.len, ← k]; simp)]; exact rr
  · cases e
    cases (show Rep κ H _ x from r) with
    | @fdN a ob _ _ ps vs h hl k rr =>
      refine ⟨a, rfl, ps, vs, .inr ⟨ob, ?_⟩, ?_, ?_⟩
      · rw [zip_fst hl]; exact h
      · rw [zip_fst hl]; exact k
      · rw [zip_snd hl]; exact rr
  · cases e
end
/-- what a dict with tuple keys says of y -/
def NAt (κ : KW) (H : Hp) (a : Addr) (y : V) (kvs : List (Dt × Dt)) (k : Dt) : Prop := ∃ (b : Addr) (ps : List Addr) (vs : List V), Rd H a (.ext (dNφ κ.w a (kvs.map (·.1)) ps vs)) ∧ RepL κ H (kvs.map (·.1)) (ps.map V.ref) ∧ RepL κ H (kvs.map (·.2)) vs ∧
  y = .ref b ∧ Rep κ H k (.ref b) ∧ keyT k = true
section
variable {X : Cx} {pins : List (Addr × Obj)} {σ : L2.St} {H : Hp} {s : Shared} {a : Addr} {y : V} {kvs : List (Dt × Dt)} {k : Dt} {A : Around} {E : Value → Shared → Prop} {u : Value}
/-- the dict, its key, its answers -/
theorem N_of (I : L2.Inv X pins σ H s) (g : NAt X.κ H a y kvs k) (ry : RelV y u) : ∃ (b : Addr) (xs : List (NestedKey × Addr × Value)), u = .ref b ∧ (a == sysModules) = false ∧ kvs.length ≤ sizeLine ∧ s.heap.DictOfH (nestedKind X.prog X.w) a xs ∧ (nestedKind X.prog X.w).is s.heap (nk k) b ∧ xs.length = kvs.length ∧
    (∀ d, getD kvs k = some d → ∃ p v, atKey xs (nk k) = some p ∧ RelV v p.2 ∧ Rep X.κ H d v) ∧ (getD kvs k = none → atKey xs (nk k) = none) := by
  obtain ⟨b, ps, vs, e, r1, r2, rfl, rk, kt⟩ := g
  obtain ⟨q1, q2, q3, xs, e1, e2, e3, D⟩ := dN_of I e r1
  cases (show u = Value.ref b from ry)
  have g := getN_rep (X := X) (H := H) kt e1 q3 r2 e3
  refine ⟨b, xs, rfl, q1, by simpa using q2, D, isN_of I rk kt, ?_, g.1, g.2⟩
  have := congrArg List.length e1
  simpa using this
theorem dictTail {value slice : Expr} {Q : Value → Shared → Prop} {ov : Value} (hT : s.TypeIs ov "dict") (hs : subscripted slice false ov u = operate [ov, u] (getItem ov u)) (h : wpAny (model X.prog X.w) A (getItem ov u) Q E s) : wpAny (model X.prog X.w) A (subscriptTail value slice ov u) Q E s := by
  unfold subscriptTail
  refine wpAny_bind ?_
  rw [getitemInPython_of_ne hT.not_modules]
  refine wpAny_bind (wpAny_specialOf hT PySem.F.slot_dict_getitem.lookup ?_)
  have fin : wpAny (model X.prog X.w) A (subscripted slice false ov u) (fun r s₃ => wpAny (model X.prog X.w) A (letTemporaryGo value ov r >>= fun _ => pure r) Q E s₃) E s := by
    rw [hs]
    exact wpAny_operating (wpAny_mono h (fun r s₃ h₃ => wpAny_bind (wpAny_letTemporaryGo (wpAny_pure h₃))) fun _ _ x => x)
  first
    | exact wpAny_pure (wpAny_bind fin)
    | exact wpAny_bind (wpAny_pure (wpAny_bind fin))
    | exact wpAny_bind fin
def rIxK : R2 := fun x y H Q => ∃ a v, x = .ref a ∧ DGet H a y (some v) ∧ Q v H
def rIxN (κ : KW) : R2 := fun x y H Q => ∃ a kvs k d, x = .ref a ∧ NAt κ H a y kvs k ∧ getD kvs k = some d ∧ ∀ v, Rep κ H d v → Q v H
theorem ix_K (hu : X.A.units + 1 < cLine) : IxR X rIxK := by
  intro value slice pins s σ H x y v u Q I rx ry h hs
  obtain ⟨a, z, rfl, g, q⟩ := h
  cases (show v = Value.ref a from rx)
  exact dictTail (dict_typeIs I g) hs (d_getItem hu I g ry fun w' s3 I3 rw' => ⟨z, H, I3, rw', q⟩)
theorem ix_N (hu : X.A.units + 9 < cLine) : IxR X (rIxN X.κ) := by
  intro value slice pins s σ H x y v u Q I rx ry h hs
  obtain ⟨a, kvs, k, d, rfl, g, gd, q⟩ := h
  cases (show v = Value.ref a from rx)
  obtain ⟨b, xs, rfl, _, _, D, hk, _, g1, _⟩ := N_of I g ry
  obtain ⟨p, z, hp, rz, rd⟩ := g1 d gd
  exact dictTail D.typeIs hs (wpAny_getItem_heap (show X.A.units + 1 + 8 < cLine by omega) hk D hp ⟨z, H, I.tok _, rz, q z rd⟩)
def rInK (neg : Bool) : R2 := fun y x H Q => ∃ a o, x = .ref a ∧ DGet H a y o ∧ Q (.bl (if neg then !o.isSome else o.isSome)) H
def rInN (κ : KW) (neg : Bool) : R2 := fun y x H Q => ∃ a kvs k, x = .ref a ∧ NAt κ H a y kvs k ∧ Q (.bl (if neg then !(getD kvs k).isSome else (getD kvs k).isSome)) H
theorem op_inK (hu : X.A.units + 1 < cLine) : OpR X (compareOp .In) (rInK false) := by
  intro pins s σ H y x u v Q I ry rx h
  obtain ⟨a, o, rfl, g, q⟩ := h
  cases (show v = Value.ref a from rx)
  exact d_in hu I g ry fun s3 I3 => ⟨.bl o.isSome, H, I3, rfl, q⟩
theorem op_notInK (hu : X.A.units + 1 < cLine) : OpR X (compareOp .NotIn) (rInK true) := by
  intro pins s σ H y x u v Q I ry rx h
  obtain ⟨a, o, rfl, g, q⟩ := h
  cases (show v = Value.ref a from rx)
  exact d_notIn hu I g ry fun s3 I3 => ⟨.bl (!o.isSome), H, I3, rfl, q⟩
theorem N_some {xs : List (NestedKey × Addr × Value)} (g1 : ∀ d, getD kvs k = some d → ∃ p v, atKey xs (nk k) = some p ∧ RelV v p.2 ∧ Rep X.κ H d v) (g2 : getD kvs k = none → atKey xs (nk k) = none) : (atKey xs (nk k)).isSome = (getD kvs k).isSome := by
  cases e : getD kvs k with
  | none => rw [g2 e]; rfl
  | some d => obtain ⟨p, _, h, _⟩ := g1 d e; rw [h]; rfl
theorem op_inN (hu : X.A.units + 9 < cLine) : OpR X (compareOp .In) (rInN X.κ false) := by
  intro pins s σ H y x u v Q I ry rx h
  obtain ⟨a, kvs, k, rfl, g, q⟩ := h
  cases (show v = Value.ref a from rx)
  obtain ⟨b, xs, rfl, hd, _, D, hk, _, g1, g2⟩ := N_of I g ry
  refine wpAny_in_heap (show X.A.units + 1 + 8 < cLine by omega) hk hd D ?_
  rw [N_some g1 g2]
  exact ⟨.bl (getD kvs k).isSome, H, I.tok _, rfl, q⟩
theorem op_notInN (hu : X.A.units + 9 < cLine) : OpR X (compareOp .NotIn) (rInN X.κ true) := by
  intro pins s σ H y x u v Q I ry rx h
  obtain ⟨a, kvs, k, rfl, g, q⟩ := h
  cases (show v = Value.ref a from rx)
  obtain ⟨b, xs, rfl, hd, _, D, hk, _, g1, g2⟩ := N_of I g ry
  refine wpAny_notIn_heap (show X.A.units + 1 + 8 < cLine by omega) hk hd D ?_
  rw [N_some g1 g2]
  exact ⟨.bl (!(getD kvs k).isSome), H, I.tok _, rfl, q⟩
/-! d[k] = v -/
def rSetK : V → V → V → Hp → (Hp → Prop) → Prop := fun o i v H Q => ∃ a H', o = .ref a ∧ DPut H a i v H' ∧ Q H'
def rSetN (κ : KW) : V → V → V → Hp → (Hp → Prop) → Prop := fun o i v H Q => ∃ a kvs k b ps vs d, o = .ref a ∧ H a = some (.ext (dNφ κ.w a (kvs.map (·.1)) ps vs)) ∧ RepL κ H (kvs.map (·.1)) (ps.map V.ref) ∧ RepL κ H (kvs.map (·.2)) vs ∧ i = .ref b ∧ Rep κ H k (.ref b) ∧ keyT k = true ∧ Rep κ H d v ∧ kvs.length < sizeLine ∧
  ∀ ps' ws, RepL κ H ((setD kvs k d).map (·.1)) (ps'.map V.ref) → RepL κ H ((setD kvs k d).map (·.2)) ws → Q (upd H a (.ext (dNφ κ.w a ((setD kvs k d).map (·.1)) ps' ws)))
theorem set_K (hu : X.A.units + 1 < cLine) : PSet X rSetK := by
  intro pins s σ H o i v ov iv u Q I ro ri rv h
  obtain ⟨a, H', rfl, g, q⟩ := h
  cases (show ov = Value.ref a from ro)
  exact d_setItem hu I g ri rv fun s4 I4 => ⟨H', I4, q⟩
theorem setD_len (kvs : List (Dt × Dt)) (k d : Dt) : (setD kvs k d).length ≤ kvs.length + 1 := by
  unfold setD
  split <;> simp
theorem set_N (hu : X.A.units + 9 < cLine) : PSet X (rSetN X.κ) := by
  intro pins s σ H o i v ov iv u Q I ro ri rv h
  obtain ⟨a, kvs, k, b, ps, vs, d, rfl, e, r1, r2, rfl, rk, kt, rd, hl, q⟩ := h
  cases (show ov = Value.ref a from ro)
  cases (show iv = Value.ref b from ri)
  obtain ⟨q1, q2, q3, xs, e1, e2, e3, D⟩ := dN_of I (.inl e) r1
  subst e2
  obtain ⟨ws, n1, n2, n3, n4, n5⟩ := setN_rep (X := X) (H := H) (b := b) kt rk rd rv e1 q3 r1 r2 e3
  have hx : xs.length = kvs.length := by simpa using congrArg List.length e1
  refine wpAny_setItem_heap (hsz := by omega) (show X.A.units + 1 + 8 < cLine by omega) (isN_of I rk kt) D fun h' dd' hs => ⟨_, ?_, q _ ws n3 n4⟩
  obtain ⟨ob, es, ep, hq, h2, h3, h4, _, h5⟩ := dd'
  refine d_write (t' := s.toks + (nk k).draws) I (by rw [e]; exact True.intro) hs ⟨ob, hq⟩ ⟨⟨q1, ?_, n2, ob, es, ep, _, hq, h2, h3, h4, n1, rfl, n5, h5⟩, ⟨ob, hq⟩, fun h1 h2 p c => dNφ_stay p c⟩
  have := setD_len kvs k d
  rw [List.length_map]
  omega
/-! len(d), {} -/
def rLenN (κ : KW) : List V → Hp → VK → Prop := fun xs H Q => ∃ (a : Addr) (kvs : List (Dt × Dt)) (ps : List Addr) (vs : List V), xs = [.ref a] ∧ Rd H a (.ext (dNφ κ.w a (kvs.map (·.1)) ps vs)) ∧ RepL κ H (kvs.map (·.1)) (ps.map V.ref) ∧ Q (.int ((kvs.length : Nat) : Int)) H
theorem call_lenN : CallR X (.builtin "len") (rLenN X.κ) := by
  intro pins s σ H xs us Q I r h
  obtain ⟨a, kvs, ps, vs, rfl, e, r1, q⟩ := h
  obtain ⟨u, rfl, rx⟩ := vals1 r
  obtain rfl : u = .ref a := rx
  obtain ⟨q1, q2, q3, ys, e1, e2, e3, D⟩ := dN_of I e r1
  have hx : ys.length = kvs.length := by simpa using congrArg List.length e1
  have hs : sizeLine = 16777216 := sizeLine_eq
  rw [List.length_map] at q2
  exact call_len_dictH q1 D (by omega) ⟨.int ((kvs.length : Nat) : Int), H, I.tok _, ⟨_, by rw [hx]⟩, q⟩
def rLenK : List V → Hp → VK → Prop := fun xs H Q => ∃ (a : Addr) (kvs : List (Key × V)), xs = [.ref a] ∧ Rd H a (.dK kvs) ∧ Q (.int ((kvs.length : Nat) : Int)) H
theorem call_lenK : CallR X (.builtin "len") rLenK := by
  intro pins s σ H xs us Q I r h
  obtain ⟨a, kvs, rfl, e, q⟩ := h
  obtain ⟨u, rfl, rx⟩ := vals1 r
  obtain rfl : u = .ref a := rx
  exact d_len I e fun t s' I' => ⟨.int ((kvs.length : Nat) : Int), H, I', ⟨_, rfl⟩, q⟩
theorem pe_dnewN {pos : Pos} : PE X (.Dict [] [] pos) (fun _ H Q => ∀ p, H p = none → Q (.ref p) (upd H p (.ext (dNφ X.w p [] [] [])))) := ⟨fun pins s σ H Q I h => by
  refine wpAny_Dict_empty ⟨.ref s.heap.objs.size, _, I.laid (a := s.heap.objs.size) (o := .ext (dNφ X.w s.heap.objs.size [] [] [])) (t' := s.toks) (fun _ _ q => Heap.get?_push_of_some _ q) (Nat.le_refl _) ?_, rfl, h _ (I.hok.fresh (Nat.le_refl _))⟩
  refine ⟨⟨beq_eq_false_iff_ne.mpr (Ne.symm (Nat.ne_of_lt I.big)), Nat.zero_le _, rfl, _, #[], 0, [], Heap.get?_push_size _ rfl, ⟨rfl, rfl, rfl⟩, rfl, rfl, rfl, rfl, .nil, List.nodup_nil⟩, ⟨_, Heap.get?_push_size _ rfl⟩, fun h1 h2 p c => dNφ_stay p c⟩⟩
end
end Mo
/-! Subscripts, in, len, stores over lists, tuples and dicts alike; methods; sorted. -/
namespace Mo
open PySem PySem.Spec PyProof.Rows L2
/-! ### subscripts -/
def vIxD (n : Nat) (v k : Vl) (S : Sto) : Rs Vl := match dOf v S with
  | some o => match k with
    | .d d => if keyOk o d = true then match getD o.kvs d with
      | some x => .ok (.d x) S
      | none => .bad
      else .bad
    | _ => .bad
  | none => vIx n v k S
section
variable {κ : KW} {F : Hp}
def rIxD (κ : KW) : R2 := fun x y H Q => rIx κ.K x y H Q ∨ (rIxK x y H Q ∨ rIxN κ x y H Q)
theorem dget_K {H : Hp} {a : Addr} {kvs : List (Dt × Dt)} {hs : List (Key × V)} {d : Dt} {y : V} {k : Key} (rd : Rd H a (.dK hs)) (r : RepKs κ H kvs hs) (e : keyOf d = some k) (ry : Rep κ H d y) :
    (∀ x, getD kvs d = some x → ∃ v, DGet H a y (some v) ∧ Rep κ H x v) ∧ DGet H a y (valV hs k) ∧ (valV hs k).isSome = (getD kvs d).isSome := by
  obtain rfl := keyOf_kD e
  obtain rfl := keyOf_rep e ry
  obtain ⟨g1, g2⟩ := getK_rep (k := k) r
  have g : DGet H a (kV k) (valV hs k) := .inl ⟨hs, k, rd, rfl, rfl⟩
  refine ⟨fun x ex => ?_, g, ?_⟩
  · obtain ⟨v, h1, h2⟩ := g1 x ex
    exact ⟨v, h1 ▸ g, h2⟩
  · cases c : getD kvs (kD k) with
    | none => rw [g2 c]; rfl
    | some x => obtain ⟨v, h1, _⟩ := g1 x c; rw [h1]; rfl
theorem nat_N {H : Hp} {a : Addr} {kvs : List (Dt × Dt)} {d : Dt} {y : V} (h : OcRd κ H a (.dN kvs)) (e : keyT d = true) (ry : Rep κ H d y) : NAt κ H a y kvs d := by
  obtain ⟨ps, vs, rd, r1, r2⟩ := h
  obtain ⟨b, rfl⟩ := keyT_ref e ry
  exact ⟨b, ps, vs, rd, r1, r2, rfl, ry, e⟩
theorem ro_ixD : RO κ vIxD (rIxD κ) := by
  intro F W σ H M0 M S a b x y Q p hh ra rb hp
  unfold vIxD at hp
  split at hp
  · rename_i o e
    obtain ⟨c, rfl, hr⟩ := dOf_rep hh e ra
    split at hp
    · rename_i d
      split at hp
      · rename_i ko
        split at hp
        · rename_i z ez
          cases o with
          | dK kvs =>
            obtain ⟨hs, rd, r⟩ := hr
            obtain ⟨k, ek⟩ := Option.isSome_iff_exists.mp (show (keyOf d).isSome = true from ko)
            obtain ⟨v, g, rv⟩ := (dget_K rd r ek rb).1 z ez
            exact .inr (.inl ⟨c, v, rfl, g, hp.val hh p _ rv⟩)
          | dN kvs => exact .inr (.inr ⟨c, kvs, d, z, rfl, nat_N hr ko rb, ez, fun v rv => hp.val hh p _ rv⟩)
        · exact hp.elim
      · exact hp.elim
    · exact hp.elim
  · exact .inl (ro_ix _ _ _ _ _ _ _ _ _ _ _ _ p hh ra rb hp)
/-! ### in -/
def dInD (a b : Vl) (S : Sto) : Option Bool := match a, itemsOf b S with
  | .d x, some ys => if okD x && okDs ys then some (memD x ys) else none
  | _, _ => none
def isListV (b : Vl) (S : Sto) : Bool := match b with
  | .r i => (sq S i).isSome
  | .d (.fl _) => true
  | _ => false
def inAll (a b : Vl) (S : Sto) : Option Bool := match dOf b S with
  | some o => match a with
    | .d d => if keyOk o d = true then some (getD o.kvs d).isSome else none
    | _ => none
  | none => match inB a b S with
    | some k => some k
    | none => if isListV b S = true then dInD a b S else none
def vInD (n : Nat) (a b : Vl) (S : Sto) : Rs Vl := match inAll a b S with
  | some k => .ok (.d (.bl k)) (S.take n)
  | none => .bad
def vNotInD (n : Nat) (a b : Vl) (S : Sto) : Rs Vl := match inAll a b S with
  | some k => .ok (.d (.bl (!k))) (S.take n)
  | none => .bad
def rInAll (κ : KW) (neg : Bool) : R2 := fun x y H Q => rIn κ.K neg x y H Q ∨ ((rInK neg x y H Q ∨ rInN κ neg x y H Q) ∨ (if neg then rNotInD κ.K x y H Q else rInD κ.K x y H Q))
theorem any_py {x : Dt} (hx : dataD x = true) : ∀ {ys : List Dt}, dataDs ys = true → ((toPys ys).any fun z => PyData.eqv z (toPy x)) = memD x ys
  | [], _ => rfl
  | y :: ys, h => by
    rw [dataDs, Bool.and_eq_true] at h
    unfold memD
    rw [toPys, List.any_cons, List.any_cons, any_py hx h.2, ← eqD_py y x h.1 hx]
    rfl
theorem inAll_core {H : Hp} {M : List Addr} {S : Sto} {a b : Vl} {x y : V} {k : Bool} (hh : Hold κ F H M S) (ra : RepV κ H M a x) (rb : RepV κ H M b y) (e : inAll a b S = some k) (neg : Bool) (Q : VK) (q : Q (.bl (if neg then !k else k)) H) : rInAll κ neg x y H Q := by
  unfold inAll at e
  split at e
  · rename_i o eo
    obtain ⟨c, rfl, hr⟩ := dOf_rep hh eo rb
    split at e
    · rename_i d
      split at e
      · rename_i ko
        cases e
        refine .inr (.inl ?_)
        cases o with
        | dK kvs =>
          obtain ⟨hs, rd, r⟩ := hr
          obtain ⟨k, ek⟩ := Option.isSome_iff_exists.mp (show (keyOf d).isSome = true from ko)
          obtain ⟨_, g, eq⟩ := dget_K rd r ek ra
          refine .inl ⟨c, _, rfl, g, ?_⟩
          rw [eq]
          exact q
        | dN kvs => exact .inr ⟨c, kvs, d, rfl, nat_N hr ko ra, q⟩
      · cases e
    · cases e
  · split at e
    · rename_i k' e'
      cases e
      exact .inl (in_core hh ra rb e' neg Q q)
    · split at e
      · rename_i hl
        unfold dInD at e
        cases ei : itemsOf b S with
        | none => rw [ei] at e; cases a <;> cases e
        | some ys =>
        rw [ei] at e
        cases a with
        | r _ => cases e
        | e _ => cases e
        | d d =>
          dsimp only at e
          split at e
          · rename_i hc
            rw [Bool.and_eq_true] at hc
            cases e
            have hd : Dp κ.K H y (.list (toPys ys)) := by
              cases b with
              | r i =>
                unfold itemsOf at ei
                dsimp only at ei
                split at ei
                · rename_i c ec
                  cases ei
                  obtain ⟨p, rfl, m⟩ := rb
                  obtain ⟨vs, hs, rr⟩ := CeOk.seq ec (hh.cell i c p (sq_at ec) m)
                  exact .lst hs (rr.dp (okDs_1 hc.2))
                · cases ei
              | e _ => cases hl
              | d z =>
                cases z with
                | fl xs =>
                  cases ei
                  cases (show Rep κ H _ y from rb) with
                  | @fl p _ vs h rr => exact .lst h.sqL (rr.dp (okDs_1 hc.2))
                | _ => cases hl
            have ea := any_py (okD_1 hc.1) (okDs_1 hc.2)
            refine .inr (.inr ?_)
            cases neg with
            | true =>
              refine ⟨_, _, Rep.dp (okD_1 hc.1) ra, hd, okD_2 hc.1, okDs_2 hc.2, ?_⟩
              rw [ea]
              exact q
            | false =>
              refine ⟨_, _, Rep.dp (okD_1 hc.1) ra, hd, okD_2 hc.1, okDs_2 hc.2, ?_⟩
              rw [ea]
              exact q
          · cases e
      · cases e
theorem ro_inD : RO κ vInD (rInAll κ false) := by
  intro F W σ H M0 M S a b x y Q p hh ra rb hp
  unfold vInD at hp
  split at hp
  · rename_i k e
    exact inAll_core hh ra rb e false Q (hp.val (hh.take _) (take_pre p) _ (.bl _))
  · exact hp.elim
theorem ro_notInD : RO κ vNotInD (rInAll κ true) := by
  intro F W σ H M0 M S a b x y Q p hh ra rb hp
  unfold vNotInD at hp
  split at hp
  · rename_i k e
    exact inAll_core hh ra rb e true Q (hp.val (hh.take _) (take_pre p) _ (.bl _))
  · exact hp.elim
/-! ### len -/
def bLenD (n : Nat) (vs : List Vl) (S : Sto) : Rs Vl := match vs with
  | [v] => match dOf v S with
    | some o => .ok (.d (.int o.kvs.length)) (S.take n)
    | none => bLen n [v] S
  | _ => .bad
def rLenD (κ : KW) : List V → Hp → VK → Prop := fun xs H Q => (∃ x n, xs = [x] ∧ LenV κ.K x H n ∧ Q (.int n) H) ∨ (rLenK xs H Q ∨ rLenN κ xs H Q)
theorem call_lenD {X : Cx} : CallR X (.builtin "len") (rLenD X.κ) := call_len.or (call_lenK.or call_lenN)
theorem rc_lenD : RC κ bLenD (rLenD κ) := by
  intro F W σ H M0 M S vs xs Q p hh rv hp
  unfold bLenD at hp
  split at hp
  · split at hp
    · rename_i o e
      obtain ⟨x, rfl, r⟩ := repV1 rv
      obtain ⟨c, rfl, hr⟩ := dOf_rep hh e r
      have fin := hp.val (hh.take _) (take_pre p) _ (Rep.int _)
      cases o with
      | dK kvs =>
        obtain ⟨hs, rd, r⟩ := hr
        refine .inr (.inl ⟨c, hs, rfl, rd, ?_⟩)
        rw [← r.length]
        exact fin
      | dN kvs =>
        obtain ⟨ps, vs, rd, r1, r2⟩ := hr
        exact .inr (.inr ⟨c, kvs, ps, vs, rfl, rd, r1, fin⟩)
    · exact .inl (rc_len _ _ _ _ _ _ _ _ _ _ p hh rv hp)
  · exact hp.elim
end
section
variable {X : Cx} {Z : L2.St → Prop} {W : WX} {a b c e : Expr} {es : List Expr} {pos : Pos} {ma mb mc me : ME} {mas : MA} {mt mu : MT}
theorem op_inAll (hu : X.A.units + 64 < cLine) (hv : X.A.units + 65 < cLine) : OpR X (compareOp .In) (rInAll X.κ false) := op_in_seq.or (((op_inK (by omega)).or (op_inN (by omega))).or (op_inD hv))
theorem op_notInAll (hu : X.A.units + 64 < cLine) (hv : X.A.units + 65 < cLine) : OpR X (compareOp .NotIn) (rInAll X.κ true) := op_notIn_seq.or (((op_notInK (by omega)).or (op_notInN (by omega))).or (op_notInD hv))
theorem de_ixD (hu : X.A.units + 64 < cLine) (ha : DE X Z W a ma) (hb : DE X Z W b mb) (hs : PlainIx b := by intro _ _; rfl) : DE X Z W (.Subscript a b pos) (mOp vIxD ma mb) := pe_imp (pe_ix (ix_seq.or ((ix_K (by omega)).or (ix_N (by omega)))) ha hb hs) (op_read ro_ixD)
theorem de_inD (hu : X.A.units + 65 < cLine) (ha : DE X Z W a ma) (hb : DE X Z W b mb) (hm : behindInMarks .In b = false := by with_unfolding_all rfl) : DE X Z W (.Compare a [.In] [b] pos) (mOp vInD ma mb) := de_cmp (op_inAll (by omega) hu) ro_inD ha hb hm
theorem de_notInD (hu : X.A.units + 65 < cLine) (ha : DE X Z W a ma) (hb : DE X Z W b mb) (hm : behindInMarks .NotIn b = false := by with_unfolding_all rfl) : DE X Z W (.Compare a [.NotIn] [b] pos) (mOp vNotInD ma mb) := de_cmp (op_notInAll (by omega) hu) ro_notInD ha hb hm
theorem dt_inD (hu : X.A.units + 65 < cLine) (ha : DE X Z W a ma) (hb : DE X Z W b mb) (hm : behindInMarks .In b = false := by with_unfolding_all rfl) : DT X Z W (.Compare a [.In] [b] pos) (mT (mOp vInD ma mb)) := dt_cmp (op_inAll (by omega) hu) ro_inD ha hb hm
theorem dt_notInD (hu : X.A.units + 65 < cLine) (ha : DE X Z W a ma) (hb : DE X Z W b mb) (hm : behindInMarks .NotIn b = false := by with_unfolding_all rfl) : DT X Z W (.Compare a [.NotIn] [b] pos) (mT (mOp vNotInD ma mb)) := dt_cmp (op_notInAll (by omega) hu) ro_notInD ha hb hm
theorem de_lenD {p : Pos} (hm : X.mg "len" = none) (ha : DA X Z W (e :: es) mas) (hg : Gl X "len" := by rfl) (he : starEach (e :: es) X.env = (false, eval e X.env) :: starEach es X.env := by rfl) (hpl : (backTo pos (starEach es X.env)).any (·.1) = false := by rfl) : DE X Z W (.Call (.Name "len" p) (e :: es) [] pos) (mCall bLenD mas) :=
  de_callB call_lenD rc_lenD hm (by decide +kernel) ha hg (by decide) (by decide) he hpl
/-! ### new dicts -/
def mDNewK : ME := fun _ S => .ok (.r S.length) (S ++ [.oth (.dK [])])
theorem de_dnewK : DE X Z W (.Dict [] [] pos) mDNewK := pe_imp pe_dnewK fun σ H Q ⟨z, F, M, S, ρ, hh, he, hp⟩ => by
  intro p hp0
  exact hp _ (M ++ [p]) (Ext.new hp0) ⟨[p], rfl⟩ (hh.consC hp0 ⟨[], upd_same, rfl, .nil⟩) _ ⟨p, rfl, at_end hh.len⟩
def mDNewN : ME := fun _ S => .ok (.r S.length) (S ++ [.oth (.dN [])])
theorem de_dnewN : DE X Z W (.Dict [] [] pos) mDNewN := pe_imp pe_dnewN fun σ H Q ⟨z, F, M, S, ρ, hh, he, hp⟩ => by
  intro p hp0
  exact hp _ (M ++ [p]) (Ext.new hp0) ⟨[p], rfl⟩ (hh.consC hp0 ⟨[], [], upd_same, .nil, .nil⟩) _ ⟨p, rfl, at_end hh.len⟩
/-! ### stores -/
def putD (v k w : Vl) (ρ : Rho) (S : Sto) : Rss := match v with
  | .r i => match S[i]? with
    | some (.oth o) => match k, w with
      | .d d, .d x => if keyOk o d = true ∧ o.kvs.length ≤ big then .next ρ (S.set i (.oth (match o with
          | .dK kvs => .dK (setD kvs d x)
          | .dN kvs => .dN (setD kvs d x)))) else .bad
      | _, _ => .bad
    | _ => putM v k w ρ S
  | _ => .bad
def mPutD (ma mb me : ME) : MS := fun ρ S => (me ρ S).thenS ρ fun w S1 => (ma ρ S1).thenS ρ fun v S2 => (mb ρ S2).thenS ρ fun k S3 => putD v k w ρ S3
def rSetD (κ : KW) : V → V → V → Hp → (Hp → Prop) → Prop := fun o i v H Q => rSetL o i v H Q ∨ (rSetK o i v H Q ∨ rSetN κ o i v H Q)
theorem set_D (hu : X.A.units + 64 < cLine) : PSet X (rSetD X.κ) := by
  intro pins s σ H o i v ov iv u Q I ro ri rv h
  rcases h with h | h | h
  · exact set_list pins s σ H o i v ov iv u Q I ro ri rv h
  · exact set_K (by omega) pins s σ H o i v ov iv u Q I ro ri rv h
  · exact set_N (by omega) pins s σ H o i v ov iv u Q I ro ri rv h
theorem ds_putD {tpos : Pos} (he : DE X ZT W e me) (ha : DE X ZT W a ma) (hb : DE X ZT W b mb) (h : PS X (.Assign [.Subscript a b tpos] e pos) (tAsg (tM X.κ ZT W me) (gSub (tM X.κ ZT W ma) (tM X.κ ZT W mb) (rSetD X.κ)))) :
    DS X ZT W (.Assign [.Subscript a b tpos] e pos) (mPutD ma mb me) := ps_imp h fun D σ H ⟨z, F, M, S, ρ, hh, he, hp⟩ => by
  refine ⟨z, F, M, S, ρ, hh, he, stepS z he hp fun w M1 H1 S1 x1 p1 hh1 hp1 => ?_⟩
  intro y ry
  refine ⟨z, F, M1, S1, ρ, hh1, he.mono x1 p1, stepS' z (he.mono x1 p1) hp1 p1 fun v M2 H2 S2 x2 p2 hh2 hp2 => ?_⟩
  intro o ro
  refine ⟨z, F, M2, S2, ρ, hh2, he.mono (x1.trans x2) (p1.trans p2), stepS' z (he.mono (x1.trans x2) (p1.trans p2)) hp2 (p1.trans p2) fun k M3 H3 S3 x3 p3 hh3 hp3 => ?_⟩
  intro i ri
  have he3 := (he.mono (x1.trans x2) (p1.trans p2)).mono x3 p3
  have pp := (p1.trans p2).trans p3
  unfold putD at hp3
  split at hp3
  · rename_i c
    obtain ⟨l, rfl, m⟩ := ro
    have m3 := pre_get p3 m
    split at hp3
    · rename_i oc eS
      split at hp3
      · rename_i d x
        split at hp3
        · rename_i hc
          have rd : Rep X.κ H3 x y := (show Rep X.κ H1 x y from ry).mono (x2.trans x3)
          have rk : Rep X.κ H3 d i := ri
          cases oc with
          | dK kvs =>
            obtain ⟨hs, h3, r3⟩ := (show OcOk X.κ H3 l id (.dK kvs) from hh3.cell c _ l eS m3)
            obtain ⟨kk, ek⟩ := Option.isSome_iff_exists.mp (show (keyOf d).isSome = true from hc.1)
            obtain rfl := keyOf_kD ek
            obtain rfl := keyOf_rep ek rk
            have xt : Ext H3 (upd H3 l (.dK (putK hs kk y))) := Ext.at h3 fun z => z
            refine .inr (.inl ⟨l, _, rfl, DPut.k h3 (by rw [← r3.length]; exact big_lt hc.2), ?_⟩)
            exact hp3 σ _ M3 trivial xt pp (hh3.putC eS rfl m3 ⟨_, upd_same, (r3.put rd).mono xt⟩) (he3.mono xt List.prefix_rfl)
          | dN kvs =>
            obtain ⟨ps, vs, h3, r1, r2⟩ := (show OcOk X.κ H3 l id (.dN kvs) from hh3.cell c _ l eS m3)
            obtain ⟨bb, rfl⟩ := keyT_ref hc.1 rk
            refine .inr (.inr ⟨l, kvs, d, bb, ps, vs, x, rfl, h3, r1, r2, rfl, rk, hc.1, rd, big_lt hc.2, fun ps' ws n1 n2 => ?_⟩)
            have xt : Ext H3 (upd H3 l (.ext (dNφ X.κ.w l ((setD kvs d x).map (·.1)) ps' ws))) := Ext.at h3 fun z => z
            exact hp3 σ _ M3 trivial xt pp (hh3.putC eS rfl m3 ⟨ps', ws, upd_same, n1.mono xt, n2.mono xt⟩) (he3.mono xt List.prefix_rfl)
        · exact hp3.elim
      · exact hp3.elim
    · cases k with
      | r _ => exact hp3.elim
      | e _ => exact hp3.elim
      | d kd =>
      cases kd with
      | int j =>
          cases w with
          | r _ => exact hp3.elim
          | e _ => exact hp3.elim
          | d d =>
            unfold putM at hp3
            dsimp only at hp3
            split at hp3
            · rename_i xs eS
              split at hp3
              · rename_i n en
                cases (show Rep X.κ H3 _ i from ri)
                obtain ⟨vs, h3, r3⟩ := hh3.cell c _ l eS m3
                have rd : Rep X.κ H3 d y := (show Rep X.κ H1 d y from ry).mono (x2.trans x3)
                refine .inl ⟨l, vs, j, n, rfl, rfl, h3, by rw [← r3.length]; exact en, ?_⟩
                exact hp3 σ _ M3 trivial (Ext.lst h3) pp (hh3.put eS m3 (r3.set n rd)) (he3.mono (Ext.lst h3) List.prefix_rfl)
              · exact hp3.elim
            · exact hp3.elim
      | _ => exact hp3.elim
  · exact hp3.elim
end
end Mo
/-! Methods of lists; sorted; bit_length; what has no rule. -/
namespace Mo
open PySem PySem.Spec PyProof.Rows L2
/-! ### what has no rule: it must not be reached -/
def mBad : MS := fun _ _ => .bad
def mBadE : ME := fun _ _ => .bad
section
variable {X : Cx} {Z : L2.St → Prop} {W : WX} {st : Stmt} {ss : List Stmt} {e : Expr}
theorem ds_bad : DS X Z W st mBad := ⟨fun pins s σ H D I ⟨_, _, _, _, _, _, _, h⟩ => h.elim⟩
theorem dss_bad : DSs X Z W ss mBad := ⟨fun pins s σ H D I ⟨_, _, _, _, _, _, _, h⟩ => h.elim⟩
theorem de_bad : DE X Z W e mBadE := ⟨fun pins s σ H Q I ⟨_, _, _, _, _, _, _, h⟩ => h.elim⟩
end
/-! ### methods -/
/-- a method of a list: what it does, by values -/
def MR (κ : KW) (f : Nat → Nat → List Vl → Sto → Rs Vl) (r : V → List V → Hp → VK → Prop) : Prop :=
  ∀ (F : Hp) (W : WX) (σ : L2.St) (H : Hp) (M0 M : List Addr) (S : Sto) (i : Nat) (a : Addr) (vs : List Vl) (xs : List V) (Q : VK), M0 <+: M → Hold κ F H M S → M[i]? = some a → RepVs κ H M vs xs →
    Post κ F W σ M0 H (f M0.length i vs S) (fun v M' H' => ∀ x, RepV κ H' M' v x → Q x H') → r (.ref a) xs H Q
def mMeth (f : Nat → Nat → List Vl → Sto → Rs Vl) (ma : ME) (mas : MA) : ME := fun ρ S => (ma ρ S).bind fun v S1 => match v with
  | .r i => match sq S1 i with
    | some _ => (mas ρ S1).bind fun vs S2 => f S.length i vs S2
    | none => .bad
  | _ => .bad
section
variable {X : Cx} {Z : L2.St → Prop} {W : WX} {a b c e : Expr} {es : List Expr} {pos apos : Pos} {ma mb mc me : ME} {mas : MA} {f : Nat → Nat → List Vl → Sto → Rs Vl} {r : V → List V → Hp → VK → Prop} {name : Str}
theorem meth_read (hf : MR X.κ f r) (σ : L2.St) (H : Hp) (Q : VK) (h : tM X.κ Z W (mMeth f ma mas) σ H Q) : tBM X.K "list" r (tM X.κ Z W ma) (tMA X.κ Z W mas) σ H Q := by
  obtain ⟨z, F, M, S, ρ, hh, he, hp⟩ := h
  refine ⟨z, F, M, S, ρ, hh, he, step hp List.prefix_rfl fun v M1 H1 S1 x1 p1 hh1 hp1 => ?_⟩
  intro x rx
  split at hp1
  · rename_i i
    obtain ⟨l, rfl, m⟩ := rx
    cases hc : sq S1 i with
    | none => rw [hc] at hp1; exact hp1.elim
    | some c =>
    rw [hc] at hp1
    obtain ⟨vs0, hs0, _⟩ := CeOk.seq hc (hh1.cell i c l (sq_at hc) m)
    refine ⟨.inl ⟨rfl, _, hs0⟩, z, F, M1, S1, ρ, hh1, he.mono x1 p1, step hp1 p1 fun vs M2 H2 S2 x2 p2 hh2 hp2 => ?_⟩
    intro ys rys
    rw [← hh.len] at hp2
    exact hf F _ _ _ _ _ _ _ _ _ _ _ (p1.trans p2) hh2 (pre_get p2 m) rys hp2
  · exact hp1.elim
theorem meth_read0 (hf : MR X.κ f r) (σ : L2.St) (H : Hp) (Q : VK) (h : tM X.κ Z W (mMeth f ma mNil) σ H Q) : tBM0 X.K "list" r (tM X.κ Z W ma) σ H Q := by
  obtain ⟨z, F, M, S, ρ, hh, he, hp⟩ := h
  refine ⟨z, F, M, S, ρ, hh, he, step hp List.prefix_rfl fun v M1 H1 S1 x1 p1 hh1 hp1 => ?_⟩
  intro x rx
  split at hp1
  · rename_i i
    obtain ⟨l, rfl, m⟩ := rx
    cases hc : sq S1 i with
    | none => rw [hc] at hp1; exact hp1.elim
    | some c =>
    rw [hc] at hp1
    obtain ⟨vs0, hs0, _⟩ := CeOk.seq hc (hh1.cell i c l (sq_at hc) m)
    refine ⟨.inl ⟨rfl, _, hs0⟩, ?_⟩
    have hp2 : Post X.κ F W σ M H1 (f S.length i [] S1) (fun v M' H' => ∀ x, RepV X.κ H' M' v x → Q x H') := hp1
    rw [← hh.len] at hp2
    exact hf F _ _ _ _ _ _ _ _ _ _ _ p1 hh1 m .nil hp2
  · exact hp1.elim
theorem de_meth (hf : MR X.κ f r) (h : PE X (.Call (.Attribute a name apos) (e :: es) [] pos) (tBM X.K "list" r (tM X.κ Z W ma) (tMA X.κ Z W mas))) : DE X Z W (.Call (.Attribute a name apos) (e :: es) [] pos) (mMeth f ma mas) := pe_imp h (meth_read hf)
theorem de_meth0 (hf : MR X.κ f r) (h : PE X (.Call (.Attribute a name apos) [] [] pos) (tBM0 X.K "list" r (tM X.κ Z W ma))) : DE X Z W (.Call (.Attribute a name apos) [] [] pos) (mMeth f ma mNil) := pe_imp h (meth_read0 hf)
end
/-- xs.pop(), xs.pop(i), xs.insert(i, x), xs.extend(ys), xs.index(x) -/
def fPop (_ : Nat) (i : Nat) (vs : List Vl) (S : Sto) : Rs Vl := match S[i]?, vs with
  | some (.lst xs), [] => match xs[xs.length - 1]? with
    | some x => .ok (.d x) (S.set i (.lst xs.dropLast))
    | none => .bad
  | _, _ => .bad
def fPopAt (_ : Nat) (i : Nat) (vs : List Vl) (S : Sto) : Rs Vl := match S[i]?, vs with
  | some (.lst xs), [.d (.int j)] => if 0 ≤ j ∧ j < 2 ^ 63 then match xs[j.toNat]? with
      | some x => .ok (.d x) (S.set i (.lst (xs.eraseIdx j.toNat)))
      | none => .bad
    else .bad
  | _, _ => .bad
def fInsert (_ : Nat) (i : Nat) (vs : List Vl) (S : Sto) : Rs Vl := match S[i]?, vs with
  | some (.lst xs), [.d (.int j), .d x] => if (0 ≤ j ∧ j < 2 ^ 63) ∧ xs.length ≤ big then .ok (.d .non) (S.set i (.lst (xs.take j.toNat ++ [x] ++ xs.drop j.toNat))) else .bad
  | _, _ => .bad
def fExtend (_ : Nat) (i : Nat) (vs : List Vl) (S : Sto) : Rs Vl := match S[i]?, vs with
  | some (.lst xs), [.r k] => match S[k]? with
    | some (.lst ys) => if xs.length + ys.length ≤ big then .ok (.d .non) (S.set i (.lst (xs ++ ys))) else .bad
    | _ => .bad
  | _, _ => .bad
/-- the first place of an equal one -/
def idxD (x : Dt) : Nat → List Dt → Option Nat
  | _, [] => none
  | n, y :: ys => if eqD y x = true then some n else idxD x (n + 1) ys
def fIndex (n : Nat) (i : Nat) (vs : List Vl) (S : Sto) : Rs Vl := match sq S i, vs with
  | some c, [.d x] => if okD x && okDs c.items then match idxD x 0 c.items with
      | some k => .ok (.d (.int k)) (S.take n)
      | none => .bad
    else .bad
  | _, _ => .bad
section
variable {κ : KW}
theorem RepL.dropLast {H : Hp} {xs : List Dt} {vs : List V} (r : RepL κ H xs vs) : RepL κ H xs.dropLast vs.dropLast := by
  rw [List.dropLast_eq_take, List.dropLast_eq_take, r.length]
  exact r.take _
theorem RepL.eraseIdx {H : Hp} : ∀ {xs : List Dt} {vs : List V} (k : Nat), RepL κ H xs vs → RepL κ H (xs.eraseIdx k) (vs.eraseIdx k)
  | _, _, _, .nil => .nil
  | _, _, 0, .cons r t => t
  | _, _, k + 1, .cons r t => .cons r (RepL.eraseIdx k t)
theorem mr_pop : MR κ fPop rPop := by
  intro F W σ H M0 M S i a vs xs Q p hh m rv hp
  unfold fPop at hp
  split at hp
  · rename_i ys e
    cases rv
    split at hp
    · rename_i x ex
      obtain ⟨ws, h, r⟩ := hh.cell i _ a e m
      obtain ⟨v, hv, rx⟩ := r.get ex
      rw [r.length] at hv
      have xt : Ext H (upd H a (.lst ws.dropLast)) := Ext.lst h
      exact ⟨a, ws, v, rfl, rfl, h, hv, hp _ M xt p (hh.put e m r.dropLast) _ (rx.mono xt)⟩
    · exact hp.elim
  · exact hp.elim
theorem seqIx {j : Int} {n : Nat} (h0 : 0 ≤ j) (h : j.toNat < n) : seqIndex? j n = some j.toNat := by
  exact seqIndex_of h0 (by omega)
theorem mr_popAt : MR κ fPopAt rPopAt := by
  intro F W σ H M0 M S i a vs xs Q p hh m rv hp
  unfold fPopAt at hp
  split at hp
  · rename_i ys j e
    obtain ⟨y, rfl, ry⟩ := repV1 rv
    cases (show Rep κ H _ y from ry)
    split at hp
    · rename_i hj
      split at hp
      · rename_i x ex
        obtain ⟨ws, h, r⟩ := hh.cell i _ a e m
        obtain ⟨v, hv, rx⟩ := r.get ex
        have hl : j.toNat < ws.length := (List.getElem?_eq_some_iff.mp hv).1
        have xt : Ext H (upd H a (.lst (ws.eraseIdx j.toNat))) := Ext.lst h
        exact ⟨a, ws, j, j.toNat, v, rfl, rfl, h, by omega, hj.2, seqIx hj.1 hl, hv, hp _ M xt p (hh.put e m (r.eraseIdx _)) _ (rx.mono xt)⟩
      · exact hp.elim
    · exact hp.elim
  · exact hp.elim
def rInsert : V → List V → Hp → VK → Prop := fun x vs H Q => ∃ (l : Addr) (xs : List V) (i : Int) (y : V), x = .ref l ∧ vs = [.int i, y] ∧ H l = some (.lst xs) ∧ xs.length < sizeLine ∧ 0 ≤ i ∧ i < 2 ^ 63 ∧
    Q .non (upd H l (.lst (xs.take i.toNat ++ [y] ++ xs.drop i.toNat)))
theorem mr_insert : MR κ fInsert rInsert := by
  intro F W σ H M0 M S i a vs xs Q p hh m rv hp
  unfold fInsert at hp
  split at hp
  · rename_i ys j x e
    obtain ⟨y, z, rfl, ry, rz⟩ := repV2 rv
    cases (show Rep κ H _ y from ry)
    split at hp
    · rename_i hj
      obtain ⟨ws, h, r⟩ := hh.cell i _ a e m
      have rx : Rep κ H x z := rz
      have xt : Ext H (upd H a (.lst (ws.take j.toNat ++ [z] ++ ws.drop j.toNat))) := Ext.lst h
      exact ⟨a, ws, j, z, rfl, rfl, h, by rw [← r.length]; exact big_lt hj.2, hj.1.1, hj.1.2, hp _ M xt p (hh.put e m (((r.take _).append (.cons rx .nil)).append (r.drop _))) _ Rep.non⟩
    · exact hp.elim
  · exact hp.elim
theorem mr_extend : MR κ fExtend rExtend := by
  intro F W σ H M0 M S i a vs xs Q p hh m rv hp
  unfold fExtend at hp
  split at hp
  · rename_i ys k e
    obtain ⟨y, rfl, ry⟩ := repV1 rv
    obtain ⟨b, rfl, mb⟩ := ry
    split at hp
    · rename_i zs ez
      split at hp
      · rename_i hl
        obtain ⟨ws, h, r⟩ := hh.cell i _ a e m
        obtain ⟨us, h2, r2⟩ := hh.cell k _ b ez mb
        have xt : Ext H (upd H a (.lst (ws ++ us))) := Ext.lst h
        exact ⟨a, b, ws, us, rfl, rfl, h, h2, by rw [← r.length, ← r2.length]; exact big_le hl, hp _ M xt p (hh.put e m (r.append r2)) _ Rep.non⟩
      · exact hp.elim
    · exact hp.elim
  · exact hp.elim
theorem idx_py {x : Dt} (hx : dataD x = true) : ∀ {ys : List Dt} {n k : Nat}, dataDs ys = true → idxD x n ys = some k → ∃ j z, k = n + j ∧ (toPys ys)[j]? = some z ∧ PyData.eqv z (toPy x) = true ∧ ∀ (m : Nat) (z' : PyData), m < j → (toPys ys)[m]? = some z' → PyData.eqv z' (toPy x) = false
  | [], n, k, _, e => by cases e
  | y :: ys, n, k, h, e => by
    rw [dataDs, Bool.and_eq_true] at h
    unfold idxD at e
    split at e
    · rename_i c
      cases e
      refine ⟨0, toPy y, rfl, by simp [toPys], ?_, fun m z' hm => by omega⟩
      rw [← eqD_py y x h.1 hx]
      exact c
    · rename_i c
      obtain ⟨j, z, e1, e2, e3, e4⟩ := idx_py hx h.2 e
      refine ⟨j + 1, z, by omega, by rw [toPys]; simpa using e2, e3, fun m z' hm hz => ?_⟩
      cases m with
      | zero =>
        rw [toPys] at hz
        simp at hz
        rw [← hz, ← eqD_py y x h.1 hx]
        simpa using c
      | succ m =>
        rw [toPys] at hz
        exact e4 m z' (by omega) (by simpa using hz)
theorem mr_index : MR κ fIndex (rIndexD κ.K) := by
  intro F W σ H M0 M S i a vs xs Q p hh m rv hp
  unfold fIndex at hp
  split at hp
  · rename_i c x e
    obtain ⟨y, rfl, ry⟩ := repV1 rv
    split at hp
    · rename_i hc
      rw [Bool.and_eq_true] at hc
      split at hp
      · rename_i k ek
        obtain ⟨ws, hs, r⟩ := CeOk.seq e (hh.cell i c a (sq_at e) m)
        obtain ⟨j, z, e1, e2, e3, e4⟩ := idx_py (okD_1 hc.1) (okDs_1 hc.2) ek
        refine ⟨a, y, toPy x, toPys c.items, j, z, rfl, rfl, .lst hs (r.dp (okDs_1 hc.2)), Rep.dp (okD_1 hc.1) ry, okDs_2 hc.2, okD_2 hc.1, e2, e3, e4, ?_⟩
        rw [Nat.zero_add] at e1
        rw [← e1]
        exact hp.val (hh.take _) (take_pre p) _ (.int _)
      · exact hp.elim
    · exact hp.elim
  · exact hp.elim
end
/-! ### bit_length -/
def mBits (ma : ME) : ME := fun ρ S => (ma ρ S).bind fun v S1 => match v with
  | .d (.int i) => .ok (.d (.int (Builtin.Int.intBits i : Nat))) S1
  | _ => .bad
section
variable {X : Cx} {Z : L2.St → Prop} {W : WX} {a : Expr} {pos apos : Pos} {ma : ME}
theorem de_bits (ha : DE X Z W a ma) (hbase : attributeBase a "bit_length" X.env (eval a X.env) = eval a X.env := by rfl) (hline : (apos.endLine == pos.line) = true := by rfl) : DE X Z W (.Call (.Attribute a "bit_length" apos) [] [] pos) (mBits ma) :=
  pe_imp (pe_bits ha hbase hline) fun σ H Q ⟨z, F, M, S, ρ, hh, he, hp⟩ => by
    refine ⟨z, F, M, S, ρ, hh, he, step hp List.prefix_rfl fun v M1 H1 S1 x1 p1 hh1 hp1 => ?_⟩
    intro x rx
    split at hp1
    · cases (show Rep X.κ H1 _ x from rx)
      exact ⟨_, rfl, hp1.val hh1 p1 _ (.int _)⟩
    · exact hp1.elim
end
/-! ### sorted -/
/-- by insertion, ints; pairs of ints -/
def insI (n : Int) : List Int → List Int
  | [] => [n]
  | m :: ms => if n ≤ m then n :: m :: ms else m :: insI n ms
def sortI : List Int → List Int
  | [] => []
  | n :: ns => insI n (sortI ns)
def lePr (p q : Int × Int) : Bool := if p.1 = q.1 then decide (p.2 ≤ q.2) else decide (p.1 ≤ q.1)
def insP (n : Int × Int) : List (Int × Int) → List (Int × Int)
  | [] => [n]
  | m :: ms => if lePr n m = true then n :: m :: ms else m :: insP n ms
def sortP : List (Int × Int) → List (Int × Int)
  | [] => []
  | n :: ns => insP n (sortP ns)
theorem insI_perm (n : Int) : ∀ ms, (insI n ms).Perm (n :: ms)
  | [] => .refl _
  | m :: ms => by
    unfold insI
    split
    · exact .refl _
    · exact ((insI_perm n ms).cons m).trans (.swap n m ms)
theorem sortI_perm : ∀ ns, (sortI ns).Perm ns
  | [] => .refl _
  | n :: ns => (insI_perm n _).trans ((sortI_perm ns).cons n)
theorem insI_srt (n : Int) : ∀ {ms : List Int}, ms.Pairwise (· ≤ ·) → (insI n ms).Pairwise (· ≤ ·)
  | [], _ => by unfold insI; exact List.pairwise_singleton _ _
  | m :: ms, h => by
    unfold insI
    rw [List.pairwise_cons] at h
    split
    · rename_i c
      refine .cons (fun y hy => ?_) (.cons h.1 h.2)
      rcases List.mem_cons.mp hy with rfl | hy
      · exact c
      · have := h.1 y hy; omega
    · rename_i c
      refine .cons (fun y hy => ?_) (insI_srt n h.2)
      rcases List.mem_cons.mp ((insI_perm n ms).mem_iff.mp hy) with rfl | hy
      · omega
      · exact h.1 y hy
theorem sortI_srt : ∀ ns : List Int, (sortI ns).Pairwise (· ≤ ·)
  | [] => .nil
  | n :: ns => insI_srt n (sortI_srt ns)
theorem sortI_uniq {ns ms : List Int} (h1 : ms.Perm ns) (h2 : ms.Pairwise (· ≤ ·)) : ms = sortI ns :=
  (h1.trans (sortI_perm ns).symm).eq_of_pairwise (fun a b _ _ x y => Int.le_antisymm x y) h2 (sortI_srt ns)
theorem lePr_total (p q : Int × Int) : lePr p q = true ∨ lePr q p = true := by
  unfold lePr
  by_cases h : p.1 = q.1
  · simp only [h, if_true, decide_eq_true_eq]; omega
  · simp only [h, Ne.symm h, if_false, decide_eq_true_eq]
    omega
theorem lePr_trans {p q r : Int × Int} (h1 : lePr p q = true) (h2 : lePr q r = true) : lePr p r = true := by
  unfold lePr at *
  split at h1 <;> split at h2 <;> split <;> simp only [decide_eq_true_eq] at * <;> omega
theorem lePr_anti {p q : Int × Int} (h1 : lePr p q = true) (h2 : lePr q p = true) : p = q := by
  unfold lePr at *
  refine Prod.ext ?_ ?_ <;> (split at h1 <;> split at h2 <;> simp only [decide_eq_true_eq] at * <;> omega)
theorem insP_perm (n : Int × Int) : ∀ ms, (insP n ms).Perm (n :: ms)
  | [] => .refl _
  | m :: ms => by
    unfold insP
    split
    · exact .refl _
    · exact ((insP_perm n ms).cons m).trans (.swap n m ms)
theorem sortP_perm : ∀ ns, (sortP ns).Perm ns
  | [] => .refl _
  | n :: ns => (insP_perm n _).trans ((sortP_perm ns).cons n)
theorem insP_srt (n : Int × Int) : ∀ {ms : List (Int × Int)}, ms.Pairwise (fun p q => lePr p q = true) → (insP n ms).Pairwise (fun p q => lePr p q = true)
  | [], _ => by unfold insP; exact List.pairwise_singleton _ _
  | m :: ms, h => by
    unfold insP
    rw [List.pairwise_cons] at h
    split
    · rename_i c
      refine .cons (fun y hy => ?_) (.cons h.1 h.2)
      rcases List.mem_cons.mp hy with rfl | hy
      · exact c
      · exact lePr_trans c (h.1 y hy)
    · rename_i c
      refine .cons (fun y hy => ?_) (insP_srt n h.2)
      rcases List.mem_cons.mp ((insP_perm n ms).mem_iff.mp hy) with rfl | hy
      · exact (lePr_total y m).resolve_left c
      · exact h.1 y hy
theorem sortP_srt : ∀ ns : List (Int × Int), (sortP ns).Pairwise (fun p q => lePr p q = true)
  | [] => .nil
  | n :: ns => insP_srt n (sortP_srt ns)
theorem sortP_uniq {ns ms : List (Int × Int)} (h1 : ms.Perm ns) (h2 : ms.Pairwise (fun p q => lePr p q = true)) : ms = sortP ns :=
  (h1.trans (sortP_perm ns).symm).eq_of_pairwise (fun a b _ _ x y => lePr_anti x y) h2 (sortP_srt ns)
/-! a tuple is collected like a list -/
section
variable {prog : Program} {w : World} {A : Around} {E : Value → Shared → Prop} {s : Shared}
open PyProof.Rows PySem.W in
theorem collect_tup {l : Addr} {vs : List Value} {Q : List Value → Shared → Prop} (hl : IsTup s.heap l vs.toArray)
    (h : Q vs { s with heap := (s.heap.push (seqObj "list" #[] 0)).update s.heap.objs.size (Obj.mapSeq (· ++ vs.toArray)) }) (hsz : vs.length ≤ sizeLine) :
    wpAny (model prog w) A (collect (.ref l)) Q E s := by
  obtain ⟨o, ho, hc, n, hd⟩ := id hl
  unfold collect
  refine wpAny_bind (wpAny_runValue (codeAny_builtin entry_proto_collect' ?_))
  show wpAny _ _ (do again (.builtin "list.__iadd__" ⟨[← newList [], .ref l], []⟩)) _ _ s
  refine wpAny_bind (wpAny_newList (wpAny_pure ⟨Code.quiet_builtin _ (by decide +kernel), codeAny_builtin entry_list_iadd' ?_⟩))
  show wpAny _ _ (Builtin.List.listExtendWith (.ref s.heap.objs.size) (.ref l) (.ref s.heap.objs.size)) _ _ { s with heap := s.heap.push (seqObj "list" #[] 0) }
  unfold Builtin.List.listExtendWith
  have ho' : (s.heap.push (seqObj "list" #[] 0)).get? l = some o := Heap.get?_push_of_some _ ho
  refine wpAny_bind (wpAny_typeOf (T := "tuple") ⟨o, ho', hc⟩ ?_)
  have ht : (Value.type "tuple" == Value.type "tuple") = true := by rfl
  rw [if_pos (by rw [ht]; simp)]
  refine wpAny_bind (listItems_at ho' hd ?_)
  refine wpAny_bind (listItems_at (xs := #[]) (n := 0) (Heap.get?_push_size _ rfl) rfl ?_)
  rw [if_neg (by simp)]
  refine wpAny_bind (listUpdate_at (xs := #[]) (n := 0) (Heap.get?_push_size _ rfl) rfl ?_ (Nat.zero_le _) (by show (#[] ++ vs.toArray).size ≤ sizeLine + 1; simp only [Array.size_append, List.size_toArray, List.length_nil]; omega))
  refine wpAny_pure ?_
  show wpAny (model prog w) A (do
      let o ← load s.heap.objs.size
      match o.data with
      | .seq xs _ => pure xs.toList
      | _ => unsupported "internal:collect") Q E { s with heap := (s.heap.push (seqObj "list" #[] 0)).update s.heap.objs.size (Obj.mapSeq (· ++ vs.toArray)) }
  refine wpAny_bind (wpAny_load (get?_update_seq (Heap.get?_push_size _ rfl) _) ?_)
  show wpAny _ _ (pure ((#[] : Array Value) ++ vs.toArray).toList) Q E _
  rw [show ((#[] : Array Value) ++ vs.toArray).toList = vs by simp]
  exact wpAny_pure h
open SrtO in
theorem sorted_ordT {l : Addr} {vs : List Value} {ltv : Value → Value → Bool} {Q : Value → Shared → Prop} (O : Swo ltv) (hl : IsTup s.heap l vs.toArray) (hz : vs.length ≤ sizeLine)
    (hS : 2 ≤ vs.length → ∀ (h₁ : Heap) (a : Addr), h₁.get? a = some (seqObj "list" vs.toArray 0) → (∀ b o, s.heap.get? b = some o → b ≠ a ∧ h₁.get? b = some o) → SortableO prog w A.in1.in1 { s with heap := h₁ } a vs ltv)
    (h : ∀ out : List Value, Srtd ltv out → Stb ltv out vs → Q (.ref (s.heap.objs.size + 1)) { s with heap := sortedAll s.heap vs out.toArray }) :
    wpAny (model prog w) A (call (.builtin "sorted") [.ref l]) Q E s := by
  refine Calls.call_function_entry kind_sorted plain_sorted entry_sorted (args_sorted1 _) ?_
  unfold Builtin.«sorted»
  refine wpAny_bind (m := checkCount "sorted" 1 1 _) (wpAny_pure ?_)
  refine wpAny_bind (collect_tup hl ?_ hz)
  refine wpAny_bind (wpAny_newList ?_ hz)
  have hsz : ((s.heap.push (seqObj "list" #[] 0)).update s.heap.objs.size (Obj.mapSeq (· ++ vs.toArray))).objs.size = s.heap.objs.size + 1 := by
    rw [Heap.size_update, size_push']
  have hoL : (((s.heap.push (seqObj "list" #[] 0)).update s.heap.objs.size (Obj.mapSeq (· ++ vs.toArray))).push (seqObj "list" vs.toArray 0)).get? (s.heap.objs.size + 1) = some (seqObj "list" vs.toArray 0) := by
    rw [← hsz]; exact Heap.get?_push_size _ rfl
  have keep : ∀ b o, s.heap.get? b = some o → b ≠ s.heap.objs.size + 1 ∧ (((s.heap.push (seqObj "list" #[] 0)).update s.heap.objs.size (Obj.mapSeq (· ++ vs.toArray))).push (seqObj "list" vs.toArray 0)).get? b = some o := fun b o q => by
    have hlt : b < s.heap.objs.size := Heap.lt_size q
    refine ⟨Nat.ne_of_lt (Nat.lt_succ_of_lt hlt), Heap.get?_push_of_some _ ?_⟩
    rw [Heap.get?_update_ne _ _ _ _ (Nat.ne_of_lt hlt)]
    exact Heap.get?_push_of_some _ q
  show wpAny _ _ _ _ _ { s with heap := ((s.heap.push (seqObj "list" #[] 0)).update s.heap.objs.size (Obj.mapSeq (· ++ vs.toArray))).push (seqObj "list" vs.toArray 0) }
  rw [hsz]
  refine wpAny_bind (wpAny_holding (wpAny_call_entry slot_list_sort ⟨_, hoL, rfl⟩ entry_list_sort (list_sort_ord O hoL hz (fun h2 => hS h2 _ _ hoL keep) fun out hs hb => ⟨_, rfl, ?_⟩) (args_list_sort _)))
  exact wpAny_pure ⟨_, rfl, h out hs hb⟩
end
/-- sorted(t), t a tuple of ints -/
def rSortedIT (K : PySem.W.Frag) : List V → Hp → VK → Prop := fun vs H Q => ∃ (a : Addr) (ns : List Int), vs = [V.ref a] ∧ SqT K H a (ns.map V.int) ∧
  ∀ (ns' : List Int) (p : Addr), ns'.Perm ns → ns'.Pairwise (· ≤ ·) → H p = none → Q (.ref p) (upd H p (.lst (ns'.map V.int)))
/-- sorted(xs), xs a list of pairs of ints -/
def rSortedPT (K : PySem.W.Frag) : List V → Hp → VK → Prop := fun vs H Q => ∃ (a : Addr) (ts : List (Addr × Int × Int)), vs = [V.ref a] ∧ SqL K H a (ts.map fun t => V.ref t.1) ∧ (∀ t ∈ ts, SqT K H t.1 [.int t.2.1, .int t.2.2]) ∧
  ∀ (us : List (Addr × Int × Int)) (p : Addr), us.Perm ts → (us.map (·.2)).Pairwise (fun p q => lePr p q = true) → H p = none → Q (.ref p) (upd H p (.lst (us.map fun t => V.ref t.1)))
section
variable {X : Cx}
theorem cr_sortedIT : CallR X (.builtin "sorted") (rSortedIT X.K) := by
  intro pins s σ H vs us Q I r h
  obtain ⟨a, ns, rfl, hs, q⟩ := h
  obtain ⟨its, rv, hl, hz⟩ := I.tuple hs
  rw [Vals.ref1 r]
  have hi := rv.ints
  refine sorted_ordT SrtO.swo_int hl (by rw [← rv.length]; exact hz) (fun h2 h₁ a' _ _ => SrtO.ints_sortable hi h2) fun out h1 h2 => ?_
  obtain ⟨k1, k2, k3⟩ := SrtO.ints_out hi h1 h2
  obtain ⟨ep, he'⟩ := PyProof.Rows.sortedAll_at s.heap its out.toArray
  have hlen : ((out.map SrtO.iv).map V.int).length ≤ sizeLine := by
    rw [List.length_map, k2.length_eq]
    rw [List.length_map] at hz
    exact hz
  exact ⟨.ref _, upd H (s.heap.objs.size + 1) (.lst ((out.map SrtO.iv).map V.int)), I.laid (t' := s.toks) (fun _ _ => PyProof.Rows.sortedAll_old) (Nat.le_succ _) ⟨hlen, out, ep, vals_of_ints k1, he'⟩, rfl, q _ _ k2 k3 (I.hok.fresh (Nat.le_succ _))⟩
open Classical in
theorem cr_sortedPT : CallR X (.builtin "sorted") (rSortedPT X.K) := by
  intro pins s σ H vs us Q I r h
  obtain ⟨a, ts, rfl, hs, hx, q⟩ := h
  obtain ⟨its, rv, hl, hz⟩ := I.list hs
  obtain ⟨u, rfl, ru⟩ := vals1 r
  obtain rfl : u = Value.ref a := ru
  have eits : ∀ {ts : List (Addr × Int × Int)} {its : List Value}, Vals (ts.map fun t => V.ref t.1) its → its = ts.map fun t => Value.ref t.1 := by
    intro ts
    induction ts with
    | nil => intro its r; cases r; rfl
    | cons t ts ih =>
      intro its r
      rw [List.map_cons] at r
      cases r with
      | cons r1 r2 =>
        cases r1
        rw [ih r2]
        rfl
  obtain rfl := eits rv
  let f : Value → Addr × Int × Int := fun u => if h : ∃ t : Addr × Int × Int, t ∈ ts ∧ u = Value.ref t.1 then h.choose else (0, 0, 0)
  have ft : ∀ t ∈ ts, f (Value.ref t.1) = t := fun t ht => by
    have h : ∃ t' : Addr × Int × Int, t' ∈ ts ∧ Value.ref t.1 = Value.ref t'.1 := ⟨t, ht, rfl⟩
    have e : f (Value.ref t.1) = h.choose := dif_pos h
    rw [e]
    have qs := h.choose_spec
    have q2 : t.1 = h.choose.1 := Value.ref.inj qs.2
    have s1 := hx t ht
    have s2 := hx _ qs.1
    rw [← q2] at s2
    have q3 := I.tuple_inj s1 s2
    simp only [List.cons.injEq, V.int.injEq, and_true] at q3
    exact Prod.ext q2.symm (Prod.ext q3.1.symm q3.2.symm)
  refine SrtO.sorted_pairsO (k := fun u => (f u).2) hl.isList (by rw [← rv.length]; exact hz) (fun v hv => ?_) fun h' d out h1 h2 kp hd hn => ?_
  · obtain ⟨t, ht, rfl⟩ := List.mem_map.mp hv
    rw [ft t ht]
    obtain ⟨its2, r2, ⟨o, ho, hc, n, hd⟩, _⟩ := I.tuple (hx t ht)
    obtain ⟨u1, u2, rfl, ri, rj⟩ := vals2 r2
    obtain ⟨t1, rfl⟩ := ri
    obtain ⟨t2, rfl⟩ := rj
    exact ⟨t.1, o, t1, t2, n, rfl, ho, hc, hd⟩
  · obtain ⟨n, hn⟩ := hn
    have pm : (out.map f).Perm ts := by
      have a1 := h2.perm.map f
      rw [List.map_map] at a1
      have a2 : ts.map (f ∘ fun t => Value.ref t.1) = ts := by
        have := List.map_congr_left (l := ts) (f := f ∘ fun t => Value.ref t.1) (g := id) (fun t ht => ft t ht)
        rw [this, List.map_id]
      rw [a2] at a1
      exact a1
    have vo : Vals ((out.map f).map fun t => V.ref t.1) out := by
      have all : ∀ v ∈ out, ∃ t ∈ ts, v = Value.ref t.1 := fun v hv => by
        obtain ⟨t, ht, e⟩ := List.mem_map.mp (h2.perm.mem_iff.mp hv)
        exact ⟨t, ht, e.symm⟩
      clear h1 h2 hn pm
      induction out with
      | nil => exact .nil
      | cons v vs ih =>
        obtain ⟨t, ht, rfl⟩ := all v List.mem_cons_self
        rw [List.map_cons, List.map_cons, ft t ht]
        exact .cons rfl (ih fun v hv => all v (List.mem_cons_of_mem _ hv))
    have hlen : ((out.map f).map fun t => V.ref t.1).length ≤ sizeLine := by
      rw [List.length_map, pm.length_eq]
      rw [List.length_map] at hz
      exact hz
    refine ⟨.ref d, upd H d (.lst ((out.map f).map fun t => V.ref t.1)), I.laid (t' := s.toks) kp hd ⟨hlen, out, n, vo, hn⟩, rfl, q _ d pm ?_ (I.hok.fresh hd)⟩
    rw [List.map_map]
    refine List.pairwise_map.mpr (List.Pairwise.imp (fun {x y} hxy => ?_) h1)
    have := SrtO.lexB_no.mp hxy
    show lePr (f x).2 (f y).2 = true
    unfold lePr
    split <;> simp only [decide_eq_true_eq] <;> omega
end
/-- all of them pairs of ints -/
def toPrs : List Dt → Option (List (Int × Int))
  | [] => some []
  | .tup [.int i, .int j] :: ds => match toPrs ds with
    | some ns => some ((i, j) :: ns)
    | none => none
  | _ :: _ => none
def prD' (p : Int × Int) : Dt := .tup [.int p.1, .int p.2]
theorem toPrs_eq : ∀ {ds : List Dt} {ns : List (Int × Int)}, toPrs ds = some ns → ds = ns.map prD'
  | [], _, e => by cases e; rfl
  | d :: ds, ns, e => by
    unfold toPrs at e
    split at e
    · rename_i q; cases q
    · rename_i i j ds' q
      cases q
      split at e
      · rename_i ms e2
        cases e
        rw [toPrs_eq e2]
        rfl
      · cases e
    · cases e
theorem toPrs_map (ns : List (Int × Int)) : toPrs (ns.map prD') = some ns := by
  induction ns with
  | nil => rfl
  | cons n ns ih => rw [List.map_cons, prD', toPrs, ih]
def bSorted (n : Nat) (vs : List Vl) (S : Sto) : Rs Vl := match vs with
  | [.d (.tup ds)] => match toInts ds with
    | some ns => .ok (.r n) (S.take n ++ [.lst ((sortI ns).map .int)])
    | none => .bad
  | [.r i] => match sq S i with
    | some c => match toInts c.items with
      | some ns => .ok (.r n) (S.take n ++ [.lst ((sortI ns).map .int)])
      | none => match toPrs c.items with
        | some ns => .ok (.r n) (S.take n ++ [.lst ((sortP ns).map prD')])
        | none => .bad
    | none => .bad
  | _ => .bad
def rSortD (K : PySem.W.Frag) : List V → Hp → VK → Prop := fun vs H Q => rSortedI K vs H Q ∨ (rSortedIT K vs H Q ∨ rSortedPT K vs H Q)
theorem call_sortD {X : Cx} : CallR X (.builtin "sorted") (rSortD X.K) := cr_sortedI.or (cr_sortedIT.or cr_sortedPT)
section
variable {κ : KW}
theorem prs_vals {H : Hp} : ∀ {ns : List (Int × Int)} {vs : List V}, RepL κ H (ns.map prD') vs → ∃ ts : List (Addr × Int × Int), ts.map (·.2) = ns ∧ vs = ts.map (fun t => V.ref t.1) ∧ ∀ t ∈ ts, SqT κ.K H t.1 [.int t.2.1, .int t.2.2]
  | [], _, .nil => ⟨[], rfl, rfl, fun _ h => nomatch h⟩
  | n :: ns, _, .cons r t => by
    obtain ⟨ts, e1, e2, e3⟩ := prs_vals t
    cases r with
    | @tup a _ vs h rr =>
      cases rr with
      | cons r1 rr => cases rr with
        | cons r2 rr =>
          cases rr; cases r1; cases r2
          refine ⟨(a, n.1, n.2) :: ts, by simp [e1], by simp [e2], fun z hz => ?_⟩
          rcases List.mem_cons.mp hz with rfl | hz
          · exact h
          · exact e3 z hz
open Classical in
theorem rc_sorted : RC κ bSorted (rSortD κ.K) := by
  intro F W σ H M0 M S vs xs Q p hh rv hp
  unfold bSorted at hp
  split at hp
  · rename_i ds
    split at hp
    · rename_i ns e
      obtain ⟨x, rfl, r⟩ := repV1 rv
      obtain rfl := toInts_eq e
      cases (show Rep κ H _ x from r) with
      | @tup a _ vs h rr =>
        rw [rr.ints] at h
        refine .inr (.inl ⟨a, ns, rfl, h, fun ns' q hp' hs hq => ?_⟩)
        rw [sortI_uniq hp' hs]
        exact hp _ _ (Ext.new hq) (take_app p) ((hh.take _).cons hq (RepL.of_ints _)) _ ⟨q, rfl, at_new p⟩
    · exact hp.elim
  · rename_i i
    split at hp
    · rename_i c ec
      obtain ⟨x, rfl, r⟩ := repV1 rv
      obtain ⟨a, rfl, m⟩ := r
      obtain ⟨vs, hs, rr⟩ := CeOk.seq ec (hh.cell i c a (sq_at ec) m)
      split at hp
      · rename_i ns e
        rw [toInts_eq e] at rr
        rw [rr.ints] at hs
        refine .inl ⟨a, ns, rfl, hs, fun ns' q hp' hs' hq => ?_⟩
        rw [sortI_uniq hp' hs']
        exact hp _ _ (Ext.new hq) (take_app p) ((hh.take _).cons hq (RepL.of_ints _)) _ ⟨q, rfl, at_new p⟩
      · split at hp
        · rename_i ns e
          rw [toPrs_eq e] at rr
          obtain ⟨ts, e1, rfl, e3⟩ := prs_vals rr
          refine .inr (.inr ⟨a, ts, rfl, hs, e3, fun us q h1 h2 hq => ?_⟩)
          have key : ∀ t ∈ us, SqT κ.K H t.1 [.int t.2.1, .int t.2.2] := fun t ht => e3 t (h1.mem_iff.mp ht)
          have rep : ∀ zs : List (Addr × Int × Int), (∀ t ∈ zs, SqT κ.K H t.1 [.int t.2.1, .int t.2.2]) → RepL κ H ((zs.map (·.2)).map prD') (zs.map fun t => V.ref t.1) := by
            intro zs
            induction zs with
            | nil => intro _; exact .nil
            | cons z zs ih =>
              intro hz
              exact .cons (Rep.tup (hz z List.mem_cons_self) (.cons (.int _) (.cons (.int _) .nil))) (ih fun x hx => hz x (List.mem_cons_of_mem _ hx))
          have rr2 := rep us key
          have srt : us.map (·.2) = sortP ns := by
            refine sortP_uniq ?_ h2
            rw [← e1]
            exact h1.map _
          rw [srt] at rr2
          exact hp _ _ (Ext.new hq) (take_app p) ((hh.take _).cons hq rr2) _ ⟨q, rfl, at_new p⟩
        · exact hp.elim
    · exact hp.elim
  · exact hp.elim
end
section
variable {X : Cx} {Z : L2.St → Prop} {W : WX} {e : Expr} {es : List Expr} {p pos : Pos} {mas : MA}
theorem de_sorted (hm : X.mg "sorted" = none) (ha : DA X Z W (e :: es) mas) (hg : Gl X "sorted" := by rfl) (he : starEach (e :: es) X.env = (false, eval e X.env) :: starEach es X.env := by rfl) (hpl : (backTo pos (starEach es X.env)).any (·.1) = false := by rfl) : DE X Z W (.Call (.Name "sorted" p) (e :: es) [] pos) (mCall bSorted mas) :=
  de_callB call_sortD rc_sorted hm (by decide +kernel) ha hg (by decide) (by decide) he hpl
end
end Mo
namespace Mo
open PySem L2
theorem u65 {k : Nat} {A : Around} (r : Room k A) : A.units + 65 < cLine := by have := r.un; omega
end Mo
/-! Meanings, run: what must hold so that a meaning ends well (wp, ws), with the rest of the run as a named continuation. -/
namespace Mo
open PySem L2
abbrev XP := Xc → Sto → Prop
def wp {α : Type} (X : XP) (r : Rs α) (P : α → Sto → Prop) : Prop := match r with
  | .ok v S => P v S
  | .exc e S => X e S
  | .bad => False
structure Qs where
  nx : Rho → Sto → Prop
  rt : Vl → Sto → Prop
  ex : Xc → Rho → Sto → Prop
  br : Rho → Sto → Prop
  ct : Rho → Sto → Prop
def ws (r : Rss) (Q : Qs) : Prop := match r with
  | .next ρ S => Q.nx ρ S
  | .ret v S => Q.rt v S
  | .exc e ρ S => Q.ex e ρ S
  | .brk ρ S => Q.br ρ S
  | .cont ρ S => Q.ct ρ S
  | .bad => False
section
variable {X : XP}
theorem wp_ok {α : Type} {v : α} {S : Sto} {P : α → Sto → Prop} : wp X (.ok v S) P = P v S := (rfl)
theorem wp_exc {α : Type} {e : Xc} {S : Sto} {P : α → Sto → Prop} : wp X (.exc e S) P = X e S := (rfl)
theorem wp_bad {α : Type} {P : α → Sto → Prop} : wp X (.bad : Rs α) P = False := (rfl)
theorem wp_bind {α β : Type} {r : Rs α} {f : α → Sto → Rs β} {P : β → Sto → Prop} : wp X (r.bind f) P = wp X r fun a S => wp X (f a S) P := by cases r <;> rfl
theorem wp_imp {α : Type} {Y : XP} {r : Rs α} {P Q : α → Sto → Prop} (h : wp X r P) (f : ∀ v S, P v S → Q v S) (g : ∀ e S, X e S → Y e S) : wp Y r Q := by
  cases r with
  | ok v S => exact f v S h
  | exc e S => exact g e S h
  | bad => exact h
theorem wp_mono {α : Type} {r : Rs α} {P Q : α → Sto → Prop} (h : wp X r P) (f : ∀ v S, P v S → Q v S) : wp X r Q := wp_imp h f fun _ _ q => q
abbrev nX : XP := fun _ _ => False
theorem wp_get {α : Type} {r : Rs α} {P : α → Sto → Prop} (h : wp nX r P) : ∃ v S, r = .ok v S ∧ P v S := by
  cases r with
  | ok v S => exact ⟨v, S, rfl, h⟩
  | exc e S => exact h.elim
  | bad => exact h.elim
theorem wp_eq {α : Type} {r : Rs α} {a : α} {S : Sto} (h : wp nX r fun v S1 => v = a ∧ S1 = S) : r = .ok a S := by
  obtain ⟨v, S1, e, rfl, rfl⟩ := wp_get h
  exact e
theorem wp_exn {α : Type} {r : Rs α} {x : Str} {S : Sto} (h : wp (fun e S1 => e = ⟨x⟩ ∧ S1 = S) r fun _ _ => False) : r = .exc ⟨x⟩ S := by
  cases r with
  | ok v S => exact h.elim
  | exc e S => obtain ⟨rfl, rfl⟩ := h; rfl
  | bad => exact h.elim
theorem ws_imp {r : Rss} {Q Q' : Qs} (h : ws r Q) (hn : ∀ ρ S, Q.nx ρ S → Q'.nx ρ S) (hr : ∀ v S, Q.rt v S → Q'.rt v S) (he : ∀ e ρ S, Q.ex e ρ S → Q'.ex e ρ S) (hb : ∀ ρ S, Q.br ρ S → Q'.br ρ S) (hc : ∀ ρ S, Q.ct ρ S → Q'.ct ρ S) : ws r Q' := by
  cases r with
  | next ρ S => exact hn ρ S h
  | ret v S => exact hr v S h
  | exc e ρ S => exact he e ρ S h
  | brk ρ S => exact hb ρ S h
  | cont ρ S => exact hc ρ S h
  | bad => exact h
variable {ρ : Rho} {S : Sto} {P : Vl → Sto → Prop} {B : Bool → Sto → Prop} {A : List Vl → Sto → Prop} {Q : Qs} {ma mb mc me : ME} {mas : MA} {mt mu : MT} {m1 m2 : MS} {i n : Nat} {v w : Vl} {vs : List Vl} {e : Xc}
theorem ws_next : ws (.next ρ S) Q = Q.nx ρ S := (rfl)
theorem ws_rt : ws (.ret v S) Q = Q.rt v S := (rfl)
theorem ws_exc : ws (.exc e ρ S) Q = Q.ex e ρ S := (rfl)
def KX (Q : Qs) (ρ : Rho) : XP := fun e S => Q.ex e ρ S
theorem kX : KX Q ρ e S = Q.ex e ρ S := (rfl)
theorem ws_thenS {r : Rs Vl} {f : Vl → Sto → Rss} : ws (r.thenS ρ f) Q = wp (KX Q ρ) r fun v S => ws (f v S) Q := by cases r <;> rfl
theorem ws_thenT {r : Rs Bool} {f : Bool → Sto → Rss} : ws (r.thenT ρ f) Q = wp (KX Q ρ) r fun v S => ws (f v S) Q := by cases r <;> rfl
def KSq (A : Prop) : Option Ce → Prop
  | some _ => A
  | none => False
theorem kSq {A : Prop} {c : Ce} : KSq A (some c) = A := (rfl)
/-! expressions -/
def KV (P : Vl → Sto → Prop) (S : Sto) : Option (Option Vl) → Prop
  | some (some v) => P v S
  | _ => False
theorem wp_var : wp X (mVar i ρ S) P = KV P S ρ[i]? := by
  unfold mVar
  cases h : ρ[i]? with
  | none => simp [h]; rfl
  | some o => cases o <;> simp [h] <;> rfl
theorem kV : KV P S (some (some v)) = P v S := (rfl)
theorem wp_c {d : Dt} : wp X (mC d ρ S) P = P (.d d) S := (rfl)
def KOp1 (X : XP) (f : Nat → Vl → Vl → Sto → Rs Vl) (n : Nat) (mb : ME) (ρ : Rho) (P : Vl → Sto → Prop) (a : Vl) (S : Sto) : Prop := wp X (mb ρ S) fun b S2 => wp X (f n a b S2) P
def KOp2 (X : XP) (f : Nat → Vl → Vl → Sto → Rs Vl) (n : Nat) (a : Vl) (P : Vl → Sto → Prop) (b : Vl) (S : Sto) : Prop := wp X (f n a b S) P
theorem wp_op {f : Nat → Vl → Vl → Sto → Rs Vl} : wp X (mOp f ma mb ρ S) P = wp X (ma ρ S) (KOp1 X f S.length mb ρ P) := by
  unfold mOp KOp1
  rw [wp_bind]
  congr
  funext a S1
  rw [wp_bind]
theorem kOp1 {f : Nat → Vl → Vl → Sto → Rs Vl} : KOp1 X f n mb ρ P v S = wp X (mb ρ S) (KOp2 X f n v P) := (rfl)
theorem kOp2 {f : Nat → Vl → Vl → Sto → Rs Vl} : KOp2 X f n v P w S = wp X (f n v w S) P := (rfl)
def KT (B : Bool → Sto → Prop) (v : Vl) (S : Sto) : Prop := match v with
  | .d (.bl b) => B b S
  | _ => False
theorem wp_t : wp X (mT me ρ S) B = wp X (me ρ S) (KT B) := by
  unfold mT
  cases me ρ S with
  | ok v S1 => cases v with
    | d x => cases x <;> rfl
    | r _ => rfl
    | e _ => rfl
  | exc _ _ => rfl
  | bad => rfl
theorem kT {b : Bool} : KT B (.d (.bl b)) S = B b S := (rfl)
def KCh1 (X : XP) (f g : Nat → Vl → Vl → Sto → Rs Vl) (mb mc : ME) (ρ : Rho) (P : Vl → Sto → Prop) (a : Vl) (S : Sto) : Prop := wp X (mb ρ S) fun b S2 => wp X (f S2.length a b S2) fun z S3 => match z with
  | .d (.bl true) => wp X (mc ρ S3) fun c S4 => wp X (g S4.length b c S4) P
  | .d (.bl false) => P (.d (.bl false)) S3
  | _ => False
def KCh2 (X : XP) (f g : Nat → Vl → Vl → Sto → Rs Vl) (mc : ME) (ρ : Rho) (a : Vl) (P : Vl → Sto → Prop) (b : Vl) (S2 : Sto) : Prop := wp X (f S2.length a b S2) fun z S3 => match z with
  | .d (.bl true) => wp X (mc ρ S3) fun c S4 => wp X (g S4.length b c S4) P
  | .d (.bl false) => P (.d (.bl false)) S3
  | _ => False
def KCh3 (X : XP) (g : Nat → Vl → Vl → Sto → Rs Vl) (mc : ME) (ρ : Rho) (b : Vl) (P : Vl → Sto → Prop) (z : Vl) (S3 : Sto) : Prop := match z with
  | .d (.bl true) => wp X (mc ρ S3) fun c S4 => wp X (g S4.length b c S4) P
  | .d (.bl false) => P (.d (.bl false)) S3
  | _ => False
def KCh4 (X : XP) (g : Nat → Vl → Vl → Sto → Rs Vl) (b : Vl) (P : Vl → Sto → Prop) (c : Vl) (S : Sto) : Prop := wp X (g S.length b c S) P
theorem wp_chain {f g : Nat → Vl → Vl → Sto → Rs Vl} : wp X (mChain f g ma mb mc ρ S) P = wp X (ma ρ S) (KCh1 X f g mb mc ρ P) := by
  unfold mChain
  rw [wp_bind]
  congr
  funext a S1
  unfold KCh1
  rw [wp_bind]
  congr
  funext b S2
  rw [wp_bind]
  congr
  funext z S3
  cases z with
  | d x =>
    cases x with
    | bl b => cases b <;> first | rfl | exact wp_bind
    | _ => rfl
  | r _ => rfl
  | e _ => rfl
theorem kCh1 {f g : Nat → Vl → Vl → Sto → Rs Vl} : KCh1 X f g mb mc ρ P v S = wp X (mb ρ S) (KCh2 X f g mc ρ v P) := (rfl)
theorem kCh2 {f g : Nat → Vl → Vl → Sto → Rs Vl} : KCh2 X f g mc ρ v P w S = wp X (f S.length v w S) (KCh3 X g mc ρ w P) := (rfl)
theorem kCh3 {g : Nat → Vl → Vl → Sto → Rs Vl} {b : Bool} : KCh3 X g mc ρ w P (.d (.bl b)) S = if b = true then wp X (mc ρ S) (KCh4 X g w P) else P (.d (.bl false)) S := by cases b <;> rfl
theorem kCh4 {g : Nat → Vl → Vl → Sto → Rs Vl} : KCh4 X g v P w S = wp X (g S.length v w S) P := (rfl)
def KAnd (X : XP) (mu : MT) (ρ : Rho) (B : Bool → Sto → Prop) (k : Bool) (S : Sto) : Prop := if k = true then wp X (mu ρ S) B else B false S
def KOr (X : XP) (mu : MT) (ρ : Rho) (B : Bool → Sto → Prop) (k : Bool) (S : Sto) : Prop := if k = true then B true S else wp X (mu ρ S) B
def KNot (B : Bool → Sto → Prop) (k : Bool) (S : Sto) : Prop := B (!k) S
theorem wp_and : wp X (mAnd mt mu ρ S) B = wp X (mt ρ S) (KAnd X mu ρ B) := by
  unfold mAnd
  cases mt ρ S with
  | ok k S1 => cases k <;> rfl
  | exc _ _ => rfl
  | bad => rfl
theorem wp_or : wp X (mOr mt mu ρ S) B = wp X (mt ρ S) (KOr X mu ρ B) := by
  unfold mOr
  cases mt ρ S with
  | ok k S1 => cases k <;> rfl
  | exc _ _ => rfl
  | bad => rfl
theorem wp_not : wp X (mNot mt ρ S) B = wp X (mt ρ S) (KNot B) := by
  unfold mNot
  cases mt ρ S <;> rfl
theorem kAnd {b : Bool} : KAnd X mu ρ B b S = if b = true then wp X (mu ρ S) B else B false S := (rfl)
theorem kOr {b : Bool} : KOr X mu ρ B b S = if b = true then B true S else wp X (mu ρ S) B := (rfl)
theorem kNot {b : Bool} : KNot B b S = B (!b) S := (rfl)
def KAndV (X : XP) (mb : ME) (ρ : Rho) (P : Vl → Sto → Prop) (v : Vl) (S : Sto) : Prop := match v with
  | .d (.bl true) => wp X (mb ρ S) P
  | .d (.bl false) => P (.d (.bl false)) S
  | _ => False
def KOrV (X : XP) (mb : ME) (ρ : Rho) (P : Vl → Sto → Prop) (v : Vl) (S : Sto) : Prop := match v with
  | .d (.bl true) => P (.d (.bl true)) S
  | .d (.bl false) => wp X (mb ρ S) P
  | _ => False
def KNotV (P : Vl → Sto → Prop) (v : Vl) (S : Sto) : Prop := match v with
  | .d (.bl k) => P (.d (.bl (!k))) S
  | _ => False
theorem wp_andV : wp X (mAndV ma mb ρ S) P = wp X (ma ρ S) (KAndV X mb ρ P) := by
  unfold mAndV
  cases ma ρ S with
  | ok v S1 => cases v with
    | d x => cases x with
      | bl b => cases b <;> rfl
      | _ => rfl
    | r _ => rfl
    | e _ => rfl
  | exc _ _ => rfl
  | bad => rfl
theorem wp_orV : wp X (mOrV ma mb ρ S) P = wp X (ma ρ S) (KOrV X mb ρ P) := by
  unfold mOrV
  cases ma ρ S with
  | ok v S1 => cases v with
    | d x => cases x with
      | bl b => cases b <;> rfl
      | _ => rfl
    | r _ => rfl
    | e _ => rfl
  | exc _ _ => rfl
  | bad => rfl
theorem wp_notV : wp X (mNotV ma ρ S) P = wp X (ma ρ S) (KNotV P) := by
  unfold mNotV
  cases ma ρ S with
  | ok v S1 => cases v with
    | d x => cases x <;> rfl
    | r _ => rfl
    | e _ => rfl
  | exc _ _ => rfl
  | bad => rfl
theorem kAndV {b : Bool} : KAndV X mb ρ P (.d (.bl b)) S = if b = true then wp X (mb ρ S) P else P (.d (.bl false)) S := by cases b <;> rfl
theorem kOrV {b : Bool} : KOrV X mb ρ P (.d (.bl b)) S = if b = true then P (.d (.bl true)) S else wp X (mb ρ S) P := by cases b <;> rfl
theorem kNotV {b : Bool} : KNotV P (.d (.bl b)) S = P (.d (.bl (!b))) S := (rfl)
def KNeg (P : Vl → Sto → Prop) (v : Vl) (S : Sto) : Prop := match v with
  | .d (.int i) => P (.d (.int (-i))) S
  | _ => False
theorem wp_neg : wp X (mNeg ma ρ S) P = wp X (ma ρ S) (KNeg P) := by
  unfold mNeg
  cases ma ρ S with
  | ok v S1 => cases v with
    | d x => cases x <;> rfl
    | r _ => rfl
    | e _ => rfl
  | exc _ _ => rfl
  | bad => rfl
theorem kNeg {j : Int} : KNeg P (.d (.int j)) S = P (.d (.int (-j))) S := (rfl)
def KIfE (X : XP) (ma mb : ME) (ρ : Rho) (P : Vl → Sto → Prop) (k : Bool) (S : Sto) : Prop := if k = true then wp X (ma ρ S) P else wp X (mb ρ S) P
theorem wp_ifE : wp X (mIfE mt ma mb ρ S) P = wp X (mt ρ S) (KIfE X ma mb ρ P) := by
  unfold mIfE
  cases mt ρ S with
  | ok k S1 => cases k <;> rfl
  | exc _ _ => rfl
  | bad => rfl
theorem kIfE {b : Bool} : KIfE X ma mb ρ P b S = if b = true then wp X (ma ρ S) P else wp X (mb ρ S) P := (rfl)
theorem wp_nil : wp X (mNil ρ S) A = A [] S := (rfl)
def KC1 (X : XP) (mas : MA) (ρ : Rho) (A : List Vl → Sto → Prop) (v : Vl) (S : Sto) : Prop := wp X (mas ρ S) fun vs S2 => A (v :: vs) S2
def KC2 (v : Vl) (A : List Vl → Sto → Prop) (vs : List Vl) (S : Sto) : Prop := A (v :: vs) S
theorem wp_cons : wp X (mCons me mas ρ S) A = wp X (me ρ S) (KC1 X mas ρ A) := by
  unfold mCons
  rw [wp_bind]
  congr
  funext v S1
  unfold KC1
  rw [wp_bind]
  rfl
theorem kC1 : KC1 X mas ρ A v S = wp X (mas ρ S) (KC2 v A) := (rfl)
theorem kC2 : KC2 v A vs S = A (v :: vs) S := (rfl)
/-- a display of values: data -/
def KTup (P : Vl → Sto → Prop) (vs : List Vl) (S : Sto) : Prop := match toDs vs with
  | some ds => ds.length ≤ big ∧ P (.d (.tup ds)) S
  | none => False
def KLst (P : Vl → Sto → Prop) (vs : List Vl) (S : Sto) : Prop := match toDs vs with
  | some ds => ds.length ≤ big ∧ P (.r S.length) (S ++ [.lst ds])
  | none => False
theorem wp_ifb {α : Type} {c : Prop} [Decidable c] {v : α} {P : α → Sto → Prop} : wp X (if c then .ok v S else .bad) P = (c ∧ P v S) := by
  by_cases h : c <;> simp [h, wp]
theorem wp_tup : wp X (mTup mas ρ S) P = wp X (mas ρ S) (KTup P) := by
  unfold mTup
  cases mas ρ S with
  | ok vs S1 =>
    show wp X (match toDs vs with | some ds => _ | none => _) P = match toDs vs with | some ds => _ | none => _
    cases toDs vs with
    | none => rfl
    | some ds => exact wp_ifb
  | exc _ _ => rfl
  | bad => rfl
theorem wp_lst : wp X (mLst mas ρ S) P = wp X (mas ρ S) (KLst P) := by
  unfold mLst
  cases mas ρ S with
  | ok vs S1 =>
    show wp X (match toDs vs with | some ds => _ | none => _) P = match toDs vs with | some ds => _ | none => _
    cases toDs vs with
    | none => rfl
    | some ds => exact wp_ifb
  | exc _ _ => rfl
  | bad => rfl
theorem kTup {ds : List Dt} : KTup P (ds.map Vl.d) S = (ds.length ≤ big ∧ P (.d (.tup ds)) S) := by
  have : toDs (ds.map Vl.d) = some ds := by
    induction ds with
    | nil => rfl
    | cons d ds ih => rw [List.map_cons, toDs, ih]
  unfold KTup
  rw [this]
theorem kLst {ds : List Dt} : KLst P (ds.map Vl.d) S = (ds.length ≤ big ∧ P (.r S.length) (S ++ [.lst ds])) := by
  have : toDs (ds.map Vl.d) = some ds := by
    induction ds with
    | nil => rfl
    | cons d ds ih => rw [List.map_cons, toDs, ih]
  unfold KLst
  rw [this]
theorem kTup1 {x0 : Dt} : KTup P [.d x0] S = P (.d (.tup [x0])) S := by rw [show ([.d x0] : List Vl) = [x0].map Vl.d from rfl, kTup]; exact propext ⟨fun h => h.2, fun h => ⟨by simp [big], h⟩⟩
theorem kTup2 {x0 x1 : Dt} : KTup P [.d x0, .d x1] S = P (.d (.tup [x0, x1])) S := by rw [show ([.d x0, .d x1] : List Vl) = [x0, x1].map Vl.d from rfl, kTup]; exact propext ⟨fun h => h.2, fun h => ⟨by simp [big], h⟩⟩
theorem kTup3 {x0 x1 x2 : Dt} : KTup P [.d x0, .d x1, .d x2] S = P (.d (.tup [x0, x1, x2])) S := by rw [show ([.d x0, .d x1, .d x2] : List Vl) = [x0, x1, x2].map Vl.d from rfl, kTup]; exact propext ⟨fun h => h.2, fun h => ⟨by simp [big], h⟩⟩
theorem kTup4 {x0 x1 x2 x3 : Dt} : KTup P [.d x0, .d x1, .d x2, .d x3] S = P (.d (.tup [x0, x1, x2, x3])) S := by rw [show ([.d x0, .d x1, .d x2, .d x3] : List Vl) = [x0, x1, x2, x3].map Vl.d from rfl, kTup]; exact propext ⟨fun h => h.2, fun h => ⟨by simp [big], h⟩⟩
theorem kTup5 {x0 x1 x2 x3 x4 : Dt} : KTup P [.d x0, .d x1, .d x2, .d x3, .d x4] S = P (.d (.tup [x0, x1, x2, x3, x4])) S := by rw [show ([.d x0, .d x1, .d x2, .d x3, .d x4] : List Vl) = [x0, x1, x2, x3, x4].map Vl.d from rfl, kTup]; exact propext ⟨fun h => h.2, fun h => ⟨by simp [big], h⟩⟩
theorem kTup6 {x0 x1 x2 x3 x4 x5 : Dt} : KTup P [.d x0, .d x1, .d x2, .d x3, .d x4, .d x5] S = P (.d (.tup [x0, x1, x2, x3, x4, x5])) S := by rw [show ([.d x0, .d x1, .d x2, .d x3, .d x4, .d x5] : List Vl) = [x0, x1, x2, x3, x4, x5].map Vl.d from rfl, kTup]; exact propext ⟨fun h => h.2, fun h => ⟨by simp [big], h⟩⟩
theorem kTup7 {x0 x1 x2 x3 x4 x5 x6 : Dt} : KTup P [.d x0, .d x1, .d x2, .d x3, .d x4, .d x5, .d x6] S = P (.d (.tup [x0, x1, x2, x3, x4, x5, x6])) S := by rw [show ([.d x0, .d x1, .d x2, .d x3, .d x4, .d x5, .d x6] : List Vl) = [x0, x1, x2, x3, x4, x5, x6].map Vl.d from rfl, kTup]; exact propext ⟨fun h => h.2, fun h => ⟨by simp [big], h⟩⟩
theorem kTup8 {x0 x1 x2 x3 x4 x5 x6 x7 : Dt} : KTup P [.d x0, .d x1, .d x2, .d x3, .d x4, .d x5, .d x6, .d x7] S = P (.d (.tup [x0, x1, x2, x3, x4, x5, x6, x7])) S := by rw [show ([.d x0, .d x1, .d x2, .d x3, .d x4, .d x5, .d x6, .d x7] : List Vl) = [x0, x1, x2, x3, x4, x5, x6, x7].map Vl.d from rfl, kTup]; exact propext ⟨fun h => h.2, fun h => ⟨by simp [big], h⟩⟩
theorem kTup9 {x0 x1 x2 x3 x4 x5 x6 x7 x8 : Dt} : KTup P [.d x0, .d x1, .d x2, .d x3, .d x4, .d x5, .d x6, .d x7, .d x8] S = P (.d (.tup [x0, x1, x2, x3, x4, x5, x6, x7, x8])) S := by rw [show ([.d x0, .d x1, .d x2, .d x3, .d x4, .d x5, .d x6, .d x7, .d x8] : List Vl) = [x0, x1, x2, x3, x4, x5, x6, x7, x8].map Vl.d from rfl, kTup]; exact propext ⟨fun h => h.2, fun h => ⟨by simp [big], h⟩⟩
theorem kTup10 {x0 x1 x2 x3 x4 x5 x6 x7 x8 x9 : Dt} : KTup P [.d x0, .d x1, .d x2, .d x3, .d x4, .d x5, .d x6, .d x7, .d x8, .d x9] S = P (.d (.tup [x0, x1, x2, x3, x4, x5, x6, x7, x8, x9])) S := by rw [show ([.d x0, .d x1, .d x2, .d x3, .d x4, .d x5, .d x6, .d x7, .d x8, .d x9] : List Vl) = [x0, x1, x2, x3, x4, x5, x6, x7, x8, x9].map Vl.d from rfl, kTup]; exact propext ⟨fun h => h.2, fun h => ⟨by simp [big], h⟩⟩
theorem kTup11 {x0 x1 x2 x3 x4 x5 x6 x7 x8 x9 x10 : Dt} : KTup P [.d x0, .d x1, .d x2, .d x3, .d x4, .d x5, .d x6, .d x7, .d x8, .d x9, .d x10] S = P (.d (.tup [x0, x1, x2, x3, x4, x5, x6, x7, x8, x9, x10])) S := by rw [show ([.d x0, .d x1, .d x2, .d x3, .d x4, .d x5, .d x6, .d x7, .d x8, .d x9, .d x10] : List Vl) = [x0, x1, x2, x3, x4, x5, x6, x7, x8, x9, x10].map Vl.d from rfl, kTup]; exact propext ⟨fun h => h.2, fun h => ⟨by simp [big], h⟩⟩
theorem kTup12 {x0 x1 x2 x3 x4 x5 x6 x7 x8 x9 x10 x11 : Dt} : KTup P [.d x0, .d x1, .d x2, .d x3, .d x4, .d x5, .d x6, .d x7, .d x8, .d x9, .d x10, .d x11] S = P (.d (.tup [x0, x1, x2, x3, x4, x5, x6, x7, x8, x9, x10, x11])) S := by rw [show ([.d x0, .d x1, .d x2, .d x3, .d x4, .d x5, .d x6, .d x7, .d x8, .d x9, .d x10, .d x11] : List Vl) = [x0, x1, x2, x3, x4, x5, x6, x7, x8, x9, x10, x11].map Vl.d from rfl, kTup]; exact propext ⟨fun h => h.2, fun h => ⟨by simp [big], h⟩⟩
theorem kTup0 : KTup P [] S = P (.d (.tup [])) S := by rw [show ([] : List Vl) = [].map Vl.d from rfl, kTup]; exact propext ⟨fun h => h.2, fun h => ⟨by decide, h⟩⟩
theorem kLst0 : KLst P [] S = P (.r S.length) (S ++ [.lst []]) := by rw [show ([] : List Vl) = [].map Vl.d from rfl, kLst]; exact propext ⟨fun h => h.2, fun h => ⟨by decide, h⟩⟩
theorem kLst1 {x0 : Dt} : KLst P [.d x0] S = P (.r S.length) (S ++ [.lst [x0]]) := by rw [show ([.d x0] : List Vl) = [x0].map Vl.d from rfl, kLst]; exact propext ⟨fun h => h.2, fun h => ⟨by simp [big], h⟩⟩
theorem kLst2 {x0 x1 : Dt} : KLst P [.d x0, .d x1] S = P (.r S.length) (S ++ [.lst [x0, x1]]) := by rw [show ([.d x0, .d x1] : List Vl) = [x0, x1].map Vl.d from rfl, kLst]; exact propext ⟨fun h => h.2, fun h => ⟨by simp [big], h⟩⟩
theorem kLst3 {x0 x1 x2 : Dt} : KLst P [.d x0, .d x1, .d x2] S = P (.r S.length) (S ++ [.lst [x0, x1, x2]]) := by rw [show ([.d x0, .d x1, .d x2] : List Vl) = [x0, x1, x2].map Vl.d from rfl, kLst]; exact propext ⟨fun h => h.2, fun h => ⟨by simp [big], h⟩⟩
theorem kLst4 {x0 x1 x2 x3 : Dt} : KLst P [.d x0, .d x1, .d x2, .d x3] S = P (.r S.length) (S ++ [.lst [x0, x1, x2, x3]]) := by rw [show ([.d x0, .d x1, .d x2, .d x3] : List Vl) = [x0, x1, x2, x3].map Vl.d from rfl, kLst]; exact propext ⟨fun h => h.2, fun h => ⟨by simp [big], h⟩⟩
theorem kLst5 {x0 x1 x2 x3 x4 : Dt} : KLst P [.d x0, .d x1, .d x2, .d x3, .d x4] S = P (.r S.length) (S ++ [.lst [x0, x1, x2, x3, x4]]) := by rw [show ([.d x0, .d x1, .d x2, .d x3, .d x4] : List Vl) = [x0, x1, x2, x3, x4].map Vl.d from rfl, kLst]; exact propext ⟨fun h => h.2, fun h => ⟨by simp [big], h⟩⟩
theorem kLst6 {x0 x1 x2 x3 x4 x5 : Dt} : KLst P [.d x0, .d x1, .d x2, .d x3, .d x4, .d x5] S = P (.r S.length) (S ++ [.lst [x0, x1, x2, x3, x4, x5]]) := by rw [show ([.d x0, .d x1, .d x2, .d x3, .d x4, .d x5] : List Vl) = [x0, x1, x2, x3, x4, x5].map Vl.d from rfl, kLst]; exact propext ⟨fun h => h.2, fun h => ⟨by simp [big], h⟩⟩
theorem kLst7 {x0 x1 x2 x3 x4 x5 x6 : Dt} : KLst P [.d x0, .d x1, .d x2, .d x3, .d x4, .d x5, .d x6] S = P (.r S.length) (S ++ [.lst [x0, x1, x2, x3, x4, x5, x6]]) := by rw [show ([.d x0, .d x1, .d x2, .d x3, .d x4, .d x5, .d x6] : List Vl) = [x0, x1, x2, x3, x4, x5, x6].map Vl.d from rfl, kLst]; exact propext ⟨fun h => h.2, fun h => ⟨by simp [big], h⟩⟩
theorem kLst8 {x0 x1 x2 x3 x4 x5 x6 x7 : Dt} : KLst P [.d x0, .d x1, .d x2, .d x3, .d x4, .d x5, .d x6, .d x7] S = P (.r S.length) (S ++ [.lst [x0, x1, x2, x3, x4, x5, x6, x7]]) := by rw [show ([.d x0, .d x1, .d x2, .d x3, .d x4, .d x5, .d x6, .d x7] : List Vl) = [x0, x1, x2, x3, x4, x5, x6, x7].map Vl.d from rfl, kLst]; exact propext ⟨fun h => h.2, fun h => ⟨by simp [big], h⟩⟩
theorem kLst9 {x0 x1 x2 x3 x4 x5 x6 x7 x8 : Dt} : KLst P [.d x0, .d x1, .d x2, .d x3, .d x4, .d x5, .d x6, .d x7, .d x8] S = P (.r S.length) (S ++ [.lst [x0, x1, x2, x3, x4, x5, x6, x7, x8]]) := by rw [show ([.d x0, .d x1, .d x2, .d x3, .d x4, .d x5, .d x6, .d x7, .d x8] : List Vl) = [x0, x1, x2, x3, x4, x5, x6, x7, x8].map Vl.d from rfl, kLst]; exact propext ⟨fun h => h.2, fun h => ⟨by simp [big], h⟩⟩
theorem kLst10 {x0 x1 x2 x3 x4 x5 x6 x7 x8 x9 : Dt} : KLst P [.d x0, .d x1, .d x2, .d x3, .d x4, .d x5, .d x6, .d x7, .d x8, .d x9] S = P (.r S.length) (S ++ [.lst [x0, x1, x2, x3, x4, x5, x6, x7, x8, x9]]) := by rw [show ([.d x0, .d x1, .d x2, .d x3, .d x4, .d x5, .d x6, .d x7, .d x8, .d x9] : List Vl) = [x0, x1, x2, x3, x4, x5, x6, x7, x8, x9].map Vl.d from rfl, kLst]; exact propext ⟨fun h => h.2, fun h => ⟨by simp [big], h⟩⟩
theorem kLst11 {x0 x1 x2 x3 x4 x5 x6 x7 x8 x9 x10 : Dt} : KLst P [.d x0, .d x1, .d x2, .d x3, .d x4, .d x5, .d x6, .d x7, .d x8, .d x9, .d x10] S = P (.r S.length) (S ++ [.lst [x0, x1, x2, x3, x4, x5, x6, x7, x8, x9, x10]]) := by rw [show ([.d x0, .d x1, .d x2, .d x3, .d x4, .d x5, .d x6, .d x7, .d x8, .d x9, .d x10] : List Vl) = [x0, x1, x2, x3, x4, x5, x6, x7, x8, x9, x10].map Vl.d from rfl, kLst]; exact propext ⟨fun h => h.2, fun h => ⟨by simp [big], h⟩⟩
theorem kLst12 {x0 x1 x2 x3 x4 x5 x6 x7 x8 x9 x10 x11 : Dt} : KLst P [.d x0, .d x1, .d x2, .d x3, .d x4, .d x5, .d x6, .d x7, .d x8, .d x9, .d x10, .d x11] S = P (.r S.length) (S ++ [.lst [x0, x1, x2, x3, x4, x5, x6, x7, x8, x9, x10, x11]]) := by rw [show ([.d x0, .d x1, .d x2, .d x3, .d x4, .d x5, .d x6, .d x7, .d x8, .d x9, .d x10, .d x11] : List Vl) = [x0, x1, x2, x3, x4, x5, x6, x7, x8, x9, x10, x11].map Vl.d from rfl, kLst]; exact propext ⟨fun h => h.2, fun h => ⟨by simp [big], h⟩⟩
def KFn (X : XP) (g : List Vl → Sto → Rs Vl) (P : Vl → Sto → Prop) (vs : List Vl) (S : Sto) : Prop := wp X (g vs S) P
theorem wp_fn {g : List Vl → Sto → Rs Vl} : wp X (mFn g mas ρ S) P = wp X (mas ρ S) (KFn X g P) := by
  unfold mFn
  rw [wp_bind]
  rfl
theorem kFn {g : List Vl → Sto → Rs Vl} : KFn X g P vs S = wp X (g vs S) P := (rfl)
def KCall (X : XP) (f : Nat → List Vl → Sto → Rs Vl) (n : Nat) (P : Vl → Sto → Prop) (vs : List Vl) (S : Sto) : Prop := wp X (f n vs S) P
theorem wp_call {f : Nat → List Vl → Sto → Rs Vl} : wp X (mCall f mas ρ S) P = wp X (mas ρ S) (KCall X f S.length P) := by
  unfold mCall
  rw [wp_bind]
  rfl
theorem kCall {f : Nat → List Vl → Sto → Rs Vl} : KCall X f n P vs S = wp X (f n vs S) P := (rfl)
def isiB (T : String) (v : Vl) (S : Sto) : Option Bool := match tyOf v S with
  | some t => kitB t T
  | none => none
def KIsi (T : String) (n : Nat) (P : Vl → Sto → Prop) (v : Vl) (S : Sto) : Prop := match isiB T v S with
  | some k => P (.d (.bl k)) (S.take n)
  | none => False
theorem wp_isi {T : String} : wp X (mIsi T me ρ S) P = wp X (me ρ S) (KIsi T S.length P) := by
  unfold mIsi
  cases me ρ S with
  | ok v S1 =>
    show wp X (match tyOf v S1 with | some t => _ | none => _) P = match isiB T v S1 with | some k => _ | none => _
    unfold isiB
    cases tyOf v S1 with
    | none => rfl
    | some t =>
      show wp X (match kitB t T with | some k => _ | none => _) P = match kitB t T with | some k => _ | none => _
      cases kitB t T <;> rfl
  | exc _ _ => rfl
  | bad => rfl
theorem kIsi {T : String} {k : Bool} (h : isiB T v S = some k) : KIsi T n P v S = P (.d (.bl k)) (S.take n) := by
  unfold KIsi
  rw [h]
theorem kit_int_int : kitB "int" "int" = some true := by decide +kernel
theorem kit_bool_int : kitB "bool" "int" = some true := by decide +kernel
theorem kit_str_int : kitB "str" "int" = some false := by decide +kernel
theorem kit_tup_int : kitB "tuple" "int" = some false := by decide +kernel
theorem kit_list_int : kitB "list" "int" = some false := by decide +kernel
theorem kit_non_int : kitB "NoneType" "int" = some false := by decide +kernel
theorem kit_int_bool : kitB "int" "bool" = some false := by decide +kernel
theorem kit_bool_bool : kitB "bool" "bool" = some true := by decide +kernel
theorem kit_str_bool : kitB "str" "bool" = some false := by decide +kernel
theorem kit_tup_bool : kitB "tuple" "bool" = some false := by decide +kernel
theorem kit_list_bool : kitB "list" "bool" = some false := by decide +kernel
theorem kit_non_bool : kitB "NoneType" "bool" = some false := by decide +kernel
theorem kit_int_tup : kitB "int" "tuple" = some false := by decide +kernel
theorem kit_bool_tup : kitB "bool" "tuple" = some false := by decide +kernel
theorem kit_str_tup : kitB "str" "tuple" = some false := by decide +kernel
theorem kit_tup_tup : kitB "tuple" "tuple" = some true := by decide +kernel
theorem kit_list_tup : kitB "list" "tuple" = some false := by decide +kernel
theorem kit_non_tup : kitB "NoneType" "tuple" = some false := by decide +kernel
theorem kit_int_list : kitB "int" "list" = some false := by decide +kernel
theorem kit_bool_list : kitB "bool" "list" = some false := by decide +kernel
theorem kit_str_list : kitB "str" "list" = some false := by decide +kernel
theorem kit_tup_list : kitB "tuple" "list" = some false := by decide +kernel
theorem kit_list_list : kitB "list" "list" = some true := by decide +kernel
theorem kit_non_list : kitB "NoneType" "list" = some false := by decide +kernel
/-- is it of the class int, bool, tuple, list? -/
def isIntD : Dt → Bool
  | .int _ | .bl _ => true
  | _ => false
def isBlD : Dt → Bool
  | .bl _ => true
  | _ => false
def isTupD : Dt → Bool
  | .tup _ => true
  | _ => false
def isLstD : Dt → Bool
  | .fl _ => true
  | _ => false
/-- no dict, no instance: isinstance of built-in classes is told -/
def okT : Dt → Bool
  | .fd _ _ _ => false
  | .fi _ _ _ => false
  | _ => true
theorem okT_non : okT .non = true := (rfl)
theorem okT_bl {b : Bool} : okT (.bl b) = true := (rfl)
theorem okT_int {b : Int} : okT (.int b) = true := (rfl)
theorem okT_str {b : Str} : okT (.str b) = true := (rfl)
theorem okT_tup {b : List Dt} : okT (.tup b) = true := (rfl)
theorem okT_fl {b : List Dt} : okT (.fl b) = true := (rfl)
theorem kIsi_int {x : Dt} (h : okT x = true) : KIsi "int" n P (.d x) S = P (.d (.bl (isIntD x))) (S.take n) := by
  cases x <;> first | (cases h; done) | exact kIsi (by first | exact kit_int_int | exact kit_bool_int | exact kit_str_int | exact kit_tup_int | exact kit_non_int | exact kit_list_int)
theorem kIsi_bool {x : Dt} (h : okT x = true) : KIsi "bool" n P (.d x) S = P (.d (.bl (isBlD x))) (S.take n) := by
  cases x <;> first | (cases h; done) | exact kIsi (by first | exact kit_int_bool | exact kit_bool_bool | exact kit_str_bool | exact kit_tup_bool | exact kit_non_bool | exact kit_list_bool)
theorem kIsi_tup {x : Dt} (h : okT x = true) : KIsi "tuple" n P (.d x) S = P (.d (.bl (isTupD x))) (S.take n) := by
  cases x <;> first | (cases h; done) | exact kIsi (by first | exact kit_int_tup | exact kit_bool_tup | exact kit_str_tup | exact kit_tup_tup | exact kit_non_tup | exact kit_list_tup)
theorem kIsi_list {x : Dt} (h : okT x = true) : KIsi "list" n P (.d x) S = P (.d (.bl (isLstD x))) (S.take n) := by
  cases x <;> first | (cases h; done) | exact kIsi (by first | exact kit_int_list | exact kit_bool_list | exact kit_str_list | exact kit_tup_list | exact kit_non_list | exact kit_list_list)
theorem kit_dict_int : kitB "dict" "int" = some false := by decide +kernel
theorem kit_dict_bool : kitB "dict" "bool" = some false := by decide +kernel
theorem kit_dict_tup : kitB "dict" "tuple" = some false := by decide +kernel
theorem kit_dict_list : kitB "dict" "list" = some false := by decide +kernel
/-- of a cell: lists (l), dicts with int or text keys (d) -/
def KIsL (l d : Bool) (P : Vl → Sto → Prop) (n : Nat) (S : Sto) : Option Ce → Prop
  | some (.lst _) => P (.d (.bl l)) (S.take n)
  | some (.frz _) => P (.d (.bl l)) (S.take n)
  | some (.oth (.dK _)) => P (.d (.bl d)) (S.take n)
  | _ => False
theorem kIsL_l {l d : Bool} {xs : List Dt} : KIsL l d P n S (some (.lst xs)) = P (.d (.bl l)) (S.take n) := (rfl)
theorem kIsL_f {l d : Bool} {xs : List Dt} : KIsL l d P n S (some (.frz xs)) = P (.d (.bl l)) (S.take n) := (rfl)
theorem kIsL_o {l d : Bool} {xs : List (Dt × Dt)} : KIsL l d P n S (some (.oth (.dK xs))) = P (.d (.bl d)) (S.take n) := (rfl)
theorem kIsiR {T : String} {l d : Bool} (hk : kitB "list" T = some l) (hd : kitB "dict" T = some d) : KIsi T n P (.r i) S = KIsL l d P n S S[i]? := by
  unfold KIsi isiB tyOf
  dsimp only
  cases S[i]? with
  | none => rfl
  | some c => cases c with
    | lst xs => simp only [hk]; rfl
    | frz xs => simp only [hk]; rfl
    | oth o => cases o with
      | dK xs => simp only [hd]; rfl
      | dN xs => rfl
    | ofz o => rfl
theorem kIsiR_tup : KIsi "tuple" n P (.r i) S = KIsL false false P n S S[i]? := kIsiR kit_list_tup kit_dict_tup
theorem kIsiR_int : KIsi "int" n P (.r i) S = KIsL false false P n S S[i]? := kIsiR kit_list_int kit_dict_int
theorem kIsiR_bool : KIsi "bool" n P (.r i) S = KIsL false false P n S S[i]? := kIsiR kit_list_bool kit_dict_bool
theorem kIsiR_list : KIsi "list" n P (.r i) S = KIsL true false P n S S[i]? := kIsiR kit_list_list kit_dict_list
def KPart (O : Option Int → Sto → Prop) (v : Vl) (S : Sto) : Prop := match v with
  | .d (.int i) => O (some i) S
  | _ => False
variable {O : Option Int → Sto → Prop} {ml mh : MO}
theorem wp_noPart : wp X (mNoPart ρ S) O = O none S := (rfl)
theorem wp_part : wp X (mPart me ρ S) O = wp X (me ρ S) (KPart O) := by
  unfold mPart
  cases me ρ S with
  | ok v S1 => cases v with
    | d x => cases x <;> rfl
    | r _ => rfl
    | e _ => rfl
  | exc _ _ => rfl
  | bad => rfl
theorem kPart {j : Int} : KPart O (.d (.int j)) S = O (some j) S := (rfl)
def slR (v : Vl) (lo hi : Option Int) (S : Sto) : Rs Vl := match v with
  | .d (.tup xs) => .ok (.d (.tup (cutD xs lo hi))) S
  | .r i => match sq S i with
    | some c => .ok (.r S.length) (S ++ [.lst (cutD c.items lo hi)])
    | none => .bad
  | .d (.fl xs) => .ok (.r S.length) (S ++ [.lst (cutD xs lo hi)])
  | _ => .bad
def KSl1 (X : XP) (ml mh : MO) (ρ : Rho) (P : Vl → Sto → Prop) (v : Vl) (S : Sto) : Prop := wp X (ml ρ S) fun lo S2 => wp X (mh ρ S2) fun hi S3 => wp X (slR v lo hi S3) P
def KSl2 (X : XP) (mh : MO) (ρ : Rho) (v : Vl) (P : Vl → Sto → Prop) (lo : Option Int) (S : Sto) : Prop := wp X (mh ρ S) fun hi S3 => wp X (slR v lo hi S3) P
def KSl3 (X : XP) (v : Vl) (lo : Option Int) (P : Vl → Sto → Prop) (hi : Option Int) (S : Sto) : Prop := wp X (slR v lo hi S) P
theorem wp_sl : wp X (mSl ma ml mh ρ S) P = wp X (ma ρ S) (KSl1 X ml mh ρ P) := by
  unfold mSl
  rw [wp_bind]
  congr
  funext v S1
  unfold KSl1
  rw [wp_bind]
  congr
  funext lo S2
  rw [wp_bind]
  congr
theorem kSl1 : KSl1 X ml mh ρ P v S = wp X (ml ρ S) (KSl2 X mh ρ v P) := (rfl)
theorem kSl2 {lo : Option Int} : KSl2 X mh ρ v P lo S = wp X (mh ρ S) (KSl3 X v lo P) := (rfl)
theorem kSl3L {xs : List Dt} {lo hi : Option Int} : KSl3 X (.d (.fl xs)) lo P hi S = P (.r S.length) (S ++ [.lst (cutD xs lo hi)]) := (rfl)
theorem kSl3T {xs : List Dt} {lo hi : Option Int} : KSl3 X (.d (.tup xs)) lo P hi S = P (.d (.tup (cutD xs lo hi))) S := (rfl)
def KRev (P : Vl → Sto → Prop) (v : Vl) (S : Sto) : Prop := match v with
  | .d (.tup xs) => P (.d (.tup xs.reverse)) S
  | _ => False
theorem wp_rev : wp X (mRev ma ρ S) P = wp X (ma ρ S) (KRev P) := by
  unfold mRev
  cases ma ρ S with
  | ok v S1 => cases v with
    | d x => cases x <;> rfl
    | r _ => rfl
    | e _ => rfl
  | exc _ _ => rfl
  | bad => rfl
theorem kRev {xs : List Dt} : KRev P (.d (.tup xs)) S = P (.d (.tup xs.reverse)) S := (rfl)
def KLr1 (X : XP) (mb : ME) (ρ : Rho) (P : Vl → Sto → Prop) (x : Vl) (S : Sto) : Prop := wp X (mb ρ S) fun y S2 => match x, y with
  | .d (.int i), .d (.int j) => (j - i).toNat ≤ big ∧ P (.r S2.length) (S2 ++ [.lst (rngD i (j - i).toNat)])
  | _, _ => False
def KLr2 (x : Vl) (P : Vl → Sto → Prop) (y : Vl) (S2 : Sto) : Prop := match x, y with
  | .d (.int i), .d (.int j) => (j - i).toNat ≤ big ∧ P (.r S2.length) (S2 ++ [.lst (rngD i (j - i).toNat)])
  | _, _ => False
theorem wp_listRg2 : wp X (mListRg2 ma mb ρ S) P = wp X (ma ρ S) (KLr1 X mb ρ P) := by
  unfold mListRg2
  rw [wp_bind]
  congr
  funext v S1
  unfold KLr1
  rw [wp_bind]
  congr
  funext w S2
  cases v with
  | d x => cases x with
    | int j => cases w with
      | d y => cases y with
        | int k => exact wp_ifb
        | _ => rfl
      | _ => rfl
    | _ => rfl
  | _ => rfl
theorem kLr1 : KLr1 X mb ρ P v S = wp X (mb ρ S) (KLr2 v P) := by
  unfold KLr1 KLr2
  rfl
theorem kLr2 {j k : Int} : KLr2 (.d (.int j)) P (.d (.int k)) S = ((k - j).toNat ≤ big ∧ P (.r S.length) (S ++ [.lst (rngD j (k - j).toNat)])) := (rfl)
def KLq (P : Vl → Sto → Prop) (y : Vl) (S2 : Sto) : Prop := match y with
  | .d (.int j) => j.toNat ≤ big ∧ P (.r S2.length) (S2 ++ [.lst (rngD 0 j.toNat)])
  | _ => False
theorem wp_listRg1 : wp X (mListRg1 ma ρ S) P = wp X (ma ρ S) (KLq P) := by
  unfold mListRg1
  cases ma ρ S with
  | ok v S1 => cases v with
    | d x => cases x with
      | int j => exact wp_ifb
      | _ => rfl
    | _ => rfl
  | exc _ _ => rfl
  | bad => rfl
theorem kLq {j : Int} : KLq P (.d (.int j)) S = (j.toNat ≤ big ∧ P (.r S.length) (S ++ [.lst (rngD 0 j.toNat)])) := (rfl)

/-! statements -/
def QSeq (m : MS) (Q : Qs) : Qs := ⟨fun ρ S => ws (m ρ S) Q, Q.rt, Q.ex, Q.br, Q.ct⟩
theorem qSeq_nx : (QSeq m1 Q).nx ρ S = ws (m1 ρ S) Q := (rfl)
theorem qSeq_rt : (QSeq m1 Q).rt = Q.rt := (rfl)
theorem qSeq_ex : (QSeq m1 Q).ex = Q.ex := (rfl)
theorem qSeq_br : (QSeq m1 Q).br = Q.br := (rfl)
theorem qSeq_ct : (QSeq m1 Q).ct = Q.ct := (rfl)
theorem ws_seq : ws (mSeq m1 m2 ρ S) Q = ws (m1 ρ S) (QSeq m2 Q) := by
  unfold mSeq
  cases m1 ρ S <;> rfl
theorem ws_skip : ws (mSkip ρ S) Q = Q.nx ρ S := (rfl)
theorem ws_break : ws (mBreak ρ S) Q = Q.br ρ S := (rfl)
theorem ws_cont : ws (mCont ρ S) Q = Q.ct ρ S := (rfl)
theorem ws_retN : ws (mRetN ρ S) Q = Q.rt (.d .non) S := (rfl)
theorem ws_raise {x : Str} : ws (mRaise x ρ S) Q = Q.ex ⟨x⟩ ρ S := (rfl)
theorem ws_mret : ws (mRet me ρ S) Q = wp (KX Q ρ) (me ρ S) Q.rt := by
  unfold mRet
  rw [ws_thenS]
  rfl
def KDrop (ρ : Rho) (Q : Qs) (_ : Vl) (S : Sto) : Prop := Q.nx ρ S
theorem ws_drop : ws (mDrop me ρ S) Q = wp (KX Q ρ) (me ρ S) (KDrop ρ Q) := by
  unfold mDrop
  rw [ws_thenS]
  rfl
theorem kDrop : KDrop ρ Q v S = Q.nx ρ S := (rfl)
def KIf (m1 m2 : MS) (ρ : Rho) (Q : Qs) (k : Bool) (S : Sto) : Prop := if k = true then ws (m1 ρ S) Q else ws (m2 ρ S) Q
theorem ws_if : ws (mIf mt m1 m2 ρ S) Q = wp (KX Q ρ) (mt ρ S) (KIf m1 m2 ρ Q) := by
  unfold mIf
  cases mt ρ S with
  | ok k S1 => cases k <;> rfl
  | exc _ _ => rfl
  | bad => rfl
theorem kIf {b : Bool} : KIf m1 m2 ρ Q b S = if b = true then ws (m1 ρ S) Q else ws (m2 ρ S) Q := (rfl)
def KAsg (t : Tg) (ρ : Rho) (Q : Qs) (v : Vl) (S : Sto) : Prop := match tgM t v ρ with
  | some ρ1 => Q.nx ρ1 S
  | none => False
theorem ws_asg {t : Tg} : ws (mAsg t me ρ S) Q = wp (KX Q ρ) (me ρ S) (KAsg t ρ Q) := by
  unfold mAsg
  cases me ρ S with
  | ok v S1 =>
    show ws (match tgM t v ρ with | some ρ1 => _ | none => _) Q = match tgM t v ρ with | some ρ1 => _ | none => _
    cases tgM t v ρ <;> rfl
  | exc _ _ => rfl
  | bad => rfl
theorem kAsg1 : KAsg (.one i) ρ Q v S = Q.nx (ρ.set i (some v)) S := (rfl)
theorem kAsgM {is : List Nat} {xs : List Dt} : KAsg (.many is) ρ Q (.d (.tup xs)) S = (xs.length = is.length ∧ Q.nx (setAll ρ is xs) S) := by
  unfold KAsg tgM
  by_cases h : xs.length = is.length <;> simp [h]
theorem kAsg2 {j : Nat} {x y : Dt} : KAsg (.many [i, j]) ρ Q (.d (.tup [x, y])) S = Q.nx ((ρ.set i (some (.d x))).set j (some (.d y))) S := (rfl)
theorem kAsg3 {j k : Nat} {x y z : Dt} : KAsg (.many [i, j, k]) ρ Q (.d (.tup [x, y, z])) S = Q.nx (((ρ.set i (some (.d x))).set j (some (.d y))).set k (some (.d z))) S := (rfl)
def KPut1 (ma mb : ME) (ρ : Rho) (Q : Qs) (w : Vl) (S : Sto) : Prop := wp (KX Q ρ) (ma ρ S) fun v S2 => wp (KX Q ρ) (mb ρ S2) fun k S3 => ws (putM v k w ρ S3) Q
def KPut2 (mb : ME) (ρ : Rho) (w : Vl) (Q : Qs) (v : Vl) (S : Sto) : Prop := wp (KX Q ρ) (mb ρ S) fun k S3 => ws (putM v k w ρ S3) Q
def KPut3 (ρ : Rho) (v w : Vl) (Q : Qs) (k : Vl) (S : Sto) : Prop := ws (putM v k w ρ S) Q
theorem ws_put : ws (mPut ma mb me ρ S) Q = wp (KX Q ρ) (me ρ S) (KPut1 ma mb ρ Q) := by
  unfold mPut
  rw [ws_thenS]
  congr
  funext w S1
  unfold KPut1
  rw [ws_thenS]
  congr
  funext v S2
  rw [ws_thenS]
theorem kPut1 : KPut1 ma mb ρ Q w S = wp (KX Q ρ) (ma ρ S) (KPut2 mb ρ w Q) := (rfl)
theorem kPut2 : KPut2 mb ρ w Q v S = wp (KX Q ρ) (mb ρ S) (KPut3 ρ v w Q) := (rfl)
def KApp2 (i : Nat) (P : Vl → Sto → Prop) (w : Vl) (S2 : Sto) : Prop := match w with
    | .d x => match S2[i]? with
      | some (.lst xs) => xs.length ≤ big ∧ P (.d .non) (S2.set i (.lst (xs ++ [x])))
      | _ => False
    | _ => False
def KApp1 (X : XP) (me : ME) (ρ : Rho) (P : Vl → Sto → Prop) (v : Vl) (S : Sto) : Prop := match v with
  | .r i => KSq (wp X (me ρ S) (KApp2 i P)) (sq S i)
  | _ => False
theorem wp_append : wp X (mAppend ma me ρ S) P = wp X (ma ρ S) (KApp1 X me ρ P) := by
  unfold mAppend
  cases ma ρ S with
  | ok v S1 => cases v with
    | r i =>
      show wp X (match sq S1 i with | none => _ | some _ => _) P = KSq (wp X (me ρ S1) (KApp2 i P)) (sq S1 i)
      cases sq S1 i with
      | none => rfl
      | some c0 =>
      show wp X ((me ρ S1).bind _) P = wp X (me ρ S1) (KApp2 i P)
      cases me ρ S1 with
      | ok w S2 => cases w with
        | d x =>
          show wp X (match S2[i]? with | some (.lst xs) => _ | _ => _) P = match S2[i]? with | some (.lst xs) => _ | _ => _
          cases S2[i]? with
          | none => rfl
          | some c => cases c with
            | lst xs => exact wp_ifb
            | frz xs => rfl
            | oth o => rfl
            | ofz o => rfl
        | _ => rfl
      | exc _ _ => rfl
      | bad => rfl
    | _ => rfl
  | exc _ _ => rfl
  | bad => rfl
theorem kApp1 : KApp1 X me ρ P (.r i) S = KSq (wp X (me ρ S) (KApp2 i P)) (sq S i) := (rfl)
theorem sqE : sq S i = sqc S[i]? := (rfl)
theorem sqc_l {xs : List Dt} : sqc (some (.lst xs)) = some (.lst xs) := (rfl)
theorem sqc_f {xs : List Dt} : sqc (some (.frz xs)) = some (.frz xs) := (rfl)
/-! loops -/
variable {t : Tg} {mi : MI}
def KFor (t : Tg) (mb : MS) (ρ : Rho) (Q : Qs) (it : Iv) (S : Sto) : Prop := ws (loopIv t mb it ρ S) Q
theorem ws_for : ws (mFor t mi m1 ρ S) Q = wp (KX Q ρ) (mi ρ S) (KFor t m1 ρ Q) := by
  unfold mFor KFor
  cases mi ρ S <;> rfl
theorem kForT {xs : List Dt} : KFor t m1 ρ Q (.tup xs) S = ws (loopL t m1 xs ρ S) Q := (rfl)
theorem kForG {lo : Int} {n : Nat} : KFor t m1 ρ Q (.rng lo n) S = ws (loopL t m1 (rngD lo n) ρ S) Q := (rfl)
variable {I : Iv → Sto → Prop}
def KSeqI (I : Iv → Sto → Prop) (v : Vl) (S : Sto) : Prop := match v with
  | .d (.tup xs) => I (.tup xs) S
  | .r i => KSq (I (.cell i) S) (sq S i)
  | .d (.fl xs) => I (.tup xs) S
  | _ => False
theorem wp_seqI : wp X (mSeqI me ρ S) I = wp X (me ρ S) (KSeqI I) := by
  unfold mSeqI
  cases me ρ S with
  | ok v S1 => cases v with
    | d x => cases x <;> rfl
    | r i =>
      show wp X (match sq S1 i with | some _ => _ | none => _) I = KSq (I (.cell i) S1) (sq S1 i)
      cases sq S1 i <;> rfl
    | e _ => rfl
  | exc _ _ => rfl
  | bad => rfl
theorem kSeqIT {xs : List Dt} : KSeqI I (.d (.tup xs)) S = I (.tup xs) S := (rfl)
theorem kSeqIL {xs : List Dt} : KSeqI I (.d (.fl xs)) S = I (.tup xs) S := (rfl)
theorem kSeqIR : KSeqI I (.r i) S = KSq (I (.cell i) S) (sq S i) := (rfl)
def KRng1 (I : Iv → Sto → Prop) (vs : List Vl) (S : Sto) : Prop := match vs with
  | [.d (.int j)] => (-lim ≤ j ∧ j ≤ lim) ∧ I (.rng 0 j.toNat) S
  | _ => False
def KRng2 (I : Iv → Sto → Prop) (vs : List Vl) (S : Sto) : Prop := match vs with
  | [.d (.int i), .d (.int j)] => ((-lim ≤ i ∧ i ≤ lim) ∧ (-lim ≤ j ∧ j ≤ lim)) ∧ I (.rng i (j - i).toNat) S
  | _ => False
theorem wp_rng1 : wp X (mRng1 mas ρ S) I = wp X (mas ρ S) (KRng1 I) := by
  unfold mRng1
  rw [wp_bind]
  congr
  funext v S1
  unfold KRng1
  cases v with
  | nil => rfl
  | cons a r => cases a with
    | d x => cases x with
      | int j => cases r with
        | nil => exact wp_ifb
        | cons _ _ => rfl
      | _ => rfl
    | _ => rfl
theorem wp_rng2 : wp X (mRng2 mas ρ S) I = wp X (mas ρ S) (KRng2 I) := by
  unfold mRng2
  rw [wp_bind]
  congr
  funext v S1
  unfold KRng2
  cases v with
  | nil => rfl
  | cons a r => cases a with
    | d x => cases x with
      | int j => cases r with
        | nil => rfl
        | cons b r2 => cases b with
          | d y => cases y with
            | int k => cases r2 with
              | nil => exact wp_ifb
              | cons _ _ => rfl
            | _ => rfl
          | _ => rfl
      | _ => rfl
    | _ => rfl
theorem kRng1 {j : Int} : KRng1 I [.d (.int j)] S = ((-lim ≤ j ∧ j ≤ lim) ∧ I (.rng 0 j.toNat) S) := (rfl)
theorem kRng2 {j k : Int} : KRng2 I [.d (.int j), .d (.int k)] S = (((-lim ≤ j ∧ j ≤ lim) ∧ (-lim ≤ k ∧ k ≤ lim)) ∧ I (.rng j (k - j).toNat) S) := (rfl)
def KLc (X : XP) (t : Tg) (mt : MT) (me : ME) (ρ : Rho) (P : Vl → Sto → Prop) (it : Iv) (S : Sto) : Prop := wp X (compIv t mt me ρ it S) P
theorem wp_lc {us : List Nat} : wp X (mLc us t mi mt me ρ S) P = wp X (mi ρ S) (KLc X t mt me (wipeR ρ us) P) := by
  unfold mLc
  rw [wp_bind]
  rfl
theorem kLcT {xs : List Dt} : KLc X t mt me ρ P (.tup xs) S = wp X (compL t mt me ρ S.length xs (S ++ [.lst []])) P := (rfl)
theorem kLcG {lo : Int} {n : Nat} : KLc X t mt me ρ P (.rng lo n) S = wp X (compL t mt me ρ S.length (rngD lo n) (S ++ [.lst []])) P := (rfl)
/-! a def's call -/
def KExN (n : Nat) (P : Vl → Sto → Prop) (_ : Rho) (S : Sto) : Prop := P (.d .non) (S.take n)
def KExR (n : Nat) (P : Vl → Sto → Prop) (v : Vl) (S : Sto) : Prop := match v with
  | .d x => P (.d x) (S.take n)
  | .r i => if i < n then P (.r i) (S.take n) else match S[i]? with
    | some c => P (.r n) (S.take n ++ [c])
    | none => False
  | .e _ => False
def QF (X : XP) (n : Nat) (P : Vl → Sto → Prop) : Qs := ⟨KExN n P, KExR n P, fun e _ S => X e (S.take n), fun _ _ => False, fun _ _ => False⟩
theorem wp_exit {r : Rss} : wp X (exitR n r) P = ws r (QF X n P) := by
  cases r with
  | next ρ S => rfl
  | ret v S =>
    cases v with
    | d x => rfl
    | r i =>
      show wp X (if i < n then _ else _) P = if i < n then _ else _
      split
      · rfl
      · cases S[i]? <;> rfl
    | e c => rfl
  | brk ρ S => rfl
  | cont ρ S => rfl
  | exc e ρ S => rfl
  | bad => rfl
theorem qF_nx : (QF X n P).nx ρ S = P (.d .non) (S.take n) := (rfl)
theorem qF_rt : (QF X n P).rt = KExR n P := (rfl)
theorem qF_ex : (QF X n P).ex e ρ S = X e (S.take n) := (rfl)
theorem kExD {x : Dt} : KExR n P (.d x) S = P (.d x) (S.take n) := (rfl)
theorem kExOld (h : i < n) : KExR n P (.r i) S = P (.r i) (S.take n) := if_pos h
theorem kExNew {c : Ce} (h : n ≤ i) (e : S[i]? = some c) : KExR n P (.r i) S = P (.r n) (S.take n ++ [c]) := by
  show (if i < n then _ else _) = _
  rw [if_neg (by omega), e]
theorem wp_fnM {k : Nat} {body : MS} : wp X (fnM k n body vs S) P = (vs.length = k ∧ ws (body (vs.map some ++ List.replicate (n - k) none) S) (QF X S.length P)) := by
  unfold fnM
  by_cases h : vs.length = k
  · rw [if_pos h, wp_exit]
    simp [h]
  · rw [if_neg h]
    simp only [h, false_and]
    rfl
/-! try -/
def QE (i : Nat) (Q : Qs) : Qs := ⟨fun ρ S => Q.nx (ρ.set i none) S, Q.rt, fun _ _ _ => False, fun ρ S => Q.br (ρ.set i none) S, fun ρ S => Q.ct (ρ.set i none) S⟩
theorem qE_nx : (QE i Q).nx ρ S = Q.nx (ρ.set i none) S := (rfl)
theorem qE_rt : (QE i Q).rt = Q.rt := (rfl)
theorem qE_ex : (QE i Q).ex e ρ S = False := (rfl)
def KTry (tb : Tbl) (i : Nat) (suite : Xc → MS) (Q : Qs) (e : Xc) (ρ : Rho) (S : Sto) : Option Bool → Prop
  | some true => i < ρ.length ∧ ws (suite e (ρ.set i (some (.e e.cls))) S) (QE i Q)
  | some false => Q.ex e ρ S
  | none => False
def QTry (tb : Tbl) (i : Nat) (suite : Xc → MS) (Q : Qs) : Qs := ⟨Q.nx, Q.rt, fun e ρ S => KTry tb i suite Q e ρ S (tb.lookup e.cls), Q.br, Q.ct⟩
variable {tb : Tbl} {suite : Xc → MS}
theorem qTry_nx : (QTry tb i suite Q).nx = Q.nx := (rfl)
theorem qTry_rt : (QTry tb i suite Q).rt = Q.rt := (rfl)
theorem qTry_ex : (QTry tb i suite Q).ex e ρ S = KTry tb i suite Q e ρ S (tb.lookup e.cls) := (rfl)
theorem kTry1 : KTry tb i suite Q e ρ S (some true) = (i < ρ.length ∧ ws (suite e (ρ.set i (some (.e e.cls))) S) (QE i Q)) := (rfl)
theorem kTry0 : KTry tb i suite Q e ρ S (some false) = Q.ex e ρ S := (rfl)
theorem ws_try : ws (mTry tb i m1 suite ρ S) Q = ws (m1 ρ S) (QTry tb i suite Q) := by
  unfold mTry
  cases m1 ρ S with
  | exc e ρ1 S1 =>
    show ws (match tb.lookup e.cls with | some true => _ | some false => _ | none => _) Q = KTry tb i suite Q e ρ1 S1 (tb.lookup e.cls)
    cases tb.lookup e.cls with
    | none => rfl
    | some k => cases k with
      | false => rfl
      | true =>
        show ws (if i < ρ1.length then _ else _) Q = (_ ∧ _)
        by_cases h : i < ρ1.length
        · rw [if_pos h]
          simp only [h, true_and]
          cases suite e (ρ1.set i (some (.e e.cls))) S1 <;> rfl
        · rw [if_neg h]
          simp only [h, false_and]
          rfl
  | _ => rfl
def KIsE (P : Vl → Sto → Prop) (S : Sto) : Option Bool → Prop
  | some k => P (.d (.bl k)) S
  | none => False
theorem wp_isE : wp X (mIsE tb e ρ S) P = KIsE P S (tb.lookup e.cls) := by
  unfold mIsE
  cases tb.lookup e.cls <;> rfl
theorem kIsE {k : Bool} : KIsE P S (some k) = P (.d (.bl k)) S := (rfl)
/-! operators -/
variable {j k : Int} {xs ys : List Dt}
theorem wp_add : wp X (vAdd n (.d (.int j)) (.d (.int k)) S) P = P (.d (.int (j + k))) S := (rfl)
theorem wp_addT : wp X (vAdd n (.d (.tup xs)) (.d (.tup ys)) S) P = (xs.length + ys.length ≤ big ∧ P (.d (.tup (xs ++ ys))) S) := wp_ifb
theorem wp_addL {l : Nat} (h1 : S[i]? = some (.lst xs)) (h2 : S[l]? = some (.lst ys)) : wp X (vAdd n (.r i) (.r l) S) P = (xs.length + ys.length ≤ big ∧ P (.r n) (S.take n ++ [.lst (xs ++ ys)])) := by
  unfold vAdd
  simp only [h1, h2]
  exact wp_ifb
theorem wp_sub : wp X (vSub n (.d (.int j)) (.d (.int k)) S) P = P (.d (.int (j - k))) S := (rfl)
theorem wp_mul : wp X (vMul n (.d (.int j)) (.d (.int k)) S) P = (okMul j k ∧ P (.d (.int (j * k))) S) := by unfold vMul; classical exact wp_ifb
theorem wp_div : wp X (vDiv n (.d (.int j)) (.d (.int k)) S) P = (okDiv j k ∧ P (.d (.int (j.fdiv k))) S) := by unfold vDiv; classical exact wp_ifb
theorem wp_mod : wp X (vMod n (.d (.int j)) (.d (.int k)) S) P = (¬ k = 0 ∧ P (.d (.int (j.fmod k))) S) := by
  unfold vMod
  by_cases h : k = 0 <;> simp [h, wp]
theorem wp_pow : wp X (vPow n (.d (.int j)) (.d (.int k)) S) P = ((0 ≤ k ∧ k ≤ 1000000 ∧ j.natAbs < 2 ^ 64) ∧ P (.d (.int (j ^ k.toNat))) S) := wp_ifb
theorem wp_cmp {f : Int → Int → Bool} : wp X (vCmp f n (.d (.int j)) (.d (.int k)) S) P = P (.d (.bl (f j k))) S := (rfl)
theorem wp_eqI : wp X (vEq n (.d (.int j)) (.d (.int k)) S) P = P (.d (.bl (decide (j = k)))) (S.take n) := (rfl)
theorem wp_neI : wp X (vNe n (.d (.int j)) (.d (.int k)) S) P = P (.d (.bl (!decide (j = k)))) (S.take n) := (rfl)
theorem wp_eqB {b c : Bool} : wp X (vEq n (.d (.bl b)) (.d (.bl c)) S) P = P (.d (.bl (decide (b = c)))) (S.take n) := (rfl)
theorem wp_neB {b c : Bool} : wp X (vNe n (.d (.bl b)) (.d (.bl c)) S) P = P (.d (.bl (!decide (b = c)))) (S.take n) := (rfl)
theorem wp_eqO {b : Bool} (h : eqB v w S = some b) : wp X (vEq n v w S) P = P (.d (.bl b)) (S.take n) := by
  unfold vEq
  rw [h]
  rfl
theorem wp_neO {b : Bool} (h : eqB v w S = some b) : wp X (vNe n v w S) P = P (.d (.bl (!b))) (S.take n) := by
  unfold vNe
  rw [h]
  rfl
theorem wp_ixT {x : Dt} (h : atI xs j = some x) : wp X (vIx n (.d (.tup xs)) (.d (.int j)) S) P = P (.d x) S := by
  unfold vIx
  simp only [h]
  rfl
/-! built-ins -/
theorem wp_lenT : wp X (bLen n [.d (.tup xs)] S) P = P (.d (.int xs.length)) (S.take n) := (rfl)
theorem wp_int : wp X (bInt n [.d (.int j)] S) P = P (.d (.int j)) S := (rfl)
theorem wp_abs : wp X (bAbs n [.d (.int j)] S) P = P (.d (.int (if j < 0 then -j else j))) S := (rfl)
theorem wp_max2 : wp X (bMax n [.d (.int j), .d (.int k)] S) P = P (.d (.int (if k > j then k else j))) S := (rfl)
theorem wp_min2 : wp X (bMin n [.d (.int j), .d (.int k)] S) P = P (.d (.int (if k < j then k else j))) S := (rfl)
theorem wp_tupleT : wp X (bTuple n [.d (.tup xs)] S) P = P (.d (.tup xs)) (S.take n) := (rfl)
theorem wp_listT : wp X (bList n [.d (.tup xs)] S) P = P (.r n) (S.take n ++ [.lst xs]) := (rfl)
theorem wp_sumT {ns : List Int} (h2 : toInts xs = some ns) : wp X (bSum n [.d (.tup xs)] S) P = P (.d (.int ns.sum)) (S.take n) := by
  unfold bSum itemsOf
  simp only [h2]
  rfl
end
end Mo
/-! Meanings, run: lookups as continuations, loops and comprehensions by invariants, cuts, bounds of arithmetic. -/
namespace Mo
open PySem L2
section
variable {X : XP} {ρ : Rho} {S : Sto} {P : Vl → Sto → Prop} {Q : Qs} {ma mb mc me : ME} {mas : MA} {mt mu : MT} {m1 m2 next : MS} {i n : Nat} {v w : Vl} {vs : List Vl} {e : Xc} {t : Tg} {xs ys : List Dt} {x : Dt} {j k : Int} {c : Ce}
theorem wp_ifk {α : Type} {c : Prop} [Decidable c] {r : Rs α} {P : α → Sto → Prop} : wp X (if c then r else .bad) P = (c ∧ wp X r P) := by
  by_cases h : c <;> simp [h, wp_bad]
theorem if_if {a b : Prop} [Decidable a] [Decidable b] {x y : Prop} : (if a then (if b then x else y) else y) = if a ∧ b then x else y := by
  by_cases h : a <;> by_cases h2 : b <;> simp [h, h2]
/-! lookups -/
def KDt (P : Vl → Sto → Prop) (S : Sto) : Option Dt → Prop
  | some x => P (.d x) S
  | none => False
theorem kDt : KDt P S (some x) = P (.d x) S := (rfl)
theorem wp_ix : wp X (vIx n (.d (.tup xs)) (.d (.int j)) S) P = KDt P S (atI xs j) := by
  unfold vIx
  dsimp only
  cases atI xs j <;> rfl
def KIxR (P : Vl → Sto → Prop) (S : Sto) (j : Int) : Option Ce → Prop
  | some c => KDt P S (atI c.items j)
  | none => False
theorem kIxR : KIxR P S j (some c) = KDt P S (atI c.items j) := (rfl)
theorem wp_ixC : wp X (vIx n (.r i) (.d (.int j)) S) P = KIxR P S j (sq S i) := by
  unfold vIx
  dsimp only
  cases (sq S i) with
  | none => rfl
  | some c =>
    show wp X (match atI c.items j with | some x => _ | none => _) P = KDt P S (atI c.items j)
    cases atI c.items j <;> rfl
theorem items_lst : (Ce.lst xs).items = xs := (rfl)
theorem items_frz : (Ce.frz xs).items = xs := (rfl)
theorem at_0 {α : Type} {a : α} {r : List α} : atI (a :: r) 0 = some a := by
  unfold atI ixN
  rw [if_pos (by omega), if_pos (by simp only [List.length_cons]; omega)]
  rfl
theorem at_1 {α : Type} {a b : α} {r : List α} : atI (a :: b :: r) 1 = some b := by
  unfold atI ixN
  rw [if_pos (by omega), if_pos (by simp only [List.length_cons]; omega)]
  rfl
theorem at_2 {α : Type} {a b c : α} {r : List α} : atI (a :: b :: c :: r) 2 = some c := by
  unfold atI ixN
  rw [if_pos (by omega), if_pos (by simp only [List.length_cons]; omega)]
  rfl
theorem at_3 {α : Type} {a b c d : α} {r : List α} : atI (a :: b :: c :: d :: r) 3 = some d := by
  unfold atI ixN
  rw [if_pos (by omega), if_pos (by simp only [List.length_cons]; omega)]
  rfl
theorem at_nat {α : Type} {r : List α} {j : Int} (h0 : 0 ≤ j) (h1 : j < r.length) : atI r j = some (r[j.toNat]'(by omega)) := by
  unfold atI ixN
  rw [if_pos h0, if_pos h1]
  show r[j.toNat]? = _
  rw [List.getElem?_eq_getElem (by omega)]
def KSlR (P : Vl → Sto → Prop) (S : Sto) (lo hi : Option Int) : Option Ce → Prop
  | some c => P (.r S.length) (S ++ [.lst (cutD c.items lo hi)])
  | none => False
theorem kSlR {lo hi : Option Int} : KSlR P S lo hi (some c) = P (.r S.length) (S ++ [.lst (cutD c.items lo hi)]) := (rfl)
theorem kSl3C {lo hi : Option Int} : KSl3 X (.r i) lo P hi S = KSlR P S lo hi (sq S i) := by
  unfold KSl3 slR
  dsimp only
  cases (sq S i) <;> rfl
def KForR (t : Tg) (mb : MS) (ρ : Rho) (Q : Qs) (i : Nat) (S : Sto) : Option Ce → Prop
  | some c => ws (loopC t mb i (c.items.length + 1) 0 ρ S) Q
  | none => False
theorem kForR : KForR t m1 ρ Q i S (some c) = ws (loopC t m1 i (c.items.length + 1) 0 ρ S) Q := (rfl)
theorem kForCe : KFor t m1 ρ Q (.cell i) S = KForR t m1 ρ Q i S (sq S i) := by
  unfold KFor loopIv
  dsimp only
  cases (sq S i) <;> rfl
def KLcR (X : XP) (t : Tg) (mt : MT) (me : ME) (ρ : Rho) (P : Vl → Sto → Prop) (i : Nat) (S : Sto) : Option Ce → Prop
  | some c => wp X (compC t mt me ρ S.length i (c.items.length + 1) 0 (S ++ [.lst []])) P
  | none => False
theorem kLcR : KLcR X t mt me ρ P i S (some c) = wp X (compC t mt me ρ S.length i (c.items.length + 1) 0 (S ++ [.lst []])) P := (rfl)
theorem kLcCe : KLc X t mt me ρ P (.cell i) S = KLcR X t mt me ρ P i S (sq S i) := by
  unfold KLc compIv
  dsimp only
  cases (sq S i) <;> rfl
def KPut4 (ρ : Rho) (Q : Qs) (i : Nat) (x : Dt) (xs : List Dt) (S : Sto) : Option Nat → Prop
  | some k => Q.nx ρ (S.set i (.lst (xs.set k x)))
  | none => False
def KPutR (ρ : Rho) (Q : Qs) (i : Nat) (j : Int) (x : Dt) (S : Sto) : Option Ce → Prop
  | some (.lst xs) => KPut4 ρ Q i x xs S (ixN xs.length j)
  | _ => False
theorem kPutR : KPutR ρ Q i j x S (some (.lst xs)) = KPut4 ρ Q i x xs S (ixN xs.length j) := (rfl)
theorem kPut4 {k : Nat} : KPut4 ρ Q i x xs S (some k) = Q.nx ρ (S.set i (.lst (xs.set k x))) := (rfl)
theorem kPutC : KPut3 ρ (.r i) (.d x) Q (.d (.int j)) S = KPutR ρ Q i j x S S[i]? := by
  unfold KPut3 putM
  dsimp only
  cases S[i]? with
  | none => rfl
  | some c => cases c with
    | frz xs => rfl
    | oth o => rfl
    | ofz o => rfl
    | lst xs =>
      show ws (match ixN xs.length j with | some n => _ | none => _) Q = KPut4 ρ Q i x xs S (ixN xs.length j)
      cases ixN xs.length j <;> rfl
theorem ixN_3_0 : ixN 3 0 = some 0 := (rfl)
theorem ixN_3_1 : ixN 3 1 = some 1 := (rfl)
theorem ixN_3_2 : ixN 3 2 = some 2 := (rfl)
def KAppR (P : Vl → Sto → Prop) (i : Nat) (x : Dt) (S : Sto) : Option Ce → Prop
  | some (.lst xs) => xs.length ≤ big ∧ P (.d .non) (S.set i (.lst (xs ++ [x])))
  | _ => False
theorem kAppR : KAppR P i x S (some (.lst xs)) = (xs.length ≤ big ∧ P (.d .non) (S.set i (.lst (xs ++ [x])))) := (rfl)
theorem kAppC : KApp2 i P (.d x) S = KAppR P i x S S[i]? := by
  unfold KApp2
  dsimp only
  cases S[i]? with
  | none => rfl
  | some c => cases c <;> rfl
def KLenR (P : Vl → Sto → Prop) (n : Nat) (S : Sto) : Option Ce → Prop
  | some c => P (.d (.int c.items.length)) (S.take n)
  | none => False
theorem kLenR : KLenR P n S (some c) = P (.d (.int c.items.length)) (S.take n) := (rfl)
theorem wp_lenC : wp X (bLen n [.r i] S) P = KLenR P n S (sq S i) := by
  unfold bLen itemsOf
  dsimp only
  cases (sq S i) <;> rfl
def KTupR (P : Vl → Sto → Prop) (n : Nat) (S : Sto) : Option Ce → Prop
  | some c => P (.d (.tup c.items)) (S.take n)
  | none => False
theorem kTupR : KTupR P n S (some c) = P (.d (.tup c.items)) (S.take n) := (rfl)
theorem wp_tupleC : wp X (bTuple n [.r i] S) P = KTupR P n S (sq S i) := by
  unfold bTuple itemsOf
  dsimp only
  cases (sq S i) <;> rfl
def KLisR (P : Vl → Sto → Prop) (n : Nat) (S : Sto) : Option Ce → Prop
  | some c => P (.r n) (S.take n ++ [.lst c.items])
  | none => False
theorem kLisR : KLisR P n S (some c) = P (.r n) (S.take n ++ [.lst c.items]) := (rfl)
theorem wp_listC : wp X (bList n [.r i] S) P = KLisR P n S (sq S i) := by
  unfold bList itemsOf
  dsimp only
  cases (sq S i) <;> rfl
def KBls (P : Bool → Prop) (g : List Bool → Bool) : Option (List Bool) → Prop
  | some bs => P (g bs)
  | none => False
theorem kBls {B : Bool → Prop} {g : List Bool → Bool} {bs : List Bool} : KBls B g (some bs) = B (g bs) := (rfl)
def KBlv (P : Vl → Sto → Prop) (S : Sto) (b : Bool) : Prop := P (.d (.bl b)) S
theorem kBlv {b : Bool} : KBlv P S b = P (.d (.bl b)) S := (rfl)
def KAllR (P : Vl → Sto → Prop) (g : List Bool → Bool) (S : Sto) : Option Ce → Prop
  | some c => KBls (KBlv P S) g (toBls c.items)
  | none => False
theorem kAllR {g : List Bool → Bool} : KAllR P g S (some c) = KBls (KBlv P S) g (toBls c.items) := (rfl)
theorem wp_allC : wp X (bAll n [.r i] S) P = KAllR P (fun bs => bs.all id) (S.take n) (sq S i) := by
  unfold bAll listBls
  dsimp only
  cases (sq S i) with
  | none => rfl
  | some c =>
    show wp X (match toBls c.items with | some ns => _ | none => _) P = KBls _ _ (toBls c.items)
    cases toBls c.items <;> rfl
theorem wp_anyC : wp X (bAny n [.r i] S) P = KAllR P (fun bs => bs.any id) (S.take n) (sq S i) := by
  unfold bAny listBls
  dsimp only
  cases (sq S i) with
  | none => rfl
  | some c =>
    show wp X (match toBls c.items with | some ns => _ | none => _) P = KBls _ _ (toBls c.items)
    cases toBls c.items <;> rfl
theorem toBls_mapf {α : Type} (f : α → Bool) (xs : List α) : toBls (xs.map fun x => .bl (f x)) = some (xs.map f) := by
  have := toBls_map (xs.map f)
  rw [List.map_map] at this
  exact this
theorem toInts_mapf {α : Type} (f : α → Int) (xs : List α) : toInts (xs.map fun x => .int (f x)) = some (xs.map f) := by
  have := toInts_map (xs.map f)
  rw [List.map_map] at this
  exact this
def KSm (P : Vl → Sto → Prop) (S : Sto) : Option (List Int) → Prop
  | some ns => P (.d (.int ns.sum)) S
  | none => False
theorem kSm {ns : List Int} : KSm P S (some ns) = P (.d (.int ns.sum)) S := (rfl)
def KSmR (P : Vl → Sto → Prop) (S : Sto) : Option Ce → Prop
  | some c => KSm P S (toInts c.items)
  | none => False
theorem kSmR : KSmR P S (some c) = KSm P S (toInts c.items) := (rfl)
theorem wp_sumT' : wp X (bSum n [.d (.tup xs)] S) P = KSm P (S.take n) (toInts xs) := by
  unfold bSum itemsOf
  dsimp only
  cases toInts xs <;> rfl
theorem wp_sumC : wp X (bSum n [.r i] S) P = KSmR P (S.take n) (sq S i) := by
  unfold bSum itemsOf
  dsimp only
  cases (sq S i) with
  | none => rfl
  | some c =>
    show wp X (match toInts c.items with | some ns => _ | none => _) P = KSm _ _ (toInts c.items)
    cases toInts c.items <;> rfl
def KExC (P : Vl → Sto → Prop) (n : Nat) (S : Sto) : Option Ce → Prop
  | some c => P (.r n) (S.take n ++ [c])
  | none => False
theorem kExC : KExC P n S (some c) = P (.r n) (S.take n ++ [c]) := (rfl)
theorem kExR : KExR n P (.r i) S = if i < n then P (.r i) (S.take n) else KExC P n S S[i]? := (rfl)
theorem kExRn {k : Nat} : KExR n P (.r (n + k)) S = KExC P n S S[n + k]? := by rw [kExR, if_neg (by omega)]
theorem kExRn0 : KExR n P (.r n) S = KExC P n S S[n]? := by rw [kExR, if_neg (by omega)]
def KAdd (P : Vl → Sto → Prop) (n : Nat) (S : Sto) : Option Ce → Option Ce → Prop
  | some (.lst xs), some (.lst ys) => xs.length + ys.length ≤ big ∧ P (.r n) (S.take n ++ [.lst (xs ++ ys)])
  | _, _ => False
theorem kAdd : KAdd P n S (some (.lst xs)) (some (.lst ys)) = (xs.length + ys.length ≤ big ∧ P (.r n) (S.take n ++ [.lst (xs ++ ys)])) := (rfl)
theorem wp_addC {l : Nat} : wp X (vAdd n (.r i) (.r l) S) P = KAdd P n S S[i]? S[l]? := by
  unfold vAdd
  dsimp only
  cases S[i]? with
  | none => rfl
  | some c =>
    cases c with
    | frz xs => rfl
    | oth o => rfl
    | ofz o => rfl
    | lst xs =>
      cases S[l]? with
      | none => rfl
      | some d =>
        cases d with
        | frz ys => rfl
        | oth o => rfl
        | ofz o => rfl
        | lst ys => exact wp_ifb
/-! loops -/
def QLp (next : MS) (Q : Qs) : Qs := ⟨fun ρ S => ws (next ρ S) Q, Q.rt, Q.ex, Q.nx, fun ρ S => ws (next ρ S) Q⟩
theorem qLp_nx : (QLp next Q).nx ρ S = ws (next ρ S) Q := (rfl)
theorem qLp_ct : (QLp next Q).ct ρ S = ws (next ρ S) Q := (rfl)
theorem qLp_br : (QLp next Q).br = Q.nx := (rfl)
theorem qLp_rt : (QLp next Q).rt = Q.rt := (rfl)
theorem qLp_ex : (QLp next Q).ex = Q.ex := (rfl)
theorem ws_after {r : Rss} : ws (after next r) Q = ws r (QLp next Q) := by cases r <;> rfl
theorem ws_loop0 : ws (loopL t m1 [] ρ S) Q = Q.nx ρ S := (rfl)
theorem ws_loop1 : ws (loopL (.one i) m1 (x :: xs) ρ S) Q = ws (m1 (ρ.set i (some (.d x))) S) (QLp (loopL (.one i) m1 xs) Q) := ws_after
def QLi (N : Rho → Sto → Prop) (Q : Qs) : Qs := ⟨N, Q.rt, Q.ex, Q.nx, N⟩
variable {N : Rho → Sto → Prop}
theorem qLi_nx : (QLi N Q).nx = N := (rfl)
theorem qLi_ct : (QLi N Q).ct = N := (rfl)
theorem qLi_br : (QLi N Q).br = Q.nx := (rfl)
theorem qLi_rt : (QLi N Q).rt = Q.rt := (rfl)
theorem qLi_ex : (QLi N Q).ex = Q.ex := (rfl)
theorem ws_QLi {r : Rss} (h : ws r (QLi N Q)) (f : ∀ ρ S, N ρ S → ws (next ρ S) Q) : ws r (QLp next Q) :=
  ws_imp h f (fun _ _ q => q) (fun _ _ _ q => q) (fun _ _ q => q) f
/-- a loop by what holds before the items that are left -/
theorem ws_inv {I : List Dt → Rho → Sto → Prop} (step : ∀ x r ρ S, I (x :: r) ρ S → ∃ ρ1, tgM t (.d x) ρ = some ρ1 ∧ ws (m1 ρ1 S) (QLi (I r) Q)) (fin : ∀ ρ S, I [] ρ S → Q.nx ρ S) :
    ∀ {xs : List Dt} {ρ : Rho} {S : Sto}, I xs ρ S → ws (loopL t m1 xs ρ S) Q
  | [], ρ, S, h => fin ρ S h
  | x :: xs, ρ, S, h => by
    obtain ⟨ρ1, e, q⟩ := step x xs ρ S h
    rw [loopL, e]
    show ws (after _ _) Q
    rw [ws_after]
    exact ws_QLi q fun ρ2 S2 h2 => ws_inv step fin h2
theorem ws_invC_aux {I : List Dt → Rho → Sto → Prop} {xs : List Dt} (hc : ∀ r ρ S, I r ρ S → ∃ ce, sq S i = some ce ∧ ce.items = xs) (step : ∀ x r ρ S, I (x :: r) ρ S → ∃ ρ1, tgM t (.d x) ρ = some ρ1 ∧ ws (m1 ρ1 S) (QLi (I r) Q)) (fin : ∀ ρ S, I [] ρ S → Q.nx ρ S) :
    ∀ (f k : Nat) {ρ : Rho} {S : Sto}, k + f = xs.length + 1 → k ≤ xs.length → I (xs.drop k) ρ S → ws (loopC t m1 i f k ρ S) Q := by
  intro f
  induction f with
  | zero =>
    intro k ρ S e hk h
    omega
  | succ f ih =>
    intro k ρ S e hle h
    obtain ⟨ce, hce, q⟩ := hc _ _ _ h
    rw [loopC, hce]
    dsimp only
    rw [q]
    by_cases hk : k < xs.length
    · rw [List.getElem?_eq_getElem hk]
      rw [List.drop_eq_getElem_cons hk] at h
      obtain ⟨ρ1, e1, q1⟩ := step _ _ ρ S h
      dsimp only
      rw [e1]
      show ws (after _ _) Q
      rw [ws_after]
      exact ws_QLi q1 fun ρ2 S2 h2 => ih (k + 1) (by omega) (by omega) h2
    · rw [List.getElem?_eq_none (by omega)]
      rw [List.drop_eq_nil_of_le (by omega)] at h
      exact fin ρ S h
theorem ws_invC {I : List Dt → Rho → Sto → Prop} {xs : List Dt} (hc : ∀ r ρ S, I r ρ S → ∃ ce, sq S i = some ce ∧ ce.items = xs) (step : ∀ x r ρ S, I (x :: r) ρ S → ∃ ρ1, tgM t (.d x) ρ = some ρ1 ∧ ws (m1 ρ1 S) (QLi (I r) Q)) (fin : ∀ ρ S, I [] ρ S → Q.nx ρ S) {ρ : Rho} {S : Sto} (h : I xs ρ S) : ws (loopC t m1 i (xs.length + 1) 0 ρ S) Q :=
  ws_invC_aux hc step fin _ 0 (by omega) (by omega) h
/-- what is to hold behind a statement, told by hand -/
def QN (N : Rho → Sto → Prop) (Q : Qs) : Qs := ⟨N, Q.rt, Q.ex, Q.br, Q.ct⟩
theorem qN_nx : (QN N Q).nx = N := (rfl)
theorem qN_ct : (QN N Q).ct = Q.ct := (rfl)
theorem qN_br : (QN N Q).br = Q.br := (rfl)
theorem qN_rt : (QN N Q).rt = Q.rt := (rfl)
theorem qN_ex : (QN N Q).ex = Q.ex := (rfl)
theorem ws_cut {r : Rss} (h : ws r (QN N Q)) (f : ∀ ρ S, N ρ S → Q.nx ρ S) : ws r Q := ws_imp h f (fun _ _ q => q) (fun _ _ _ q => q) (fun _ _ q => q) (fun _ _ q => q)
theorem kIf_cut {k : Bool} (h : KIf m1 m2 ρ (QN N Q) k S) (f : ∀ ρ S, N ρ S → Q.nx ρ S) : KIf m1 m2 ρ Q k S := by
  cases k with
  | true => exact ws_cut (N := N) (by simpa [KIf] using h) f
  | false => exact ws_cut (N := N) (by simpa [KIf] using h) f
/-! comprehensions -/
/-- one turn of a comprehension, before the next -/
def CompStep (t : Tg) (mt : MT) (me : ME) (ρ : Rho) (n : Nat) (I : List Dt → List Dt → Sto → Prop) (x : Dt) (r acc : List Dt) (S : Sto) : Prop :=
  ∃ ρ1, tgM t (.d x) ρ = some ρ1 ∧ ∃ k S2, mt ρ1 S = .ok k S2 ∧ (k = true → ∃ y S3, me ρ1 S2 = .ok (.d y) S3 ∧ S3[n]? = some (.lst acc) ∧ acc.length ≤ big ∧ I r (acc ++ [y]) (S3.set n (.lst (acc ++ [y])))) ∧ (k = false → I r acc S2)
theorem comp_turn1 {nx : Sto → Rs Vl} {I : List Dt → List Dt → Sto → Prop} {r acc : List Dt} (h : CompStep t mt me ρ n I x r acc S) (f : ∀ acc S, I r acc S → wp X (nx S) P) : wp X (compT t mt me ρ n x S nx) P := by
  obtain ⟨ρ1, e1, k, S2, e2, ht, hf⟩ := h
  unfold compT
  rw [e1]
  dsimp only
  rw [e2]
  dsimp only
  cases k with
  | false => exact f acc S2 (hf rfl)
  | true =>
    obtain ⟨y, S3, e3, e4, hl, q⟩ := ht rfl
    rw [if_pos rfl, e3]
    dsimp only
    rw [e4]
    dsimp only
    rw [if_pos hl]
    exact f _ _ q
theorem wp_compL {I : List Dt → List Dt → Sto → Prop} (step : ∀ x r acc S, I (x :: r) acc S → CompStep t mt me ρ n I x r acc S) (fin : ∀ acc S, I [] acc S → P (.r n) S) :
    ∀ {xs acc : List Dt} {S : Sto}, I xs acc S → wp X (compL t mt me ρ n xs S) P
  | [], acc, S, h => fin acc S h
  | x :: xs, acc, S, h => comp_turn1 (step x xs acc S h) fun acc2 S2 h2 => wp_compL step fin h2
theorem wp_compC_aux {I : List Dt → List Dt → Sto → Prop} {xs : List Dt} {c : Nat} (hc : ∀ r acc S, I r acc S → ∃ ce, sq S c = some ce ∧ ce.items = xs) (step : ∀ x r acc S, I (x :: r) acc S → CompStep t mt me ρ n I x r acc S) (fin : ∀ acc S, I [] acc S → P (.r n) S) :
    ∀ (f k : Nat) {acc : List Dt} {S : Sto}, k + f = xs.length + 1 → k ≤ xs.length → I (xs.drop k) acc S → wp X (compC t mt me ρ n c f k S) P := by
  intro f
  induction f with
  | zero =>
    intro k acc S e hk h
    omega
  | succ f ih =>
    intro k acc S e hle h
    obtain ⟨ce, hce, q⟩ := hc _ _ _ h
    rw [compC, hce]
    dsimp only
    rw [q]
    by_cases hk : k < xs.length
    · rw [List.getElem?_eq_getElem hk]
      rw [List.drop_eq_getElem_cons hk] at h
      exact comp_turn1 (step _ _ _ S h) fun acc2 S2 h2 => ih (k + 1) (by omega) (by omega) h2
    · rw [List.getElem?_eq_none (by omega)]
      rw [List.drop_eq_nil_of_le (by omega)] at h
      exact fin acc S h
theorem wp_compC {I : List Dt → List Dt → Sto → Prop} {xs : List Dt} {c : Nat} (hc : ∀ r acc S, I r acc S → ∃ ce, sq S c = some ce ∧ ce.items = xs) (step : ∀ x r acc S, I (x :: r) acc S → CompStep t mt me ρ n I x r acc S) (fin : ∀ acc S, I [] acc S → P (.r n) S) {S : Sto} (h : I xs [] S) :
    wp X (compC t mt me ρ n c (xs.length + 1) 0 S) P := wp_compC_aux hc step fin _ 0 (by omega) (by omega) h
theorem get_app {S T : Sto} {c : Ce} {l : Nat} (h : S[l]? = some c) : (S ++ T)[l]? = some c := by
  rw [List.getElem?_append_left (List.getElem?_eq_some_iff.mp h).1, h]
theorem sq_app {S T : Sto} {c : Ce} {l : Nat} (h : sq S l = some c) : sq (S ++ T) l = some c := by
  unfold sq at h ⊢
  cases e : S[l]? with
  | none => rw [e] at h; cases h
  | some d => rw [get_app e, ← e]; exact h
theorem sq_l {S : Sto} {l : Nat} {xs : List Dt} (h : S[l]? = some (.lst xs)) : sq S l = some (.lst xs) := by
  unfold sq
  rw [h]
  rfl
theorem get_new {S : Sto} {d : Ce} : (S ++ [d])[S.length]? = some d := by
  rw [List.getElem?_append_right (Nat.le_refl _), Nat.sub_self]
  rfl
theorem set_new {S : Sto} {d e : Ce} : (S ++ [d]).set S.length e = S ++ [e] := by
  rw [List.set_append_right _ _ (Nat.le_refl _), Nat.sub_self]
  rfl
theorem take_len {S' : Sto} {n : Nat} (h : S'.length = n) : S'.take n = S' := List.take_of_length_le (by omega)
theorem get_ap {S T : Sto} {n k : Nat} (h : S.length = n) : (S ++ T)[n + k]? = T[k]? := by
  subst h
  rw [List.getElem?_append_right (by omega), Nat.add_sub_cancel_left]
theorem get_ap0 {S T : Sto} {n : Nat} (h : S.length = n) : (S ++ T)[n]? = T[0]? := by
  subst h
  rw [List.getElem?_append_right (Nat.le_refl _), Nat.sub_self]
theorem take_ap {S T : Sto} {n k : Nat} (h : S.length = n) : (S ++ T).take (n + k) = S ++ T.take k := by
  subst h
  rw [List.take_append, Nat.add_sub_cancel_left, List.take_of_length_le (by omega)]
theorem take_ap0 {S T : Sto} {n : Nat} (h : S.length = n) : (S ++ T).take n = S := by
  subst h
  rw [List.take_left]
theorem set_ap {S T : Sto} {n k : Nat} {c : Ce} (h : S.length = n) : (S ++ T).set (n + k) c = S ++ T.set k c := by
  subst h
  rw [List.set_append_right _ _ (by omega), Nat.add_sub_cancel_left]
theorem set_ap0 {S T : Sto} {n : Nat} {c : Ce} (h : S.length = n) : (S ++ T).set n c = S ++ T.set 0 c := by
  subst h
  rw [List.set_append_right _ _ (Nat.le_refl _), Nat.sub_self]
/-- a pure comprehension over data -/
theorem kLc_pure {p : Dt → Bool} {f : Dt → Dt} (hx : ∀ x ∈ xs, ∀ acc, ∃ ρ1, tgM t (.d x) ρ = some ρ1 ∧ mt ρ1 (S ++ [.lst acc]) = .ok (p x) (S ++ [.lst acc]) ∧ (p x = true → me ρ1 (S ++ [.lst acc]) = .ok (.d (f x)) (S ++ [.lst acc]))) (hl : xs.length ≤ big) :
    KLc X t mt me ρ P (.tup xs) S = P (.r S.length) (S ++ [.lst ((xs.filter p).map f)]) := by
  rw [kLcT]
  have key : ∀ (r acc : List Dt), (∀ x ∈ r, x ∈ xs) → acc.length + r.length ≤ big → compL t mt me ρ S.length r (S ++ [.lst acc]) = .ok (.r S.length) (S ++ [.lst (acc ++ (r.filter p).map f)]) := by
    intro r
    induction r with
    | nil => intro acc _ _; simp [compL]
    | cons x r ih =>
      intro acc hm hb
      obtain ⟨ρ1, e1, e2, e3⟩ := hx x (hm x (by simp)) acc
      rw [compL, compT, e1]
      dsimp only
      rw [e2]
      dsimp only
      simp only [List.length_cons] at hb
      cases hp : p x with
      | false =>
        rw [if_neg Bool.false_ne_true, ih acc (fun y hy => hm y (List.mem_cons_of_mem _ hy)) (by omega)]
        simp [hp]
      | true =>
        rw [if_pos rfl, e3 hp]
        dsimp only
        rw [get_new]
        dsimp only
        rw [if_pos (by omega), set_new, ih (acc ++ [f x]) (fun y hy => hm y (List.mem_cons_of_mem _ hy)) (by simp; omega)]
        simp [hp]
  rw [key xs [] (fun _ h => h) (by simpa using hl), wp_ok]
  simp
theorem mYes_ok : mYes ρ S = .ok true S := (rfl)
theorem wp_yes {B : Bool → Sto → Prop} : wp X (mYes ρ S) B = B true S := (rfl)
theorem kLc_map {f : Dt → Dt} (hx : ∀ x ∈ xs, ∀ acc, ∃ ρ1, tgM t (.d x) ρ = some ρ1 ∧ me ρ1 (S ++ [.lst acc]) = .ok (.d (f x)) (S ++ [.lst acc])) (hl : xs.length ≤ big) :
    KLc X t mYes me ρ P (.tup xs) S = P (.r S.length) (S ++ [.lst (xs.map f)]) := by
  rw [kLc_pure (p := fun _ => true) (f := f) (fun x h acc => by
    obtain ⟨ρ1, e1, e2⟩ := hx x h acc
    exact ⟨ρ1, e1, rfl, fun _ => e2⟩) hl, List.filter_eq_self.mpr fun _ _ => rfl]
theorem rngD_length {lo : Int} {n : Nat} : (rngD lo n).length = n := by simp [rngD]
theorem kLcG_T {lo : Int} {n : Nat} : KLc X t mt me ρ P (.rng lo n) S = KLc X t mt me ρ P (.tup (rngD lo n)) S := (rfl)
theorem compC_pure_eq {l : Nat} (hc : sq S l = some c) (hx : ∀ x ∈ c.items, ∀ acc, ∃ ρ1 k, tgM t (.d x) ρ = some ρ1 ∧ mt ρ1 (S ++ [.lst acc]) = .ok k (S ++ [.lst acc]) ∧ (k = true → ∃ y, me ρ1 (S ++ [.lst acc]) = .ok (.d y) (S ++ [.lst acc]))) :
    ∀ (f k : Nat) (acc : List Dt), k + f = c.items.length + 1 → k ≤ c.items.length → compC t mt me ρ S.length l f k (S ++ [.lst acc]) = compL t mt me ρ S.length (c.items.drop k) (S ++ [.lst acc]) := by
  intro f
  induction f with
  | zero => intro k acc e hk; omega
  | succ f ih =>
    intro k acc e hle
    rw [compC, sq_app hc]
    dsimp only
    by_cases hk : k < c.items.length
    · rw [List.getElem?_eq_getElem hk, List.drop_eq_getElem_cons hk]
      dsimp only
      rw [compL]
      obtain ⟨ρ1, b, e1, e2, e3⟩ := hx _ (List.getElem_mem hk) acc
      unfold compT
      rw [e1]
      dsimp only
      rw [e2]
      dsimp only
      cases b with
      | false => rw [if_neg Bool.false_ne_true, if_neg Bool.false_ne_true, ih (k + 1) acc (by omega) (by omega)]
      | true =>
        obtain ⟨y, e4⟩ := e3 rfl
        rw [if_pos rfl, if_pos rfl, e4]
        dsimp only
        rw [get_new]
        dsimp only
        split
        · rw [set_new, ih (k + 1) _ (by omega) (by omega)]
        · rfl
    · rw [List.getElem?_eq_none (by omega), List.drop_eq_nil_of_le (by omega)]
      rfl
/-- a pure comprehension over a cell is one over its items -/
theorem kLcCell {l : Nat} (hc : sq S l = some c) (hx : ∀ x ∈ c.items, ∀ acc, ∃ ρ1 k, tgM t (.d x) ρ = some ρ1 ∧ mt ρ1 (S ++ [.lst acc]) = .ok k (S ++ [.lst acc]) ∧ (k = true → ∃ y, me ρ1 (S ++ [.lst acc]) = .ok (.d y) (S ++ [.lst acc]))) :
    KLc X t mt me ρ P (.cell l) S = KLc X t mt me ρ P (.tup c.items) S := by
  rw [kLcCe, hc, kLcR, kLcT, compC_pure_eq hc hx _ 0 [] (by omega) (by omega)]
  rfl
theorem kLc_mapC {l : Nat} {f : Dt → Dt} (hc : sq S l = some c) (hx : ∀ x ∈ c.items, ∀ acc, ∃ ρ1, tgM t (.d x) ρ = some ρ1 ∧ me ρ1 (S ++ [.lst acc]) = .ok (.d (f x)) (S ++ [.lst acc])) (hl : c.items.length ≤ big) :
    KLc X t mYes me ρ P (.cell l) S = P (.r S.length) (S ++ [.lst (c.items.map f)]) := by
  rw [kLcCell hc fun x h acc => by
    obtain ⟨ρ1, e1, e2⟩ := hx x h acc
    exact ⟨ρ1, true, e1, rfl, fun _ => ⟨_, e2⟩⟩]
  exact kLc_map hx hl
theorem kLc_pureC {l : Nat} {p : Dt → Bool} {f : Dt → Dt} (hc : sq S l = some c) (hx : ∀ x ∈ c.items, ∀ acc, ∃ ρ1, tgM t (.d x) ρ = some ρ1 ∧ mt ρ1 (S ++ [.lst acc]) = .ok (p x) (S ++ [.lst acc]) ∧ (p x = true → me ρ1 (S ++ [.lst acc]) = .ok (.d (f x)) (S ++ [.lst acc]))) (hl : c.items.length ≤ big) :
    KLc X t mt me ρ P (.cell l) S = P (.r S.length) (S ++ [.lst ((c.items.filter p).map f)]) := by
  rw [kLcCell hc fun x h acc => by
    obtain ⟨ρ1, e1, e2, e3⟩ := hx x h acc
    exact ⟨ρ1, p x, e1, e2, fun q => ⟨_, e3 q⟩⟩]
  exact kLc_pure hx hl
/-! enumerate, max of three -/
def KEnum (I : Iv → Sto → Prop) (vs : List Vl) (S : Sto) : Prop := match vs with
  | [.d (.tup xs)] => I (.tup (enuD 0 xs)) S
  | [.d (.fl xs)] => I (.tup (enuD 0 xs)) S
  | _ => False
theorem kEnumT {I : Iv → Sto → Prop} : KEnum I [.d (.tup xs)] S = I (.tup (enuD 0 xs)) S := (rfl)
theorem kEnumL {I : Iv → Sto → Prop} : KEnum I [.d (.fl xs)] S = I (.tup (enuD 0 xs)) S := (rfl)
theorem wp_enum {I : Iv → Sto → Prop} : wp X (mEnum mas ρ S) I = wp X (mas ρ S) (KEnum I) := by
  unfold mEnum
  cases mas ρ S with
  | ok vs S1 =>
    cases vs with
    | nil => rfl
    | cons a r => cases a with
      | d x => cases x with
        | tup ys => cases r <;> rfl
        | fl ys => cases r <;> rfl
        | _ => cases r <;> rfl
      | _ => cases r <;> rfl
  | exc _ _ => rfl
  | bad => rfl
theorem wp_maxT {i j k : Int} : wp X (bMaxT n [.d (.int i), .d (.int j), .d (.int k)] S) P = P (.d (.int (if j > i then (if k > j then k else j) else (if k > i then k else i)))) S := (rfl)
/-! max, min of a list -/
def KMx (P : Vl → Sto → Prop) (g : List Int → Int) (S : Sto) : Option (List Int) → Prop
  | some (m :: ns) => P (.d (.int (g (m :: ns)))) S
  | _ => False
theorem kMx {g : List Int → Int} {m : Int} {ns : List Int} : KMx P g S (some (m :: ns)) = P (.d (.int (g (m :: ns)))) S := (rfl)
def KMxR (P : Vl → Sto → Prop) (g : List Int → Int) (S : Sto) : Option Ce → Prop
  | some c => KMx P g S (toInts c.items)
  | none => False
theorem kMxR {g : List Int → Int} : KMxR P g S (some c) = KMx P g S (toInts c.items) := (rfl)
theorem wp_maxC : wp X (bMax n [.r i] S) P = KMxR P maxI (S.take n) (sq S i) := by
  unfold bMax listInts
  dsimp only
  cases (sq S i) with
  | none => rfl
  | some c =>
    show wp X (match toInts c.items with | some (m :: ns) => _ | _ => _) P = KMx P maxI (S.take n) (toInts c.items)
    cases toInts c.items with
    | none => rfl
    | some l => cases l <;> rfl
theorem wp_minC : wp X (bMin n [.r i] S) P = KMxR P minI (S.take n) (sq S i) := by
  unfold bMin listInts
  dsimp only
  cases (sq S i) with
  | none => rfl
  | some c =>
    show wp X (match toInts c.items with | some (m :: ns) => _ | _ => _) P = KMx P minI (S.take n) (toInts c.items)
    cases toInts c.items with
    | none => rfl
    | some l => cases l <;> rfl
/-! comprehensions over written-out items -/
def KCp2 (X : XP) (t : Tg) (mt : MT) (me : ME) (ρ : Rho) (n : Nat) (xs : List Dt) (P : Vl → Sto → Prop) (y : Dt) (S3 : Sto) : Option Ce → Prop
  | some (.lst acc) => acc.length ≤ big ∧ wp X (compL t mt me ρ n xs (S3.set n (.lst (acc ++ [y])))) P
  | _ => False
def KCp1 (X : XP) (t : Tg) (mt : MT) (me : ME) (ρ : Rho) (n : Nat) (xs : List Dt) (P : Vl → Sto → Prop) (v : Vl) (S3 : Sto) : Prop := match v with
  | .d y => KCp2 X t mt me ρ n xs P y S3 S3[n]?
  | _ => False
def KCp0 (X : XP) (t : Tg) (mt : MT) (me : ME) (ρ ρ1 : Rho) (n : Nat) (xs : List Dt) (P : Vl → Sto → Prop) (k : Bool) (S2 : Sto) : Prop := if k = true then wp nX (me ρ1 S2) (KCp1 X t mt me ρ n xs P) else wp X (compL t mt me ρ n xs S2) P
theorem wp_comp0 : wp X (compL t mt me ρ n [] S) P = P (.r n) S := (rfl)
theorem wp_comp1 : wp X (compL (.one i) mt me ρ n (x :: xs) S) P = wp nX (mt (ρ.set i (some (.d x))) S) (KCp0 X (.one i) mt me ρ (ρ.set i (some (.d x))) n xs P) := by
  rw [compL, compT]
  show wp X (match mt (ρ.set i (some (.d x))) S with | .ok k S2 => _ | _ => _) P = _
  cases mt (ρ.set i (some (.d x))) S with
  | ok k S2 =>
    cases k with
    | false => rfl
    | true =>
      show wp X (match me (ρ.set i (some (.d x))) S2 with | .ok v S3 => _ | _ => _) P = wp nX (me (ρ.set i (some (.d x))) S2) _
      cases me (ρ.set i (some (.d x))) S2 with
      | ok v S3 =>
        cases v with
        | d y =>
          show wp X (match S3[n]? with | some (.lst acc) => _ | _ => _) P = KCp2 X (.one i) mt me ρ n xs P y S3 S3[n]?
          cases S3[n]? with
          | none => rfl
          | some c => cases c with
            | lst acc => exact wp_ifk
            | frz acc => rfl
            | oth o => rfl
            | ofz o => rfl
        | r _ => rfl
        | e _ => rfl
      | exc _ _ => rfl
      | bad => rfl
  | exc _ _ => rfl
  | bad => rfl
theorem kCp0 {k : Bool} {ρ1 : Rho} : KCp0 X t mt me ρ ρ1 n xs P k S = if k = true then wp nX (me ρ1 S) (KCp1 X t mt me ρ n xs P) else wp X (compL t mt me ρ n xs S) P := (rfl)
theorem kCp1 : KCp1 X t mt me ρ n xs P (.d x) S = KCp2 X t mt me ρ n xs P x S S[n]? := (rfl)
theorem kCp2 {acc : List Dt} : KCp2 X t mt me ρ n xs P x S (some (.lst acc)) = (acc.length ≤ big ∧ wp X (compL t mt me ρ n xs (S.set n (.lst (acc ++ [x])))) P) := (rfl)
theorem rngD_3 : rngD 0 3 = [.int 0, .int 1, .int 2] := (rfl)
theorem rngD_2 : rngD 0 2 = [.int 0, .int 1] := (rfl)
theorem rngD_1 : rngD 0 1 = [.int 0] := (rfl)
theorem rngD_4 : rngD 0 4 = [.int 0, .int 1, .int 2, .int 3] := (rfl)
/-! cuts -/
theorem cut_pre {k : Int} (h : 0 ≤ k) : cutD xs none (some k) = xs.take k.toNat := by
  obtain ⟨m, rfl⟩ := Int.eq_ofNat_of_zero_le h
  unfold cutD
  rw [HT.sIx_none, HT.sIx_nat]
  simp
theorem cut_post {k : Int} (h : 0 ≤ k) : cutD xs (some k) none = xs.drop k.toNat := by
  obtain ⟨m, rfl⟩ := Int.eq_ofNat_of_zero_le h
  unfold cutD
  rw [HT.sIx_none, HT.sIx_nat]
  simp only [Int.toNat_natCast]
  by_cases hm : m ≤ xs.length
  · rw [Nat.min_eq_left hm, List.take_of_length_le (by simp)]
  · rw [Nat.min_eq_right (by omega), List.drop_eq_nil_of_le (Nat.le_refl _), List.drop_eq_nil_of_le (by omega)]
    simp
theorem cut_mem {lo hi : Option Int} {x : Dt} (h : x ∈ cutD xs lo hi) : x ∈ xs := by
  unfold cutD at h
  exact List.mem_of_mem_drop (List.mem_of_mem_take h)
theorem cut_len {lo hi : Option Int} : (cutD xs lo hi).length ≤ xs.length := by
  unfold cutD
  rw [List.length_take, List.length_drop]
  omega
theorem cut_map {α : Type} {f : α → Dt} {as : List α} {lo hi : Option Int} : ∃ bs : List α, cutD (as.map f) lo hi = bs.map f ∧ (∀ b ∈ bs, b ∈ as) ∧ bs.length ≤ as.length := by
  refine ⟨(as.drop (HT.sIx as.length 0 lo)).take (HT.sIx as.length as.length hi - HT.sIx as.length 0 lo), ?_, ?_, ?_⟩
  · unfold cutD
    rw [List.length_map, List.map_take, List.map_drop]
  · exact fun b hb => List.mem_of_mem_drop (List.mem_of_mem_take hb)
  · rw [List.length_take, List.length_drop]
    omega
/-! arithmetic's bounds -/
theorem natAbs_10 : Int.natAbs 10 = 10 := (rfl)
theorem natAbs_2 : Int.natAbs 2 = 2 := (rfl)
theorem okMul_l (h : -(2 ^ 64) < j ∧ j < 2 ^ 64) : okMul j k := .inl (.inl h)
theorem okMul_r (h : -(2 ^ 64) < k ∧ k < 2 ^ 64) : okMul j k := .inl (.inr h)
theorem okDiv_s (h : j ≠ 0 ∧ j.natAbs < 1073741824) : okDiv k j := .inr h
theorem okDiv_w (h : 0 < j) (h2 : j ≤ 10 ^ 60) : okDiv k j := by
  refine .inl ⟨h, ?_⟩
  have : j.natAbs < 2 ^ 200 := by omega
  exact Nat.lt_of_lt_of_le ((Nat.log2_lt (by omega)).mpr this) (by decide)
/-- a loop over a range by what holds ahead of its k-th turn -/
theorem ws_invR {I : Nat → Rho → Sto → Prop} {lo : Int} {n : Nat} (step : ∀ k, k < n → ∀ ρ S, I k ρ S → ∃ ρ1, tgM t (.d (.int (lo + (k : Nat)))) ρ = some ρ1 ∧ ws (m1 ρ1 S) (QLi (I (k + 1)) Q)) (fin : ∀ ρ S, I n ρ S → Q.nx ρ S) (h : I 0 ρ S) : ws (loopL t m1 (rngD lo n) ρ S) Q := by
  refine ws_inv (I := fun r ρ S => ∃ k, k ≤ n ∧ r = (rngD lo n).drop k ∧ I k ρ S) ?_ ?_ ⟨0, Nat.zero_le _, rfl, h⟩
  · rintro x r ρ S ⟨k, hk, e, hI⟩
    have hkn : k < n := by
      rcases Nat.lt_or_ge k n with q | q
      · exact q
      · rw [List.drop_eq_nil_of_le (by rw [rngD_length]; exact q)] at e
        cases e
    have hg : (rngD lo n)[k]'(by rw [rngD_length]; exact hkn) = .int (lo + (k : Nat)) := by
      have := rng_get (lo := lo) hkn
      rw [List.getElem?_eq_getElem (by rw [rngD_length]; exact hkn)] at this
      exact Option.some.inj this
    rw [List.drop_eq_getElem_cons (by rw [rngD_length]; exact hkn), hg] at e
    cases e
    obtain ⟨ρ1, e1, q⟩ := step k hkn ρ S hI
    exact ⟨ρ1, e1, ws_imp q (fun ρ S q => ⟨k + 1, hkn, rfl, q⟩) (fun _ _ q => q) (fun _ _ _ q => q) (fun _ _ q => q) (fun ρ S q => ⟨k + 1, hkn, rfl, q⟩)⟩
  · rintro ρ S ⟨k, hk, e, hI⟩
    have hkn : k = n := by
      have := congrArg List.length e
      rw [List.length_drop, rngD_length] at this
      simp at this
      omega
    subst hkn
    exact fin ρ S hI
end
end Mo
/-! Run lemmas of the newer meanings: dicts, freezing, methods, sorted. -/
namespace Mo
open PySem L2
section
variable {X : XP} {ρ : Rho} {S : Sto} {P : Vl → Sto → Prop} {Q : Qs} {ma mb mc me : ME} {mas : MA} {i j n : Nat} {v w : Vl} {vs : List Vl} {xs ys : List Dt} {x k : Dt} {kvs : List (Dt × Dt)} {ks : List Dt}
/-! subscripts -/
theorem wp_ixD_T {z : Int} : wp X (vIxD n (.d (.tup xs)) (.d (.int z)) S) P = KDt P S (atI xs z) := wp_ix (n := n)
theorem wp_ixD_L {z : Int} : wp X (vIxD n (.d (.fl xs)) (.d (.int z)) S) P = KDt P S (atI xs z) := by
  show wp X (vIx n (.d (.fl xs)) (.d (.int z)) S) P = _
  unfold vIx
  dsimp only
  cases atI xs z <;> rfl
def KKey (A : Bool) (B : Prop) : Prop := A = true ∧ B
theorem kKey {B : Prop} : KKey true B = B := by simp [KKey]
theorem keyOf_i {z : Int} : (keyOf (.int z)).isSome = true := (rfl)
theorem keyOf_s {z : Str} : (keyOf (.str z)).isSome = true := (rfl)
theorem wp_dget {o : Oc} {d : Dt} : wp X (if keyOk o d = true then match getD o.kvs d with | some x => .ok (.d x) S | none => .bad else .bad : Rs Vl) P = KKey (keyOk o d) (KDt P S (getD o.kvs d)) := by
  unfold KKey
  by_cases h : keyOk o d = true
  · rw [if_pos h]
    cases getD o.kvs d <;> simp [h, KDt, wp]
  · rw [if_neg h]
    simp [h, wp]
theorem wp_ixD_FK : wp X (vIxD n (.d (.fd false ks xs)) (.d k) S) P = KKey (keyOf k).isSome (KDt P S (getD (ks.zip xs) k)) := wp_dget (o := .dK (ks.zip xs))
theorem wp_ixD_FN : wp X (vIxD n (.d (.fd true ks xs)) (.d k) S) P = KKey (keyT k) (KDt P S (getD (ks.zip xs) k)) := wp_dget (o := .dN (ks.zip xs))
def KIxD (X : XP) (P : Vl → Sto → Prop) (n i : Nat) (k : Dt) (S : Sto) : Option Ce → Prop
  | some (.oth o) => KKey (keyOk o k) (KDt P S (getD o.kvs k))
  | some (.ofz o) => KKey (keyOk o k) (KDt P S (getD o.kvs k))
  | _ => wp X (vIx n (.r i) (.d k) S) P
theorem wp_ixD_C : wp X (vIxD n (.r i) (.d k) S) P = KIxD X P n i k S S[i]? := by
  unfold vIxD dOf dcell KIxD
  dsimp only
  cases S[i]? with
  | none => rfl
  | some c => cases c with
    | lst xs => rfl
    | frz xs => rfl
    | oth o => exact wp_dget
    | ofz o => exact wp_dget
theorem kIxD_l {z : Int} : KIxD X P n i (.int z) S (some (.lst xs)) = KIxR P S z (sq S i) := wp_ixC
theorem kIxD_f {z : Int} : KIxD X P n i (.int z) S (some (.frz xs)) = KIxR P S z (sq S i) := wp_ixC
theorem kIxD_k : KIxD X P n i k S (some (.oth (.dK kvs))) = KKey (keyOf k).isSome (KDt P S (getD kvs k)) := (rfl)
theorem kIxD_n : KIxD X P n i k S (some (.oth (.dN kvs))) = KKey (keyT k) (KDt P S (getD kvs k)) := (rfl)
theorem kIxD_kf : KIxD X P n i k S (some (.ofz (.dK kvs))) = KKey (keyOf k).isSome (KDt P S (getD kvs k)) := (rfl)
theorem kIxD_nf : KIxD X P n i k S (some (.ofz (.dN kvs))) = KKey (keyT k) (KDt P S (getD kvs k)) := (rfl)
/-! in -/
def KIn (P : Vl → Sto → Prop) (n : Nat) (S : Sto) : Option Bool → Prop
  | some b => P (.d (.bl b)) (S.take n)
  | none => False
theorem kIn {b : Bool} : KIn P n S (some b) = P (.d (.bl b)) (S.take n) := (rfl)
def KNi (P : Vl → Sto → Prop) (n : Nat) (S : Sto) : Option Bool → Prop
  | some b => P (.d (.bl (!b))) (S.take n)
  | none => False
theorem kNi {b : Bool} : KNi P n S (some b) = P (.d (.bl (!b))) (S.take n) := (rfl)
theorem wp_inD : wp X (vInD n v w S) P = KIn P n S (inAll v w S) := by
  unfold vInD
  cases inAll v w S <;> rfl
theorem wp_notInD : wp X (vNotInD n v w S) P = KNi P n S (inAll v w S) := by
  unfold vNotInD
  cases inAll v w S <;> rfl
def inC (v w : Vl) (x : Dt) (S : Sto) : Option Ce → Option Bool
  | some (.oth o) => if keyOk o x = true then some (getD o.kvs x).isSome else none
  | some (.ofz o) => if keyOk o x = true then some (getD o.kvs x).isSome else none
  | _ => inAll v w S
theorem inAll_C : inAll (.d x) (.r i) S = inC (.d x) (.r i) x S S[i]? := by
  unfold inC
  cases e : S[i]? with
  | none => rfl
  | some c => cases c with
    | lst xs => rfl
    | frz xs => rfl
    | oth o => unfold inAll dOf; dsimp only; rw [e]; rfl
    | ofz o => unfold inAll dOf; dsimp only; rw [e]; rfl
theorem inC_k : inC v w x S (some (.oth (.dK kvs))) = if (keyOf x).isSome = true then some (getD kvs x).isSome else none := (rfl)
theorem inC_n : inC v w x S (some (.oth (.dN kvs))) = if keyT x = true then some (getD kvs x).isSome else none := (rfl)
theorem inC_kf : inC v w x S (some (.ofz (.dK kvs))) = if (keyOf x).isSome = true then some (getD kvs x).isSome else none := (rfl)
theorem inC_nf : inC v w x S (some (.ofz (.dN kvs))) = if keyT x = true then some (getD kvs x).isSome else none := (rfl)
theorem flat_ints (ns : List Int) : (ns.map Dt.int).all flatD = true := by
  induction ns with
  | nil => rfl
  | cons n ns ih => rw [List.map_cons, List.all_cons, ih]; rfl
theorem mem_ints (z : Int) (ns : List Int) : memD (.int z) (ns.map .int) = decide (z ∈ ns) := by
  unfold memD
  induction ns with
  | nil => rfl
  | cons n ns ih =>
    rw [List.map_cons, List.any_cons, ih, eqD]
    by_cases h : n = z
    · subst h; simp
    · have : ¬ z = n := fun q => h q.symm
      simp [h, this]
theorem inAll_ints {z : Int} {ns : List Int} (e : S[i]? = some (.lst (ns.map .int))) : inAll (.d (.int z)) (.r i) S = some (decide (z ∈ ns)) := by
  have e1 : dOf (.r i) S = none := by show dcell S[i]? = none; rw [e]; rfl
  have e2 : inB (.d (.int z)) (.r i) S = some (decide (z ∈ ns)) := by
    have e3 : sq S i = some (.lst (ns.map .int)) := by rw [sq, e]; rfl
    show (match sq S i with | some c => if flatD (.int z) && c.items.all flatD then some (memD (.int z) c.items) else none | _ => none) = _
    rw [e3]
    show (if flatD (.int z) && (ns.map Dt.int).all flatD then some (memD (.int z) (ns.map Dt.int)) else none) = _
    rw [flat_ints, mem_ints]
    rfl
  unfold inAll
  rw [e1]
  dsimp only
  rw [e2]
theorem inAll_tints {z : Int} {ns : List Int} : inAll (.d (.int z)) (.d (.tup (ns.map .int))) S = some (decide (z ∈ ns)) := by
  have e2 : inB (.d (.int z)) (.d (.tup (ns.map .int))) S = some (decide (z ∈ ns)) := by
    show (if flatD (.int z) && (ns.map Dt.int).all flatD then some (memD (.int z) (ns.map Dt.int)) else none) = _
    rw [flat_ints, mem_ints]
    rfl
  unfold inAll
  show (match inB (.d (.int z)) (.d (.tup (ns.map .int))) S with | some k => some k | none => _) = _
  rw [e2]
/-! len -/
def KLenD (X : XP) (P : Vl → Sto → Prop) (n i : Nat) (S : Sto) : Option Ce → Prop
  | some (.oth o) => P (.d (.int o.kvs.length)) (S.take n)
  | some (.ofz o) => P (.d (.int o.kvs.length)) (S.take n)
  | _ => wp X (bLen n [.r i] S) P
theorem wp_lenD_T : wp X (bLenD n [.d (.tup xs)] S) P = P (.d (.int xs.length)) (S.take n) := (rfl)
theorem wp_lenD_L : wp X (bLenD n [.d (.fl xs)] S) P = P (.d (.int xs.length)) (S.take n) := (rfl)
theorem wp_lenD_F {b : Bool} : wp X (bLenD n [.d (.fd b ks xs)] S) P = P (.d (.int (ks.zip xs).length)) (S.take n) := by cases b <;> rfl
theorem wp_lenD_C : wp X (bLenD n [.r i] S) P = KLenD X P n i S S[i]? := by
  unfold bLenD dOf dcell KLenD
  dsimp only
  cases S[i]? with
  | none => rfl
  | some c => cases c <;> rfl
theorem kLenD_l : KLenD X P n i S (some (.lst xs)) = KLenR P n S (sq S i) := wp_lenC
theorem kLenD_f : KLenD X P n i S (some (.frz xs)) = KLenR P n S (sq S i) := wp_lenC
theorem kLenD_k : KLenD X P n i S (some (.oth (.dK kvs))) = P (.d (.int kvs.length)) (S.take n) := (rfl)
theorem kLenD_n : KLenD X P n i S (some (.oth (.dN kvs))) = P (.d (.int kvs.length)) (S.take n) := (rfl)
theorem kLenD_kf : KLenD X P n i S (some (.ofz (.dK kvs))) = P (.d (.int kvs.length)) (S.take n) := (rfl)
theorem kLenD_nf : KLenD X P n i S (some (.ofz (.dN kvs))) = P (.d (.int kvs.length)) (S.take n) := (rfl)
/-! new dicts -/
theorem wp_dnewK : wp X (mDNewK ρ S) P = P (.r S.length) (S ++ [.oth (.dK [])]) := (rfl)
theorem wp_dnewN : wp X (mDNewN ρ S) P = P (.r S.length) (S ++ [.oth (.dN [])]) := (rfl)
/-! stores -/
def KPd1 (ma mb : ME) (ρ : Rho) (Q : Qs) (w : Vl) (S : Sto) : Prop := wp (KX Q ρ) (ma ρ S) fun v S2 => wp (KX Q ρ) (mb ρ S2) fun k S3 => ws (putD v k w ρ S3) Q
def KPd2 (mb : ME) (ρ : Rho) (w : Vl) (Q : Qs) (v : Vl) (S : Sto) : Prop := wp (KX Q ρ) (mb ρ S) fun k S3 => ws (putD v k w ρ S3) Q
def KPd3 (ρ : Rho) (v w : Vl) (Q : Qs) (k : Vl) (S : Sto) : Prop := ws (putD v k w ρ S) Q
theorem ws_putD : ws (mPutD ma mb me ρ S) Q = wp (KX Q ρ) (me ρ S) (KPd1 ma mb ρ Q) := by
  unfold mPutD
  rw [ws_thenS]
  congr
  funext w S1
  rw [ws_thenS]
  unfold KPd1
  congr
  funext v S2
  rw [ws_thenS]
theorem kPd1 : KPd1 ma mb ρ Q w S = wp (KX Q ρ) (ma ρ S) (KPd2 mb ρ w Q) := (rfl)
theorem kPd2 : KPd2 mb ρ w Q v S = wp (KX Q ρ) (mb ρ S) (KPd3 ρ v w Q) := (rfl)
def KPdC (ρ : Rho) (Q : Qs) (i : Nat) (k x : Dt) (S : Sto) : Option Ce → Prop
  | some (.oth (.dK kvs)) => KKey (keyOf k).isSome (kvs.length ≤ big ∧ Q.nx ρ (S.set i (.oth (.dK (setD kvs k x)))))
  | some (.oth (.dN kvs)) => KKey (keyT k) (kvs.length ≤ big ∧ Q.nx ρ (S.set i (.oth (.dN (setD kvs k x)))))
  | _ => KPut3 ρ (.r i) (.d x) Q (.d k) S
theorem kPd3 : KPd3 ρ (.r i) (.d x) Q (.d k) S = KPdC ρ Q i k x S S[i]? := by
  unfold KPd3 putD KPdC
  dsimp only
  cases S[i]? with
  | none => rfl
  | some c => cases c with
    | lst xs => rfl
    | frz xs => rfl
    | ofz o => rfl
    | oth o =>
      cases o with
      | dK kvs =>
        show ws (if keyOk (.dK kvs) k = true ∧ kvs.length ≤ big then _ else _) Q = _
        unfold KKey
        by_cases h : keyOk (.dK kvs) k = true ∧ kvs.length ≤ big
        · rw [if_pos h]
          have h1 : (keyOf k).isSome = true := h.1
          simp [h1, h.2, ws]
        · rw [if_neg h]
          have h1 : ¬ ((keyOf k).isSome = true ∧ kvs.length ≤ big) := h
          simp only [ws, eq_iff_iff, false_iff]
          exact fun q => h1 ⟨q.1, q.2.1⟩
      | dN kvs =>
        show ws (if keyOk (.dN kvs) k = true ∧ kvs.length ≤ big then _ else _) Q = _
        unfold KKey
        by_cases h : keyOk (.dN kvs) k = true ∧ kvs.length ≤ big
        · rw [if_pos h]
          have h1 : keyT k = true := h.1
          simp [h1, h.2, ws]
        · rw [if_neg h]
          have h1 : ¬ (keyT k = true ∧ kvs.length ≤ big) := h
          simp only [ws, eq_iff_iff, false_iff]
          exact fun q => h1 ⟨q.1, q.2.1⟩
theorem kPdC_k : KPdC ρ Q i k x S (some (.oth (.dK kvs))) = KKey (keyOf k).isSome (kvs.length ≤ big ∧ Q.nx ρ (S.set i (.oth (.dK (setD kvs k x))))) := (rfl)
theorem kPdC_n : KPdC ρ Q i k x S (some (.oth (.dN kvs))) = KKey (keyT k) (kvs.length ≤ big ∧ Q.nx ρ (S.set i (.oth (.dN (setD kvs k x))))) := (rfl)
theorem kPdC_l {z : Int} (e : S[i]? = some (.lst ys)) : KPdC ρ Q i (.int z) x S (some (.lst xs)) = KPutR ρ Q i z x S S[i]? := kPutC
theorem kPdC_l' {z : Int} : KPdC ρ Q i (.int z) x S (some (.lst xs)) = KPutR ρ Q i z x S S[i]? := kPutC
/-! freezing -/
def KFz (P : Vl → Sto → Prop) (v : Vl) (S : Sto) : Prop := wp nX (frzR v S) P
theorem wp_frz : wp X (frzR v S) P = KFz P v S := by
  unfold KFz frzR
  split
  · split <;> rfl
  · rfl
theorem wp_fz : wp X (mFz me ρ S) P = wp X (me ρ S) (KFz P) := by
  unfold mFz
  rw [wp_bind]
  congr
  funext v S1
  exact wp_frz
theorem kFz_d : KFz P (.d x) S = P (.d x) S := (rfl)
def KFzC (P : Vl → Sto → Prop) (i : Nat) (S : Sto) : Option Ce → Prop
  | some (.lst xs) => P (.d (.fl xs)) (S.set i (.frz xs))
  | some (.frz xs) => P (.d (.fl xs)) S
  | some (.oth (.dK kvs)) => P (.d (.fd false (kvs.map (·.1)) (kvs.map (·.2)))) (S.set i (.ofz (.dK kvs)))
  | some (.oth (.dN kvs)) => P (.d (.fd true (kvs.map (·.1)) (kvs.map (·.2)))) (S.set i (.ofz (.dN kvs)))
  | some (.ofz (.dK kvs)) => P (.d (.fd false (kvs.map (·.1)) (kvs.map (·.2)))) S
  | some (.ofz (.dN kvs)) => P (.d (.fd true (kvs.map (·.1)) (kvs.map (·.2)))) S
  | none => False
theorem kFz_r : KFz P (.r i) S = KFzC P i S S[i]? := by
  unfold KFz frzR KFzC
  dsimp only
  cases S[i]? with
  | none => rfl
  | some c => cases c with
    | lst xs => rfl
    | frz xs => rfl
    | oth o => cases o <;> rfl
    | ofz o => cases o <;> rfl
theorem kFzC_l : KFzC P i S (some (.lst xs)) = P (.d (.fl xs)) (S.set i (.frz xs)) := (rfl)
theorem kFzC_f : KFzC P i S (some (.frz xs)) = P (.d (.fl xs)) S := (rfl)
theorem kFzC_k : KFzC P i S (some (.oth (.dK kvs))) = P (.d (.fd false (kvs.map (·.1)) (kvs.map (·.2)))) (S.set i (.ofz (.dK kvs))) := (rfl)
theorem kFzC_n : KFzC P i S (some (.oth (.dN kvs))) = P (.d (.fd true (kvs.map (·.1)) (kvs.map (·.2)))) (S.set i (.ofz (.dN kvs))) := (rfl)
/-! methods -/
variable {f : Nat → Nat → List Vl → Sto → Rs Vl}
def KMe1 (X : XP) (f : Nat → Nat → List Vl → Sto → Rs Vl) (mas : MA) (n : Nat) (ρ : Rho) (P : Vl → Sto → Prop) (v : Vl) (S : Sto) : Prop := match v with
  | .r i => KSq (wp X (mas ρ S) fun vs S2 => wp X (f n i vs S2) P) (sq S i)
  | _ => False
def KMe2 (X : XP) (f : Nat → Nat → List Vl → Sto → Rs Vl) (n i : Nat) (P : Vl → Sto → Prop) (vs : List Vl) (S : Sto) : Prop := wp X (f n i vs S) P
theorem wp_meth : wp X (mMeth f ma mas ρ S) P = wp X (ma ρ S) (KMe1 X f mas S.length ρ P) := by
  unfold mMeth
  rw [wp_bind]
  congr
  funext v S1
  cases v with
  | d _ => rfl
  | e _ => rfl
  | r i =>
    unfold KMe1
    dsimp only
    cases sq S1 i with
    | none => rfl
    | some c => exact wp_bind
theorem kMe1 : KMe1 X f mas n ρ P (.r i) S = KSq (wp X (mas ρ S) (KMe2 X f n i P)) (sq S i) := (rfl)
theorem kMe2 : KMe2 X f n i P vs S = wp X (f n i vs S) P := (rfl)
def KDtS (P : Vl → Sto → Prop) (S : Sto) : Option Dt → Prop
  | some x => P (.d x) S
  | none => False
theorem kDtS : KDtS P S (some x) = P (.d x) S := (rfl)
def KPop (P : Vl → Sto → Prop) (i : Nat) (S : Sto) : Option Ce → Prop
  | some (.lst xs) => KDtS P (S.set i (.lst xs.dropLast)) xs[xs.length - 1]?
  | _ => False
theorem wp_pop : wp X (fPop n i [] S) P = KPop P i S S[i]? := by
  unfold fPop KPop
  cases S[i]? with
  | none => rfl
  | some c => cases c with
    | lst xs =>
      dsimp only
      cases xs[xs.length - 1]? <;> rfl
    | _ => rfl
theorem kPop : KPop P i S (some (.lst xs)) = KDtS P (S.set i (.lst xs.dropLast)) xs[xs.length - 1]? := (rfl)
def KPopAt (P : Vl → Sto → Prop) (i : Nat) (z : Int) (S : Sto) : Option Ce → Prop
  | some (.lst xs) => (0 ≤ z ∧ z < 2 ^ 63) ∧ KDtS P (S.set i (.lst (xs.eraseIdx z.toNat))) xs[z.toNat]?
  | _ => False
theorem wp_popAt {z : Int} : wp X (fPopAt n i [.d (.int z)] S) P = KPopAt P i z S S[i]? := by
  unfold fPopAt KPopAt
  cases S[i]? with
  | none => rfl
  | some c => cases c with
    | lst xs =>
      dsimp only
      by_cases h : 0 ≤ z ∧ z < 2 ^ 63
      · rw [if_pos h]
        rw [eq_true h, true_and]
        cases xs[z.toNat]? <;> rfl
      · rw [if_neg h]
        simp only [h, false_and]
        rfl
    | _ => rfl
theorem kPopAt {z : Int} : KPopAt P i z S (some (.lst xs)) = ((0 ≤ z ∧ z < 2 ^ 63) ∧ KDtS P (S.set i (.lst (xs.eraseIdx z.toNat))) xs[z.toNat]?) := (rfl)
def KIns (P : Vl → Sto → Prop) (i : Nat) (z : Int) (x : Dt) (S : Sto) : Option Ce → Prop
  | some (.lst xs) => ((0 ≤ z ∧ z < 2 ^ 63) ∧ xs.length ≤ big) ∧ P (.d .non) (S.set i (.lst (xs.take z.toNat ++ [x] ++ xs.drop z.toNat)))
  | _ => False
theorem wp_insert {z : Int} : wp X (fInsert n i [.d (.int z), .d x] S) P = KIns P i z x S S[i]? := by
  unfold fInsert KIns
  cases S[i]? with
  | none => rfl
  | some c => cases c with
    | lst xs => exact wp_ifb
    | _ => rfl
theorem kIns {z : Int} : KIns P i z x S (some (.lst xs)) = (((0 ≤ z ∧ z < 2 ^ 63) ∧ xs.length ≤ big) ∧ P (.d .non) (S.set i (.lst (xs.take z.toNat ++ [x] ++ xs.drop z.toNat)))) := (rfl)
def KExt2 (P : Vl → Sto → Prop) (i : Nat) (xs : List Dt) (S : Sto) : Option Ce → Prop
  | some (.lst ys) => xs.length + ys.length ≤ big ∧ P (.d .non) (S.set i (.lst (xs ++ ys)))
  | _ => False
def KExt (P : Vl → Sto → Prop) (i j : Nat) (S : Sto) : Option Ce → Prop
  | some (.lst xs) => KExt2 P i xs S S[j]?
  | _ => False
theorem wp_extend : wp X (fExtend n i [.r j] S) P = KExt P i j S S[i]? := by
  unfold fExtend KExt
  cases S[i]? with
  | none => rfl
  | some c => cases c with
    | lst xs =>
      dsimp only
      unfold KExt2
      cases S[j]? with
      | none => rfl
      | some c => cases c with
        | lst ys => exact wp_ifb
        | _ => rfl
    | _ => rfl
theorem kExt : KExt P i j S (some (.lst xs)) = KExt2 P i xs S S[j]? := (rfl)
theorem kExt2 : KExt2 P i xs S (some (.lst ys)) = (xs.length + ys.length ≤ big ∧ P (.d .non) (S.set i (.lst (xs ++ ys)))) := (rfl)
/-! bits, shifts -/
def KBits (P : Vl → Sto → Prop) (v : Vl) (S : Sto) : Prop := match v with
  | .d (.int z) => P (.d (.int (Builtin.Int.intBits z : Nat))) S
  | _ => False
theorem wp_bits : wp X (mBits ma ρ S) P = wp X (ma ρ S) (KBits P) := by
  unfold mBits
  rw [wp_bind]
  congr
  funext v S1
  cases v with
  | d x => cases x <;> rfl
  | _ => rfl
theorem kBits {z : Int} : KBits P (.d (.int z)) S = P (.d (.int (Builtin.Int.intBits z : Nat))) S := (rfl)
theorem wp_shl {a b : Int} : wp X (vShl n (.d (.int a)) (.d (.int b)) S) P = ((0 ≤ b ∧ b ≤ 1000000 ∧ a.natAbs < 2 ^ 64) ∧ P (.d (.int (a * 2 ^ b.toNat))) S) := wp_ifb
theorem wp_shr {a b : Int} : wp X (vShr n (.d (.int a)) (.d (.int b)) S) P = (0 ≤ b ∧ P (.d (.int (a / 2 ^ b.toNat))) S) := wp_ifb
theorem wp_band {a b : Int} : wp X (vAnd n (.d (.int a)) (.d (.int b)) S) P = P (.d (.int (Builtin.bitAnd a b))) S := (rfl)
theorem wp_bor {a b : Int} : wp X (vOr n (.d (.int a)) (.d (.int b)) S) P = P (.d (.int (Builtin.bitOr a b))) S := (rfl)
/-! sorted -/
def KSoI (P : Vl → Sto → Prop) (n : Nat) (S : Sto) : Option (List Int) → Prop
  | some ns => P (.r n) (S.take n ++ [.lst ((sortI ns).map .int)])
  | none => False
theorem kSoI {ns : List Int} : KSoI P n S (some ns) = P (.r n) (S.take n ++ [.lst ((sortI ns).map .int)]) := (rfl)
theorem wp_sortT : wp X (bSorted n [.d (.tup xs)] S) P = KSoI P n S (toInts xs) := by
  unfold bSorted
  dsimp only
  cases toInts xs <;> rfl
def KSoC (P : Vl → Sto → Prop) (n : Nat) (S : Sto) (xs : List Dt) : Option (List Int) → Option (List (Int × Int)) → Prop
  | some ns, _ => P (.r n) (S.take n ++ [.lst ((sortI ns).map .int)])
  | none, some ns => P (.r n) (S.take n ++ [.lst ((sortP ns).map prD')])
  | none, none => False
def KSoR (P : Vl → Sto → Prop) (n : Nat) (S : Sto) : Option Ce → Prop
  | some c => KSoC P n S c.items (toInts c.items) (toPrs c.items)
  | none => False
theorem wp_sortC : wp X (bSorted n [.r i] S) P = KSoR P n S (sq S i) := by
  unfold bSorted KSoR
  dsimp only
  cases sq S i with
  | none => rfl
  | some c =>
    dsimp only
    cases toInts c.items with
    | some ns => rfl
    | none => cases toPrs c.items <;> rfl
theorem kSoR {c : Ce} : KSoR P n S (some c) = KSoC P n S c.items (toInts c.items) (toPrs c.items) := (rfl)
theorem kSoC_i {ns : List Int} {o : Option (List (Int × Int))} : KSoC P n S xs (some ns) o = P (.r n) (S.take n ++ [.lst ((sortI ns).map .int)]) := (rfl)
theorem kSoC_p {ns : List (Int × Int)} : KSoC P n S xs none (some ns) = P (.r n) (S.take n ++ [.lst ((sortP ns).map prD')]) := (rfl)
theorem keyT_2i (a b : Int) : keyT (.tup [.int a, .int b]) = true := (rfl)
theorem keyT_is (a : Int) (b : Str) : keyT (.tup [.int a, .str b]) = true := (rfl)
theorem lpE {l : List Dt} {t : Tg} {m1 : MS} (h : 0 < l.length) : True := trivial
/-! a loop with many targets -/
theorem ws_loopM {is : List Nat} {m1 : MS} {zs : List Dt} (e : zs.length = is.length) : ws (loopL (.many is) m1 (.tup zs :: xs) ρ S) Q = ws (m1 (setAll ρ is zs) S) (QLp (loopL (.many is) m1 xs) Q) := by
  rw [loopL, tgM, if_pos e]
  exact ws_after
end
end Mo
/-! What many laws share: data that may be compared, the laws' sources and draws, the plain checks. -/
namespace Mo
open PySem L2
local macro_rules | `(tactic| exists $ts,*) => `(tactic| simp only [wp_ok, wp_exc, wp_bad, wp_var, kV, wp_c, wp_op, kOp1, kOp2, wp_t, kT, wp_chain, kCh1, kCh2, kCh3, kCh4, wp_and, wp_or, wp_not, kAnd, kOr, kNot, wp_andV, wp_orV, wp_notV, kAndV, kOrV, kNotV, wp_neg, kNeg, wp_ifE, kIfE, wp_nil, wp_cons, kC1, kC2, wp_tup, wp_lst, kTup0, kTup1, kTup2, kTup3, kTup4, kTup5, kTup6, kTup7, kTup8, kTup9, kTup10, kTup11, kTup12, kLst0, kLst1, kLst2, kLst3, kLst4, kLst5, kLst6, kLst7, kLst8, kLst9, kLst10, kLst11, kLst12, wp_fn, kFn, wp_call, kCall, wp_isi, kIsi_int, kIsi_bool, kIsi_tup, kIsi_list, kIsiR_int, kIsiR_bool, kIsiR_tup, kIsiR_list, okT_non, okT_bl, okT_int, okT_str, okT_tup, okT_fl, isLstD, wp_noPart, wp_part, kPart, wp_sl, kSl1, kSl2, kSl3T, kSl3L, kSl3C, kSlR, wp_rev, kRev, wp_listRg1, kLq, wp_listRg2, kLr1, kLr2, ws_seq, qSeq_nx, qSeq_rt, qSeq_ex, qSeq_br, qSeq_ct, ws_skip, ws_break, ws_cont, ws_retN, ws_raise, ws_mret, ws_drop, kDrop, ws_if, kIf, ws_asg, kAsg1, kAsg2, kAsg3, kX, ws_put, kPut1, kPut2, kPutC, kPutR, kPut4, ixN_3_0, ixN_3_1, ixN_3_2, wp_append, kApp1, kAppC, kAppR, ws_for, kForT, kForG, kForCe, kForR, wp_seqI, kSeqIT, kSeqIL, kSeqIR, kSq, sqE, sqc_l, sqc_f, kIsL_l, kIsL_f, kIsL_o, wp_rng1, wp_rng2, kRng1, kRng2, wp_lc, ws_loop0, ws_loop1, qLp_nx, qLp_ct, qLp_br, qLp_rt, qLp_ex, qN_nx, qN_ct, qN_br, qN_rt, qN_ex, qLi_nx, qLi_ct, qLi_br, qLi_rt, qLi_ex, qF_nx, qF_rt, qF_ex, kExD, kExRn, kExRn0, kExC, wp_fnM, qE_nx, qE_rt, qE_ex, qTry_nx, qTry_rt, qTry_ex, kTry1, kTry0, ws_try, wp_isE, kIsE, wp_add, wp_addT, wp_addC, kAdd, wp_sub, wp_mul, wp_div, wp_mod, wp_pow, wp_cmp, wp_eqI, wp_neI, wp_eqB, wp_neB, wp_ix, kDt, wp_ixC, kIxR, wp_lenT, wp_lenC, kLenR, wp_int, wp_abs, wp_max2, wp_min2, wp_tupleT, wp_tupleC, kTupR, wp_listT, wp_listC, kLisR, wp_allC, wp_anyC, kAllR, wp_sumT', wp_sumC, kSmR, wp_yes, wp_ixD_T, wp_ixD_L, wp_ixD_FK, wp_ixD_FN, wp_ixD_C, kIxD_l, kIxD_f, kIxD_k, kIxD_n, kIxD_kf, kIxD_nf, kKey, keyOf_i, keyOf_s, keyT_2i, keyT_is, kIn, kNi, wp_inD, wp_notInD, inAll_C, inC_k, inC_n, inC_kf, inC_nf, wp_lenD_T, wp_lenD_L, wp_lenD_F, wp_lenD_C, kLenD_l, kLenD_f, kLenD_k, kLenD_n, kLenD_kf, kLenD_nf, wp_dnewK, wp_dnewN, ws_putD, kPd1, kPd2, kPd3, kPdC_k, kPdC_n, kPdC_l', wp_fz, kFz_d, kFz_r, kFzC_l, kFzC_f, kFzC_k, kFzC_n, wp_meth, kMe1, kMe2, kDtS, wp_pop, kPop, wp_popAt, kPopAt, wp_insert, kIns, wp_extend, kExt, kExt2, wp_bits, kBits, wp_shl, wp_shr, wp_band, wp_bor, wp_sortT, kSoI, wp_sortC, kSoR, kSoC_i, kSoC_p, at_0, at_1, at_2, at_3, items_lst, items_frz, wipeR, get_ap, get_ap0, take_ap, set_ap, set_ap0, List.append_assoc, Nat.add_assoc, List.take_succ_cons, List.take_zero, List.take_nil, take_len, if_if, wp_comp0, wp_comp1, kCp0, kCp1, kCp2, rngD_1, rngD_2, rngD_3, rngD_4, kAsgM, setAll, wp_enum, kEnumT, kEnumL, wp_maxT, wp_maxC, wp_minC, kMx, kMxR, List.length_cons, List.length_nil, List.map_cons, List.map_nil, List.replicate_succ, List.replicate_zero, List.cons_append, List.nil_append, List.set_cons_zero, List.set_cons_succ, List.getElem?_cons_zero, List.getElem?_cons_succ, List.take_length, take_ap0, List.length_append, List.length_set, Nat.zero_add, Nat.reduceAdd, Nat.reduceSub, Nat.sub_self, Nat.reduceEqDiff, Nat.reduceLeDiff, Nat.reduceLT, Nat.reduceMul, true_and, and_true, if_true, if_false, Bool.false_eq_true, Bool.not_true, Bool.not_false, decide_eq_true_eq, decide_true, decide_false, eq_self, not_false_eq_true, not_true_eq_false, and_self, Int.reduceEq, Int.reduceNeg, Int.reduceLT, Int.reduceLE, Int.reduceAdd, Int.reduceSub, Int.reduceMul, Int.reducePow, Int.reduceToNat, Int.reduceNe, natAbs_10, natAbs_2, Int.cast_ofNat_Int, Nat.reducePow, Int.neg_zero, Nat.lt_irrefl, ne_eq, isIntD, isBlD, isTupD, $[$ts:term],*])
mutual
def shD : Nat → Dt → Bool
  | _, .non => true
  | _, .bl _ => true
  | _, .int _ => true
  | _, .str x => PyData.strOk x
  | n, .tup xs => match n with
    | 0 => false
    | n + 1 => shDs n xs
  | n, .fl xs => match n with
    | 0 => false
    | n + 1 => shDs n xs
  | _, .fd _ _ _ => false
  | _, .fi _ _ _ => false
def shDs : Nat → List Dt → Bool
  | _, [] => true
  | n, x :: xs => shD n x && shDs n xs
end
mutual
theorem shD_ok : ∀ (d : Dt) (n : Nat), shD n d = true → dataD d = true ∧ PyData.canLay0 (toPy d) = true ∧ PyData.depth (toPy d) ≤ n
  | .non, n, _ => by simp [dataD, toPy, PyData.canLay0, PyData.depth]
  | .bl _, n, _ => by simp [dataD, toPy, PyData.canLay0, PyData.depth]
  | .int _, n, _ => by simp [dataD, toPy, PyData.canLay0, PyData.depth]
  | .str x, n, h => by simp only [shD] at h; simp [dataD, toPy, PyData.canLay0, PyData.depth, h]
  | .tup xs, 0, h => by simp [shD] at h
  | .fl xs, 0, h => by simp [shD] at h
  | .tup xs, n + 1, h => by
    simp only [shD] at h
    have := shDs_ok xs n h
    simp only [dataD, toPy, PyData.canLay0, PyData.depth]
    exact ⟨this.1, this.2.1, by omega⟩
  | .fl xs, n + 1, h => by
    simp only [shD] at h
    have := shDs_ok xs n h
    simp only [dataD, toPy, PyData.canLay0, PyData.depth]
    exact ⟨this.1, this.2.1, by omega⟩
  | .fd _ _ _, n, h => by cases n <;> simp [shD] at h
  | .fi _ _ _, n, h => by cases n <;> simp [shD] at h
theorem shDs_ok : ∀ (ds : List Dt) (n : Nat), shDs n ds = true → dataDs ds = true ∧ PyData.canLayAll0 (toPys ds) = true ∧ PyData.depthAll (toPys ds) ≤ n
  | [], n, _ => by simp [dataDs, toPys, PyData.canLayAll0, PyData.depthAll]
  | x :: xs, n, h => by
    simp only [shDs, Bool.and_eq_true] at h
    have h1 := shD_ok x n h.1
    have h2 := shDs_ok xs n h.2
    simp only [dataDs, toPys, PyData.canLayAll0, PyData.depthAll, h1.1, h2.1, h1.2.1, h2.2.1, Bool.and_self, true_and]
    omega
end
theorem okD_of {d : Dt} {n : Nat} (h : shD n d = true) (hn : n ≤ 64 := by decide) : okD d = true := by
  have := shD_ok d n h
  unfold okD SeqAt.shaped
  rw [this.1, this.2.1, Bool.true_and, Bool.true_and, decide_eq_true_eq]
  omega
theorem okDs_of {ds : List Dt} {n : Nat} (h : shDs n ds = true) (hn : n ≤ 63 := by decide) : okDs ds = true := by
  have := shDs_ok ds n h
  have e1 : PyData.canLay0 (.list (toPys ds)) = true := by simp only [PyData.canLay0]; exact this.2.1
  have e2 : PyData.depth (.list (toPys ds)) ≤ 64 := by simp only [PyData.depth]; omega
  unfold okDs SeqAt.shaped
  rw [this.1, e1, Bool.true_and, Bool.true_and, decide_eq_true_eq]
  exact e2
theorem shDs_all {ds : List Dt} {n : Nat} (h : ∀ d ∈ ds, shD n d = true) : shDs n ds = true := by
  induction ds with
  | nil => rfl
  | cons d ds ih =>
    rw [shDs, h d (by simp), ih fun x hx => h x (List.mem_cons_of_mem _ hx)]
    rfl
theorem shDs_ints (n : Nat) (ns : List Int) : shDs n (ns.map .int) = true := shDs_all fun d hd => by
  obtain ⟨i, _, rfl⟩ := List.mem_map.mp hd
  simp only [shD]
mutual
/-- no bools, no dicts, no instances in it -/
def nb : Dt → Bool
  | .non => true
  | .bl _ => false
  | .int _ => true
  | .str _ => true
  | .tup xs => nbs xs
  | .fl xs => nbs xs
  | .fd _ _ _ => false
  | .fi _ _ _ => false
def nbs : List Dt → Bool
  | [] => true
  | x :: xs => nb x && nbs xs
end
mutual
theorem eqD_refl : ∀ x : Dt, dataD x = true → eqD x x = true
  | .non, _ => by simp [eqD]
  | .bl _, _ => by simp [eqD]
  | .int _, _ => by simp [eqD]
  | .str _, _ => by simp [eqD]
  | .tup xs, h => by rw [dataD] at h; rw [eqD]; exact eqDs_refl xs h
  | .fl xs, h => by rw [dataD] at h; rw [eqD]; exact eqDs_refl xs h
  | .fd _ _ _, h => by simp [dataD] at h
  | .fi _ _ _, h => by simp [dataD] at h
theorem eqDs_refl : ∀ xs : List Dt, dataDs xs = true → eqDs xs xs = true
  | [], _ => by simp [eqDs]
  | x :: xs, h => by
    rw [dataDs, Bool.and_eq_true] at h
    rw [eqDs, eqD_refl x h.1, eqDs_refl xs h.2]; rfl
end
mutual
theorem nb_data : ∀ x : Dt, nb x = true → dataD x = true
  | .non, _ => by simp [dataD]
  | .bl _, h => by simp [nb] at h
  | .int _, _ => by simp [dataD]
  | .str _, _ => by simp [dataD]
  | .tup xs, h => by rw [nb] at h; rw [dataD]; exact nbs_data xs h
  | .fl xs, h => by rw [nb] at h; rw [dataD]; exact nbs_data xs h
  | .fd _ _ _, h => by simp [nb] at h
  | .fi _ _ _, h => by simp [nb] at h
theorem nbs_data : ∀ xs : List Dt, nbs xs = true → dataDs xs = true
  | [], _ => by simp [dataDs]
  | x :: xs, h => by
    rw [nbs, Bool.and_eq_true] at h
    rw [dataDs, nb_data x h.1, nbs_data xs h.2]; rfl
end
mutual
theorem eqD_eq : ∀ {x y : Dt}, nb x = true → nb y = true → eqD x y = true → x = y
  | .non, y, _, hy, h => by cases y <;> simp_all [eqD, nb]
  | .bl _, y, hx, _, _ => by simp [nb] at hx
  | .int _, y, _, hy, h => by cases y <;> simp_all [eqD, nb]
  | .str _, y, _, hy, h => by cases y <;> simp_all [eqD, nb]
  | .tup xs, .tup ys, hx, hy, h => by
    simp only [nb] at hx hy
    simp only [eqD] at h
    rw [eqDs_eq hx hy h]
  | .fl xs, .fl ys, hx, hy, h => by
    simp only [nb] at hx hy
    simp only [eqD] at h
    rw [eqDs_eq hx hy h]
  | .tup _, .non, _, _, h => by simp [eqD] at h
  | .tup _, .bl _, _, _, h => by simp [eqD] at h
  | .tup _, .int _, _, _, h => by simp [eqD] at h
  | .tup _, .str _, _, _, h => by simp [eqD] at h
  | .tup _, .fl _, _, _, h => by simp [eqD] at h
  | .fl _, .non, _, _, h => by simp [eqD] at h
  | .fl _, .bl _, _, _, h => by simp [eqD] at h
  | .fl _, .int _, _, _, h => by simp [eqD] at h
  | .fl _, .str _, _, _, h => by simp [eqD] at h
  | .fl _, .tup _, _, _, h => by simp [eqD] at h
  | .fd _ _ _, _, h, _, _ => by simp [nb] at h
  | .fi _ _ _, _, h, _, _ => by simp [nb] at h
  | _, .fd _ _ _, _, h, _ => by simp [nb] at h
  | _, .fi _ _ _, _, h, _ => by simp [nb] at h
theorem eqDs_eq : ∀ {xs ys : List Dt}, nbs xs = true → nbs ys = true → eqDs xs ys = true → xs = ys
  | [], [], _, _, _ => rfl
  | x :: xs, y :: ys, hx, hy, h => by
    simp only [nbs, Bool.and_eq_true] at hx hy
    simp only [eqDs, Bool.and_eq_true] at h
    rw [eqD_eq hx.1 hy.1 h.1, eqDs_eq hx.2 hy.2 h.2]
  | [], _ :: _, _, _, h => by simp [eqDs] at h
  | _ :: _, [], _, _, h => by simp [eqDs] at h
end
theorem eqD_iff {x y : Dt} (hx : nb x = true) (hy : nb y = true) : eqD x y = true ↔ x = y := ⟨eqD_eq hx hy, fun h => h ▸ eqD_refl x (nb_data x hx)⟩
theorem eqDs_iff {x y : List Dt} (hx : nbs x = true) (hy : nbs y = true) : eqDs x y = true ↔ x = y := ⟨eqDs_eq hx hy, fun h => h ▸ eqDs_refl x (nbs_data x hx)⟩
section
variable {X : XP} {S : Sto} {P : Vl → Sto → Prop} {n : Nat}
theorem eqB_tup {xs ys : List Dt} {k : Nat} (h1 : shDs k xs = true) (h2 : shDs k ys = true) (hk : k ≤ 63 := by decide) : eqB (.d (.tup xs)) (.d (.tup ys)) S = some (eqDs xs ys) := by
  show (if okD (.tup xs) && okD (.tup ys) then some (eqD (.tup xs) (.tup ys)) else none) = _
  rw [okD_of (n := k + 1) (by simpa [shD] using h1) (by omega), okD_of (n := k + 1) (by simpa [shD] using h2) (by omega)]
  simp only [Bool.and_self, if_true, eqD]
theorem eqB_cells {i j : Nat} {c d : Ce} {k : Nat} (e1 : sq S i = some c) (e2 : sq S j = some d) (h1 : shDs k c.items = true) (h2 : shDs k d.items = true) (hk : k ≤ 63 := by decide) : eqB (.r i) (.r j) S = some (eqDs c.items d.items) := by
  show (match sq S i, sq S j with | some c, some d => if okDs c.items && okDs d.items then some (eqDs c.items d.items) else none | _, _ => none) = _
  rw [e1, e2]
  dsimp only
  rw [okDs_of h1 hk, okDs_of h2 hk]
  rfl
theorem ge_ints {xs ys : List Int} : eqDs (xs.map Dt.int) (ys.map Dt.int) = decide (xs = ys) := by
  induction xs generalizing ys with
  | nil => cases ys <;> simp [eqDs]
  | cons x xs ih =>
    cases ys with
    | nil => simp [eqDs]
    | cons y ys =>
      rw [List.map_cons, List.map_cons, eqDs, ih, eqD]
      by_cases h : x = y <;> simp [h]
/-! plain checks -/
noncomputable def sIsInteger : List Vl → Sto → Rs Vl := fnM 1 1 (mRet (mAndV (mIsi "int" (mVar 0)) (mNotV (mIsi "bool" (mVar 0)))))
noncomputable def sIsWithin : List Vl → Sto → Rs Vl := fnM 3 3 (mRet (mAndV (mFn sIsInteger (mCons (mVar 0) (mNil))) (mChain vLe vLe (mVar 1) (mVar 0) (mVar 2))))
noncomputable def sIsNumbers : List Vl → Sto → Rs Vl := fnM 3 4 (mRet (mAndV (mIsi "tuple" (mVar 0)) (mCall bAll (mCons (mLc [3] (.one 3) (mSeqI (mVar 0)) (mYes) (mFn sIsWithin (mCons (mVar 3) (mCons (mVar 1) (mCons (mVar 2) (mNil)))))) (mNil)))))
def isN : Dt → Bool
  | .int _ => true
  | _ => false
theorem sIsInteger_d (x : Dt) (h : okT x = true) : sIsInteger [.d x] S = .ok (.d (.bl (isN x))) S := wp_eq (by
  cases x <;> first | (cases h; done) | exists sIsInteger, isN)
/-- a list -/
def isL : Option Ce → Prop
  | some (.lst _) => True
  | some (.frz _) => True
  | _ => False
theorem sIsInteger_r (i : Nat) (h : isL S[i]?) : sIsInteger [.r i] S = .ok (.d (.bl false)) S := wp_eq (by
  exists sIsInteger
  cases e : S[i]? with
  | none => rw [e] at h; exact h.elim
  | some c => cases c with
    | lst xs => exists and_self
    | frz xs => exists and_self
    | _ => rw [e] at h; exact h.elim)
def win (x : Dt) (lo hi : Int) : Bool := match x with
  | .int v => decide (lo ≤ v) && decide (v ≤ hi)
  | _ => false
theorem win_int {v lo hi : Int} : win (.int v) lo hi = true ↔ lo ≤ v ∧ v ≤ hi := by simp [win]
theorem win_int_f {v lo hi : Int} (h : v < lo ∨ hi < v) : win (.int v) lo hi = false := by simp [win]; omega
theorem sIsWithin_d (x : Dt) (ok : okT x = true) (lo hi : Int) : sIsWithin [.d x, .d (.int lo), .d (.int hi)] S = .ok (.d (.bl (win x lo hi))) S := wp_eq (by
  exists sIsWithin, sIsInteger_d _ ok
  cases x with
  | int v =>
    exists isN
    by_cases h : lo ≤ v <;> exists win, h, Bool.true_and, Bool.false_and
  | _ => first | (cases ok; done) | exists isN, win)
theorem sIsWithin_r (i : Nat) (v w : Vl) (h : isL S[i]?) : sIsWithin [.r i, v, w] S = .ok (.d (.bl false)) S := wp_eq (by
  exists sIsWithin, sIsInteger_r _ h)
theorem sIsNumbers_t (xs : List Dt) (ok : ∀ x ∈ xs, okT x = true) (lo hi : Int) (hb : xs.length ≤ big) : sIsNumbers [.d (.tup xs), .d (.int lo), .d (.int hi)] S = .ok (.d (.bl (xs.all fun x => win x lo hi))) S := wp_eq (by
  exists sIsNumbers
  rw [kLc_map (f := fun x => .bl (win x lo hi)) (fun x hx acc => ⟨_, rfl, wp_eq (by exists sIsWithin_d _ (ok x hx))⟩) hb]
  exists toBls_mapf, kBls, kBlv
  rw [List.all_map]
  first | done | exact rfl | exact trivial | exact ⟨rfl, rfl⟩ | exact ⟨rfl, trivial⟩)
theorem sIsNumbers_r (i : Nat) (v w : Vl) (h : isL S[i]?) : sIsNumbers [.r i, v, w] S = .ok (.d (.bl false)) S := wp_eq (by
  exists sIsNumbers
  cases e : S[i]? with
  | none => rw [e] at h; exact h.elim
  | some c => cases c with
    | lst xs => exists and_self
    | frz xs => exists and_self
    | _ => rw [e] at h; exact h.elim)
/-! sources and draws -/
def Src (i : Nat) (S : Sto) : Prop := ∃ l s t : Int, S[i]? = some (.lst [.int l, .int s, .int t]) ∧ 0 ≤ l
/-- nothing has changed but the source i, and there may be more cells -/
structure Dr (i : Nat) (S S' : Sto) : Prop where
  len : S.length ≤ S'.length
  get : ∀ {j : Nat} {c : Ce}, j ≠ i → S[j]? = some c → S'[j]? = some c
  src : Src i S'
variable {i : Nat} {S S' S'' : Sto}
theorem Src.lt (h : Src i S) : i < S.length := by
  obtain ⟨l, s, t, e, _⟩ := h
  exact (List.getElem?_eq_some_iff.mp e).1
theorem Src.app {T : Sto} (h : Src i S) : Src i (S ++ T) := by
  obtain ⟨l, s, t, e, h0⟩ := h
  refine ⟨l, s, t, ?_, h0⟩
  rw [List.getElem?_append_left (List.getElem?_eq_some_iff.mp e).1, e]
theorem Dr.refl (h : Src i S) : Dr i S S := ⟨Nat.le_refl _, fun _ e => e, h⟩
theorem Dr.trans (h : Dr i S S') (h2 : Dr i S' S'') : Dr i S S'' := ⟨Nat.le_trans h.len h2.len, fun hj e => h2.get hj (h.get hj e), h2.src⟩
theorem Dr.app {T : Sto} (h : Dr i S S') : Dr i S (S' ++ T) := ⟨by rw [List.length_append]; have := h.len; omega, fun hj e => by
  have := h.get hj e
  rw [List.getElem?_append_left (List.getElem?_eq_some_iff.mp this).1, this], h.src.app⟩
theorem Dr.set {n : Nat} {c : Ce} (h : Dr i S S') (hi : i < S.length) (hn : S.length ≤ n) : Dr i S (S'.set n c) := ⟨by rw [List.length_set]; exact h.len, fun {j d} hj e => by
  have := (List.getElem?_eq_some_iff.mp e).1
  rw [List.getElem?_set_ne (by omega)]
  exact h.get hj e, by
  obtain ⟨l, s, t, e, h0⟩ := h.src
  exact ⟨l, s, t, by rw [List.getElem?_set_ne (by omega)]; exact e, h0⟩⟩
theorem Dr.take (h : Dr i S S') (hi : i < S.length) : Dr i S (S'.take S.length) := by
  have hl := h.len
  refine ⟨by rw [List.length_take]; omega, fun {j c} hj e => ?_, ?_⟩
  · have := (List.getElem?_eq_some_iff.mp e).1
    rw [List.getElem?_take_of_lt this]
    exact h.get hj e
  · obtain ⟨l, s, t, e, h0⟩ := h.src
    exact ⟨l, s, t, by rw [List.getElem?_take_of_lt hi]; exact e, h0⟩
theorem Dr.tlen (h : Dr i S S') : (S'.take S.length).length = S.length := by
  rw [List.length_take]
  have := h.len
  omega
/-- from a grown store -/
theorem Dr.less {T : Sto} (h : Dr i (S ++ T) S') (hi : i < S.length) : Dr i S S' := ⟨by have := h.len; rw [List.length_append] at this; omega, fun {j c} hj e => h.get hj (by rw [List.getElem?_append_left (List.getElem?_eq_some_iff.mp e).1, e]), h.src⟩
noncomputable def sSource : List Vl → Sto → Rs Vl := fnM 2 6 (mSeq (mAsg (.one 2) (mLc [3] (.one 3) (mSeqI (mSl (mVar 0) (mNoPart) (mPart (mC (.int 63))))) (mYes) (mCall bInt (mCons (mVar 3) (mNil)))))
  (mSeq (mIf (mT (mOp vLt (mVar 1) (mCall bLenD (mCons (mVar 2) (mNil))))) (mAsg (.one 3) (mOp vIxD (mVar 2) (mVar 1))) (mAsg (.one 3) (mOp vAdd (mOp vMul (mOp vAdd (mOp vAdd (mCall bSum (mCons (mLc [5] (.one 5) (mSeqI (mVar 2)) (mYes) (mOp vMod (mCall bInt (mCons (mVar 5) (mNil))) (mC (.int 1000003)))) (mNil))) (mCall bLenD (mCons (mVar 2) (mNil)))) (mC (.int 1))) (mC (.int 7919))) (mOp vMul (mVar 1) (mC (.int 104729))))))
  (mSeq (mAsg (.one 4) (mIfE (mT (mOp vGe (mCall bAbs (mCons (mVar 3) (mNil))) (mOp vPow (mC (.int 10)) (mC (.int 18))))) (mCall bAbs (mCons (mVar 3) (mNil))) (mC (.int 0))))
  (mRet (mLst (mCons (mVar 4) (mCons (mOp vMod (mCall bInt (mCons (mVar 3) (mNil))) (mC (.int 2147483629))) (mCons (mC (.int 0)) (mNil)))))))))
noncomputable def sDraw : List Vl → Sto → Rs Vl := fnM 2 5 (mSeq (mIf (mT (mOp vGt (mOp vIxD (mVar 0) (mC (.int 0))) (mC (.int 0)))) (mSeq (mAsg (.one 2) (mOp vMod (mCall bInt (mCons (mOp vIxD (mVar 0) (mC (.int 0))) (mNil))) (mVar 1)))
  (mSeq (mPutD (mVar 0) (mC (.int 0)) (mOp vDiv (mOp vIxD (mVar 0) (mC (.int 0))) (mVar 1)))
  (mRet (mVar 2)))) (mSkip))
  (mSeq (mPutD (mVar 0) (mC (.int 2)) (mOp vAdd (mOp vIxD (mVar 0) (mC (.int 2))) (mC (.int 1))))
  (mSeq (mAsg (.one 3) (mOp vMod (mCall bInt (mCons (mOp vAdd (mOp vAdd (mOp vMul (mOp vIxD (mVar 0) (mC (.int 1))) (mC (.int 48271))) (mOp vMul (mOp vIxD (mVar 0) (mC (.int 2))) (mC (.int 69621)))) (mC (.int 12345))) (mNil))) (mC (.int 2147483647))))
  (mSeq (mAsg (.one 4) (mOp vMod (mCall bInt (mCons (mOp vAdd (mOp vAdd (mOp vMul (mVar 3) (mC (.int 40692))) (mOp vMul (mOp vDiv (mVar 3) (mC (.int 7))) (mOp vIxD (mVar 0) (mC (.int 2))))) (mC (.int 1013904223))) (mNil))) (mC (.int 2147483399))))
  (mRet (mOp vMod (mCall bInt (mCons (mOp vDiv (mVar 4) (mC (.int 13))) (mNil))) (mVar 1)))))))
noncomputable def sPick : List Vl → Sto → Rs Vl := fnM 2 2 (mRet (mOp vIxD (mVar 1) (mFn sDraw (mCons (mVar 0) (mCons (mCall bLenD (mCons (mVar 1) (mNil))) (mNil))))))
theorem sDraw_ok (h : Src i S) {m : Int} (hm : 0 < m) (hm2 : m ≤ 10 ^ 60) : ∃ k S', sDraw [.r i, .d (.int m)] S = .ok (.d (.int k)) S' ∧ 0 ≤ k ∧ k < m ∧ Dr i S S' ∧ S'.length = S.length := by
  obtain ⟨l, s, t, e, h0⟩ := h
  have hlt := (List.getElem?_eq_some_iff.mp e).1
  have hne : ¬ m = 0 := by omega
  have hset : ∀ c : Ce, (S.set i c)[i]? = some c := fun c => List.getElem?_set_self hlt
  have hset2 : ∀ c d : Ce, ((S.set i c).set i d) = S.set i d := fun c d => List.set_set ..
  have fin : ∀ (a b c : Int), 0 ≤ a → Dr i S (S.set i (.lst [.int a, .int b, .int c])) := fun a b c ha =>
    ⟨by rw [List.length_set]; exact Nat.le_refl _, fun {j d} hj ej => by rw [List.getElem?_set_ne (Ne.symm hj)]; exact ej, ⟨a, b, c, hset _, ha⟩⟩
  have tk : ∀ c : Ce, (S.set i c).take S.length = S.set i c := fun c => take_len (List.length_set ..)
  by_cases hl : 0 < l
  · refine ⟨l.fmod m, S.set i (.lst [.int (l.fdiv m), .int s, .int t]), wp_eq ?_, Int.fmod_nonneg_of_pos _ hm, Int.fmod_lt_of_pos _ hm, fin _ _ _ (Int.fdiv_nonneg h0 (by omega)), List.length_set ..⟩
    exists sDraw, e, hl, hne, hset, tk
    exact okDiv_w hm hm2
  · generalize hf : (((s * 48271 + (t + 1) * 69621 + 12345).fmod 2147483647 * 40692 + ((s * 48271 + (t + 1) * 69621 + 12345).fmod 2147483647).fdiv 7 * (t + 1) + 1013904223).fmod 2147483399).fdiv 13 = z
    refine ⟨z.fmod m, S.set i (.lst [.int l, .int s, .int (t + 1)]), wp_eq ?_, Int.fmod_nonneg_of_pos _ hm, Int.fmod_lt_of_pos _ hm, fin _ _ _ h0, List.length_set ..⟩
    exists sDraw, e, hl, hne, hset, tk
    rw [hf]
    have b1 := Int.fmod_nonneg_of_pos (s * 48271 + (t + 1) * 69621 + 12345) (show (0 : Int) < 2147483647 by decide)
    have b2 := Int.fmod_lt_of_pos (s * 48271 + (t + 1) * 69621 + 12345) (show (0 : Int) < 2147483647 by decide)
    refine ⟨okMul_r (by decide), okMul_r (by decide), okMul_r (by decide), okDiv_s (by decide), okMul_l ?_, okDiv_s (by decide), ?_⟩
    · rw [Int.fdiv_eq_ediv_of_nonneg _ (by decide)]
      omega
    · first | done | exact rfl | exact trivial | exact ⟨rfl, rfl⟩ | exact ⟨rfl, trivial⟩
/-- a store of the same length, in which nothing but the source i has changed -/
structure Dq (i : Nat) (S0 S : Sto) : Prop where
  dr : Dr i S0 S
  len : S.length = S0.length
theorem Dq.refl (h : Src i S) : Dq i S S := ⟨.refl h, rfl⟩
theorem Dq.src (h : Dq i S S') : Src i S' := h.dr.src
theorem Dq.get (h : Dq i S S') {j : Nat} {c : Ce} (hj : j ≠ i) (e : S[j]? = some c) : S'[j]? = some c := h.dr.get hj e
theorem Dq.trans (h : Dq i S S') (h2 : Dq i S' S'') : Dq i S S'' := ⟨h.dr.trans h2.dr, h2.len.trans h.len⟩
theorem Dr.frame {T R : Sto} (h : Dr i (S ++ T) R) (hl : R.length = (S ++ T).length) (hs : Src i S) : ∃ S', R = S' ++ T ∧ Dq i S S' := by
  have hi := hs.lt
  refine ⟨R.take S.length, ?_, (h.less hi).take hi, (h.less hi).tlen⟩
  rw [List.length_append] at hl
  have hd : R.drop S.length = T := by
    apply List.ext_getElem?
    intro k
    rw [List.getElem?_drop]
    cases e : T[k]? with
    | none =>
      rw [List.getElem?_eq_none_iff] at e ⊢
      omega
    | some c =>
      refine h.get (by omega) ?_
      rw [get_ap rfl, e]
  rw [← hd, List.take_append_drop]
/-- a meaning that draws from the source i -/
def Drawn (i : Nat) (f : Sto → Rs Vl) (Q : Vl → Prop) : Prop := ∀ S, Src i S → ∃ v S', f S = .ok v S' ∧ Q v ∧ Dq i S S'
variable {f : Sto → Rs Vl} {Q : Vl → Prop} {S0 T : Sto}
theorem Drawn.mk (h : ∀ S, Src i S → wp nX (f S) fun v S' => Q v ∧ Dq i S S') : Drawn i f Q := fun S hs => by
  obtain ⟨v, S', e, q, d⟩ := wp_get (h S hs)
  exact ⟨v, S', e, q, d⟩
theorem Drawn.go (hf : Drawn i f Q) (h : Dq i S0 S) (k : ∀ v S', Q v → Dq i S0 S' → P v S') : wp X (f S) P := by
  obtain ⟨v, S', e, q, d⟩ := hf S h.src
  rw [e]
  exact k v S' q (h.trans d)
theorem Drawn.goA (hf : Drawn i f Q) (h : Dq i S0 S) (k : ∀ v S', Q v → Dq i S0 S' → P v (S' ++ T)) : wp X (f (S ++ T)) P := by
  obtain ⟨v, S', e, q, d⟩ := hf (S ++ T) h.src.app
  obtain ⟨S2, rfl, d2⟩ := d.dr.frame d.len h.src
  rw [e]
  exact k v S2 q (h.trans d2)
theorem draw_d {m : Int} (hm : 0 < m) (hm2 : m ≤ 10 ^ 60) : Drawn i (sDraw [.r i, .d (.int m)]) fun v => ∃ k : Int, v = .d (.int k) ∧ 0 ≤ k ∧ k < m := fun S hs => by
  obtain ⟨k, S', e, h0, h1, d, l⟩ := sDraw_ok hs hm hm2
  exact ⟨_, S', e, ⟨k, rfl, h0, h1⟩, d, l⟩
theorem wp_draw (h : Dq i S0 S) {m : Int} (hm : 0 < m ∧ m ≤ 10 ^ 60) (k : ∀ v S', 0 ≤ v → v < m → Dq i S0 S' → P (.d (.int v)) S') : wp X (sDraw [.r i, .d (.int m)] S) P :=
  (draw_d hm.1 hm.2).go h fun _ S' ⟨v, e, h0, h1⟩ d => e ▸ k v S' h0 h1 d
theorem wp_drawA (h : Dq i S0 S) {m : Int} (hm : 0 < m ∧ m ≤ 10 ^ 60) (k : ∀ v S', 0 ≤ v → v < m → Dq i S0 S' → P (.d (.int v)) (S' ++ T)) : wp X (sDraw [.r i, .d (.int m)] (S ++ T)) P :=
  (draw_d hm.1 hm.2).goA h fun _ S' ⟨v, e, h0, h1⟩ d => e ▸ k v S' h0 h1 d
theorem sPick_ok (h : Src i S) {xs : List Dt} (hx : xs ≠ []) (hl : xs.length ≤ 10 ^ 60) : ∃ x S', sPick [.r i, .d (.tup xs)] S = .ok (.d x) S' ∧ x ∈ xs ∧ Dr i S S' ∧ S'.length = S.length := by
  have h1 : 0 < xs.length := List.length_pos_iff.mpr hx
  obtain ⟨v, S', e, h0, h1, hD, hL⟩ := sDraw_ok h (m := xs.length) (by omega) (by omega)
  refine ⟨_, S', wp_eq ?_, List.getElem_mem (by omega : v.toNat < xs.length), hD, hL⟩
  exists sPick, e, at_nat h0 h1, take_len hL
theorem pick_d {xs : List Dt} (hx : xs ≠ []) (hl : xs.length ≤ 10 ^ 60) : Drawn i (sPick [.r i, .d (.tup xs)]) fun v => ∃ x, v = .d x ∧ x ∈ xs := fun S hs => by
  obtain ⟨x, S', e, h0, d, l⟩ := sPick_ok hs hx hl
  exact ⟨_, S', e, ⟨x, rfl, h0⟩, d, l⟩
theorem wp_pick (h : Dq i S0 S) {xs : List Dt} (hx : xs ≠ [] ∧ xs.length ≤ 10 ^ 60) (k : ∀ x S', x ∈ xs → Dq i S0 S' → P (.d x) S') : wp X (sPick [.r i, .d (.tup xs)] S) P :=
  (pick_d hx.1 hx.2).go h fun _ S' ⟨v, e, h0⟩ d => e ▸ k v S' h0 d
theorem wp_pickA (h : Dq i S0 S) {xs : List Dt} (hx : xs ≠ [] ∧ xs.length ≤ 10 ^ 60) (k : ∀ x S', x ∈ xs → Dq i S0 S' → P (.d x) (S' ++ T)) : wp X (sPick [.r i, .d (.tup xs)] (S ++ T)) P :=
  (pick_d hx.1 hx.2).goA h fun _ S' ⟨v, e, h0⟩ d => e ▸ k v S' h0 d
theorem sSource_ok {a : Nat} {ns : List Int} (h : S[a]? = some (.frz (ns.map .int))) (hb : ns.length ≤ 63) {p : Int} (hp : 0 ≤ p ∧ p ≤ 1000) : ∃ l s t : Int, sSource [.r a, .d (.int p)] S = .ok (.r S.length) (S ++ [.lst [.int l, .int s, .int t]]) ∧ 0 ≤ l := by
  obtain ⟨ks, e1, e2, e3⟩ := cut_map (f := Dt.int) (as := ns) (lo := none) (hi := some 63)
  have hbig : (ks.map Dt.int).length ≤ big := by rw [List.length_map]; unfold big; omega
  have key : wp nX (sSource [.r a, .d (.int p)] S) fun v S1 => ∃ l s t : Int, v = .r S.length ∧ S1 = S ++ [.lst [.int l, .int s, .int t]] ∧ 0 ≤ l := by
    have hlt := (List.getElem?_eq_some_iff.mp h).1
    exists sSource, h
    rw [e1, kLc_mapC (c := .lst (ks.map Dt.int)) (f := fun x => x) (sq_l get_new) (fun x hx acc => by
      obtain ⟨j, _, rfl⟩ := List.mem_map.mp hx
      exact ⟨_, rfl, wp_eq (by exists and_self)⟩) hbig]
    exists List.map_id'
    have habs : ∀ z : Int, 0 ≤ (if z < 0 then -z else z) := fun z => by split <;> omega
    by_cases hlp : p < ↑ks.length
    · exists hlp, List.length_map
      rw [at_nat hp.1 (by rw [List.length_map]; exact hlp), List.getElem_map]
      exists and_self
      generalize ks[p.toNat]'_ = z
      by_cases hz : 1000000000000000000 ≤ (if z < 0 then -z else z)
      · exists hz
        exact ⟨_, _, _, rfl, habs z⟩
      · exists hz
        exact ⟨_, _, _, rfl, by decide⟩
    · exists hlp, List.length_map
      rw [kLc_mapC (c := .lst (ks.map Dt.int)) (f := fun x => match x with | .int j => .int (j.fmod 1000003) | y => y) (by exists and_self) (fun x hx acc => by
        obtain ⟨j, _, rfl⟩ := List.mem_map.mp hx
        exact ⟨_, rfl, wp_eq (by exists and_self)⟩) hbig]
      have hi : toInts (List.map ((fun x => match x with | .int j => .int (j.fmod 1000003) | y => y) ∘ Dt.int) ks) = some (ks.map fun j => j.fmod 1000003) := toInts_mapf (fun j : Int => j.fmod 1000003) ks
      exists List.map_map, hi, kSm
      refine ⟨okMul_r (by decide), okMul_r (by decide), ?_⟩
      generalize (_ + p * 104729 : Int) = z
      by_cases hz : 1000000000000000000 ≤ (if z < 0 then -z else z)
      · exists hz
        exact ⟨_, _, _, rfl, habs z⟩
      · exists hz
        exact ⟨_, _, _, rfl, by decide⟩
  obtain ⟨v, S1, e, l, s, t, rfl, rfl, h0⟩ := wp_get key
  exact ⟨l, s, t, e, h0⟩
/-- a list of drawn things -/
theorem kLc_drawn {t : Tg} {me : ME} {ρ : Rho} {xs : List Dt} {R : Dt → Prop} (h : Dq i S0 S) (hx : ∀ x ∈ xs, ∀ S1 acc, Dq i S0 S1 → ∃ ρ1, tgM t (.d x) ρ = some ρ1 ∧ wp nX (me ρ1 (S1 ++ [.lst acc])) fun v S2 => ∃ y S3, v = .d y ∧ R y ∧ Dq i S0 S3 ∧ S2 = S3 ++ [.lst acc])
    (hl : xs.length ≤ big) (k : ∀ ys S', ys.length = xs.length → (∀ y ∈ ys, R y) → Dq i S0 S' → P (.r S'.length) (S' ++ [.lst ys])) : KLc X t mYes me ρ P (.tup xs) S := by
  rw [kLcT]
  refine wp_compL (I := fun r acc S1 => ∃ S2, S1 = S2 ++ [.lst acc] ∧ Dq i S0 S2 ∧ (∀ y ∈ acc, R y) ∧ acc.length + r.length = xs.length ∧ ∀ x ∈ r, x ∈ xs) ?_ ?_ ⟨S, rfl, h, by simp, by simp, fun _ q => q⟩
  · rintro x r acc S1 ⟨S2, rfl, d, hR, he, hm⟩
    obtain ⟨ρ1, e1, w⟩ := hx x (hm x (by simp)) S2 acc d
    obtain ⟨v, S4, e2, y, S3, rfl, ry, d3, rfl⟩ := wp_get w
    refine ⟨ρ1, e1, true, _, rfl, fun _ => ⟨y, _, e2, get_ap0 (by rw [d3.len, h.len]), by simp only [List.length_cons] at he; omega, ?_⟩, fun q => by cases q⟩
    refine ⟨S3, by rw [set_ap0 (by rw [d3.len, h.len])]; rfl, d3, ?_, ?_, fun z hz => hm z (List.mem_cons_of_mem _ hz)⟩
    · intro z hz
      rcases List.mem_append.mp hz with q | q
      · exact hR z q
      · rw [List.mem_singleton.mp q]; exact ry
    · simp only [List.length_cons, List.length_append, List.length_nil] at he ⊢
      omega
  · rintro acc S1 ⟨S2, rfl, d, hR, he, hm⟩
    have := k acc S2 (by simpa using he) hR d
    rw [d.len, ← h.len] at this
    exact this
theorem ints_of {ys : List Dt} {R : Int → Prop} (h : ∀ y ∈ ys, ∃ m : Int, y = .int m ∧ R m) : ∃ ms : List Int, ys = ms.map .int ∧ ms.length = ys.length ∧ ∀ m ∈ ms, R m := by
  induction ys with
  | nil => exact ⟨[], rfl, rfl, by simp⟩
  | cons y ys ih =>
    obtain ⟨m, rfl, hm⟩ := h y (by simp)
    obtain ⟨ms, rfl, hl, hr⟩ := ih fun z hz => h z (List.mem_cons_of_mem _ hz)
    exact ⟨m :: ms, rfl, by simp, fun k hk => by
      rcases List.mem_cons.mp hk with q | q
      · rw [q]; exact hm
      · exact hr k q⟩
end
end Mo
/-! Plain facts of dicts. -/
namespace Mo
open PySem
theorem eqD_self {k : Dt} (h : nb k = true) : eqD k k = true := eqD_refl k (nb_data k h)
theorem eqD_ne {k l : Dt} (h : nb k = true) (h2 : nb l = true) (n : k ≠ l) : eqD k l = false := by
  cases e : eqD k l with
  | false => rfl
  | true => exact absurd ((eqD_iff h h2).mp e) n
theorem getD_nil (k : Dt) : getD [] k = none := rfl
theorem getD_cons_same {kvs : List (Dt × Dt)} {k v : Dt} (h : nb k = true) : getD ((k, v) :: kvs) k = some v := by
  unfold getD
  rw [List.find?_cons]
  dsimp only
  rw [eqD_self h]
  rfl
theorem getD_cons_ne {kvs : List (Dt × Dt)} {k l v : Dt} (h : nb k = true) (h2 : nb l = true) (n : l ≠ k) : getD ((l, v) :: kvs) k = getD kvs k := by
  unfold getD
  rw [List.find?_cons]
  dsimp only
  rw [eqD_ne h2 h n]
theorem getD_setD_same {kvs : List (Dt × Dt)} {k v : Dt} (h : nb k = true) (hk : ∀ p ∈ kvs, nb p.1 = true) : getD (setD kvs k v) k = some v := by
  unfold setD
  split
  · rename_i c
    induction kvs with
    | nil => cases c
    | cons p kvs ih =>
      by_cases e : p.1 = k
      · have : eqD p.1 k = true := by rw [e]; exact eqD_self h
        rw [List.map_cons, if_pos this, e]
        exact getD_cons_same h
      · have ne : eqD p.1 k = false := eqD_ne (hk p List.mem_cons_self) h e
        rw [List.map_cons, if_neg (by rw [ne]; decide)]
        rw [List.any_cons, ne, Bool.false_or] at c
        rw [getD_cons_ne (v := p.2) h (hk p List.mem_cons_self) e]
        exact ih (fun q hq => hk q (List.mem_cons_of_mem _ hq)) c
  · rename_i c
    induction kvs with
    | nil => exact getD_cons_same h
    | cons p kvs ih =>
      rw [List.any_cons, Bool.or_eq_true, not_or] at c
      have e : p.1 ≠ k := fun e => c.1 (by rw [e]; exact eqD_self h)
      rw [List.cons_append, getD_cons_ne (v := p.2) h (hk p List.mem_cons_self) e]
      exact ih (fun q hq => hk q (List.mem_cons_of_mem _ hq)) c.2
theorem getD_setD_ne {kvs : List (Dt × Dt)} {k l v : Dt} (h : nb k = true) (h2 : nb l = true) (hk : ∀ p ∈ kvs, nb p.1 = true) (n : k ≠ l) : getD (setD kvs k v) l = getD kvs l := by
  unfold setD
  split
  · rename_i c
    clear c
    induction kvs with
    | nil => rfl
    | cons p kvs ih =>
      have i := ih fun q hq => hk q (List.mem_cons_of_mem _ hq)
      have hp := hk p List.mem_cons_self
      by_cases e : p.1 = l
      · have ne : eqD p.1 k = false := eqD_ne hp h (fun q => n (q.symm.trans e))
        rw [List.map_cons, if_neg (by rw [ne]; decide)]
        subst e
        rw [getD_cons_same (v := p.2) h2, getD_cons_same (v := p.2) h2]
      · rw [List.map_cons, getD_cons_ne (v := p.2) h2 hp e, ← i]
        split
        · exact getD_cons_ne h2 hp e
        · exact getD_cons_ne h2 hp e
  · rename_i c
    clear c
    induction kvs with
    | nil => exact (getD_cons_ne h2 h n).trans rfl
    | cons p kvs ih =>
      have i := ih fun q hq => hk q (List.mem_cons_of_mem _ hq)
      have hp := hk p List.mem_cons_self
      rw [List.cons_append]
      by_cases e : p.1 = l
      · subst e
        rw [getD_cons_same (v := p.2) h2, getD_cons_same (v := p.2) h2]
      · rw [getD_cons_ne (v := p.2) h2 hp e, getD_cons_ne (v := p.2) h2 hp e]
        exact i
theorem setD_nb {kvs : List (Dt × Dt)} {k v : Dt} (h : nb k = true) (hk : ∀ p ∈ kvs, nb p.1 = true) : ∀ p ∈ setD kvs k v, nb p.1 = true := by
  unfold setD
  split
  · intro p hp
    obtain ⟨q, hq, rfl⟩ := List.mem_map.mp hp
    split <;> exact hk q hq
  · intro p hp
    rcases List.mem_append.mp hp with hp | hp
    · exact hk p hp
    · rw [List.mem_singleton.mp hp]; exact h
/-! is None -/
section
variable {X : XP} {n : Nat} {S : Sto} {P : Vl → Sto → Prop} {xs ys : List Dt} {z : Int} {b : Bool} {x : Str} {i : Nat}
theorem isN_n : wp X (vIsN n (.d .non) (.d .non) S) P = P (.d (.bl true)) S := (rfl)
theorem isN_i : wp X (vIsN n (.d (.int z)) (.d .non) S) P = P (.d (.bl false)) S := (rfl)
theorem isN_b : wp X (vIsN n (.d (.bl b)) (.d .non) S) P = P (.d (.bl false)) S := (rfl)
theorem isN_s : wp X (vIsN n (.d (.str x)) (.d .non) S) P = P (.d (.bl false)) S := (rfl)
theorem isN_t : wp X (vIsN n (.d (.tup xs)) (.d .non) S) P = P (.d (.bl false)) S := (rfl)
theorem isN_l : wp X (vIsN n (.d (.fl xs)) (.d .non) S) P = P (.d (.bl false)) S := (rfl)
theorem isN_d : wp X (vIsN n (.d (.fd b xs ys)) (.d .non) S) P = P (.d (.bl false)) S := (rfl)
theorem isN_r : wp X (vIsN n (.r i) (.d .non) S) P = P (.d (.bl false)) S := (rfl)
end
/-! while -/
section
variable {Q : Qs} {mt : MT} {m1 : MS} {N : Rho → Sto → Prop}
def KWh (m1 : MS) (N : Rho → Sto → Prop) (ρ : Rho) (Q : Qs) (b : Bool) (S : Sto) : Prop := if b = true then ws (m1 ρ S) (QLi N Q) else Q.nx ρ S
theorem kWh {ρ : Rho} {S : Sto} {b : Bool} : KWh m1 N ρ Q b S = if b = true then ws (m1 ρ S) (QLi N Q) else Q.nx ρ S := (rfl)
theorem ws_while {I : Nat → Rho → Sto → Prop} (step : ∀ k ρ S, I k ρ S → wp (KX Q ρ) (mt ρ S) (KWh m1 (fun ρ S => ∃ k', k' < k ∧ I k' ρ S) ρ Q)) : ∀ {f k : Nat} {ρ : Rho} {S : Sto}, k < f → I k ρ S → ws (mWhile mt m1 f ρ S) Q
  | 0, k, ρ, S, h, _ => by omega
  | f + 1, k, ρ, S, h, hi => by
    rw [mWhile, ws_thenT]
    have q := step k ρ S hi
    revert q
    cases mt ρ S with
    | bad => exact id
    | exc e S1 => exact id
    | ok b S1 =>
      cases b with
      | false => exact id
      | true =>
        intro q
        have q : ws (m1 ρ S1) (QLi (fun ρ S => ∃ k', k' < k ∧ I k' ρ S) Q) := q
        show ws (after _ _) Q
        rw [ws_after]
        exact ws_QLi q fun ρ2 S2 ⟨k', lt, h2⟩ => ws_while step (by omega) h2
end
/-! two names at once -/
section
variable {Q : Qs} {mas : MA} {ρ : Rho} {S : Sto} {i j : Nat} {v w : Vl}
def KPar (i j : Nat) (ρ : Rho) (Q : Qs) (vs : List Vl) (S : Sto) : Prop := match vs with
  | [v, w] => Q.nx ((ρ.set i (some v)).set j (some w)) S
  | _ => False
theorem ws_par : ws (mPar i j mas ρ S) Q = wp (KX Q ρ) (mas ρ S) (KPar i j ρ Q) := by
  unfold mPar KPar
  cases mas ρ S with
  | ok vs S1 =>
    match vs with
    | [] => rfl
    | [v] => rfl
    | [v, w] => rfl
    | v :: w :: u :: us => rfl
  | exc _ _ => rfl
  | bad => rfl
theorem kPar : KPar i j ρ Q [v, w] S = Q.nx ((ρ.set i (some v)).set j (some w)) S := (rfl)
end
end Mo
/-! k84, the mathematics: packing powers of two in order, least ends of neighbour plans, greedy joining. -/
namespace K84
/-- the least t with m ≤ 2 ^ t -/
def cl (m : Nat) : Nat := if m ≤ 1 then 0 else Nat.log2 (m - 1) + 1
theorem cl_le {m t : Nat} : cl m ≤ t ↔ m ≤ 2 ^ t := by
  unfold cl
  have hp : 0 < 2 ^ t := Nat.two_pow_pos t
  split
  · constructor
    · intro _; omega
    · intro _; omega
  · rename_i h
    have := Nat.log2_lt (n := m - 1) (k := t) (by omega)
    omega
/-- the next multiple of s from a on -/
def up (a s : Nat) : Nat := (a + s - 1) / s * s
def lay (a x : Nat) : Nat := up a (2 ^ x) + 2 ^ x
def place (a : Nat) (l : List Nat) : Nat := l.foldl lay a
theorem up_ge {a s : Nat} (hs : 0 < s) : a ≤ up a s := by
  unfold up
  have h := Nat.div_add_mod (a + s - 1) s
  have h2 := Nat.mod_lt (a + s - 1) hs
  rw [Nat.mul_comm]
  omega
theorem up_lt {a s : Nat} (hs : 0 < s) : up a s < a + s := by
  unfold up
  have h := Nat.div_add_mod (a + s - 1) s
  rw [Nat.mul_comm]
  omega
theorem up_mul {a s : Nat} : s ∣ up a s := Nat.dvd_mul_left _ _
theorem up_mono {a b s : Nat} (h : a ≤ b) : up a s ≤ up b s := Nat.mul_le_mul_right _ (Nat.div_le_div_right (by omega))
theorem up_of {a s : Nat} (hs : 0 < s) (h : s ∣ a) : up a s = a := by
  obtain ⟨c, rfl⟩ := h
  obtain ⟨d, hd⟩ := up_mul (a := s * c) (s := s)
  have h1 := up_ge (a := s * c) hs
  have h2 := up_lt (a := s * c) hs
  rw [hd] at h1 h2 ⊢
  have h3 : c ≤ d := Nat.le_of_mul_le_mul_left h1 hs
  have h4 : d < c + 1 := Nat.lt_of_mul_lt_mul_left (a := s) (by rw [Nat.mul_add, Nat.mul_one]; exact h2)
  have : d = c := by omega
  rw [this]
theorem up_add {a b s : Nat} (hs : 0 < s) (h : s ∣ a) : up (a + b) s = a + up b s := by
  obtain ⟨c, rfl⟩ := h
  unfold up
  have : s * c + b + s - 1 = s * c + (b + s - 1) := by omega
  rw [this, Nat.mul_add_div hs, Nat.add_mul, Nat.mul_comm c s]
theorem lay_mono {a b x : Nat} (h : a ≤ b) : lay a x ≤ lay b x := Nat.add_le_add_right (up_mono h) _
theorem lay_ge (a x : Nat) : a + 2 ^ x ≤ lay a x := Nat.add_le_add_right (up_ge (Nat.two_pow_pos x)) _
theorem place_mono {l : List Nat} : ∀ {a b : Nat}, a ≤ b → place a l ≤ place b l := by
  induction l with
  | nil => intro a b h; exact h
  | cons x l ih => intro a b h; exact ih (lay_mono h)
def sm (l : List Nat) : Nat := (l.map (2 ^ ·)).sum
theorem sm_cons (x : Nat) (l : List Nat) : sm (x :: l) = 2 ^ x + sm l := by simp [sm]
theorem sm_app (l m : List Nat) : sm (l ++ m) = sm l + sm m := by simp [sm]
theorem sm_perm {l m : List Nat} (h : l.Perm m) : sm l = sm m := (h.map _).sum_nat
theorem sm_pos {l : List Nat} (h : l ≠ []) : 0 < sm l := by
  cases l with
  | nil => exact absurd rfl h
  | cons x l => rw [sm_cons]; have := Nat.two_pow_pos x; omega
theorem sm_mem {x : Nat} {l : List Nat} (h : x ∈ l) : 2 ^ x ≤ sm l := by
  induction l with
  | nil => cases h
  | cons y l ih =>
    rw [sm_cons]
    rcases List.mem_cons.mp h with rfl | h
    · omega
    · exact Nat.le_trans (ih h) (Nat.le_add_left _ _)
theorem place_ge {l : List Nat} : ∀ a : Nat, a + sm l ≤ place a l := by
  induction l with
  | nil => intro a; simp [sm, place]
  | cons x l ih =>
    intro a
    have h := ih (lay a x)
    have := lay_ge a x
    rw [sm_cons]
    show a + (2 ^ x + sm l) ≤ place (lay a x) l
    omega
theorem place_app (a : Nat) (l m : List Nat) : place a (l ++ m) = place (place a l) m := List.foldl_append
theorem place_cons (a x : Nat) (l : List Nat) : place a (x :: l) = place (lay a x) l := rfl
theorem pow_dvd {x t : Nat} (h : x ≤ t) : 2 ^ x ∣ 2 ^ t := Nat.pow_dvd_pow 2 h
theorem place_shift {l : List Nat} {a t : Nat} (ha : 2 ^ t ∣ a) (h : ∀ x ∈ l, x ≤ t) : ∀ b, place (a + b) l = a + place b l := by
  induction l with
  | nil => intro b; rfl
  | cons x l ih =>
    intro b
    have e : lay (a + b) x = a + lay b x := by
      unfold lay
      rw [up_add (Nat.two_pow_pos x) (Nat.dvd_trans (pow_dvd (h x List.mem_cons_self)) ha), Nat.add_assoc]
    rw [place_cons, place_cons, e]
    exact ih (fun y hy => h y (List.mem_cons_of_mem _ hy)) _
/-- the least end -/
def E (l : List Nat) : Nat := cl (place 0 l)
theorem E_le {l : List Nat} {t : Nat} : E l ≤ t ↔ place 0 l ≤ 2 ^ t := cl_le
theorem pow_lt_inv {x t : Nat} (h : 2 ^ x < 2 ^ t) : x < t := (Nat.pow_lt_pow_iff_right (by decide)).mp h
theorem pow_le_inv {x t : Nat} (h : 2 ^ x ≤ 2 ^ t) : x ≤ t := (Nat.pow_le_pow_iff_right (by decide)).mp h
theorem E_one (x : Nat) : E [x] = x := by
  have h : place 0 [x] = 2 ^ x := by
    show up 0 (2 ^ x) + 2 ^ x = 2 ^ x
    rw [up_of (Nat.two_pow_pos x) (Nat.dvd_zero _), Nat.zero_add]
  refine Nat.le_antisymm (E_le.mpr (by rw [h]; exact Nat.le_refl _)) ?_
  have := (E_le (l := [x]) (t := E [x])).mp (Nat.le_refl _)
  rw [h] at this
  exact pow_le_inv this
theorem mem_le {l : List Nat} {x t : Nat} (hx : x ∈ l) (h : place 0 l ≤ 2 ^ t) : x ≤ t := by
  have h1 := place_ge (l := l) 0
  have h2 := sm_mem hx
  exact pow_le_inv (by omega)
theorem E_join (l m : List Nat) : E (l ++ m) ≤ max (E l) (E m) + 1 := by
  refine E_le.mpr ?_
  have hl : place 0 l ≤ 2 ^ max (E l) (E m) := E_le.mp (Nat.le_max_left _ _)
  have hm : place 0 m ≤ 2 ^ max (E l) (E m) := E_le.mp (Nat.le_max_right _ _)
  rw [place_app, Nat.pow_succ]
  have h1 := place_mono (l := m) hl
  have h2 := place_shift (l := m) (a := 2 ^ max (E l) (E m)) (t := max (E l) (E m)) (Nat.dvd_refl _) (fun x hx => mem_le hx hm) 0
  rw [Nat.add_zero] at h2
  omega
theorem mem_lt {l : List Nat} {x t : Nat} (h2 : 2 ≤ l.length) (hx : x ∈ l) (h : place 0 l ≤ 2 ^ t) : x < t := by
  have h1 := place_ge (l := l) 0
  obtain ⟨a, b, rfl⟩ := List.append_of_mem hx
  have h3 : 2 ^ x < sm (a ++ x :: b) := by
    rw [sm_app, sm_cons]
    have : 0 < sm a + sm b := by
      rcases a with _ | ⟨y, a⟩
      · rcases b with _ | ⟨z, b⟩
        · simp at h2
        · have := sm_pos (l := z :: b) (by simp); omega
      · have := sm_pos (l := y :: a) (by simp); omega
    omega
  exact pow_lt_inv (by omega)
theorem E_split {l : List Nat} (h2 : 2 ≤ l.length) : ∃ a b, l = a ++ b ∧ a ≠ [] ∧ b ≠ [] ∧ E l = max (E a) (E b) + 1 := by
  have h0 : place 0 l ≤ 2 ^ E l := E_le.mp (Nat.le_refl _)
  obtain ⟨x, r, rfl⟩ : ∃ x r, l = x :: r := by
    cases l with
    | nil => simp at h2
    | cons x r => exact ⟨x, r, rfl⟩
  have hx : x < E (x :: r) := mem_lt h2 List.mem_cons_self h0
  obtain ⟨t, ht⟩ : ∃ t, E (x :: r) = t + 1 := ⟨E (x :: r) - 1, by omega⟩
  rw [ht] at h0
  have hlt : ∀ y ∈ x :: r, y ≤ t := fun y hy => by have := mem_lt h2 hy h0; omega
  suffices key : ∃ a b, x :: r = a ++ b ∧ a ≠ [] ∧ b ≠ [] ∧ place 0 a ≤ 2 ^ t ∧ place 0 b ≤ 2 ^ t by
    obtain ⟨a, b, e, ha, hb, h3, h4⟩ := key
    refine ⟨a, b, e, ha, hb, Nat.le_antisymm (by rw [e]; exact E_join a b) ?_⟩
    rw [ht]
    have := E_le.mpr h3
    have := E_le.mpr h4
    omega
  have find : ∀ (b a : List Nat), a ≠ [] → place 0 a ≤ 2 ^ t → x :: r = a ++ b → (place 0 (x :: r) ≤ 2 ^ t) ∨ ∃ a b, x :: r = a ++ b ∧ a ≠ [] ∧ b ≠ [] ∧ place 0 a ≤ 2 ^ t ∧ place 0 b ≤ 2 ^ t := by
    intro b
    induction b with
    | nil => intro a _ h e; rw [List.append_nil] at e; rw [e]; exact .inl h
    | cons y b ih =>
      intro a ha h e
      by_cases c : place 0 (a ++ [y]) ≤ 2 ^ t
      · exact ih (a ++ [y]) (by simp) c (by rw [e]; simp)
      · refine .inr ⟨a, y :: b, e, ha, by simp, h, ?_⟩
        have hy : y ≤ t := hlt y (by rw [e]; simp)
        have c2 : 2 ^ t < up (place 0 a) (2 ^ y) + 2 ^ y := by
          rw [place_app] at c
          have : lay (place 0 a) y = up (place 0 a) (2 ^ y) + 2 ^ y := rfl
          have : place (place 0 a) [y] = lay (place 0 a) y := rfl
          omega
        have c3 : up (place 0 a) (2 ^ y) ≤ up (2 ^ t) (2 ^ y) := up_mono h
        rw [up_of (Nat.two_pow_pos y) (pow_dvd hy)] at c3
        have c4 : up (place 0 a) (2 ^ y) = 2 ^ t := by
          obtain ⟨d, hd⟩ := up_mul (a := place 0 a) (s := 2 ^ y)
          obtain ⟨e', he⟩ := pow_dvd hy
          rw [hd] at c2 c3 ⊢
          rw [he] at c2 c3 ⊢
          have q1 : d ≤ e' := Nat.le_of_mul_le_mul_left c3 (Nat.two_pow_pos y)
          have q2 : e' < d + 1 := Nat.lt_of_mul_lt_mul_left (a := 2 ^ y) (by rw [Nat.mul_add, Nat.mul_one]; exact c2)
          have : d = e' := by omega
          rw [this]
        have c5 : place 0 (x :: r) = place (2 ^ t) (y :: b) := by
          rw [e, place_app, place_cons, place_cons]
          have : lay (place 0 a) y = lay (2 ^ t) y := by
            unfold lay
            rw [c4, up_of (Nat.two_pow_pos y) (pow_dvd hy)]
          rw [this]
        have c6 := place_shift (l := y :: b) (a := 2 ^ t) (t := t) (Nat.dvd_refl _) (fun z hz => hlt z (by rw [e]; exact List.mem_append_right _ hz)) 0
        rw [Nat.add_zero] at c6
        rw [c5, c6, Nat.pow_succ] at h0
        omega
  have hx1 : place 0 [x] ≤ 2 ^ t := by
    have := E_one x
    exact E_le.mp (by rw [this]; omega)
  rcases find r [x] (by simp) hx1 rfl with h | h
  · refine ⟨[x], r, rfl, by simp, ?_, hx1, ?_⟩
    · rintro rfl; simp at h2
    · exact Nat.le_trans (place_mono (l := r) (Nat.zero_le _)) h
  · exact h
theorem E_rev : ∀ (n : Nat) (l : List Nat), l.length ≤ n → E l.reverse ≤ E l
  | 0, l, h => by
    have : l = [] := List.eq_nil_of_length_eq_zero (by omega)
    subst this
    exact Nat.le_refl _
  | n + 1, l, h => by
    by_cases h2 : 2 ≤ l.length
    · obtain ⟨a, b, rfl, ha, hb, e⟩ := E_split h2
      rw [List.length_append] at h
      have la := List.length_pos_iff.mpr ha
      have lb := List.length_pos_iff.mpr hb
      have h3 := E_rev n a (by omega)
      have h4 := E_rev n b (by omega)
      rw [e, List.reverse_append]
      have := E_join b.reverse a.reverse
      omega
    · rcases l with _ | ⟨x, _ | ⟨y, r⟩⟩
      · exact Nat.le_refl _
      · exact Nat.le_refl _
      · simp at h2
theorem E_reverse (l : List Nat) : E l.reverse = E l := by
  refine Nat.le_antisymm (E_rev _ l (Nat.le_refl _)) ?_
  have := E_rev _ l.reverse (Nat.le_refl _)
  rw [List.reverse_reverse] at this
  exact this
/-- the least end of all plans -/
def F (l : List Nat) : Nat := cl (sm l)
theorem F_le {l : List Nat} {t : Nat} : F l ≤ t ↔ sm l ≤ 2 ^ t := cl_le
theorem F_perm {l m : List Nat} (h : l.Perm m) : F l = F m := by unfold F; rw [sm_perm h]
theorem F_le_E (l : List Nat) : F l ≤ E l := by
  refine F_le.mpr ?_
  have h1 : place 0 l ≤ 2 ^ E l := E_le.mp (Nat.le_refl _)
  have h2 := place_ge (l := l) 0
  omega
theorem place_le {l : List Nat} : ∀ a, place a l ≤ a + 2 * sm l := by
  induction l with
  | nil => intro a; simp [sm, place]
  | cons x l ih =>
    intro a
    have h := ih (lay a x)
    have h1 : lay a x ≤ a + 2 * 2 ^ x := by
      unfold lay
      have := up_lt (a := a) (Nat.two_pow_pos x)
      omega
    rw [sm_cons, place_cons]
    omega
theorem E_le_F (l : List Nat) : E l ≤ F l + 1 := by
  refine E_le.mpr ?_
  have h1 : sm l ≤ 2 ^ F l := F_le.mp (Nat.le_refl _)
  have h2 := place_le (l := l) 0
  rw [Nat.pow_succ]
  omega
/-- from great to small nothing is lost -/
theorem place_desc {l : List Nat} : ∀ {a t : Nat}, 2 ^ t ∣ a → (∀ x ∈ l, x ≤ t) → l.Pairwise (fun x y => y ≤ x) → place a l = a + sm l := by
  induction l with
  | nil => intro a t _ _ _; simp [place, sm]
  | cons x l ih =>
    intro a t ha hx hp
    rw [List.pairwise_cons] at hp
    have d : 2 ^ x ∣ a := Nat.dvd_trans (pow_dvd (hx x List.mem_cons_self)) ha
    have e : lay a x = a + 2 ^ x := by unfold lay; rw [up_of (Nat.two_pow_pos x) d]
    rw [place_cons, e, ih (t := x) (Nat.dvd_add d (Nat.dvd_refl _)) hp.1 hp.2, sm_cons]
    omega
theorem E_desc {l : List Nat} (h : l.Pairwise (fun x y => y ≤ x)) : E l = F l := by
  have : place 0 l = sm l := by
    cases l with
    | nil => rfl
    | cons x r =>
      have := place_desc (a := 0) (t := x) (Nat.dvd_zero _) (fun y hy => ?_) h
      · omega
      · rcases List.mem_cons.mp hy with rfl | hy
        · exact Nat.le_refl _
        · exact (List.pairwise_cons.mp h).1 y hy
  unfold E F
  rw [this]
theorem E_asc {l : List Nat} (h : l.Pairwise (fun x y => x ≤ y)) : E l = F l := by
  rw [← E_reverse, E_desc (List.pairwise_reverse.mpr h), F_perm (List.reverse_perm l)]
/-- joining the two least -/
theorem F_greedy {a b : Nat} {l : List Nat} (hab : a ≤ b) (hb : ∀ x ∈ l, b ≤ x) : F ((b + 1) :: l) ≤ F (a :: b :: l) := by
  refine F_le.mpr ?_
  generalize ht : F (a :: b :: l) = t
  have h : sm (a :: b :: l) ≤ 2 ^ t := by rw [← ht]; exact F_le.mp (Nat.le_refl _)
  rw [sm_cons, sm_cons] at h
  rw [sm_cons, Nat.pow_succ]
  have d : 2 ^ b ∣ sm l := by
    clear h ht
    induction l with
    | nil => exact Nat.dvd_zero _
    | cons x l ih =>
      rw [sm_cons]
      exact Nat.dvd_add (pow_dvd (hb x List.mem_cons_self)) (ih fun y hy => hb y (List.mem_cons_of_mem _ hy))
  have pa := Nat.two_pow_pos a
  have hbt : b ≤ t := by
    have : 2 ^ b < 2 ^ t := by omega
    exact Nat.le_of_lt (pow_lt_inv this)
  obtain ⟨c, hc⟩ := d
  obtain ⟨e, he⟩ := pow_dvd hbt
  rw [hc, he] at h ⊢
  have : 1 + c < e := by
    refine Nat.lt_of_mul_lt_mul_left (a := 2 ^ b) ?_
    rw [Nat.mul_add, Nat.mul_one]
    omega
  have h2 : 2 ^ b * (2 + c) ≤ 2 ^ b * e := Nat.mul_le_mul_left _ (by omega)
  rw [Nat.mul_add] at h2
  omega
theorem F_one (x : Nat) : F [x] = x := by
  rw [← E_desc (List.pairwise_singleton _ _), E_one]
end K84
/-! k84: plans, how they end. -/
namespace K84
abbrev Pl := List (Nat × Nat)
def lvs (n : Nat) (pl : Pl) : List (List Nat) := pl.foldl (fun L p => L ++ [L.getD p.1 [] ++ L.getD p.2 []]) ((List.range n).map fun i => [i])
def tms (rs : List Nat) (pl : Pl) : List Nat := pl.foldl (fun T p => T ++ [max (T.getD p.1 0) (T.getD p.2 0) + 1]) rs
theorem lvs_snoc (n : Nat) (pl : Pl) (p : Nat × Nat) : lvs n (pl ++ [p]) = lvs n pl ++ [(lvs n pl).getD p.1 [] ++ (lvs n pl).getD p.2 []] := by simp [lvs]
theorem tms_snoc (rs : List Nat) (pl : Pl) (p : Nat × Nat) : tms rs (pl ++ [p]) = tms rs pl ++ [max ((tms rs pl).getD p.1 0) ((tms rs pl).getD p.2 0) + 1] := by simp [tms]
theorem snoc_ind {P : Pl → Prop} (h0 : P []) (h1 : ∀ pl p, P pl → P (pl ++ [p])) : ∀ pl, P pl := fun pl => by
  have : ∀ q : Pl, P q.reverse := fun q => by
    induction q with
    | nil => exact h0
    | cons p q ih => rw [List.reverse_cons]; exact h1 _ _ ih
  rw [← List.reverse_reverse pl]
  exact this _
theorem lvs_len (n : Nat) (pl : Pl) : (lvs n pl).length = n + pl.length := by
  revert pl
  refine snoc_ind (by simp [lvs]) fun pl p ih => ?_
  rw [lvs_snoc, List.length_append, ih]
  simp; omega
theorem tms_len (rs : List Nat) (pl : Pl) : (tms rs pl).length = rs.length + pl.length := by
  revert pl
  refine snoc_ind (by simp [tms]) fun pl p ih => ?_
  rw [tms_snoc, List.length_append, ih]
  simp; omega
theorem getD_app {α : Type} {l m : List α} {i : Nat} {d : α} (h : i < l.length) : (l ++ m).getD i d = l.getD i d := by
  rw [List.getD_eq_getElem?_getD, List.getD_eq_getElem?_getD, List.getElem?_append_left h]
theorem getD_new {α : Type} {l : List α} {x d : α} {i : Nat} (h : i = l.length) : (l ++ [x]).getD i d = x := by
  subst h
  rw [List.getD_eq_getElem?_getD, List.getElem?_append_right (Nat.le_refl _)]
  simp
/-- parts used by joins are there -/
def Bd (n : Nat) (pl : Pl) : Prop := ∀ (k : Nat) (p : Nat × Nat), pl[k]? = some p → p.1 < n + k ∧ p.2 < n + k
theorem Bd.pre {n : Nat} {pl : Pl} {p : Nat × Nat} (h : Bd n (pl ++ [p])) : Bd n pl ∧ p.1 < n + pl.length ∧ p.2 < n + pl.length := by
  refine ⟨fun k q e => h k q ?_, h pl.length p ?_⟩
  · rw [List.getElem?_append_left (List.getElem?_eq_some_iff.mp e).1, e]
  · rw [List.getElem?_append_right (Nat.le_refl _)]; simp
theorem E_tms {rs : List Nat} {n : Nat} (hn : rs.length = n) : ∀ pl, Bd n pl → ∀ p, p < n + pl.length → E (((lvs n pl).getD p []).map fun i => rs.getD i 0) ≤ (tms rs pl).getD p 0 := by
  refine snoc_ind (fun _ p hp => ?_) fun pl q ih hb p hp => ?_
  · have hp' : p < n := by simpa using hp
    have e1 : (lvs n []).getD p [] = [p] := by
      simp [lvs, List.getD_eq_getElem?_getD, hp']
    rw [e1]
    show E [rs.getD p 0] ≤ rs.getD p 0
    rw [E_one]
    exact Nat.le_refl _
  · obtain ⟨hb1, b1, b2⟩ := hb.pre
    rw [lvs_snoc, tms_snoc]
    by_cases c : p < n + pl.length
    · rw [getD_app (by rw [lvs_len]; exact c), getD_app (by rw [tms_len, hn]; exact c)]
      exact ih hb1 p c
    · have e : p = n + pl.length := by simp at hp; omega
      rw [getD_new (by rw [lvs_len]; exact e), getD_new (by rw [tms_len, hn]; exact e), List.map_append]
      have h1 := ih hb1 q.1 b1
      have h2 := ih hb1 q.2 b2
      have h3 := E_join (((lvs n pl).getD q.1 []).map fun i => rs.getD i 0) (((lvs n pl).getD q.2 []).map fun i => rs.getD i 0)
      omega
/-- built step by step: what is left of the line -/
inductive Bld (n : Nat) : Pl → List Nat → Prop
  | nil {L : List Nat} : L.Perm (List.range n) → Bld n [] L
  | snoc {pl : Pl} {L R L' : List Nat} {i j : Nat} : Bld n pl L → L.Perm (i :: j :: R) → L'.Perm ((n + pl.length) :: R) → Bld n (pl ++ [(i, j)]) L'
def used (pl : Pl) : List Nat := pl.flatMap fun p => [p.1, p.2]
theorem used_snoc (pl : Pl) (p : Nat × Nat) : used (pl ++ [p]) = used pl ++ [p.1, p.2] := by simp [used]
theorem Bld.perm {n : Nat} {pl : Pl} {L : List Nat} (h : Bld n pl L) : (used pl ++ L).Perm (List.range (n + pl.length)) := by
  induction h with
  | nil h => simpa [used] using h
  | @snoc pl L R L' i j h1 h2 h3 ih =>
    rw [used_snoc, List.length_append, List.length_singleton, ← Nat.add_assoc, List.range_succ]
    have a : (used pl ++ [i, j] ++ L').Perm (used pl ++ [i, j] ++ ((n + pl.length) :: R)) := h3.append_left _
    refine a.trans ?_
    have b : (used pl ++ [i, j] ++ ((n + pl.length) :: R)).Perm ((n + pl.length) :: (used pl ++ (i :: j :: R))) := by
      have := List.perm_middle (a := n + pl.length) (l₁ := used pl ++ [i, j]) (l₂ := R)
      simpa using this
    refine b.trans ?_
    have c : (used pl ++ (i :: j :: R)).Perm (List.range (n + pl.length)) := ((h2.append_left _).symm).trans ih
    exact ((c.cons _)).trans (List.perm_append_singleton _ _).symm
theorem Bld.len {n : Nat} {pl : Pl} {L : List Nat} (h : Bld n pl L) : L.length + pl.length = n := by
  induction h with
  | nil h => simpa using h.length_eq
  | @snoc pl L R L' i j h1 h2 h3 ih =>
    have a := h2.length_eq
    have b := h3.length_eq
    simp at a b ⊢
    omega
theorem Bld.mem {n : Nat} {pl : Pl} {L : List Nat} (h : Bld n pl L) {x : Nat} (hx : x ∈ L) : x < n + pl.length := by
  have := h.perm.mem_iff (a := x)
  rw [List.mem_range] at this
  exact this.mp (List.mem_append_right _ hx)
theorem Bld.nodup {n : Nat} {pl : Pl} {L : List Nat} (h : Bld n pl L) : (used pl ++ L).Nodup := h.perm.nodup_iff.mpr List.nodup_range
theorem Bld.lnd {n : Nat} {pl : Pl} {L : List Nat} (h : Bld n pl L) : L.Nodup := (List.nodup_append.mp h.nodup).2.1
theorem Bld.bd {n : Nat} {pl : Pl} {L : List Nat} (h : Bld n pl L) : Bd n pl := by
  induction h with
  | nil h => intro k p e; simp at e
  | @snoc pl L R L' i j h1 h2 h3 ih =>
    intro k p e
    by_cases c : k < pl.length
    · rw [List.getElem?_append_left c] at e
      exact ih k p e
    · have : k = pl.length := by
        have := (List.getElem?_eq_some_iff.mp e).1
        simp at this; omega
      subst this
      rw [List.getElem?_append_right (Nat.le_refl _)] at e
      simp at e
      subst e
      exact ⟨h1.mem (h2.mem_iff.mpr (by simp)), h1.mem (h2.mem_iff.mpr (by simp))⟩
/-- each join's parts are fresh -/
theorem Bld.step {n : Nat} {pl : Pl} {L : List Nat} (h : Bld n pl L) : ∀ (a : Pl) (p : Nat × Nat) (b : Pl), pl = a ++ p :: b → p.1 ∉ used a ∧ p.2 ∉ used a ∧ p.1 ≠ p.2 := by
  intro a p b e
  have := (List.nodup_append.mp h.nodup).1
  rw [e] at this
  have e2 : used (a ++ p :: b) = used a ++ (p.1 :: p.2 :: used b) := by simp [used]
  rw [e2] at this
  obtain ⟨_, q1, q2⟩ := List.nodup_append.mp this
  refine ⟨fun hm => q2 _ hm _ (by simp) rfl, fun hm => q2 _ hm _ (by simp) rfl, ?_⟩
  rw [List.nodup_cons] at q1
  exact fun e => q1.1 (by rw [e]; simp)
theorem flat_lvs {n : Nat} {pl : Pl} {q : Nat × Nat} {L : List Nat} (h : ∀ x ∈ L, x < n + pl.length) : (L.flatMap fun p => (lvs n (pl ++ [q])).getD p []) = L.flatMap fun p => (lvs n pl).getD p [] := by
  induction L with
  | nil => rfl
  | cons x L ih =>
    rw [List.flatMap_cons, List.flatMap_cons, ih fun y hy => h y (List.mem_cons_of_mem _ hy), lvs_snoc, getD_app (by rw [lvs_len]; exact h x List.mem_cons_self)]
theorem flat_one (n : Nat) {L : List Nat} (h : ∀ x ∈ L, x < n) : (L.flatMap fun p => (lvs n []).getD p []) = L := by
  induction L with
  | nil => rfl
  | cons x L ih =>
    have hx := h x List.mem_cons_self
    rw [List.flatMap_cons, ih fun y hy => h y (List.mem_cons_of_mem _ hy)]
    simp [lvs, List.getD_eq_getElem?_getD, hx]
theorem Bld.leaves {n : Nat} {pl : Pl} {L : List Nat} (h : Bld n pl L) : (L.flatMap fun p => (lvs n pl).getD p []).Perm (List.range n) := by
  induction h with
  | @nil L h =>
    rw [flat_one n fun x hx => List.mem_range.mp (h.mem_iff.mp hx)]
    exact h
  | @snoc pl L R L' i j h1 h2 h3 ih =>
    have hR : ∀ x ∈ R, x < n + pl.length := fun x hx => h1.mem (h2.mem_iff.mpr (by simp [hx]))
    have a := h3.flatMap_right fun p => (lvs n (pl ++ [(i, j)])).getD p []
    have b := h2.flatMap_right fun p => (lvs n pl).getD p []
    refine a.trans ?_
    rw [List.flatMap_cons, flat_lvs hR, lvs_snoc, getD_new (by rw [lvs_len])]
    rw [List.flatMap_cons, List.flatMap_cons] at b
    rw [List.append_assoc]
    exact b.symm.trans ih
/-- the last part has all pieces -/
theorem Bld.last {n : Nat} {pl : Pl} {L : List Nat} (hn : 0 < n) (h : Bld n pl L) (hl : pl.length = n - 1) : L = [2 * n - 2] ∧ ((lvs n pl).getD (2 * n - 2) []).Perm (List.range n) := by
  have l1 := h.len
  have l2 : L.length = 1 := by omega
  obtain ⟨r, rfl⟩ := List.length_eq_one_iff.mp l2
  have hr : r = 2 * n - 2 := by
    cases h with
    | nil h =>
      have := h.mem_iff (a := r)
      simp at this hl
      omega
    | @snoc pl L R L' i j h1 h2 h3 =>
      have e : R = [] := List.eq_nil_of_length_eq_zero (by have := h3.length_eq; rw [List.length_cons, List.length_cons, List.length_nil] at this; omega)
      subst e
      have := h3.mem_iff (a := r)
      simp at this hl
      omega
  subst hr
  refine ⟨rfl, ?_⟩
  have := h.leaves
  simpa using this
/-- .. in order -/
inductive BldN (n : Nat) : Pl → List Nat → Prop
  | nil : BldN n [] (List.range n)
  | snoc {pl : Pl} {A B : List Nat} {i j : Nat} : BldN n pl (A ++ i :: j :: B) → BldN n (pl ++ [(i, j)]) (A ++ (n + pl.length) :: B)
theorem BldN.bld {n : Nat} {pl : Pl} {L : List Nat} (h : BldN n pl L) : Bld n pl L := by
  induction h with
  | nil => exact .nil (.refl _)
  | @snoc pl A B i j h ih =>
    refine .snoc (R := A ++ B) ih ?_ List.perm_middle
    exact List.perm_middle.trans (List.perm_middle.cons _)
theorem BldN.leaves {n : Nat} {pl : Pl} {L : List Nat} (h : BldN n pl L) : (L.flatMap fun p => (lvs n pl).getD p []) = List.range n := by
  induction h with
  | nil => exact flat_one n fun x hx => List.mem_range.mp hx
  | @snoc pl A B i j h ih =>
    have hm := fun x hx => h.bld.mem (x := x) hx
    rw [List.flatMap_append, List.flatMap_cons, flat_lvs fun x hx => hm x (List.mem_append_left _ hx), flat_lvs fun x hx => hm x (by simp [hx]), lvs_snoc, getD_new (by rw [lvs_len])]
    rw [List.flatMap_append, List.flatMap_cons, List.flatMap_cons] at ih
    rw [← ih]
    simp
theorem BldN.last {n : Nat} {pl : Pl} {L : List Nat} (hn : 0 < n) (h : BldN n pl L) (hl : pl.length = n - 1) : (lvs n pl).getD (2 * n - 2) [] = List.range n := by
  have e := (h.bld.last hn hl).1
  have := h.leaves
  rw [e] at this
  simpa using this
/-! ends -/
def mx (L : List Nat) (f : Nat → Nat) : Nat := (L.map f).foldr max 0
theorem mx_cons (x : Nat) (L : List Nat) (f : Nat → Nat) : mx (x :: L) f = max (f x) (mx L f) := rfl
theorem mx_perm {L M : List Nat} (h : L.Perm M) (f : Nat → Nat) : mx L f = mx M f := by
  induction h with
  | nil => rfl
  | cons x h ih => rw [mx_cons, mx_cons, ih]
  | swap x y l => rw [mx_cons, mx_cons, mx_cons, mx_cons]; omega
  | trans h1 h2 i1 i2 => rw [i1, i2]
theorem mx_congr {L : List Nat} {f g : Nat → Nat} (h : ∀ x ∈ L, f x = g x) : mx L f = mx L g := by
  induction L with
  | nil => rfl
  | cons x L ih => rw [mx_cons, mx_cons, h x List.mem_cons_self, ih fun y hy => h y (List.mem_cons_of_mem _ hy)]
/-- the depths, from the last join on -/
def abL (n : Nat) : Pl → List Nat → List Nat
  | [], A => A
  | p :: q, A => abL n q ((A.set p.1 (A.getD (n + q.length) 0 + 1)).set p.2 (A.getD (n + q.length) 0 + 1))
theorem getD_set {A : List Nat} {i j v : Nat} (h : i < A.length) : (A.set i v).getD j 0 = if i = j then v else A.getD j 0 := by
  rw [List.getD_eq_getElem?_getD, List.getD_eq_getElem?_getD, List.getElem?_set]
  by_cases e : i = j
  · subst e
    rw [if_pos rfl, if_pos rfl, if_pos h]
    rfl
  · rw [if_neg e, if_neg e]
theorem mx_ends {rs : List Nat} {n : Nat} {pl : Pl} {L : List Nat} (hn : rs.length = n) (h : Bld n pl L) : ∀ A : List Nat, n + pl.length ≤ A.length →
    mx (List.range n) (fun i => rs.getD i 0 + (abL n pl.reverse A).getD i 0) = mx L fun p => (tms rs pl).getD p 0 + A.getD p 0 := by
  induction h with
  | nil h =>
    intro A _
    rw [mx_perm h]
    rfl
  | @snoc pl L R L' i j h1 h2 h3 ih =>
    intro A hA
    have hi : i < n + pl.length := h1.mem (h2.mem_iff.mpr (by simp))
    have hj : j < n + pl.length := h1.mem (h2.mem_iff.mpr (by simp))
    have nd := h2.nodup_iff.mp h1.lnd
    rw [List.length_append, List.length_singleton] at hA
    have hij : i ≠ j := fun e => (List.nodup_cons.mp nd).1 (by rw [e]; simp)
    have hiR : ∀ x ∈ R, i ≠ x := fun x hx e => (List.nodup_cons.mp nd).1 (by rw [e]; simp [hx])
    have hjR : ∀ x ∈ R, j ≠ x := fun x hx e => (List.nodup_cons.mp (List.nodup_cons.mp nd).2).1 (by rw [e]; exact hx)
    rw [List.reverse_append, List.reverse_singleton, List.singleton_append, abL, List.length_reverse]
    generalize hv : A.getD (n + pl.length) 0 + 1 = v
    rw [ih _ (by rw [List.length_set, List.length_set]; omega), mx_perm h2, mx_perm h3, mx_cons, mx_cons, mx_cons]
    have g : ∀ x, ((A.set i v).set j v).getD x 0 = if j = x then v else if i = x then v else A.getD x 0 := fun x => by
      rw [getD_set (by rw [List.length_set]; omega), getD_set (by omega)]
    rw [g, g, tms_snoc, getD_new (by rw [tms_len, hn]), if_pos rfl, if_neg (Ne.symm hij), if_pos rfl]
    have e : mx R (fun p => (tms rs pl).getD p 0 + ((A.set i v).set j v).getD p 0) = mx R fun p => (tms rs pl ++ [max ((tms rs pl).getD i 0) ((tms rs pl).getD j 0) + 1]).getD p 0 + A.getD p 0 := mx_congr fun x hx => by
      rw [g, if_neg (hjR x hx), if_neg (hiR x hx), getD_app (by rw [tms_len, hn]; exact h1.mem (h2.mem_iff.mpr (by simp [hx])))]
    dsimp only at e ⊢
    rw [e]
    omega
end K84
/-! The meanings of the defs, printed by tr.py. -/
namespace K84
open PySem Mo
def t_SplitError : Tbl := [("BadNumber", true), ("BadPlan", true)]
def i_BadNumber : Tbl := [("BadNumber", true), ("BadPlan", false)]
def i_BadPlan : Tbl := [("BadNumber", false), ("BadPlan", true)]
noncomputable def is_integer : List Vl → Sto → Rs Vl := fnM 1 1 (mRet (mAndV (mIsi "int" (mVar 0)) (mNotV (mIsi "bool" (mVar 0)))))
noncomputable def is_within : List Vl → Sto → Rs Vl := fnM 3 3 (mRet (mAndV (mFn is_integer (mCons (mVar 0) (mNil))) (mChain vLe vLe (mVar 1) (mVar 0) (mVar 2))))
noncomputable def is_numbers : List Vl → Sto → Rs Vl := fnM 3 4 (mRet (mAndV (mIsi "tuple" (mVar 0)) (mCall bAll (mCons (mLc [3] (.one 3) (mSeqI (mVar 0)) (mYes) (mFn is_within (mCons (mVar 3) (mCons (mVar 1) (mCons (mVar 2) (mNil)))))) (mNil)))))
noncomputable def is_size : List Vl → Sto → Rs Vl := fnM 2 2 (mRet (mAndV (mIsi "tuple" (mVar 0)) (mOp vEq (mCall bLenD (mCons (mVar 0) (mNil))) (mVar 1))))
noncomputable def is_plan : List Vl → Sto → Rs Vl := fnM 2 6 (mSeq (mIf (mOr (mNot (mT (mFn is_within (mCons (mVar 0) (mCons (mC (.int 1)) (mCons (mC (.int 12)) (mNil))))))) (mNot (mT (mFn is_size (mCons (mVar 1) (mCons (mOp vSub (mVar 0) (mC (.int 1))) (mNil))))))) (mRet (mC (.bl false))) (mSkip))
  (mSeq (mAsg (.one 2) (mDNewK))
  (mSeq (mFor (.many [3, 4]) (mEnum (mCons (mVar 1) (mNil))) (mSeq (mIf (mOr (mNot (mT (mFn is_size (mCons (mVar 4) (mCons (mC (.int 2)) (mNil)))))) (mNot (mT (mFn is_numbers (mCons (mVar 4) (mCons (mC (.int 0)) (mCons (mOp vSub (mOp vAdd (mVar 0) (mVar 3)) (mC (.int 1))) (mNil)))))))) (mRet (mC (.bl false))) (mSkip))
  (mFor (.one 5) (mSeqI (mVar 4)) (mSeq (mIf (mT (mOp vInD (mVar 5) (mVar 2))) (mRet (mC (.bl false))) (mSkip))
  (mPutD (mVar 2) (mVar 5) (mC (.bl true)))))))
  (mRet (mC (.bl true))))))
noncomputable def check_ready : List Vl → Sto → Rs Vl := fnM 1 1 (mIf (mOr (mNot (mT (mFn is_numbers (mCons (mVar 0) (mCons (mC (.int 0)) (mCons (mC (.int 1000)) (mNil))))))) (mNot (mT (mChain vLe vLe (mC (.int 1)) (mCall bLenD (mCons (mVar 0) (mNil))) (mC (.int 12)))))) (mRaise "BadNumber") (mSkip))
noncomputable def plan_end : List Vl → Sto → Rs Vl := fnM 2 5 (mSeq (mDrop (mFn check_ready (mCons (mVar 0) (mNil))))
  (mSeq (mIf (mNot (mT (mFn is_plan (mCons (mCall bLenD (mCons (mVar 0) (mNil))) (mCons (mVar 1) (mNil)))))) (mRaise "BadPlan") (mSkip))
  (mSeq (mAsg (.one 2) (mCall bList (mCons (mVar 0) (mNil))))
  (mSeq (mFor (.many [3, 4]) (mSeqI (mVar 1)) (mDrop (mAppend (mVar 2) (mOp vAdd (mCall bMax (mCons (mOp vIxD (mVar 2) (mVar 3)) (mCons (mOp vIxD (mVar 2) (mVar 4)) (mNil)))) (mC (.int 1))))))
  (mRet (mOp vIxD (mVar 2) (mNeg (mC (.int 1)))))))))
noncomputable def least_ends : List Vl → Sto → Rs Vl := fnM 1 8 (mSeq (mAsg (.one 1) (mDNewN))
  (mSeq (mFor (.one 2) (mRng2 (mCons (mC (.int 1)) (mCons (mOp vAdd (mCall bLenD (mCons (mVar 0) (mNil))) (mC (.int 1))) (mNil)))) (mFor (.one 3) (mRng1 (mCons (mOp vAdd (mOp vSub (mCall bLenD (mCons (mVar 0) (mNil))) (mVar 2)) (mC (.int 1))) (mNil))) (mSeq (mAsg (.one 4) (mOp vAdd (mVar 3) (mVar 2)))
  (mSeq (mAsg (.one 5) (mTup (mCons (mOp vIxD (mVar 0) (mVar 3)) (mCons (mC .non) (mNil)))))
  (mSeq (mFor (.one 6) (mRng2 (mCons (mOp vAdd (mVar 3) (mC (.int 1))) (mCons (mVar 4) (mNil)))) (mSeq (mAsg (.one 7) (mOp vAdd (mCall bMax (mCons (mOp vIxD (mOp vIxD (mVar 1) (mTup (mCons (mVar 3) (mCons (mVar 6) (mNil))))) (mC (.int 0))) (mCons (mOp vIxD (mOp vIxD (mVar 1) (mTup (mCons (mVar 6) (mCons (mVar 4) (mNil))))) (mC (.int 0))) (mNil)))) (mC (.int 1))))
  (mIf (mOr (mT (mOp vEq (mVar 6) (mOp vAdd (mVar 3) (mC (.int 1))))) (mT (mOp vLt (mVar 7) (mOp vIxD (mVar 5) (mC (.int 0)))))) (mAsg (.one 5) (mTup (mCons (mVar 7) (mCons (mVar 6) (mNil))))) (mSkip))))
  (mPutD (mVar 1) (mTup (mCons (mVar 3) (mCons (mVar 4) (mNil)))) (mVar 5)))))))
  (mRet (mVar 1))))
noncomputable def least_end : List Vl → Sto → Rs Vl := fnM 1 1 (mSeq (mDrop (mFn check_ready (mCons (mVar 0) (mNil))))
  (mRet (mOp vIxD (mOp vIxD (mFn least_ends (mCons (mVar 0) (mNil))) (mTup (mCons (mC (.int 0)) (mCons (mCall bLenD (mCons (mVar 0) (mNil))) (mNil))))) (mC (.int 0)))))
noncomputable def put_joins_ : Nat → List Vl → Sto → Rs Vl
  | 0 => fnM 5 8 mBad
  | n + 1 => fnM 5 8 (mSeq (mAsg (.one 5) (mOp vIxD (mOp vIxD (mVar 0) (mTup (mCons (mVar 1) (mCons (mVar 2) (mNil))))) (mC (.int 1))))
  (mSeq (mIf (mT (mOp vIsN (mVar 5) (mC .non))) (mRet (mVar 1)) (mSkip))
  (mSeq (mAsg (.one 6) (mFn (put_joins_ n) (mCons (mVar 0) (mCons (mVar 1) (mCons (mVar 5) (mCons (mVar 3) (mCons (mVar 4) (mNil))))))))
  (mSeq (mAsg (.one 7) (mFn (put_joins_ n) (mCons (mVar 0) (mCons (mVar 5) (mCons (mVar 2) (mCons (mVar 3) (mCons (mVar 4) (mNil))))))))
  (mSeq (mDrop (mAppend (mVar 3) (mTup (mCons (mVar 6) (mCons (mVar 7) (mNil))))))
  (mRet (mOp vSub (mOp vAdd (mVar 4) (mCall bLenD (mCons (mVar 3) (mNil)))) (mC (.int 1)))))))))
noncomputable def put_joins : List Vl → Sto → Rs Vl := put_joins_ 40
noncomputable def least_plan : List Vl → Sto → Rs Vl := fnM 1 2 (mSeq (mDrop (mFn check_ready (mCons (mVar 0) (mNil))))
  (mSeq (mAsg (.one 1) (mLst (mNil)))
  (mSeq (mDrop (mFn put_joins (mCons (mFn least_ends (mCons (mVar 0) (mNil))) (mCons (mC (.int 0)) (mCons (mCall bLenD (mCons (mVar 0) (mNil))) (mCons (mVar 1) (mCons (mCall bLenD (mCons (mVar 0) (mNil))) (mNil))))))))
  (mRet (mCall bTuple (mCons (mVar 1) (mNil)))))))
noncomputable def free_plan : List Vl → Sto → Rs Vl := fnM 1 7 (mSeq (mDrop (mFn check_ready (mCons (mVar 0) (mNil))))
  (mSeq (mDrop (mFn check_ready (mCons (mVar 0) (mNil))))
  (mSeq (mAsg (.one 1) (mLc [5, 6] (.many [5, 6]) (mEnum (mCons (mVar 0) (mNil))) (mYes) (mTup (mCons (mVar 6) (mCons (mVar 5) (mNil))))))
  (mSeq (mAsg (.one 2) (mLst (mNil)))
  (mSeq (mWhile (mT (mOp vGt (mCall bLenD (mCons (mVar 1) (mNil))) (mC (.int 1)))) (mSeq (mAsg (.one 1) (mCall bSorted (mCons (mVar 1) (mNil))))
  (mSeq (mPar 3 4 (mCons (mOp vIxD (mVar 1) (mC (.int 0))) (mCons (mOp vIxD (mVar 1) (mC (.int 1))) (mNil))))
  (mSeq (mDrop (mAppend (mVar 2) (mTup (mCons (mOp vIxD (mVar 3) (mC (.int 1))) (mCons (mOp vIxD (mVar 4) (mC (.int 1))) (mNil))))))
  (mAsg (.one 1) (mOp vAdd (mSl (mVar 1) (mPart (mC (.int 2))) (mNoPart)) (mLst (mCons (mTup (mCons (mOp vAdd (mOp vIxD (mVar 4) (mC (.int 0))) (mC (.int 1))) (mCons (mOp vSub (mOp vAdd (mCall bLenD (mCons (mVar 0) (mNil))) (mCall bLenD (mCons (mVar 2) (mNil)))) (mC (.int 1))) (mNil)))) (mNil)))))))) 100000)
  (mRet (mCall bTuple (mCons (mVar 2) (mNil)))))))))
noncomputable def least_end_freely : List Vl → Sto → Rs Vl := fnM 1 1 (mRet (mFn plan_end (mCons (mVar 0) (mCons (mFn free_plan (mCons (mVar 0) (mNil))) (mNil)))))
noncomputable def law_source : List Vl → Sto → Rs Vl := fnM 2 6 (mSeq (mAsg (.one 2) (mLc [3] (.one 3) (mSeqI (mSl (mVar 0) (mNoPart) (mPart (mC (.int 63))))) (mYes) (mCall bInt (mCons (mVar 3) (mNil)))))
  (mSeq (mIf (mT (mOp vLt (mVar 1) (mCall bLenD (mCons (mVar 2) (mNil))))) (mAsg (.one 3) (mOp vIxD (mVar 2) (mVar 1))) (mAsg (.one 3) (mOp vAdd (mOp vMul (mOp vAdd (mOp vAdd (mCall bSum (mCons (mLc [5] (.one 5) (mSeqI (mVar 2)) (mYes) (mOp vMod (mCall bInt (mCons (mVar 5) (mNil))) (mC (.int 1000003)))) (mNil))) (mCall bLenD (mCons (mVar 2) (mNil)))) (mC (.int 1))) (mC (.int 7919))) (mOp vMul (mVar 1) (mC (.int 104729))))))
  (mSeq (mAsg (.one 4) (mIfE (mT (mOp vGe (mCall bAbs (mCons (mVar 3) (mNil))) (mOp vPow (mC (.int 10)) (mC (.int 18))))) (mCall bAbs (mCons (mVar 3) (mNil))) (mC (.int 0))))
  (mRet (mLst (mCons (mVar 4) (mCons (mOp vMod (mCall bInt (mCons (mVar 3) (mNil))) (mC (.int 2147483629))) (mCons (mC (.int 0)) (mNil)))))))))
noncomputable def law_draw : List Vl → Sto → Rs Vl := fnM 2 5 (mSeq (mIf (mT (mOp vGt (mOp vIxD (mVar 0) (mC (.int 0))) (mC (.int 0)))) (mSeq (mAsg (.one 2) (mOp vMod (mCall bInt (mCons (mOp vIxD (mVar 0) (mC (.int 0))) (mNil))) (mVar 1)))
  (mSeq (mPutD (mVar 0) (mC (.int 0)) (mOp vDiv (mOp vIxD (mVar 0) (mC (.int 0))) (mVar 1)))
  (mRet (mVar 2)))) (mSkip))
  (mSeq (mPutD (mVar 0) (mC (.int 2)) (mOp vAdd (mOp vIxD (mVar 0) (mC (.int 2))) (mC (.int 1))))
  (mSeq (mAsg (.one 3) (mOp vMod (mCall bInt (mCons (mOp vAdd (mOp vAdd (mOp vMul (mOp vIxD (mVar 0) (mC (.int 1))) (mC (.int 48271))) (mOp vMul (mOp vIxD (mVar 0) (mC (.int 2))) (mC (.int 69621)))) (mC (.int 12345))) (mNil))) (mC (.int 2147483647))))
  (mSeq (mAsg (.one 4) (mOp vMod (mCall bInt (mCons (mOp vAdd (mOp vAdd (mOp vMul (mVar 3) (mC (.int 40692))) (mOp vMul (mOp vDiv (mVar 3) (mC (.int 7))) (mOp vIxD (mVar 0) (mC (.int 2))))) (mC (.int 1013904223))) (mNil))) (mC (.int 2147483399))))
  (mRet (mOp vMod (mCall bInt (mCons (mOp vDiv (mVar 4) (mC (.int 13))) (mNil))) (mVar 1)))))))
noncomputable def law_pick : List Vl → Sto → Rs Vl := fnM 2 2 (mRet (mOp vIxD (mVar 1) (mFn law_draw (mCons (mVar 0) (mCons (mCall bLenD (mCons (mVar 1) (mNil))) (mNil))))))
noncomputable def law_shuffled : List Vl → Sto → Rs Vl := fnM 2 5 (mSeq (mAsg (.one 2) (mListRg1 (mVar 1)))
  (mSeq (mAsg (.one 3) (mLst (mNil)))
  (mSeq (mFor (.one 4) (mRng1 (mCons (mVar 1) (mNil))) (mDrop (mAppend (mVar 3) (mMeth fPopAt (mVar 2) (mCons (mFn law_draw (mCons (mVar 0) (mCons (mCall bLenD (mCons (mVar 2) (mNil))) (mNil)))) (mNil))))))
  (mRet (mVar 3)))))
noncomputable def law_is_whole : List Vl → Sto → Rs Vl := fnM 1 1 (mRet (mAndV (mIsi "int" (mVar 0)) (mNotV (mIsi "bool" (mVar 0)))))
noncomputable def law_drawn_plan : List Vl → Sto → Rs Vl := fnM 3 9 (mSeq (mAsg (.one 3) (mListRg1 (mVar 1)))
  (mSeq (mAsg (.one 4) (mLst (mNil)))
  (mSeq (mFor (.one 5) (mRng1 (mCons (mOp vSub (mVar 1) (mC (.int 1))) (mNil))) (mSeq (mIf (mT (mVar 2)) (mSeq (mAsg (.one 6) (mFn law_draw (mCons (mVar 0) (mCons (mOp vSub (mCall bLenD (mCons (mVar 3) (mNil))) (mC (.int 1))) (mNil)))))
  (mSeq (mAsg (.one 7) (mMeth fPopAt (mVar 3) (mCons (mVar 6) (mNil))))
  (mSeq (mAsg (.one 8) (mMeth fPopAt (mVar 3) (mCons (mVar 6) (mNil))))
  (mDrop (mMeth fInsert (mVar 3) (mCons (mVar 6) (mCons (mOp vAdd (mVar 1) (mVar 5)) (mNil)))))))) (mSeq (mAsg (.one 7) (mMeth fPopAt (mVar 3) (mCons (mFn law_draw (mCons (mVar 0) (mCons (mCall bLenD (mCons (mVar 3) (mNil))) (mNil)))) (mNil))))
  (mSeq (mAsg (.one 8) (mMeth fPopAt (mVar 3) (mCons (mFn law_draw (mCons (mVar 0) (mCons (mCall bLenD (mCons (mVar 3) (mNil))) (mNil)))) (mNil))))
  (mDrop (mAppend (mVar 3) (mOp vAdd (mVar 1) (mVar 5)))))))
  (mDrop (mAppend (mVar 4) (mTup (mCons (mVar 7) (mCons (mVar 8) (mNil))))))))
  (mRet (mCall bTuple (mCons (mVar 4) (mNil)))))))
noncomputable def law_leaves : List Vl → Sto → Rs Vl := fnM 2 7 (mSeq (mIf (mOr (mNot (mT (mIsi "tuple" (mVar 1)))) (mT (mOp vNe (mCall bLenD (mCons (mVar 1) (mNil))) (mOp vSub (mVar 0) (mC (.int 1)))))) (mRet (mC .non)) (mSkip))
  (mSeq (mAsg (.one 2) (mLc [6] (.one 6) (mRng1 (mCons (mVar 0) (mNil))) (mYes) (mTup (mCons (mVar 6) (mNil)))))
  (mSeq (mAsg (.one 3) (mLst (mNil)))
  (mSeq (mFor (.one 4) (mSeqI (mVar 1)) (mSeq (mIf (mOr (mNot (mT (mIsi "tuple" (mVar 4)))) (mT (mOp vNe (mCall bLenD (mCons (mVar 4) (mNil))) (mC (.int 2))))) (mRet (mC .non)) (mSkip))
  (mSeq (mFor (.one 5) (mSeqI (mVar 4)) (mSeq (mIf (mOr (mNot (mT (mFn law_is_whole (mCons (mVar 5) (mNil))))) (mOr (mT (mOp vLt (mVar 5) (mC (.int 0)))) (mOr (mT (mOp vGe (mVar 5) (mCall bLenD (mCons (mVar 2) (mNil))))) (mT (mOp vInD (mVar 5) (mVar 3)))))) (mRet (mC .non)) (mSkip))
  (mDrop (mAppend (mVar 3) (mVar 5)))))
  (mDrop (mAppend (mVar 2) (mOp vAdd (mOp vIxD (mVar 2) (mOp vIxD (mVar 4) (mC (.int 0)))) (mOp vIxD (mVar 2) (mOp vIxD (mVar 4) (mC (.int 1))))))))))
  (mRet (mVar 2))))))
noncomputable def law_last_time : List Vl → Sto → Rs Vl := fnM 2 8 (mSeq (mAsg (.one 2) (mCall bLenD (mCons (mVar 0) (mNil))))
  (mSeq (mAsg (.one 3) (mLc [6] (.one 6) (mRng1 (mCons (mOp vSub (mOp vMul (mC (.int 2)) (mVar 2)) (mC (.int 1))) (mNil))) (mYes) (mC (.int 0))))
  (mSeq (mFor (.one 4) (mRng1 (mCons (mOp vSub (mVar 2) (mC (.int 1))) (mNil))) (mSeq (mAsg (.one 5) (mOp vSub (mOp vSub (mVar 2) (mC (.int 2))) (mVar 4)))
  (mFor (.one 6) (mSeqI (mOp vIxD (mVar 1) (mVar 5))) (mPutD (mVar 3) (mVar 6) (mOp vAdd (mOp vIxD (mVar 3) (mOp vAdd (mVar 2) (mVar 5))) (mC (.int 1)))))))
  (mRet (mCall bMax (mCons (mLc [7] (.one 7) (mRng1 (mCons (mVar 2) (mNil))) (mYes) (mOp vAdd (mOp vIxD (mVar 0) (mVar 7)) (mOp vIxD (mVar 3) (mVar 7)))) (mNil)))))))
noncomputable def law_ready : List Vl → Sto → Rs Vl := fnM 2 8 (mSeq (mAsg (.one 2) (mFn law_draw (mCons (mVar 0) (mCons (mC (.int 7)) (mNil)))))
  (mSeq (mIf (mT (mOp vEq (mVar 2) (mC (.int 0)))) (mSeq (mAsg (.one 3) (mFn law_draw (mCons (mVar 0) (mCons (mC (.int 1001)) (mNil)))))
  (mRet (mCall bTuple (mCons (mLc [7] (.one 7) (mRng1 (mCons (mVar 1) (mNil))) (mYes) (mVar 3)) (mNil))))) (mSkip))
  (mSeq (mIf (mT (mOp vEq (mVar 2) (mC (.int 1)))) (mSeq (mAsg (.one 4) (mFn law_draw (mCons (mVar 0) (mCons (mC (.int 997)) (mNil)))))
  (mRet (mCall bTuple (mCons (mLc [7] (.one 7) (mRng1 (mCons (mVar 1) (mNil))) (mYes) (mOp vAdd (mVar 4) (mFn law_draw (mCons (mVar 0) (mCons (mC (.int 5)) (mNil)))))) (mNil))))) (mSkip))
  (mSeq (mIf (mT (mOp vEq (mVar 2) (mC (.int 2)))) (mSeq (mAsg (.one 5) (mFn law_draw (mCons (mVar 0) (mCons (mC (.int 6)) (mNil)))))
  (mRet (mCall bTuple (mCons (mLc [7] (.one 7) (mRng1 (mCons (mVar 1) (mNil))) (mYes) (mIfE (mT (mOp vEq (mOp vMod (mCall bInt (mCons (mVar 7) (mNil))) (mC (.int 2))) (mC (.int 1)))) (mVar 5) (mFn law_draw (mCons (mVar 0) (mCons (mC (.int 2)) (mNil)))))) (mNil))))) (mSkip))
  (mSeq (mIf (mT (mOp vEq (mVar 2) (mC (.int 3)))) (mRet (mCall bTuple (mCons (mLc [7] (.one 7) (mRng1 (mCons (mVar 1) (mNil))) (mYes) (mOp vMul (mC (.int 1000)) (mFn law_draw (mCons (mVar 0) (mCons (mC (.int 2)) (mNil)))))) (mNil)))) (mSkip))
  (mSeq (mIf (mT (mOp vEq (mVar 2) (mC (.int 4)))) (mSeq (mAsg (.one 4) (mFn law_draw (mCons (mVar 0) (mCons (mC (.int 980)) (mNil)))))
  (mSeq (mAsg (.one 6) (mOp vSub (mFn law_draw (mCons (mVar 0) (mCons (mC (.int 3)) (mNil)))) (mC (.int 1))))
  (mRet (mCall bTuple (mCons (mLc [7] (.one 7) (mRng1 (mCons (mVar 1) (mNil))) (mYes) (mOp vAdd (mVar 4) (mIfE (mT (mOp vGe (mVar 6) (mC (.int 0)))) (mOp vMul (mVar 7) (mVar 6)) (mOp vSub (mVar 1) (mVar 7))))) (mNil)))))) (mSkip))
  (mSeq (mIf (mT (mOp vEq (mVar 2) (mC (.int 5)))) (mRet (mCall bTuple (mCons (mLc [7] (.one 7) (mRng1 (mCons (mVar 1) (mNil))) (mYes) (mFn law_pick (mCons (mVar 0) (mCons (mTup (mCons (mC (.int 0)) (mCons (mC (.int 1)) (mCons (mC (.int 2)) (mCons (mC (.int 3)) (mNil)))))) (mNil))))) (mNil)))) (mSkip))
  (mRet (mCall bTuple (mCons (mLc [7] (.one 7) (mRng1 (mCons (mVar 1) (mNil))) (mYes) (mFn law_draw (mCons (mVar 0) (mCons (mC (.int 1001)) (mNil))))) (mNil)))))))))))
noncomputable def law_bent_ready : List Vl → Sto → Rs Vl := fnM 2 5 (mSeq (mAsg (.one 2) (mFn law_draw (mCons (mVar 0) (mCons (mC (.int 8)) (mNil)))))
  (mSeq (mIf (mT (mOp vEq (mVar 2) (mC (.int 0)))) (mRet (mTup (mNil))) (mSkip))
  (mSeq (mIf (mT (mOp vEq (mVar 2) (mC (.int 1)))) (mRet (mCall bTuple (mCons (mLc [3] (.one 3) (mRng1 (mCons (mC (.int 13)) (mNil))) (mYes) (mFn law_draw (mCons (mVar 0) (mCons (mC (.int 4)) (mNil))))) (mNil)))) (mSkip))
  (mSeq (mAsg (.one 3) (mFn law_draw (mCons (mVar 0) (mCons (mCall bLenD (mCons (mVar 1) (mNil))) (mNil)))))
  (mSeq (mAsg (.one 4) (mFn law_pick (mCons (mVar 0) (mCons (mTup (mCons (mNeg (mC (.int 1))) (mCons (mC (.int 1001)) (mCons (mC (.int 1001)) (mCons (mNeg (mC (.int 1))) (mCons (mC (.bl true)) (mCons (mC .non) (mNil)))))))) (mNil)))))
  (mRet (mOp vAdd (mOp vAdd (mSl (mVar 1) (mNoPart) (mPart (mVar 3))) (mTup (mCons (mVar 4) (mNil)))) (mSl (mVar 1) (mPart (mOp vAdd (mVar 3) (mC (.int 1)))) (mNoPart)))))))))
noncomputable def law_table_end : List Vl → Sto → Rs Vl := fnM 1 9 (mSeq (mAsg (.one 1) (mCall bLenD (mCons (mVar 0) (mNil))))
  (mSeq (mAsg (.one 2) (mDNewN))
  (mSeq (mFor (.one 3) (mRng1 (mCons (mVar 1) (mNil))) (mPutD (mVar 2) (mTup (mCons (mVar 3) (mCons (mOp vAdd (mVar 3) (mC (.int 1))) (mNil)))) (mOp vIxD (mVar 0) (mVar 3))))
  (mSeq (mFor (.one 4) (mRng2 (mCons (mC (.int 2)) (mCons (mOp vAdd (mVar 1) (mC (.int 1))) (mNil)))) (mFor (.one 5) (mRng1 (mCons (mOp vAdd (mOp vSub (mVar 1) (mVar 4)) (mC (.int 1))) (mNil))) (mSeq (mAsg (.one 6) (mOp vAdd (mVar 5) (mVar 4)))
  (mSeq (mAsg (.one 7) (mLc [8] (.one 8) (mRng2 (mCons (mOp vAdd (mVar 5) (mC (.int 1))) (mCons (mVar 6) (mNil)))) (mYes) (mOp vAdd (mCall bMax (mCons (mOp vIxD (mVar 2) (mTup (mCons (mVar 5) (mCons (mVar 8) (mNil))))) (mCons (mOp vIxD (mVar 2) (mTup (mCons (mVar 8) (mCons (mVar 6) (mNil))))) (mNil)))) (mC (.int 1)))))
  (mPutD (mVar 2) (mTup (mCons (mVar 5) (mCons (mVar 6) (mNil)))) (mCall bMin (mCons (mVar 7) (mNil))))))))
  (mRet (mOp vIxD (mVar 2) (mTup (mCons (mC (.int 0)) (mCons (mVar 1) (mNil))))))))))
noncomputable def law_packed_end : List Vl → Sto → Rs Vl := fnM 1 4 (mSeq (mAsg (.one 1) (mC (.int 0)))
  (mSeq (mFor (.one 2) (mSeqI (mVar 0)) (mSeq (mAsg (.one 3) (mOp vShl (mC (.int 1)) (mVar 2)))
  (mAsg (.one 1) (mOp vAdd (mOp vMul (mOp vDiv (mOp vSub (mOp vAdd (mVar 1) (mVar 3)) (mC (.int 1))) (mVar 3)) (mVar 3)) (mVar 3)))))
  (mRet (mBits (mOp vSub (mVar 1) (mC (.int 1)))))))
noncomputable def law_sum_end : List Vl → Sto → Rs Vl := fnM 1 2 (mRet (mBits (mOp vSub (mCall bSum (mCons (mLc [1] (.one 1) (mSeqI (mVar 0)) (mYes) (mOp vShl (mC (.int 1)) (mVar 1))) (mNil))) (mC (.int 1)))))
noncomputable def law_refused : List Vl → Sto → Rs Vl := fnM 2 3 (mSeq (mTry t_SplitError 2 (mIf (mT (mOp vEq (mVar 0) (mC (.int 0)))) (mDrop (mFn least_end (mCons (mVar 1) (mNil)))) (mIf (mT (mOp vEq (mVar 0) (mC (.int 1)))) (mDrop (mFn least_plan (mCons (mVar 1) (mNil)))) (mIf (mT (mOp vEq (mVar 0) (mC (.int 2)))) (mDrop (mFn least_end_freely (mCons (mVar 1) (mNil)))) (mDrop (mFn free_plan (mCons (mVar 1) (mNil))))))) (fun x => mRet (mAndV (mIsE i_BadNumber x) (mNotV (mIsE i_BadPlan x)))))
  (mRet (mC (.bl false))))
noncomputable def law_least_of : List Vl → Sto → Rs Vl := fnM 2 3 (mSeq (mAsg (.one 2) (mFn least_end (mCons (mVar 0) (mNil))))
  (mRet (mAndV (mFn law_is_whole (mCons (mVar 2) (mNil))) (mOp vEq (mVar 2) (mVar 1)))))
noncomputable def law_freely_asked : List Vl → Sto → Rs Vl := fnM 2 7 (mSeq (mAsg (.one 2) (mCall bLenD (mCons (mVar 0) (mNil))))
  (mSeq (mAsg (.one 3) (mFn least_end_freely (mCons (mVar 0) (mNil))))
  (mSeq (mIf (mOr (mNot (mT (mFn law_is_whole (mCons (mVar 3) (mNil))))) (mT (mOp vNe (mVar 3) (mVar 1)))) (mRet (mC (.bl false))) (mSkip))
  (mSeq (mAsg (.one 4) (mFn free_plan (mCons (mVar 0) (mNil))))
  (mSeq (mAsg (.one 5) (mFn law_leaves (mCons (mVar 2) (mCons (mVar 4) (mNil)))))
  (mSeq (mIf (mOr (mT (mOp vIsN (mVar 5) (mC .non))) (mOr (mT (mOp vNe (mFn law_last_time (mCons (mVar 0) (mCons (mVar 4) (mNil)))) (mVar 1))) (mT (mOp vNe (mFn plan_end (mCons (mVar 0) (mCons (mVar 4) (mNil)))) (mVar 1))))) (mRet (mC (.bl false))) (mSkip))
  (mRet (mFn law_least_of (mCons (mCall bTuple (mCons (mLc [6] (.one 6) (mSeqI (mOp vIxD (mVar 5) (mNeg (mC (.int 1))))) (mYes) (mOp vIxD (mVar 0) (mVar 6))) (mNil))) (mCons (mVar 1) (mNil)))))))))))
noncomputable def law_near_asked : List Vl → Sto → Rs Vl := fnM 2 5 (mSeq (mAsg (.one 2) (mCall bLenD (mCons (mVar 0) (mNil))))
  (mSeq (mIf (mOr (mNot (mT (mFn law_least_of (mCons (mVar 0) (mCons (mVar 1) (mNil)))))) (mNot (mT (mFn law_least_of (mCons (mVar 0) (mCons (mFn law_packed_end (mCons (mVar 0) (mNil))) (mNil))))))) (mRet (mC (.bl false))) (mSkip))
  (mSeq (mAsg (.one 3) (mFn least_plan (mCons (mVar 0) (mNil))))
  (mSeq (mAsg (.one 4) (mFn law_leaves (mCons (mVar 2) (mCons (mVar 3) (mNil)))))
  (mSeq (mIf (mOr (mT (mOp vIsN (mVar 4) (mC .non))) (mT (mOp vNe (mOp vIxD (mVar 4) (mNeg (mC (.int 1)))) (mCall bTuple (mCons (mListRg1 (mVar 2)) (mNil)))))) (mRet (mC (.bl false))) (mSkip))
  (mRet (mAndV (mOp vEq (mFn law_last_time (mCons (mVar 0) (mCons (mVar 3) (mNil)))) (mVar 1)) (mOp vEq (mFn plan_end (mCons (mVar 0) (mCons (mVar 3) (mNil)))) (mVar 1)))))))))
noncomputable def law : List Vl → Sto → Rs Vl := fnM 1 14 (mSeq (mAsg (.one 1) (mFn law_source (mCons (mVar 0) (mCons (mC (.int 0)) (mNil)))))
  (mSeq (mAsg (.one 2) (mOp vAdd (mC (.int 1)) (mFn law_draw (mCons (mVar 1) (mCons (mC (.int 12)) (mNil))))))
  (mSeq (mAsg (.one 3) (mFn law_ready (mCons (mVar 1) (mCons (mVar 2) (mNil)))))
  (mSeq (mAsg (.one 4) (mFn law_table_end (mCons (mVar 3) (mNil))))
  (mSeq (mAsg (.one 5) (mFn law_sum_end (mCons (mVar 3) (mNil))))
  (mSeq (mIf (mOr (mNot (mT (mFn law_near_asked (mCons (mVar 3) (mCons (mVar 4) (mNil)))))) (mNot (mT (mFn law_freely_asked (mCons (mVar 3) (mCons (mVar 5) (mNil))))))) (mRet (mC (.bl false))) (mSkip))
  (mSeq (mIf (mT (mOp vNotInD (mOp vSub (mFn least_end (mCons (mVar 3) (mNil))) (mFn least_end_freely (mCons (mVar 3) (mNil)))) (mTup (mCons (mC (.int 0)) (mCons (mC (.int 1)) (mNil)))))) (mRet (mC (.bl false))) (mSkip))
  (mSeq (mAsg (.one 6) (mCall bTuple (mCons (mCall bSorted (mCons (mVar 3) (mNil))) (mNil))))
  (mSeq (mIf (mOr (mNot (mT (mFn law_least_of (mCons (mVar 6) (mCons (mVar 5) (mNil)))))) (mNot (mT (mFn law_least_of (mCons (mRev (mVar 6)) (mCons (mVar 5) (mNil))))))) (mRet (mC (.bl false))) (mSkip))
  (mSeq (mAsg (.one 7) (mFn law_source (mCons (mVar 0) (mCons (mC (.int 1)) (mNil)))))
  (mSeq (mAsg (.one 8) (mCall bTuple (mCons (mLc [12] (.one 12) (mSeqI (mFn law_shuffled (mCons (mVar 7) (mCons (mVar 2) (mNil))))) (mYes) (mOp vIxD (mVar 3) (mVar 12))) (mNil))))
  (mSeq (mIf (mOr (mNot (mT (mFn law_near_asked (mCons (mVar 8) (mCons (mFn law_table_end (mCons (mVar 8) (mNil))) (mNil)))))) (mNot (mT (mFn law_freely_asked (mCons (mVar 8) (mCons (mVar 5) (mNil))))))) (mRet (mC (.bl false))) (mSkip))
  (mSeq (mIf (mNot (mT (mFn law_least_of (mCons (mRev (mVar 3)) (mCons (mVar 4) (mNil)))))) (mRet (mC (.bl false))) (mSkip))
  (mSeq (mAsg (.one 9) (mFn law_drawn_plan (mCons (mVar 7) (mCons (mVar 2) (mCons (mC (.bl true)) (mNil))))))
  (mSeq (mAsg (.one 10) (mFn law_drawn_plan (mCons (mVar 7) (mCons (mVar 2) (mCons (mC (.bl false)) (mNil))))))
  (mSeq (mIf (mOr (mT (mOp vNe (mFn plan_end (mCons (mVar 3) (mCons (mVar 9) (mNil)))) (mFn law_last_time (mCons (mVar 3) (mCons (mVar 9) (mNil)))))) (mT (mOp vLt (mFn plan_end (mCons (mVar 3) (mCons (mVar 9) (mNil)))) (mFn least_end (mCons (mVar 3) (mNil)))))) (mRet (mC (.bl false))) (mSkip))
  (mSeq (mIf (mOr (mT (mOp vNe (mFn plan_end (mCons (mVar 3) (mCons (mVar 10) (mNil)))) (mFn law_last_time (mCons (mVar 3) (mCons (mVar 10) (mNil)))))) (mT (mOp vLt (mFn plan_end (mCons (mVar 3) (mCons (mVar 10) (mNil)))) (mFn least_end_freely (mCons (mVar 3) (mNil)))))) (mRet (mC (.bl false))) (mSkip))
  (mSeq (mAsg (.one 11) (mFn law_bent_ready (mCons (mFn law_source (mCons (mVar 0) (mCons (mC (.int 2)) (mNil)))) (mCons (mVar 3) (mNil)))))
  (mRet (mCall bAll (mCons (mLc [13] (.one 13) (mRng1 (mCons (mC (.int 4)) (mNil))) (mYes) (mFn law_refused (mCons (mVar 13) (mCons (mVar 11) (mNil))))) (mNil))))))))))))))))))))))
end K84
namespace K84
open PySem Mo
open L2 (atI ixN)
local macro_rules | `(tactic| exists $ts,*) => `(tactic| simp only [wp_ok, wp_exc, wp_bad, wp_var, kV, wp_c, wp_op, kOp1, kOp2, wp_t, kT, wp_chain, kCh1, kCh2, kCh3, kCh4, wp_and, wp_or, wp_not, kAnd, kOr, kNot, wp_andV, wp_orV, wp_notV, kAndV, kOrV, kNotV, wp_neg, kNeg, wp_ifE, kIfE, wp_nil, wp_cons, kC1, kC2, wp_tup, wp_lst, kTup0, kTup1, kTup2, kTup3, kTup4, kTup5, kTup6, kTup7, kTup8, kTup9, kTup10, kTup11, kTup12, kLst0, kLst1, kLst2, kLst3, kLst4, kLst5, kLst6, kLst7, kLst8, kLst9, kLst10, kLst11, kLst12, wp_fn, kFn, wp_call, kCall, wp_isi, kIsi_int, kIsi_bool, kIsi_tup, kIsi_list, kIsiR_int, kIsiR_bool, kIsiR_tup, kIsiR_list, okT_non, okT_bl, okT_int, okT_str, okT_tup, okT_fl, isLstD, wp_noPart, wp_part, kPart, wp_sl, kSl1, kSl2, kSl3T, kSl3L, kSl3C, kSlR, wp_rev, kRev, wp_listRg1, kLq, wp_listRg2, kLr1, kLr2, ws_seq, qSeq_nx, qSeq_rt, qSeq_ex, qSeq_br, qSeq_ct, ws_skip, ws_break, ws_cont, ws_retN, ws_raise, ws_mret, ws_drop, kDrop, ws_if, kIf, ws_asg, kAsg1, kAsg2, kAsg3, kX, ws_put, kPut1, kPut2, kPutC, kPutR, kPut4, ixN_3_0, ixN_3_1, ixN_3_2, wp_append, kApp1, kAppC, kAppR, ws_for, kForT, kForG, kForCe, kForR, wp_seqI, kSeqIT, kSeqIL, kSeqIR, kSq, sqE, sqc_l, sqc_f, kIsL_l, kIsL_f, kIsL_o, wp_rng1, wp_rng2, kRng1, kRng2, wp_lc, ws_loop0, ws_loop1, qLp_nx, qLp_ct, qLp_br, qLp_rt, qLp_ex, qN_nx, qN_ct, qN_br, qN_rt, qN_ex, qLi_nx, qLi_ct, qLi_br, qLi_rt, qLi_ex, qF_nx, qF_rt, qF_ex, kExD, kExRn, kExRn0, kExC, wp_fnM, qE_nx, qE_rt, qE_ex, qTry_nx, qTry_rt, qTry_ex, kTry1, kTry0, ws_try, wp_isE, kIsE, wp_add, wp_addT, wp_addC, kAdd, wp_sub, wp_mul, wp_div, wp_mod, wp_pow, wp_cmp, wp_eqI, wp_neI, wp_eqB, wp_neB, wp_ix, kDt, wp_ixC, kIxR, wp_lenT, wp_lenC, kLenR, wp_int, wp_abs, wp_max2, wp_min2, wp_tupleT, wp_tupleC, kTupR, wp_listT, wp_listC, kLisR, wp_allC, wp_anyC, kAllR, wp_sumT', wp_sumC, kSmR, wp_yes, wp_ixD_T, wp_ixD_L, wp_ixD_FK, wp_ixD_FN, wp_ixD_C, kIxD_l, kIxD_f, kIxD_k, kIxD_n, kIxD_kf, kIxD_nf, kKey, keyOf_i, keyOf_s, keyT_2i, keyT_is, kIn, kNi, wp_inD, wp_notInD, inAll_C, inC_k, inC_n, inC_kf, inC_nf, wp_lenD_T, wp_lenD_L, wp_lenD_F, wp_lenD_C, kLenD_l, kLenD_f, kLenD_k, kLenD_n, kLenD_kf, kLenD_nf, wp_dnewK, wp_dnewN, ws_putD, kPd1, kPd2, kPd3, kPdC_k, kPdC_n, kPdC_l', wp_fz, kFz_d, kFz_r, kFzC_l, kFzC_f, kFzC_k, kFzC_n, wp_meth, kMe1, kMe2, kDtS, wp_pop, kPop, wp_popAt, kPopAt, wp_insert, kIns, wp_extend, kExt, kExt2, wp_bits, kBits, wp_shl, wp_shr, wp_band, wp_bor, wp_sortT, kSoI, wp_sortC, kSoR, kSoC_i, kSoC_p, at_0, at_1, at_2, at_3, items_lst, items_frz, wipeR, get_ap, get_ap0, take_ap, set_ap, set_ap0, List.append_assoc, Nat.add_assoc, List.take_succ_cons, List.take_zero, List.take_nil, take_len, if_if, wp_comp0, wp_comp1, kCp0, kCp1, kCp2, rngD_1, rngD_2, rngD_3, rngD_4, kAsgM, setAll, wp_enum, kEnumT, kEnumL, wp_maxT, wp_maxC, wp_minC, kMx, kMxR, List.length_cons, List.length_nil, List.map_cons, List.map_nil, List.replicate_succ, List.replicate_zero, List.cons_append, List.nil_append, List.set_cons_zero, List.set_cons_succ, List.getElem?_cons_zero, List.getElem?_cons_succ, List.take_length, take_ap0, List.length_append, List.length_set, Nat.zero_add, Nat.reduceAdd, Nat.reduceSub, Nat.sub_self, Nat.reduceEqDiff, Nat.reduceLeDiff, Nat.reduceLT, Nat.reduceMul, true_and, and_true, if_true, if_false, Bool.false_eq_true, Bool.not_true, Bool.not_false, decide_eq_true_eq, decide_true, decide_false, eq_self, not_false_eq_true, not_true_eq_false, and_self, Int.reduceEq, Int.reduceNeg, Int.reduceLT, Int.reduceLE, Int.reduceAdd, Int.reduceSub, Int.reduceMul, Int.reducePow, Int.reduceToNat, Int.reduceNe, natAbs_10, natAbs_2, Int.cast_ofNat_Int, Nat.reducePow, Int.neg_zero, Nat.lt_irrefl, ne_eq, isIntD, isBlD, isTupD, $[$ts:term],*])
section
variable {X : XP} {S : Sto} {P : Vl → Sto → Prop}
theorem e_int : is_integer = sIsInteger := rfl
theorem e_within : is_within = sIsWithin := rfl
theorem e_numbers : is_numbers = sIsNumbers := rfl
theorem e_source : law_source = sSource := rfl
theorem e_draw : law_draw = sDraw := rfl
theorem e_pick : law_pick = sPick := rfl
theorem e_whole : law_is_whole = sIsInteger := rfl
/-! data -/
def nD (x : Nat) : Dt := .int (x : Nat)
def rdD (rs : List Nat) : Dt := .tup (rs.map nD)
def prN (p : Nat × Nat) : Dt := .tup [.int (p.1 : Nat), .int (p.2 : Nat)]
def plD (pl : Pl) : Dt := .tup (pl.map prN)
def okR (rs : List Nat) : Prop := (∀ x ∈ rs, x ≤ 1000) ∧ 1 ≤ rs.length ∧ rs.length ≤ 12
def okRd (xs : List Dt) : Bool := (xs.all fun x => win x 0 1000) && (decide (1 ≤ xs.length) && decide (xs.length ≤ 12))
theorem check_ready_ok (xs : List Dt) (h : okRd xs = true) : check_ready [.d (.tup xs)] S = .ok (.d .non) S := wp_eq (by
  unfold okRd at h
  rw [Bool.and_eq_true, Bool.and_eq_true, decide_eq_true_eq, decide_eq_true_eq] at h
  have hb : xs.length ≤ big := by unfold big; omega
  have ok : ∀ x ∈ xs, okT x = true := fun x hx => by
    have := List.all_eq_true.mp h.1 x hx
    cases x <;> first | rfl | (cases this; done)
  exists check_ready, e_numbers, sIsNumbers_t _ ok _ _ hb
  rw [h.1]
  exists and_self
  have h1 : (1 : Int) ≤ (xs.length : Int) := by omega
  have h2 : (xs.length : Int) ≤ 12 := by omega
  exists h1, h2)
theorem check_ready_bad (xs : List Dt) (ok : ∀ x ∈ xs, okT x = true) (h : okRd xs = false) (hb : xs.length ≤ big) : check_ready [.d (.tup xs)] S = .exc ⟨"BadNumber"⟩ S := wp_exn (by
  unfold okRd at h
  exists check_ready, e_numbers, sIsNumbers_t _ ok _ _ hb
  cases e : (xs.all fun x => win x 0 1000) with
  | false => exists and_self
  | true =>
    rw [e, Bool.true_and] at h
    exists and_self
    by_cases h1 : (1 : Int) ≤ (xs.length : Int)
    · by_cases h2 : (xs.length : Int) ≤ 12
      · have g1 : 1 ≤ xs.length := by omega
        have g2 : xs.length ≤ 12 := by omega
        simp [g1, g2] at h
      · exists h1, h2
    · exists h1)
theorem okRd_of {rs : List Nat} (h : okR rs) : okRd (rs.map nD) = true := by
  unfold okRd
  rw [Bool.and_eq_true, Bool.and_eq_true, decide_eq_true_eq, decide_eq_true_eq, List.length_map]
  refine ⟨List.all_eq_true.mpr fun x hx => ?_, h.2⟩
  obtain ⟨k, hk, rfl⟩ := List.mem_map.mp hx
  have := h.1 k hk
  exact win_int.mpr (by omega)
theorem check_ok {rs : List Nat} (h : okR rs) : check_ready [.d (rdD rs)] S = .ok (.d .non) S := check_ready_ok _ (okRd_of h)
theorem is_size_t (xs : List Dt) (k : Int) : is_size [.d (.tup xs), .d (.int k)] S = .ok (.d (.bl (decide ((xs.length : Int) = k)))) S := wp_eq (by
  exists is_size)
/-! is_plan -/
def keyL (us : List Nat) : List (Dt × Dt) := us.map fun u => (.int (u : Nat), .bl true)
theorem eqD_ii (a b : Int) : eqD (.int a) (.int b) = decide (a = b) := by rw [eqD, Bool.beq_eq_decide_eq]
theorem getD_keyL (us : List Nat) (u : Nat) : (getD (keyL us) (.int (u : Nat))).isSome = decide (u ∈ us) := by
  unfold getD keyL
  rw [Option.isSome_map, List.find?_map, Option.isSome_map]
  induction us with
  | nil => rfl
  | cons v us ih =>
    rw [List.find?_cons]
    by_cases c : v = u
    · subst c
      simp [eqD_ii]
    · have : ¬ ((v : Nat) : Int) = (u : Int) := by omega
      have c2 : ¬ u = v := fun e => c e.symm
      simp only [Function.comp, eqD_ii, this, decide_false] at ih ⊢
      rw [ih]
      simp [c2]
theorem setD_keyL (us : List Nat) (u : Nat) (h : u ∉ us) : setD (keyL us) (.int (u : Nat)) (.bl true) = keyL (us ++ [u]) := by
  have : ((keyL us).any fun p => eqD p.1 (.int (u : Nat))) = false := by
    rw [List.any_eq_false]
    intro p hp
    obtain ⟨v, hv, rfl⟩ := List.mem_map.mp hp
    dsimp only
    rw [eqD_ii]
    have : v ≠ u := fun e => h (e ▸ hv)
    simp; omega
  unfold setD
  rw [this]
  simp [keyL]
theorem enu_N (k : Nat) (p : Nat × Nat) (r : Pl) : enuD k ((p :: r).map prN) = .tup [.int k, prN p] :: enuD (k + 1) (r.map prN) := rfl
theorem is_plan_ok {n : Nat} {pl : Pl} {L : List Nat} (h : Bld n pl L) (h1 : 1 ≤ n ∧ n ≤ 12) (hl : pl.length = n - 1) : is_plan [.d (.int (n : Nat)), .d (plD pl)] S = .ok (.d (.bl true)) S := wp_eq (by
  have w1 : win (.int (n : Nat)) 1 12 = true := win_int.mpr (by omega)
  have w2 : ((pl.length : Nat) : Int) = (n : Int) - 1 := by omega
  exists is_plan, e_within, sIsWithin_d _ okT_int, w1, plD, is_size_t, List.length_map, w2
  have hbd := h.bd
  refine ws_inv (I := fun r ρ S1 => ∃ done rest o3 o4 o5, pl = done ++ rest ∧ r = enuD done.length (rest.map prN) ∧ ρ = [some (.d (.int (n : Nat))), some (.d (.tup (pl.map prN))), some (.r S.length), o3, o4, o5] ∧ S1 = S ++ [.oth (.dK (keyL (used done)))]) ?_ ?_ ⟨[], pl, none, none, none, rfl, rfl, rfl, rfl⟩
  · rintro x r ρ S1 ⟨done, rest, o3, o4, o5, e, e2, rfl, rfl⟩
    cases rest with
    | nil => cases e2
    | cons p rest =>
      rw [enu_N] at e2
      cases e2
      refine ⟨_, rfl, ?_⟩
      obtain ⟨b1, b2⟩ := hbd done.length p (by rw [e, List.getElem?_append_right (Nat.le_refl _)]; simp)
      obtain ⟨u1, u2, u3⟩ := h.step done p rest e
      have hdl : done.length ≤ 11 := by
        have := congrArg List.length e
        simp at this; omega
      have ul : (used done).length ≤ 22 := by
        have : ∀ q : Pl, (used q).length = 2 * q.length := fun q => by
          induction q with
          | nil => rfl
          | cons a q ih => simp [used] at ih ⊢; omega
        rw [this]; omega
      have a1 : win (.int (p.1 : Nat)) 0 ((n : Int) + (done.length : Nat) - 1) = true := win_int.mpr (by omega)
      have a2 : win (.int (p.2 : Nat)) 0 ((n : Int) + (done.length : Nat) - 1) = true := win_int.mpr (by omega)
      have bg : ∀ us : List Nat, us.length ≤ 30 → (keyL us).length ≤ big := fun us h => by unfold keyL big; rw [List.length_map]; omega
      have u4 : p.2 ∉ used done ++ [p.1] := by simp [u2]; exact fun e => u3 e.symm
      have nb : ∀ x ∈ [Dt.int (p.1 : Nat), Dt.int (p.2 : Nat)], okT x = true := by simp [okT]
      exists prN, is_size_t, e_numbers, sIsNumbers_t _ nb _ _ (by unfold big; simp), List.all_cons, List.all_nil, a1, a2, Bool.and_self, getD_keyL, u1, setD_keyL _ _ u1, bg (used done) (by omega), u4, setD_keyL _ _ u4, bg (used done ++ [p.1]) (by simp; omega)
      refine ⟨done ++ [p], rest, _, _, _, by rw [e]; simp, by simp, rfl, ?_⟩
      rw [used_snoc]
  · rintro ρ S1 ⟨done, rest, o3, o4, o5, e, e2, rfl, rfl⟩
    exists and_self)
/-! plan_end -/
theorem at_nD {T : List Nat} {i : Nat} (h : i < T.length) : atI (T.map nD) ((i : Nat) : Int) = some (.int ((T.getD i 0 : Nat) : Int)) := by
  rw [at_nat (by omega) (by rw [List.length_map]; omega), List.getElem_map]
  simp only [nD, Int.toNat_natCast]
  rw [List.getD_eq_getElem?_getD, List.getElem?_eq_getElem h]
  rfl
theorem max_cast (a b : Nat) : (if ((b : Nat) : Int) > (a : Nat) then ((b : Nat) : Int) else (a : Nat)) + 1 = ((max a b + 1 : Nat) : Int) := by
  by_cases h : ((b : Nat) : Int) > (a : Nat)
  · rw [if_pos h]; omega
  · rw [if_neg h]; omega
theorem at_last {T : List Nat} {k : Nat} (h : T.length = k + 1) : atI (T.map nD) (-1) = some (.int ((T.getD k 0 : Nat) : Int)) := by
  have e : atI (T.map nD) (-1) = (T.map nD)[k]? := by
    unfold atI ixN
    rw [if_neg (by decide), List.length_map, h, if_pos (by omega)]
    show (T.map nD)[_]? = _
    congr 1
    omega
  rw [e, List.getElem?_map, List.getD_eq_getElem?_getD, List.getElem?_eq_getElem (by omega)]
  rfl
theorem prN_set (p : Nat × Nat) (ρ : Rho) (a b : Nat) : setAll ρ [a, b] [.int (p.1 : Nat), .int (p.2 : Nat)] = (ρ.set a (some (.d (.int (p.1 : Nat))))).set b (some (.d (.int (p.2 : Nat)))) := rfl
/-- how a plan ends -/
def fnl (rs : List Nat) (pl : Pl) : Nat := (tms rs pl).getD (2 * rs.length - 2) 0
theorem plan_end_ok {rs : List Nat} {pl : Pl} {L : List Nat} (hr : okR rs) (h : Bld rs.length pl L) (hl : pl.length = rs.length - 1) : plan_end [.d (rdD rs), .d (plD pl)] S = .ok (.d (.int (fnl rs pl : Nat))) S := wp_eq (by
  have h1 := hr.2
  have ip : ∀ S : Sto, is_plan [.d (.int ((rs.length : Nat) : Int)), .d (.tup (pl.map prN))] S = .ok (.d (.bl true)) S := fun S => is_plan_ok h h1 hl
  have ck : ∀ S : Sto, check_ready [.d (.tup (rs.map nD))] S = .ok (.d .non) S := fun S => check_ok hr
  exists plan_end, rdD, plD, ck, ip, List.length_map
  have hbd := h.bd
  refine ws_inv (I := fun r ρ S1 => ∃ done rest o3 o4, pl = done ++ rest ∧ r = rest.map prN ∧ ρ = [some (.d (.tup (rs.map nD))), some (.d (.tup (pl.map prN))), some (.r S.length), o3, o4] ∧ S1 = S ++ [.lst ((tms rs done).map nD)]) ?_ ?_ ⟨[], pl, none, none, rfl, rfl, rfl, rfl⟩
  · rintro x r ρ S1 ⟨done, rest, o3, o4, e, e2, rfl, rfl⟩
    cases rest with
    | nil => cases e2
    | cons p rest =>
      cases e2
      refine ⟨_, rfl, ?_⟩
      obtain ⟨b1, b2⟩ := hbd done.length p (by rw [e, List.getElem?_append_right (Nat.le_refl _)]; simp)
      have hdl : done.length ≤ 11 := by
        have := congrArg List.length e
        simp at this; omega
      have tl := tms_len rs done
      have bg : ((tms rs done).map nD).length ≤ big := by rw [List.length_map]; unfold big; omega
      exists prN_set, at_nD (T := tms rs done) (i := p.1) (by omega), at_nD (T := tms rs done) (i := p.2) (by omega), max_cast, bg
      refine ⟨done ++ [p], rest, _, _, by rw [e]; simp, rfl, rfl, ?_⟩
      rw [tms_snoc, List.map_append]
      rfl
  · rintro ρ S1 ⟨done, rest, o3, o4, e, e2, rfl, rfl⟩
    cases rest with
    | cons p rest => cases e2
    | nil =>
      rw [List.append_nil] at e
      subst e
      have tl := tms_len rs pl
      exists at_last (T := tms rs pl) (k := 2 * rs.length - 2) (by omega), fnl)
end
end K84
namespace K84
open PySem Mo
open L2 (atI ixN)
local macro_rules | `(tactic| exists $ts,*) => `(tactic| simp only [wp_ok, wp_exc, wp_bad, wp_var, kV, wp_c, wp_op, kOp1, kOp2, wp_t, kT, wp_chain, kCh1, kCh2, kCh3, kCh4, wp_and, wp_or, wp_not, kAnd, kOr, kNot, wp_andV, wp_orV, wp_notV, kAndV, kOrV, kNotV, wp_neg, kNeg, wp_ifE, kIfE, wp_nil, wp_cons, kC1, kC2, wp_tup, wp_lst, kTup0, kTup1, kTup2, kTup3, kTup4, kTup5, kTup6, kTup7, kTup8, kTup9, kTup10, kTup11, kTup12, kLst0, kLst1, kLst2, kLst3, kLst4, kLst5, kLst6, kLst7, kLst8, kLst9, kLst10, kLst11, kLst12, wp_fn, kFn, wp_call, kCall, wp_isi, kIsi_int, kIsi_bool, kIsi_tup, kIsi_list, kIsiR_int, kIsiR_bool, kIsiR_tup, kIsiR_list, okT_non, okT_bl, okT_int, okT_str, okT_tup, okT_fl, isLstD, wp_noPart, wp_part, kPart, wp_sl, kSl1, kSl2, kSl3T, kSl3L, kSl3C, kSlR, wp_rev, kRev, wp_listRg1, kLq, wp_listRg2, kLr1, kLr2, ws_seq, qSeq_nx, qSeq_rt, qSeq_ex, qSeq_br, qSeq_ct, ws_skip, ws_break, ws_cont, ws_retN, ws_raise, ws_mret, ws_drop, kDrop, ws_if, kIf, ws_asg, kAsg1, kAsg2, kAsg3, kX, ws_put, kPut1, kPut2, kPutC, kPutR, kPut4, ixN_3_0, ixN_3_1, ixN_3_2, wp_append, kApp1, kAppC, kAppR, ws_for, kForT, kForG, kForCe, kForR, wp_seqI, kSeqIT, kSeqIL, kSeqIR, kSq, sqE, sqc_l, sqc_f, kIsL_l, kIsL_f, kIsL_o, wp_rng1, wp_rng2, kRng1, kRng2, wp_lc, ws_loop0, ws_loop1, qLp_nx, qLp_ct, qLp_br, qLp_rt, qLp_ex, qN_nx, qN_ct, qN_br, qN_rt, qN_ex, qLi_nx, qLi_ct, qLi_br, qLi_rt, qLi_ex, qF_nx, qF_rt, qF_ex, kExD, kExRn, kExRn0, kExC, wp_fnM, qE_nx, qE_rt, qE_ex, qTry_nx, qTry_rt, qTry_ex, kTry1, kTry0, ws_try, wp_isE, kIsE, wp_add, wp_addT, wp_addC, kAdd, wp_sub, wp_mul, wp_div, wp_mod, wp_pow, wp_cmp, wp_eqI, wp_neI, wp_eqB, wp_neB, wp_ix, kDt, wp_ixC, kIxR, wp_lenT, wp_lenC, kLenR, wp_int, wp_abs, wp_max2, wp_min2, wp_tupleT, wp_tupleC, kTupR, wp_listT, wp_listC, kLisR, wp_allC, wp_anyC, kAllR, wp_sumT', wp_sumC, kSmR, wp_yes, wp_ixD_T, wp_ixD_L, wp_ixD_FK, wp_ixD_FN, wp_ixD_C, kIxD_l, kIxD_f, kIxD_k, kIxD_n, kIxD_kf, kIxD_nf, kKey, keyOf_i, keyOf_s, keyT_2i, keyT_is, kIn, kNi, wp_inD, wp_notInD, inAll_C, inC_k, inC_n, inC_kf, inC_nf, wp_lenD_T, wp_lenD_L, wp_lenD_F, wp_lenD_C, kLenD_l, kLenD_f, kLenD_k, kLenD_n, kLenD_kf, kLenD_nf, wp_dnewK, wp_dnewN, ws_putD, kPd1, kPd2, kPd3, kPdC_k, kPdC_n, kPdC_l', wp_fz, kFz_d, kFz_r, kFzC_l, kFzC_f, kFzC_k, kFzC_n, wp_meth, kMe1, kMe2, kDtS, wp_pop, kPop, wp_popAt, kPopAt, wp_insert, kIns, wp_extend, kExt, kExt2, wp_bits, kBits, wp_shl, wp_shr, wp_band, wp_bor, wp_sortT, kSoI, wp_sortC, kSoR, kSoC_i, kSoC_p, at_0, at_1, at_2, at_3, items_lst, items_frz, wipeR, get_ap, get_ap0, take_ap, set_ap, set_ap0, List.append_assoc, Nat.add_assoc, List.take_succ_cons, List.take_zero, List.take_nil, take_len, if_if, wp_comp0, wp_comp1, kCp0, kCp1, kCp2, rngD_1, rngD_2, rngD_3, rngD_4, kAsgM, setAll, wp_enum, kEnumT, kEnumL, wp_maxT, wp_maxC, wp_minC, kMx, kMxR, List.length_cons, List.length_nil, List.map_cons, List.map_nil, List.replicate_succ, List.replicate_zero, List.cons_append, List.nil_append, List.set_cons_zero, List.set_cons_succ, List.getElem?_cons_zero, List.getElem?_cons_succ, List.take_length, take_ap0, List.length_append, List.length_set, Nat.zero_add, Nat.reduceAdd, Nat.reduceSub, Nat.sub_self, Nat.reduceEqDiff, Nat.reduceLeDiff, Nat.reduceLT, Nat.reduceMul, true_and, and_true, if_true, if_false, Bool.false_eq_true, Bool.not_true, Bool.not_false, decide_eq_true_eq, decide_true, decide_false, eq_self, not_false_eq_true, not_true_eq_false, and_self, Int.reduceEq, Int.reduceNeg, Int.reduceLT, Int.reduceLE, Int.reduceAdd, Int.reduceSub, Int.reduceMul, Int.reducePow, Int.reduceToNat, Int.reduceNe, natAbs_10, natAbs_2, Int.cast_ofNat_Int, Nat.reducePow, Int.neg_zero, Nat.lt_irrefl, ne_eq, isIntD, isBlD, isTupD, $[$ts:term],*])
/-! stretches -/
def seg (rs : List Nat) (b e : Nat) : List Nat := (rs.drop b).take (e - b)
theorem seg_len {rs : List Nat} {b e : Nat} (h : e ≤ rs.length) : (seg rs b e).length = e - b := by simp [seg]; omega
theorem seg_split {rs : List Nat} {b m e : Nat} (h1 : b ≤ m) (h2 : m ≤ e) : seg rs b e = seg rs b m ++ seg rs m e := by
  unfold seg
  have : e - b = (m - b) + (e - m) := by omega
  rw [this, List.take_add, List.drop_drop, show b + (m - b) = m by omega]
theorem seg_one {rs : List Nat} {b : Nat} (h : b < rs.length) : seg rs b (b + 1) = [rs.getD b 0] := by
  unfold seg
  rw [show b + 1 - b = 1 by omega, List.drop_eq_getElem_cons h, List.getD_eq_getElem?_getD, List.getElem?_eq_getElem h]
  rfl
theorem seg_all (rs : List Nat) : seg rs 0 rs.length = rs := by simp [seg]
/-- the end of a join that parts at m -/
def jn (rs : List Nat) (b m e : Nat) : Nat := max (E (seg rs b m)) (E (seg rs m e)) + 1
theorem E_seg_le {rs : List Nat} {b m e : Nat} (h1 : b ≤ m) (h2 : m ≤ e) : E (seg rs b e) ≤ jn rs b m e := by
  rw [seg_split h1 h2]
  exact E_join _ _
theorem E_seg_ex {rs : List Nat} {b e : Nat} (h : b + 2 ≤ e) (he : e ≤ rs.length) : ∃ m, b < m ∧ m < e ∧ E (seg rs b e) = jn rs b m e := by
  obtain ⟨x, y, e1, hx, hy, e2⟩ := E_split (l := seg rs b e) (by rw [seg_len he]; omega)
  have lx := List.length_pos_iff.mpr hx
  have ly := List.length_pos_iff.mpr hy
  have l1 := congrArg List.length e1
  rw [seg_len he, List.length_append] at l1
  refine ⟨b + x.length, by omega, by omega, ?_⟩
  have s := seg_split (rs := rs) (b := b) (m := b + x.length) (e := e) (by omega) (by omega)
  rw [e1] at s
  have l2 : (seg rs b (b + x.length)).length = x.length := by rw [seg_len (by omega)]; omega
  obtain ⟨q1, q2⟩ := List.append_inj s l2.symm
  unfold jn
  rw [← q1, ← q2]
  exact e2
def kk (b e : Nat) : Dt := .tup [.int (b : Nat), .int (e : Nat)]
theorem kk_nb (b e : Nat) : nb (kk b e) = true := rfl
theorem kk_ne {b e b' e' : Nat} (h : b ≠ b' ∨ e ≠ e') : kk b e ≠ kk b' e' := by
  intro q
  simp only [kk, Dt.tup.injEq, List.cons.injEq, Dt.int.injEq, and_true] at q
  omega
/-- what the table holds of a stretch: by the program -/
def gd (rs : List Nat) (kvs : List (Dt × Dt)) (b e : Nat) : Prop := ∃ m : Dt, getD kvs (kk b e) = some (.tup [.int (E (seg rs b e) : Nat), m]) ∧ ((e = b + 1 ∧ m = .non) ∨ ∃ k : Nat, m = .int (k : Nat) ∧ b < k ∧ k < e ∧ E (seg rs b e) = jn rs b k e)
/-- all shorter stretches, and those as long that begin ahead -/
def filled (rs : List Nat) (g : List (Dt × Dt) → Nat → Nat → Prop) (kvs : List (Dt × Dt)) (s c : Nat) : Prop := (∀ p ∈ kvs, nb p.1 = true) ∧ kvs.length ≤ 13 * s + c ∧ ∀ b e, b < e → e ≤ rs.length → (e - b < s ∨ (e - b = s ∧ b < c)) → g kvs b e
section
variable {X : XP} {S : Sto} {P : Vl → Sto → Prop}
theorem at_nat' {xs : List Dt} {i : Nat} {d : Dt} (h : xs[i]? = some d) : atI xs ((i : Nat) : Int) = some d := by
  obtain ⟨h1, h2⟩ := List.getElem?_eq_some_iff.mp h
  rw [at_nat (by omega) (by omega)]
  simp [h2]
theorem max0 (a b : Nat) : (if ((b : Nat) : Int) > (a : Nat) then ((b : Nat) : Int) else (a : Nat)) + 1 = ((max a b + 1 : Nat) : Int) := max_cast a b
theorem filled_put {rs : List Nat} {kvs : List (Dt × Dt)} {s c : Nat} {v : Dt} {g : List (Dt × Dt) → Nat → Nat → Prop} (h : filled rs g kvs s c) (hs : g (setD kvs (kk c (c + s)) v) c (c + s))
    (mono : ∀ b e, (b ≠ c ∨ e ≠ c + s) → g kvs b e → g (setD kvs (kk c (c + s)) v) b e) : filled rs g (setD kvs (kk c (c + s)) v) s (c + 1) := by
  refine ⟨setD_nb (kk_nb _ _) h.1, ?_, fun b e h1 h2 h3 => ?_⟩
  · have := setD_len kvs (kk c (c + s)) v
    have := h.2.1
    omega
  · by_cases q : b = c ∧ e = c + s
    · rw [q.1, q.2]; exact hs
    · exact mono b e (by omega) (h.2.2 b e h1 h2 (by omega))
theorem gd_mono {rs : List Nat} {kvs : List (Dt × Dt)} {v : Dt} {x y b e : Nat} (hk : ∀ p ∈ kvs, nb p.1 = true) (n : b ≠ x ∨ e ≠ y) (h : gd rs kvs b e) : gd rs (setD kvs (kk x y) v) b e := by
  obtain ⟨m, h1, h2⟩ := h
  refine ⟨m, ?_, h2⟩
  rw [getD_setD_ne (kk_nb _ _) (kk_nb _ _) hk (kk_ne (by omega))]
  exact h1
theorem least_ends_ok {rs : List Nat} (hr : okR rs) : ∃ kvs, least_ends [.d (rdD rs)] S = .ok (.r S.length) (S ++ [.oth (.dN kvs)]) ∧ ∀ b e, b < e → e ≤ rs.length → gd rs kvs b e := by
  have hn := hr.2
  have key : wp nX (least_ends [.d (rdD rs)] S) fun v S1 => ∃ kvs, v = .r S.length ∧ S1 = S ++ [.oth (.dN kvs)] ∧ ∀ b e, b < e → e ≤ rs.length → gd rs kvs b e := by
    exists least_ends, rdD, List.length_map
    refine ⟨by unfold lim; omega, ?_⟩
    have en : ((rs.length : Int) + 1 - 1).toNat = rs.length := by omega
    rw [en]
    refine ws_invR (I := fun k ρ S1 => ∃ kvs o2 o3 o4 o5 o6 o7, ρ = [some (.d (.tup (rs.map nD))), some (.r S.length), o2, o3, o4, o5, o6, o7] ∧ S1 = S ++ [.oth (.dN kvs)] ∧ filled rs (gd rs) kvs (k + 1) 0) ?_ ?_ ⟨[], none, none, none, none, none, none, rfl, rfl, by simp, by simp, fun b e h1 h2 h3 => by omega⟩
    · rintro k hk ρ S1 ⟨kvs, o2, o3, o4, o5, o6, o7, rfl, rfl, hf⟩
      refine ⟨_, rfl, ?_⟩
      exists List.length_map
      refine ⟨by unfold lim; omega, ?_⟩
      have en2 : ((rs.length : Int) - (1 + (k : Nat)) + 1).toNat = rs.length - k := by omega
      rw [en2]
      refine ws_invR (I := fun c ρ S1 => ∃ kvs o3 o4 o5 o6 o7, ρ = [some (.d (.tup (rs.map nD))), some (.r S.length), some (.d (.int (1 + (k : Nat)))), o3, o4, o5, o6, o7] ∧ S1 = S ++ [.oth (.dN kvs)] ∧ filled rs (gd rs) kvs (k + 1) c) ?_ ?_ ⟨kvs, o3, o4, o5, o6, o7, rfl, rfl, hf⟩
      · rintro c hc ρ S1 ⟨kvs, o3, o4, o5, o6, o7, rfl, rfl, hf⟩
        refine ⟨_, rfl, ?_⟩
        have e0 : (0 : Int) + (c : Nat) = (c : Nat) := by omega
        have ee : ((c : Nat) : Int) + (1 + (k : Nat)) = ((c + (k + 1) : Nat) : Int) := by omega
        exists e0, ee, at_nD (T := rs) (i := c) (by omega)
        refine ⟨by unfold lim; omega, ?_⟩
        have en3 : (((c + (k + 1) : Nat) : Int) - ((c : Nat) + 1)).toNat = k := by omega
        rw [en3]
        -- the middles
        refine ws_invR (I := fun j ρ S1 => ∃ t m o6 o7, ρ = [some (.d (.tup (rs.map nD))), some (.r S.length), some (.d (.int (1 + (k : Nat)))), some (.d (.int (c : Nat))), some (.d (.int (c + (k + 1) : Nat))), some (.d (.tup [.int (t : Nat), m])), o6, o7] ∧ S1 = S ++ [.oth (.dN kvs)] ∧
          ((j = 0 ∧ t = rs.getD c 0 ∧ m = .non) ∨ (0 < j ∧ ∃ z : Nat, m = .int (z : Nat) ∧ c < z ∧ z < c + 1 + j ∧ t = jn rs c z (c + (k + 1)) ∧ ∀ y, c < y → y < c + 1 + j → t ≤ jn rs c y (c + (k + 1))))) ?_ ?_ ⟨rs.getD c 0, .non, o6, o7, rfl, rfl, .inl ⟨rfl, rfl, rfl⟩⟩
        · rintro j hj ρ S1 ⟨t, m, o6, o7, rfl, rfl, ht⟩
          refine ⟨_, rfl, ?_⟩
          obtain ⟨y, hy⟩ : ∃ y, y = c + 1 + j := ⟨_, rfl⟩
          have em : ((c : Nat) : Int) + 1 + (j : Nat) = (y : Nat) := by omega
          obtain ⟨m1, g1, _⟩ := hf.2.2 c y (by omega) (by omega) (by omega)
          obtain ⟨m2, g2, _⟩ := hf.2.2 y (c + (k + 1)) (by omega) (by omega) (by omega)
          unfold kk at g1 g2
          have ej : max (E (seg rs c y)) (E (seg rs y (c + (k + 1)))) + 1 = jn rs c y (c + (k + 1)) := rfl
          exists em, g1, g2, max0, ej
          by_cases j0 : j = 0
          · have c1 : ((y : Nat) : Int) = ((c : Nat) : Int) + 1 := by omega
            exists c1
            refine ⟨_, _, _, _, rfl, .inr ⟨by omega, y, by rw [← c1], by omega, by omega, rfl, fun z h1 h2 => ?_⟩⟩
            have : z = y := by omega
            rw [this]; exact Nat.le_refl _
          · have c1 : ¬ ((y : Nat) : Int) = ((c : Nat) : Int) + 1 := by omega
            rcases ht with ⟨q, _⟩ | ⟨_, z, rfl, z1, z2, z3, z4⟩
            · exact absurd q j0
            · by_cases lt : ((jn rs c y (c + (k + 1)) : Nat) : Int) < (t : Nat)
              · exists c1, lt
                refine ⟨_, _, _, _, rfl, .inr ⟨by omega, y, rfl, by omega, by omega, rfl, fun x h1 h2 => ?_⟩⟩
                by_cases hx : x = y
                · rw [hx]; exact Nat.le_refl _
                · have := z4 x h1 (by omega)
                  omega
              · exists c1, lt
                refine ⟨t, _, _, _, rfl, .inr ⟨by omega, z, rfl, z1, by omega, z3, fun x h1 h2 => ?_⟩⟩
                by_cases hx : x = y
                · rw [hx]; omega
                · exact z4 x h1 (by omega)
        · rintro ρ S1 ⟨t, m, o6, o7, rfl, rfl, ht⟩
          have hl : kvs.length ≤ big := by have := hf.2.1; unfold big; omega
          exists hl
          refine ⟨_, _, _, _, _, _, rfl, rfl, filled_put hf ?_ fun b e n g => gd_mono hf.1 n g⟩
          refine ⟨m, ?_, ?_⟩
          · rw [getD_setD_same (kk_nb _ _) hf.1]
            have : t = E (seg rs c (c + (k + 1))) := by
              rcases ht with ⟨j0, rfl, _⟩ | ⟨j0, z, _, z1, z2, z3, z4⟩
              · subst j0
                rw [seg_one (by omega), E_one]
              · refine Nat.le_antisymm ?_ (by rw [z3]; exact E_seg_le (by omega) (by omega))
                obtain ⟨y, y1, y2, y3⟩ := E_seg_ex (rs := rs) (b := c) (e := c + (k + 1)) (by omega) (by omega)
                rw [y3]
                exact z4 y y1 (by omega)
            rw [this]
          · rcases ht with ⟨j0, rfl, rfl⟩ | ⟨j0, z, rfl, z1, z2, z3, z4⟩
            · exact .inl ⟨by omega, rfl⟩
            · refine .inr ⟨z, rfl, z1, by omega, ?_⟩
              refine Nat.le_antisymm (E_seg_le (by omega) (by omega)) ?_
              obtain ⟨y, y1, y2, y3⟩ := E_seg_ex (rs := rs) (b := c) (e := c + (k + 1)) (by omega) (by omega)
              rw [← z3, y3]
              exact z4 y y1 (by omega)
      · rintro ρ S1 ⟨kvs, o3, o4, o5, o6, o7, rfl, rfl, hf⟩
        refine ⟨kvs, _, _, _, _, _, _, rfl, rfl, hf.1, by have := hf.2.1; omega, fun b e h1 h2 h3 => hf.2.2 b e h1 h2 (by omega)⟩
    · rintro ρ S1 ⟨kvs, o2, o3, o4, o5, o6, o7, rfl, rfl, hf⟩
      exists and_self
      exact ⟨kvs, rfl, fun b e h1 h2 => hf.2.2 b e h1 h2 (by omega)⟩
  generalize least_ends [.d (rdD rs)] S = r at key ⊢
  obtain ⟨v, S1, e, kvs, h1, h2, h3⟩ := wp_get key
  rw [h1, h2] at e
  exact ⟨kvs, e, h3⟩
theorem least_end_ok {rs : List Nat} (hr : okR rs) : least_end [.d (rdD rs)] S = .ok (.d (.int (E rs : Nat))) S := wp_eq (by
  have ck : ∀ S : Sto, check_ready [.d (.tup (rs.map nD))] S = .ok (.d .non) S := fun S => check_ok hr
  obtain ⟨kvs, e1, h⟩ := least_ends_ok (S := S) hr
  obtain ⟨m, g, _⟩ := h 0 rs.length (by have := hr.2; omega) (Nat.le_refl _)
  rw [seg_all] at g
  unfold kk at g
  have z : ((0 : Nat) : Int) = 0 := rfl
  rw [z] at g
  unfold rdD at e1
  exists least_end, rdD, ck, e1, List.length_map, g)
end
end K84
namespace K84
open PySem Mo
open L2 (atI ixN)
local macro_rules | `(tactic| exists $ts,*) => `(tactic| simp only [wp_ok, wp_exc, wp_bad, wp_var, kV, wp_c, wp_op, kOp1, kOp2, wp_t, kT, wp_chain, kCh1, kCh2, kCh3, kCh4, wp_and, wp_or, wp_not, kAnd, kOr, kNot, wp_andV, wp_orV, wp_notV, kAndV, kOrV, kNotV, wp_neg, kNeg, wp_ifE, kIfE, wp_nil, wp_cons, kC1, kC2, wp_tup, wp_lst, kTup0, kTup1, kTup2, kTup3, kTup4, kTup5, kTup6, kTup7, kTup8, kTup9, kTup10, kTup11, kTup12, kLst0, kLst1, kLst2, kLst3, kLst4, kLst5, kLst6, kLst7, kLst8, kLst9, kLst10, kLst11, kLst12, wp_fn, kFn, wp_call, kCall, wp_isi, kIsi_int, kIsi_bool, kIsi_tup, kIsi_list, kIsiR_int, kIsiR_bool, kIsiR_tup, kIsiR_list, okT_non, okT_bl, okT_int, okT_str, okT_tup, okT_fl, isLstD, wp_noPart, wp_part, kPart, wp_sl, kSl1, kSl2, kSl3T, kSl3L, kSl3C, kSlR, wp_rev, kRev, wp_listRg1, kLq, wp_listRg2, kLr1, kLr2, ws_seq, qSeq_nx, qSeq_rt, qSeq_ex, qSeq_br, qSeq_ct, ws_skip, ws_break, ws_cont, ws_retN, ws_raise, ws_mret, ws_drop, kDrop, ws_if, kIf, ws_asg, kAsg1, kAsg2, kAsg3, kX, ws_put, kPut1, kPut2, kPutC, kPutR, kPut4, ixN_3_0, ixN_3_1, ixN_3_2, wp_append, kApp1, kAppC, kAppR, ws_for, kForT, kForG, kForCe, kForR, wp_seqI, kSeqIT, kSeqIL, kSeqIR, kSq, sqE, sqc_l, sqc_f, kIsL_l, kIsL_f, kIsL_o, wp_rng1, wp_rng2, kRng1, kRng2, wp_lc, ws_loop0, ws_loop1, qLp_nx, qLp_ct, qLp_br, qLp_rt, qLp_ex, qN_nx, qN_ct, qN_br, qN_rt, qN_ex, qLi_nx, qLi_ct, qLi_br, qLi_rt, qLi_ex, qF_nx, qF_rt, qF_ex, kExD, kExRn, kExRn0, kExC, wp_fnM, qE_nx, qE_rt, qE_ex, qTry_nx, qTry_rt, qTry_ex, kTry1, kTry0, ws_try, wp_isE, kIsE, wp_add, wp_addT, wp_addC, kAdd, wp_sub, wp_mul, wp_div, wp_mod, wp_pow, wp_cmp, wp_eqI, wp_neI, wp_eqB, wp_neB, wp_ix, kDt, wp_ixC, kIxR, wp_lenT, wp_lenC, kLenR, wp_int, wp_abs, wp_max2, wp_min2, wp_tupleT, wp_tupleC, kTupR, wp_listT, wp_listC, kLisR, wp_allC, wp_anyC, kAllR, wp_sumT', wp_sumC, kSmR, wp_yes, wp_ixD_T, wp_ixD_L, wp_ixD_FK, wp_ixD_FN, wp_ixD_C, kIxD_l, kIxD_f, kIxD_k, kIxD_n, kIxD_kf, kIxD_nf, kKey, keyOf_i, keyOf_s, keyT_2i, keyT_is, kIn, kNi, wp_inD, wp_notInD, inAll_C, inC_k, inC_n, inC_kf, inC_nf, wp_lenD_T, wp_lenD_L, wp_lenD_F, wp_lenD_C, kLenD_l, kLenD_f, kLenD_k, kLenD_n, kLenD_kf, kLenD_nf, wp_dnewK, wp_dnewN, ws_putD, kPd1, kPd2, kPd3, kPdC_k, kPdC_n, kPdC_l', wp_fz, kFz_d, kFz_r, kFzC_l, kFzC_f, kFzC_k, kFzC_n, wp_meth, kMe1, kMe2, kDtS, wp_pop, kPop, wp_popAt, kPopAt, wp_insert, kIns, wp_extend, kExt, kExt2, wp_bits, kBits, wp_shl, wp_shr, wp_band, wp_bor, wp_sortT, kSoI, wp_sortC, kSoR, kSoC_i, kSoC_p, at_0, at_1, at_2, at_3, items_lst, items_frz, wipeR, get_ap, get_ap0, take_ap, set_ap, set_ap0, List.append_assoc, Nat.add_assoc, List.take_succ_cons, List.take_zero, List.take_nil, take_len, if_if, wp_comp0, wp_comp1, kCp0, kCp1, kCp2, rngD_1, rngD_2, rngD_3, rngD_4, kAsgM, setAll, wp_enum, kEnumT, kEnumL, wp_maxT, wp_maxC, wp_minC, kMx, kMxR, List.length_cons, List.length_nil, List.map_cons, List.map_nil, List.replicate_succ, List.replicate_zero, List.cons_append, List.nil_append, List.set_cons_zero, List.set_cons_succ, List.getElem?_cons_zero, List.getElem?_cons_succ, List.take_length, take_ap0, List.length_append, List.length_set, Nat.zero_add, Nat.reduceAdd, Nat.reduceSub, Nat.sub_self, Nat.reduceEqDiff, Nat.reduceLeDiff, Nat.reduceLT, Nat.reduceMul, true_and, and_true, if_true, if_false, Bool.false_eq_true, Bool.not_true, Bool.not_false, decide_eq_true_eq, decide_true, decide_false, eq_self, not_false_eq_true, not_true_eq_false, and_self, Int.reduceEq, Int.reduceNeg, Int.reduceLT, Int.reduceLE, Int.reduceAdd, Int.reduceSub, Int.reduceMul, Int.reducePow, Int.reduceToNat, Int.reduceNe, natAbs_10, natAbs_2, Int.cast_ofNat_Int, Nat.reducePow, Int.neg_zero, Nat.lt_irrefl, ne_eq, isIntD, isBlD, isTupD, $[$ts:term],*])
theorem tms_pre {rs : List Nat} {pl : Pl} (q : Pl) {p : Nat} (h : p < rs.length + pl.length) : (tms rs (pl ++ q)).getD p 0 = (tms rs pl).getD p 0 := by
  revert q
  refine snoc_ind (by rw [List.append_nil]) fun q a ih => ?_
  rw [← List.append_assoc, tms_snoc, getD_app (by rw [tms_len, List.length_append]; omega), ih]
theorem prN_map (pl : Pl) (a b : Nat) : pl.map prN ++ [.tup [.int (a : Nat), .int (b : Nat)]] = (pl ++ [(a, b)]).map prN := by simp [prN]
section
variable {X : XP} {S : Sto} {P : Vl → Sto → Prop}
theorem put_joins_ok {rs : List Nat} {kvs : List (Dt × Dt)} (hn : rs.length ≤ 12) (hg : ∀ b e, b < e → e ≤ rs.length → gd rs kvs b e) {d j : Nat} (hdj : d ≠ j) : ∀ (f b e : Nat), b < e → e ≤ rs.length → e - b ≤ f → ∀ (S : Sto) (pl : Pl) (A B : List Nat), S[d]? = some (.oth (.dN kvs)) → S[j]? = some (.lst (pl.map prN)) → BldN rs.length pl (A ++ (List.range' b (e - b) ++ B)) →
    ∃ q p, put_joins_ f [.r d, .d (.int (b : Nat)), .d (.int (e : Nat)), .r j, .d (.int (rs.length : Nat))] S = .ok (.d (.int (p : Nat))) (S.set j (.lst ((pl ++ q).map prN))) ∧ BldN rs.length (pl ++ q) (A ++ p :: B) ∧ (tms rs (pl ++ q)).getD p 0 = E (seg rs b e) := by
  intro f
  induction f with
  | zero => intro b e h1 h2 h3; omega
  | succ f ih =>
    intro b e h1 h2 h3 S pl A B ed ej hb
    obtain ⟨m, g1, g2⟩ := hg b e h1 h2
    unfold kk at g1
    rcases g2 with ⟨rfl, rfl⟩ | ⟨m, rfl, m1, m2, m3⟩
    · refine ⟨[], b, ?_, ?_, ?_⟩
      · rw [List.append_nil]
        have es : S.set j (.lst (pl.map prN)) = S := by
          apply List.ext_getElem?
          intro k
          rw [List.getElem?_set]
          by_cases h : j = k
          · subst h
            rw [if_pos rfl, if_pos (List.getElem?_eq_some_iff.mp ej).1, ej]
          · rw [if_neg h]
        rw [es]
        exact wp_eq (by exists put_joins_, ed, g1, isN_n)
      · rw [List.append_nil]
        rw [show b + 1 - b = 1 by omega] at hb
        exact hb
      · rw [seg_one (by omega), E_one, List.append_nil]
        have := tms_pre (rs := rs) (pl := []) pl (p := b) (by simp; omega)
        exact this
    · have s1 : List.range' b (e - b) = List.range' b (m - b) ++ List.range' m (e - m) := by
        rw [show e - b = (m - b) + (e - m) by omega, ← List.range'_append_1, show b + (m - b) = m by omega]
      rw [s1, List.append_assoc] at hb
      obtain ⟨q1, p1, r1, b1, t1⟩ := ih b m m1 (by omega) (by omega) S pl A (List.range' m (e - m) ++ B) ed ej hb
      have jl := (List.getElem?_eq_some_iff.mp ej).1
      have b1' : BldN rs.length (pl ++ q1) ((A ++ [p1]) ++ (List.range' m (e - m) ++ B)) := by simpa using b1
      obtain ⟨q2, p2, r2, b2, t2⟩ := ih m e m2 h2 (by omega) (S.set j (.lst ((pl ++ q1).map prN))) (pl ++ q1) (A ++ [p1]) B (by rw [List.getElem?_set_ne (Ne.symm hdj)]; exact ed) (List.getElem?_set_self jl) b1'
      rw [List.set_set] at r2
      rw [List.append_assoc] at r2 b2 t2
      have b2' : BldN rs.length (pl ++ (q1 ++ q2)) (A ++ p1 :: p2 :: B) := by simpa using b2
      have b3 := b2'.snoc
      have len := b2.bld.len
      have big1 : (pl ++ (q1 ++ q2)).length ≤ big := by unfold big; omega
      have tk : ∀ c : Ce, (S.set j c).take S.length = S.set j c := fun c => take_len (List.length_set ..)
      have st : ∀ c : Ce, (S.set j c)[j]? = some c := fun c => List.getElem?_set_self jl
      refine ⟨q1 ++ (q2 ++ [(p1, p2)]), rs.length + (pl ++ (q1 ++ q2)).length, wp_eq ?_, ?_, ?_⟩
      · have e1 : pl ++ (q1 ++ (q2 ++ [(p1, p2)])) = (pl ++ (q1 ++ q2)) ++ [(p1, p2)] := by simp
        rw [e1]
        generalize pl ++ (q1 ++ q2) = z at *
        exists put_joins_, ed, g1, isN_i, r1, r2, st, big1, prN_map, List.set_set, tk, List.length_map
        simp only [Vl.d.injEq, Dt.int.injEq]
        omega
      · have e1 : pl ++ (q1 ++ (q2 ++ [(p1, p2)])) = (pl ++ (q1 ++ q2)) ++ [(p1, p2)] := by simp
        rw [e1]
        exact b3
      · have e1 : pl ++ (q1 ++ (q2 ++ [(p1, p2)])) = (pl ++ (q1 ++ q2)) ++ [(p1, p2)] := by simp
        rw [e1, tms_snoc, getD_new (by rw [tms_len]), t2, m3]
        have e2 : pl ++ (q1 ++ q2) = (pl ++ q1) ++ q2 := by simp
        have lt : p1 < rs.length + (pl ++ q1).length := b1.bld.mem (by simp)
        dsimp only
        rw [e2, tms_pre q2 lt, t1]
        rfl
theorem least_plan_ok {rs : List Nat} (hr : okR rs) : ∃ pl, least_plan [.d (rdD rs)] S = .ok (.d (plD pl)) S ∧ BldN rs.length pl [2 * rs.length - 2] ∧ pl.length = rs.length - 1 ∧ fnl rs pl = E rs := by
  have hn := hr.2
  have ck : ∀ S : Sto, check_ready [.d (.tup (rs.map nD))] S = .ok (.d .non) S := fun S => check_ok hr
  obtain ⟨kvs, e1, hg⟩ := least_ends_ok (S := S ++ [.lst []]) hr
  unfold rdD at e1
  obtain ⟨pl, p, e2, e3, e4⟩ := put_joins_ok hn.2 hg (d := (S ++ [Ce.lst []]).length) (j := S.length) (by simp) 40 0 rs.length (by omega) (Nat.le_refl _) (by omega) (S ++ [.lst []] ++ [.oth (.dN kvs)]) [] [] [] (by simp) (by simp) (by
    simp only [List.nil_append, List.append_nil, Nat.sub_zero]
    rw [← List.range_eq_range']
    exact .nil)
  rw [List.nil_append] at e2 e3 e4
  rw [List.nil_append] at e3
  have len := e3.bld.len
  have lenp : pl.length = rs.length - 1 := by simp at len; omega
  have hp : p = 2 * rs.length - 2 := by
    have := (e3.bld.last (by omega) lenp).1
    simpa using this
  subst hp
  refine ⟨pl, wp_eq ?_, e3, lenp, ?_⟩
  · have z : ((0 : Nat) : Int) = 0 := rfl
    rw [z] at e2
    simp only [List.length_append, List.length_singleton, List.append_assoc, List.singleton_append] at e2
    exists least_plan, rdD, ck, e1, List.length_map
    rw [show put_joins = put_joins_ 40 from rfl, e2]
    exists plD
  · rw [seg_all] at e4
    exact e4
end
end K84
namespace K84
open PySem Mo
open L2 (atI ixN)
local macro_rules | `(tactic| exists $ts,*) => `(tactic| simp only [wp_ok, wp_exc, wp_bad, wp_var, kV, wp_c, wp_op, kOp1, kOp2, wp_t, kT, wp_chain, kCh1, kCh2, kCh3, kCh4, wp_and, wp_or, wp_not, kAnd, kOr, kNot, wp_andV, wp_orV, wp_notV, kAndV, kOrV, kNotV, wp_neg, kNeg, wp_ifE, kIfE, wp_nil, wp_cons, kC1, kC2, wp_tup, wp_lst, kTup0, kTup1, kTup2, kTup3, kTup4, kTup5, kTup6, kTup7, kTup8, kTup9, kTup10, kTup11, kTup12, kLst0, kLst1, kLst2, kLst3, kLst4, kLst5, kLst6, kLst7, kLst8, kLst9, kLst10, kLst11, kLst12, wp_fn, kFn, wp_call, kCall, wp_isi, kIsi_int, kIsi_bool, kIsi_tup, kIsi_list, kIsiR_int, kIsiR_bool, kIsiR_tup, kIsiR_list, okT_non, okT_bl, okT_int, okT_str, okT_tup, okT_fl, isLstD, wp_noPart, wp_part, kPart, wp_sl, kSl1, kSl2, kSl3T, kSl3L, kSl3C, kSlR, wp_rev, kRev, wp_listRg1, kLq, wp_listRg2, kLr1, kLr2, ws_seq, qSeq_nx, qSeq_rt, qSeq_ex, qSeq_br, qSeq_ct, ws_skip, ws_break, ws_cont, ws_retN, ws_raise, ws_mret, ws_drop, kDrop, ws_if, kIf, ws_asg, kAsg1, kAsg2, kAsg3, kX, ws_put, kPut1, kPut2, kPutC, kPutR, kPut4, ixN_3_0, ixN_3_1, ixN_3_2, wp_append, kApp1, kAppC, kAppR, ws_for, kForT, kForG, kForCe, kForR, wp_seqI, kSeqIT, kSeqIL, kSeqIR, kSq, sqE, sqc_l, sqc_f, kIsL_l, kIsL_f, kIsL_o, wp_rng1, wp_rng2, kRng1, kRng2, wp_lc, ws_loop0, ws_loop1, qLp_nx, qLp_ct, qLp_br, qLp_rt, qLp_ex, qN_nx, qN_ct, qN_br, qN_rt, qN_ex, qLi_nx, qLi_ct, qLi_br, qLi_rt, qLi_ex, qF_nx, qF_rt, qF_ex, kExD, kExRn, kExRn0, kExC, wp_fnM, qE_nx, qE_rt, qE_ex, qTry_nx, qTry_rt, qTry_ex, kTry1, kTry0, ws_try, wp_isE, kIsE, wp_add, wp_addT, wp_addC, kAdd, wp_sub, wp_mul, wp_div, wp_mod, wp_pow, wp_cmp, wp_eqI, wp_neI, wp_eqB, wp_neB, wp_ix, kDt, wp_ixC, kIxR, wp_lenT, wp_lenC, kLenR, wp_int, wp_abs, wp_max2, wp_min2, wp_tupleT, wp_tupleC, kTupR, wp_listT, wp_listC, kLisR, wp_allC, wp_anyC, kAllR, wp_sumT', wp_sumC, kSmR, wp_yes, wp_ixD_T, wp_ixD_L, wp_ixD_FK, wp_ixD_FN, wp_ixD_C, kIxD_l, kIxD_f, kIxD_k, kIxD_n, kIxD_kf, kIxD_nf, kKey, keyOf_i, keyOf_s, keyT_2i, keyT_is, kIn, kNi, wp_inD, wp_notInD, inAll_C, inC_k, inC_n, inC_kf, inC_nf, wp_lenD_T, wp_lenD_L, wp_lenD_F, wp_lenD_C, kLenD_l, kLenD_f, kLenD_k, kLenD_n, kLenD_kf, kLenD_nf, wp_dnewK, wp_dnewN, ws_putD, kPd1, kPd2, kPd3, kPdC_k, kPdC_n, kPdC_l', wp_fz, kFz_d, kFz_r, kFzC_l, kFzC_f, kFzC_k, kFzC_n, wp_meth, kMe1, kMe2, kDtS, wp_pop, kPop, wp_popAt, kPopAt, wp_insert, kIns, wp_extend, kExt, kExt2, wp_bits, kBits, wp_shl, wp_shr, wp_band, wp_bor, wp_sortT, kSoI, wp_sortC, kSoR, kSoC_i, kSoC_p, at_0, at_1, at_2, at_3, items_lst, items_frz, wipeR, get_ap, get_ap0, take_ap, set_ap, set_ap0, List.append_assoc, Nat.add_assoc, List.take_succ_cons, List.take_zero, List.take_nil, take_len, if_if, wp_comp0, wp_comp1, kCp0, kCp1, kCp2, rngD_1, rngD_2, rngD_3, rngD_4, kAsgM, setAll, wp_enum, kEnumT, kEnumL, wp_maxT, wp_maxC, wp_minC, kMx, kMxR, List.length_cons, List.length_nil, List.map_cons, List.map_nil, List.replicate_succ, List.replicate_zero, List.cons_append, List.nil_append, List.set_cons_zero, List.set_cons_succ, List.getElem?_cons_zero, List.getElem?_cons_succ, List.take_length, take_ap0, List.length_append, List.length_set, Nat.zero_add, Nat.reduceAdd, Nat.reduceSub, Nat.sub_self, Nat.reduceEqDiff, Nat.reduceLeDiff, Nat.reduceLT, Nat.reduceMul, true_and, and_true, if_true, if_false, Bool.false_eq_true, Bool.not_true, Bool.not_false, decide_eq_true_eq, decide_true, decide_false, eq_self, not_false_eq_true, not_true_eq_false, and_self, Int.reduceEq, Int.reduceNeg, Int.reduceLT, Int.reduceLE, Int.reduceAdd, Int.reduceSub, Int.reduceMul, Int.reducePow, Int.reduceToNat, Int.reduceNe, natAbs_10, natAbs_2, Int.cast_ofNat_Int, Nat.reducePow, Int.neg_zero, Nat.lt_irrefl, ne_eq, isIntD, isBlD, isTupD, $[$ts:term],*])
def toI (p : Nat × Nat) : Int × Int := ((p.1 : Nat), (p.2 : Nat))
theorem prN_eq (p : Nat × Nat) : prN p = prD' (toI p) := rfl
theorem prN_maps (W : Pl) : W.map prN = (W.map toI).map prD' := by rw [List.map_map]; rfl
theorem sortN (W : Pl) : ∃ V : Pl, (sortP (W.map toI)).map prD' = V.map prN ∧ V.Perm W ∧ V.Pairwise fun p q => p.1 ≤ q.1 := by
  have hp := sortP_perm (W.map toI)
  have hs := sortP_srt (W.map toI)
  generalize sortP (W.map toI) = Z at *
  refine ⟨Z.map fun p => (p.1.toNat, p.2.toNat), ?_, ?_, ?_⟩
  · rw [prN_maps]
    refine congrArg (List.map prD') ?_
    rw [List.map_map]
    have : ∀ z ∈ Z, (toI ∘ fun p : Int × Int => (p.1.toNat, p.2.toNat)) z = z := fun z hz => by
      obtain ⟨q, _, rfl⟩ := List.mem_map.mp (hp.mem_iff.mp hz)
      simp [toI]
    rw [List.map_congr_left this]
    simp
  · have := hp.map fun p : Int × Int => (p.1.toNat, p.2.toNat)
    rw [List.map_map] at this
    have e : ((fun p : Int × Int => (p.1.toNat, p.2.toNat)) ∘ toI) = id := by funext p; simp [toI]
    rw [e, List.map_id] at this
    exact this
  · rw [List.pairwise_map]
    refine hs.imp fun {p q} h => ?_
    unfold lePr at h
    split at h
    · omega
    · have := of_decide_eq_true h
      omega
theorem toPrs_N (W : Pl) : toPrs (W.map prN) = some (W.map toI) := by rw [prN_maps, toPrs_map]
theorem toInts_N (p : Nat × Nat) (W : Pl) : toInts ((p :: W).map prN) = none := rfl
theorem cut2 (a b : Dt) (r : List Dt) : cutD (a :: b :: r) (some 2) none = r := by
  rw [cut_post (by decide)]
  rfl
section
variable {X : XP} {S : Sto} {P : Vl → Sto → Prop}
structure Wt (rs : List Nat) (pl W : Pl) : Prop where
  bld : Bld rs.length pl (W.map (·.2))
  tim : ∀ p ∈ W, p.1 = (tms rs pl).getD p.2 0
  low : F (W.map (·.1)) ≤ F rs
  one : 1 ≤ W.length
theorem Wt.perm {rs : List Nat} {pl W V : Pl} (h : Wt rs pl W) (p : V.Perm W) : Wt rs pl V := by
  refine ⟨?_, fun q hq => h.tim q (p.mem_iff.mp hq), by rw [F_perm (p.map _)]; exact h.low, by rw [p.length_eq]; exact h.one⟩
  have hb := h.bld
  generalize hL : W.map (·.2) = L at hb
  have pp : (V.map (·.2)).Perm L := hL ▸ p.map _
  cases hb with
  | nil h => exact .nil (pp.trans h)
  | snoc h1 h2 h3 => exact .snoc h1 h2 (pp.trans h3)
theorem Wt.step {rs : List Nat} {pl R : Pl} {p q : Nat × Nat} (h : Wt rs pl (p :: q :: R)) (s : (p :: q :: R).Pairwise fun p q => p.1 ≤ q.1) : Wt rs (pl ++ [(p.2, q.2)]) (R ++ [(q.1 + 1, rs.length + pl.length)]) := by
  have tp := h.tim p (by simp)
  have tq := h.tim q (by simp)
  rw [List.pairwise_cons, List.pairwise_cons] at s
  have pq := s.1 q (by simp)
  refine ⟨.snoc h.bld (R := R.map (·.2)) (.refl _) ?_, fun r hr => ?_, ?_, by simp⟩
  · rw [List.map_append]
    exact List.perm_append_singleton _ _
  · rcases List.mem_append.mp hr with hr | hr
    · rw [tms_snoc, getD_app, h.tim r (by simp [hr])]
      rw [tms_len]
      exact h.bld.mem (List.mem_map_of_mem (by simp [hr]))
    · rw [List.mem_singleton.mp hr, tms_snoc, getD_new (by rw [tms_len])]
      dsimp only
      rw [← tp, ← tq]
      omega
  · refine Nat.le_trans ?_ h.low
    rw [List.map_append, List.map_singleton, F_perm (List.perm_append_singleton _ _)]
    exact F_greedy pq fun x hx => by
      obtain ⟨r, hr, rfl⟩ := List.mem_map.mp hx
      exact s.2.1 r hr
theorem F_fin {rs : List Nat} {pl : Pl} {L : List Nat} (hn : 1 ≤ rs.length) (h : Bld rs.length pl L) (hl : pl.length = rs.length - 1) : F rs ≤ fnl rs pl := by
  have l := (h.last (by omega) hl).2
  have e := E_tms (rs := rs) rfl pl h.bd (2 * rs.length - 2) (by omega)
  refine Nat.le_trans ?_ e
  refine Nat.le_trans ?_ (F_le_E _)
  rw [F_perm (l.map _)]
  have : (List.range rs.length).map (fun i => rs.getD i 0) = rs := by
    apply List.ext_getElem
    · simp
    · intro i h1 h2
      simp [List.getD_eq_getElem?_getD, h2]
  rw [this]
  exact Nat.le_refl _
theorem Wt.fnl {rs : List Nat} {pl W : Pl} (hn : 1 ≤ rs.length) (h : Wt rs pl W) (h1 : W.length ≤ 1) : pl.length = rs.length - 1 ∧ fnl rs pl = F rs := by
  have hl := h.bld.len
  rw [List.length_map] at hl
  have o := h.one
  have lp : pl.length = rs.length - 1 := by omega
  refine ⟨lp, Nat.le_antisymm ?_ (F_fin hn h.bld lp)⟩
  obtain ⟨p, rfl⟩ := List.length_eq_one_iff.mp (show W.length = 1 by omega)
  have e := (h.bld.last (by omega) lp).1
  have e : p.2 = 2 * rs.length - 2 := by simpa using e
  have t := h.tim p (by simp)
  have lo := h.low
  simp only [List.map_cons, List.map_nil, F_one] at lo
  unfold K84.fnl
  rw [← e, ← t]
  exact lo
/-- the parts to begin with -/
def st (rs : List Nat) (k : Nat) : Pl := (rs.zipIdx k)
theorem Wt.start (rs : List Nat) (hn : 1 ≤ rs.length) : Wt rs [] (rs.zipIdx) := by
  refine ⟨.nil ?_, fun p hp => ?_, ?_, by simpa using hn⟩
  · rw [List.zipIdx_map_snd, List.range_eq_range']
  · have := List.mem_zipIdx hp
    obtain ⟨_, h2, h3⟩ := this
    simp only [tms, List.foldl_nil, List.getD_eq_getElem?_getD]
    rw [List.getElem?_eq_getElem (by omega)]
    simpa using h3
  · rw [List.zipIdx_map_fst]
    exact Nat.le_refl _
theorem free_plan_ok {rs : List Nat} (hr : okR rs) : ∃ pl, free_plan [.d (rdD rs)] S = .ok (.d (plD pl)) S ∧ Bld rs.length pl [2 * rs.length - 2] ∧ pl.length = rs.length - 1 ∧ K84.fnl rs pl = F rs := by
  have hn := hr.2
  have ck : ∀ S : Sto, check_ready [.d (.tup (rs.map nD))] S = .ok (.d .non) S := fun S => check_ok hr
  have key : wp nX (free_plan [.d (rdD rs)] S) fun v S1 => S1 = S ∧ ∃ pl, v = .d (plD pl) ∧ Bld rs.length pl [2 * rs.length - 2] ∧ pl.length = rs.length - 1 ∧ K84.fnl rs pl = F rs := by
    have hen : ∀ (l : List Nat) (k : Nat), (enuD k (l.map nD)).map (fun x => match x with | .tup [a, b] => .tup [b, a] | y => y) = (l.zipIdx k).map prN := by
      intro l
      induction l with
      | nil => intro k; rfl
      | cons a l ih => intro k; rw [List.map_cons, enuD, List.map_cons, ih, List.zipIdx_cons, List.map_cons]; rfl
    have hex : ∀ (l : List Nat) (k : Nat), ∀ x ∈ enuD k (l.map nD), ∃ a b : Nat, x = .tup [.int (a : Nat), .int (b : Nat)] := by
      intro l
      induction l with
      | nil => intro k x hx; cases hx
      | cons a l ih =>
        intro k x hx
        rcases List.mem_cons.mp hx with rfl | hx
        · exact ⟨k, a, rfl⟩
        · exact ih _ x hx
    exists free_plan, rdD, ck
    rw [kLc_map (f := fun x => match x with | .tup [a, b] => .tup [b, a] | y => y) (fun x hx acc => by
      obtain ⟨a, b, rfl⟩ := hex _ _ x hx
      exact ⟨_, rfl, wp_eq (by exists and_self)⟩) (by have q := congrArg List.length (hen rs 0); simp only [List.length_map, List.length_zipIdx] at q; rw [q]; unfold big; omega)]
    rw [hen]
    exists and_self
    refine ws_while (I := fun k ρ S1 => ∃ pl W i o3 o4, W.length = k ∧ Wt rs pl W ∧ ρ = [some (.d (.tup (rs.map nD))), some (.r i), some (.r (S.length + 1)), o3, o4, none, none] ∧ S.length + 1 < S1.length ∧ S1.take S.length = S ∧ S1[i]? = some (.lst (W.map prN)) ∧ S1[S.length + 1]? = some (.lst (pl.map prN)) ∧ i ≠ S.length + 1 ∧ S.length ≤ i) ?_ (k := rs.length) (by omega) ⟨[], rs.zipIdx, S.length, none, none, by simp, .start rs hn.1, rfl, by simp, by simp, by simp, by simp, by omega, Nat.le_refl _⟩
    rintro k ρ S1 ⟨pl, W, i, o3, o4, rfl, wt, rfl, hl, tk, e1, e2, ne, le⟩
    exists e1, List.length_map
    by_cases c : (1 : Int) < W.length
    · obtain ⟨V, v1, v2, v3⟩ := sortN W
      have wv := wt.perm v2
      have lv := v2.length_eq
      obtain ⟨p, q, R, rfl⟩ : ∃ p q R, V = p :: q :: R := by
        match V, lv with
        | [], h => simp at h; omega
        | [a], h => simp at h; omega
        | a :: b :: R, _ => exact ⟨a, b, R, rfl⟩
      have ti : toInts (W.map prN) = none := by
        cases W with
        | nil => simp at c
        | cons a W => rfl
      have len := wt.bld.len
      have bg : pl.length ≤ big := by unfold big; omega
      have e2' : ∀ T : Sto, (S1 ++ T)[S.length + 1]? = some (.lst (pl.map prN)) := fun T => by rw [List.getElem?_append_left hl]; exact e2
      have s2 : ∀ (T : Sto) (c : Ce), (S1 ++ T).set (S.length + 1) c = S1.set (S.length + 1) c ++ T := fun T c => List.set_append_left _ _ hl
      have s3 : ∀ (T : Sto) (c : Ce), (S1.set (S.length + 1) c ++ T)[S.length + 1]? = some c := fun T c => by
        rw [List.getElem?_append_left (by rw [List.length_set]; exact hl), List.getElem?_set_self hl]
      have s4 : ∀ (T : Sto) (c : Ce), (S1.set (S.length + 1) c ++ T)[S1.length]? = T[0]? := fun T c => by
        rw [List.getElem?_append_right (by rw [List.length_set]; exact Nat.le_refl _), List.length_set, Nat.sub_self]
      exists c, e1, kWh, ti, toPrs_N, v1
      exists prN, ws_par, kPar, List.length_map, e2', s2, s3, s4, bg, cut2
      have e3 : ((rs.length : Nat) : Int) + ((pl.length + 1 : Nat) : Int) - 1 = ((rs.length + pl.length : Nat) : Int) := by omega
      have e4 : ((q.1 : Nat) : Int) + 1 = ((q.1 + 1 : Nat) : Int) := by omega
      rw [e3, e4]
      have e5 : pl.map prN ++ [.tup [.int (p.2 : Nat), .int (q.2 : Nat)]] = (pl ++ [(p.2, q.2)]).map prN := prN_map ..
      have e6 : R.map prN ++ [.tup [.int ((q.1 + 1 : Nat) : Int), .int ((rs.length + pl.length : Nat) : Int)]] = (R ++ [(q.1 + 1, rs.length + pl.length)]).map prN := prN_map ..
      rw [e5, e6]
      refine ⟨by simp at lv len; unfold big; omega, R.length + 1, by simp at lv; omega, pl ++ [(p.2, q.2)], R ++ [(q.1 + 1, rs.length + pl.length)], S1.length + 1, _, _, by simp, wv.step v3, rfl, by omega, ?_, ?_, rfl, by omega, by omega⟩
      · rw [List.take_append_of_le_length (by rw [List.length_set]; omega), List.take_set_of_le (by omega), tk]
      · rw [List.getElem?_append_right (by rw [List.length_set]; omega), List.length_set, Nat.add_sub_cancel_left]
        rfl
    · exists c, e2, kWh, tk
      obtain ⟨h1, h2⟩ := wt.fnl hn.1 (by omega)
      refine ⟨pl, rfl, ?_, h1, h2⟩
      have := (wt.bld.last (by omega) h1).1
      rw [← this]
      exact wt.bld
  generalize free_plan [.d (rdD rs)] S = r at key ⊢
  obtain ⟨v, S1, e, rfl, pl, rfl, h⟩ := wp_get key
  exact ⟨pl, e, h⟩
end
end K84
namespace K84
open PySem Mo
open L2 (atI ixN)
local macro_rules | `(tactic| exists $ts,*) => `(tactic| simp only [wp_ok, wp_exc, wp_bad, wp_var, kV, wp_c, wp_op, kOp1, kOp2, wp_t, kT, wp_chain, kCh1, kCh2, kCh3, kCh4, wp_and, wp_or, wp_not, kAnd, kOr, kNot, wp_andV, wp_orV, wp_notV, kAndV, kOrV, kNotV, wp_neg, kNeg, wp_ifE, kIfE, wp_nil, wp_cons, kC1, kC2, wp_tup, wp_lst, kTup0, kTup1, kTup2, kTup3, kTup4, kTup5, kTup6, kTup7, kTup8, kTup9, kTup10, kTup11, kTup12, kLst0, kLst1, kLst2, kLst3, kLst4, kLst5, kLst6, kLst7, kLst8, kLst9, kLst10, kLst11, kLst12, wp_fn, kFn, wp_call, kCall, wp_isi, kIsi_int, kIsi_bool, kIsi_tup, kIsi_list, kIsiR_int, kIsiR_bool, kIsiR_tup, kIsiR_list, okT_non, okT_bl, okT_int, okT_str, okT_tup, okT_fl, isLstD, wp_noPart, wp_part, kPart, wp_sl, kSl1, kSl2, kSl3T, kSl3L, kSl3C, kSlR, wp_rev, kRev, wp_listRg1, kLq, wp_listRg2, kLr1, kLr2, ws_seq, qSeq_nx, qSeq_rt, qSeq_ex, qSeq_br, qSeq_ct, ws_skip, ws_break, ws_cont, ws_retN, ws_raise, ws_mret, ws_drop, kDrop, ws_if, kIf, ws_asg, kAsg1, kAsg2, kAsg3, kX, ws_put, kPut1, kPut2, kPutC, kPutR, kPut4, ixN_3_0, ixN_3_1, ixN_3_2, wp_append, kApp1, kAppC, kAppR, ws_for, kForT, kForG, kForCe, kForR, wp_seqI, kSeqIT, kSeqIL, kSeqIR, kSq, sqE, sqc_l, sqc_f, kIsL_l, kIsL_f, kIsL_o, wp_rng1, wp_rng2, kRng1, kRng2, wp_lc, ws_loop0, ws_loop1, qLp_nx, qLp_ct, qLp_br, qLp_rt, qLp_ex, qN_nx, qN_ct, qN_br, qN_rt, qN_ex, qLi_nx, qLi_ct, qLi_br, qLi_rt, qLi_ex, qF_nx, qF_rt, qF_ex, kExD, kExRn, kExRn0, kExC, wp_fnM, qE_nx, qE_rt, qE_ex, qTry_nx, qTry_rt, qTry_ex, kTry1, kTry0, ws_try, wp_isE, kIsE, wp_add, wp_addT, wp_addC, kAdd, wp_sub, wp_mul, wp_div, wp_mod, wp_pow, wp_cmp, wp_eqI, wp_neI, wp_eqB, wp_neB, wp_ix, kDt, wp_ixC, kIxR, wp_lenT, wp_lenC, kLenR, wp_int, wp_abs, wp_max2, wp_min2, wp_tupleT, wp_tupleC, kTupR, wp_listT, wp_listC, kLisR, wp_allC, wp_anyC, kAllR, wp_sumT', wp_sumC, kSmR, wp_yes, wp_ixD_T, wp_ixD_L, wp_ixD_FK, wp_ixD_FN, wp_ixD_C, kIxD_l, kIxD_f, kIxD_k, kIxD_n, kIxD_kf, kIxD_nf, kKey, keyOf_i, keyOf_s, keyT_2i, keyT_is, kIn, kNi, wp_inD, wp_notInD, inAll_C, inC_k, inC_n, inC_kf, inC_nf, wp_lenD_T, wp_lenD_L, wp_lenD_F, wp_lenD_C, kLenD_l, kLenD_f, kLenD_k, kLenD_n, kLenD_kf, kLenD_nf, wp_dnewK, wp_dnewN, ws_putD, kPd1, kPd2, kPd3, kPdC_k, kPdC_n, kPdC_l', wp_fz, kFz_d, kFz_r, kFzC_l, kFzC_f, kFzC_k, kFzC_n, wp_meth, kMe1, kMe2, kDtS, wp_pop, kPop, wp_popAt, kPopAt, wp_insert, kIns, wp_extend, kExt, kExt2, wp_bits, kBits, wp_shl, wp_shr, wp_band, wp_bor, wp_sortT, kSoI, wp_sortC, kSoR, kSoC_i, kSoC_p, at_0, at_1, at_2, at_3, items_lst, items_frz, wipeR, get_ap, get_ap0, take_ap, set_ap, set_ap0, List.append_assoc, Nat.add_assoc, List.take_succ_cons, List.take_zero, List.take_nil, take_len, if_if, wp_comp0, wp_comp1, kCp0, kCp1, kCp2, rngD_1, rngD_2, rngD_3, rngD_4, kAsgM, setAll, wp_enum, kEnumT, kEnumL, wp_maxT, wp_maxC, wp_minC, kMx, kMxR, List.length_cons, List.length_nil, List.map_cons, List.map_nil, List.replicate_succ, List.replicate_zero, List.cons_append, List.nil_append, List.set_cons_zero, List.set_cons_succ, List.getElem?_cons_zero, List.getElem?_cons_succ, List.take_length, take_ap0, List.length_append, List.length_set, Nat.zero_add, Nat.reduceAdd, Nat.reduceSub, Nat.sub_self, Nat.reduceEqDiff, Nat.reduceLeDiff, Nat.reduceLT, Nat.reduceMul, true_and, and_true, if_true, if_false, Bool.false_eq_true, Bool.not_true, Bool.not_false, decide_eq_true_eq, decide_true, decide_false, eq_self, not_false_eq_true, not_true_eq_false, and_self, Int.reduceEq, Int.reduceNeg, Int.reduceLT, Int.reduceLE, Int.reduceAdd, Int.reduceSub, Int.reduceMul, Int.reducePow, Int.reduceToNat, Int.reduceNe, natAbs_10, natAbs_2, Int.cast_ofNat_Int, Nat.reducePow, Int.neg_zero, Nat.lt_irrefl, ne_eq, isIntD, isBlD, isTupD, $[$ts:term],*])
theorem pop_at {L : List Nat} {v : Int} (h0 : 0 ≤ v) (h1 : v < L.length) : ∃ a A B, L = A ++ a :: B ∧ (A.length : Int) = v ∧ (L.map nD)[v.toNat]? = some (.int (a : Nat)) ∧ (L.map nD).eraseIdx v.toNat = (A ++ B).map nD := by
  obtain ⟨k, rfl⟩ := Int.eq_ofNat_of_zero_le h0
  have hk : k < L.length := by omega
  have e : L = L.take k ++ L[k] :: L.drop (k + 1) := by rw [← List.drop_eq_getElem_cons hk, List.take_append_drop]
  refine ⟨L[k], L.take k, L.drop (k + 1), e, by simp; omega, ?_, ?_⟩
  · simp [nD, hk]
  · simp only [Int.toNat_natCast]
    rw [List.eraseIdx_eq_take_drop_succ, ← List.map_take, ← List.map_drop, ← List.map_append]
theorem rng_nD (n : Nat) : rngD 0 n = (List.range n).map nD := by
  unfold rngD nD
  simp
section
variable {X : XP} {S : Sto} {P : Vl → Sto → Prop} {i n : Nat}
theorem shuffled_ok (h : Src i S) (hn : 1 ≤ n ∧ n ≤ 12) : ∃ (σ : List Nat) (S2 : Sto), law_shuffled [.r i, .d (.int (n : Nat))] S = .ok (.r S.length) (S2 ++ [.lst (σ.map nD)]) ∧ σ.Perm (List.range n) ∧ Dq i S S2 := by
  have key : wp nX (law_shuffled [.r i, .d (.int (n : Nat))] S) fun v S1 => ∃ (σ : List Nat) (S2 : Sto), v = .r S.length ∧ S1 = S2 ++ [.lst (σ.map nD)] ∧ σ.Perm (List.range n) ∧ Dq i S S2 := by
    exists law_shuffled, Int.toNat_natCast
    refine ⟨by unfold big; omega, by unfold lim; omega, ?_⟩
    refine ws_invR (lo := 0) (n := n) (I := fun k ρ S1 => ∃ (L G : List Nat) (S2 : Sto) (o : Option Vl), ρ = [some (.r i), some (.d (.int (n : Nat))), some (.r S.length), some (.r (S.length + 1)), o] ∧ S1 = S2 ++ [.lst (L.map nD), .lst (G.map nD)] ∧ (G ++ L).Perm (List.range n) ∧ Dq i S S2 ∧ L.length + k = n) ?_ ?_ ⟨List.range n, [], S, none, rfl, by rw [rng_nD]; rfl, by simp, .refl h, by simp⟩
    · rintro k hk ρ S1 ⟨L, G, S2, o, rfl, rfl, hp, hd, hl⟩
      refine ⟨_, rfl, ?_⟩
      rw [← hd.len]
      exists e_draw, List.length_map
      refine wp_drawA hd ⟨by omega, by omega⟩ fun v S3 v0 v1 d3 => ?_
      obtain ⟨a, A, B, rfl, hA, ea, eb⟩ := pop_at v0 v1
      rw [hd.len, ← d3.len]
      rw [List.length_append, List.length_cons] at hl
      have bg : G.length ≤ big := by have := hp.length_eq; simp at this; unfold big; omega
      exists ea, eb, List.length_map, bg
      refine ⟨⟨v0, by rw [← hA]; omega⟩, A ++ B, G ++ [a], S3, _, rfl, by simp [nD], ?_, d3, by simp; omega⟩
      rw [List.append_assoc]
      exact ((List.perm_middle (a := a) (l₁ := A) (l₂ := B)).symm.append_left G).trans hp
    · rintro ρ S1 ⟨L, G, S2, o, rfl, rfl, hp, hd, hl⟩
      have e : L = [] := List.eq_nil_of_length_eq_zero (by omega)
      subst e
      rw [List.append_nil] at hp
      rw [← hd.len]
      exists and_self
      exact ⟨G, S2, rfl, hp, hd⟩
  generalize law_shuffled [.r i, .d (.int (n : Nat))] S = r at key ⊢
  obtain ⟨v, S1, e, σ, S2, rfl, rfl, h⟩ := wp_get key
  exact ⟨σ, S2, e, h⟩
theorem ins_at (A B : List Nat) (x : Nat) : ((A ++ B).map nD).take A.length ++ [nD x] ++ ((A ++ B).map nD).drop A.length = (A ++ x :: B).map nD := by
  simp
theorem near_ok (h : Src i S) (hn : 1 ≤ n ∧ n ≤ 12) : ∃ pl S2, law_drawn_plan [.r i, .d (.int (n : Nat)), .d (.bl true)] S = .ok (.d (plD pl)) S2 ∧ BldN n pl [2 * n - 2] ∧ pl.length = n - 1 ∧ Dq i S S2 := by
  have key : wp nX (law_drawn_plan [.r i, .d (.int (n : Nat)), .d (.bl true)] S) fun v S2 => ∃ pl, v = .d (plD pl) ∧ BldN n pl [2 * n - 2] ∧ pl.length = n - 1 ∧ Dq i S S2 := by
    exists law_drawn_plan, Int.toNat_natCast
    refine ⟨by unfold big; omega, by unfold lim; omega, ?_⟩
    have en : ((n : Int) - 1).toNat = n - 1 := by omega
    rw [en]
    refine ws_invR (lo := 0) (n := n - 1) (I := fun k ρ S1 => ∃ (L : List Nat) (pl : Pl) (S2 : Sto) (o5 o6 o7 o8 : Option Vl), ρ = [some (.r i), some (.d (.int (n : Nat))), some (.d (.bl true)), some (.r S.length), some (.r (S.length + 1)), o5, o6, o7, o8] ∧ S1 = S2 ++ [.lst (L.map nD), .lst (pl.map prN)] ∧ BldN n pl L ∧ Dq i S S2 ∧ pl.length = k) ?_ ?_ ⟨List.range n, [], S, none, none, none, none, rfl, by rw [rng_nD]; rfl, .nil, .refl h, rfl⟩
    · rintro k hk ρ S1 ⟨L, pl, S2, o5, o6, o7, o8, rfl, rfl, hb, hd, hl⟩
      refine ⟨_, rfl, ?_⟩
      have len := hb.bld.len
      rw [← hd.len]
      exists e_draw, List.length_map
      refine wp_drawA hd ⟨by omega, by omega⟩ fun v S3 v0 v1 d3 => ?_
      obtain ⟨a, A, B, rfl, hA, ea, eb⟩ := pop_at (L := L) v0 (by omega)
      rw [List.length_append, List.length_cons] at v1 len
      obtain ⟨b, B, rfl⟩ : ∃ b B', B = b :: B' := by
        cases B with
        | nil => simp at v1; omega
        | cons b B => exact ⟨b, B, rfl⟩
      have ec : ((A ++ b :: B).map nD)[v.toNat]? = some (.int (b : Nat)) := by rw [← hA]; simp [nD]
      have ed : ((A ++ b :: B).map nD).eraseIdx v.toNat = (A ++ B).map nD := by rw [← hA]; simp [List.eraseIdx_append_of_length_le]
      rw [hd.len, ← d3.len]
      have bg : pl.length ≤ big := by unfold big; omega
      have bg2 : (A ++ B).length ≤ big := by rw [List.length_append]; unfold big; simp at len; omega
      exists ea, eb, ec, ed, List.length_map, bg, bg2
      have vb : 0 ≤ v ∧ v < 9223372036854775808 := ⟨v0, by omega⟩
      have bg3 : A.length + B.length ≤ big := by simp at bg2; exact bg2
      refine ⟨vb, vb, ⟨vb, bg3⟩, A ++ (n + pl.length) :: B, pl ++ [(a, b)], S3, _, _, _, _, rfl, ?_, hb.snoc, d3, by simp; omega⟩
      have hA : v.toNat = A.length := by omega
      have e1 : Dt.int ((n : Int) + (0 + (k : Nat))) = nD (n + pl.length) := by unfold nD; rw [hl]; congr 1; omega
      rw [hA, e1, prN_map]
      simp
    · rintro ρ S1 ⟨L, pl, S2, o5, o6, o7, o8, rfl, rfl, hb, hd, hl⟩
      rw [← hd.len]
      exists and_self
      have e := (hb.bld.last (by omega) hl).1
      exact ⟨pl, rfl, e ▸ hb, hl, hd⟩
  generalize law_drawn_plan [.r i, .d (.int (n : Nat)), .d (.bl true)] S = r at key ⊢
  obtain ⟨v, S1, e, pl, rfl, h⟩ := wp_get key
  exact ⟨pl, S1, e, h⟩
theorem loose_ok (h : Src i S) (hn : 1 ≤ n ∧ n ≤ 12) : ∃ pl S2, law_drawn_plan [.r i, .d (.int (n : Nat)), .d (.bl false)] S = .ok (.d (plD pl)) S2 ∧ Bld n pl [2 * n - 2] ∧ pl.length = n - 1 ∧ Dq i S S2 := by
  have key : wp nX (law_drawn_plan [.r i, .d (.int (n : Nat)), .d (.bl false)] S) fun v S2 => ∃ pl, v = .d (plD pl) ∧ Bld n pl [2 * n - 2] ∧ pl.length = n - 1 ∧ Dq i S S2 := by
    exists law_drawn_plan, Int.toNat_natCast
    refine ⟨by unfold big; omega, by unfold lim; omega, ?_⟩
    have en : ((n : Int) - 1).toNat = n - 1 := by omega
    rw [en]
    refine ws_invR (lo := 0) (n := n - 1) (I := fun k ρ S1 => ∃ (L : List Nat) (pl : Pl) (S2 : Sto) (o5 o6 o7 o8 : Option Vl), ρ = [some (.r i), some (.d (.int (n : Nat))), some (.d (.bl false)), some (.r S.length), some (.r (S.length + 1)), o5, o6, o7, o8] ∧ S1 = S2 ++ [.lst (L.map nD), .lst (pl.map prN)] ∧ Bld n pl L ∧ Dq i S S2 ∧ pl.length = k) ?_ ?_ ⟨List.range n, [], S, none, none, none, none, rfl, by rw [rng_nD]; rfl, .nil (.refl _), .refl h, rfl⟩
    · rintro k hk ρ S1 ⟨L, pl, S2, o5, o6, o7, o8, rfl, rfl, hb, hd, hl⟩
      refine ⟨_, rfl, ?_⟩
      have len := hb.len
      rw [← hd.len]
      exists e_draw, List.length_map
      refine wp_drawA hd ⟨by omega, by omega⟩ fun v S3 v0 v1 d3 => ?_
      obtain ⟨a, A, B, rfl, hA, ea, eb⟩ := pop_at (L := L) v0 (by omega)
      rw [hd.len, ← d3.len]
      have vb : 0 ≤ v ∧ v < 9223372036854775808 := ⟨v0, by omega⟩
      exists ea, eb, vb, List.length_map
      rw [List.length_append, List.length_cons] at len
      refine wp_drawA d3 ⟨by omega, by omega⟩ fun w S4 w0 w1 d4 => ?_
      obtain ⟨b, A', B', q, hA', ec, ed⟩ := pop_at (L := A ++ B) w0 (by rw [List.length_append]; omega)
      have wb : 0 ≤ w ∧ w < 9223372036854775808 := ⟨w0, by omega⟩
      rw [d3.len, ← d4.len]
      have bg : pl.length ≤ big := by unfold big; omega
      have bg2 : A'.length + B'.length ≤ big := by
        have := congrArg List.length q
        simp at this
        unfold big; omega
      exists ec, ed, List.length_map, bg, bg2
      refine ⟨wb, (A' ++ B') ++ [n + pl.length], pl ++ [(a, b)], S4, _, _, _, _, rfl, ?_, .snoc hb (R := A' ++ B') ?_ (List.perm_append_singleton _ _), d4, by simp; omega⟩
      · have e1 : Dt.int ((n : Int) + (0 + (k : Nat))) = nD (n + pl.length) := by unfold nD; rw [hl]; congr 1; omega
        rw [e1, prN_map]
        simp
      · refine List.perm_middle.trans (.cons _ ?_)
        rw [q]
        exact List.perm_middle
    · rintro ρ S1 ⟨L, pl, S2, o5, o6, o7, o8, rfl, rfl, hb, hd, hl⟩
      rw [← hd.len]
      exists and_self
      have e := (hb.last (by omega) hl).1
      exact ⟨pl, rfl, e ▸ hb, hl, hd⟩
  generalize law_drawn_plan [.r i, .d (.int (n : Nat)), .d (.bl false)] S = r at key ⊢
  obtain ⟨v, S1, e, pl, rfl, h⟩ := wp_get key
  exact ⟨pl, S1, e, h⟩
end
end K84
namespace K84
open PySem Mo
open L2 (atI ixN)
local macro_rules | `(tactic| exists $ts,*) => `(tactic| simp only [wp_ok, wp_exc, wp_bad, wp_var, kV, wp_c, wp_op, kOp1, kOp2, wp_t, kT, wp_chain, kCh1, kCh2, kCh3, kCh4, wp_and, wp_or, wp_not, kAnd, kOr, kNot, wp_andV, wp_orV, wp_notV, kAndV, kOrV, kNotV, wp_neg, kNeg, wp_ifE, kIfE, wp_nil, wp_cons, kC1, kC2, wp_tup, wp_lst, kTup0, kTup1, kTup2, kTup3, kTup4, kTup5, kTup6, kTup7, kTup8, kTup9, kTup10, kTup11, kTup12, kLst0, kLst1, kLst2, kLst3, kLst4, kLst5, kLst6, kLst7, kLst8, kLst9, kLst10, kLst11, kLst12, wp_fn, kFn, wp_call, kCall, wp_isi, kIsi_int, kIsi_bool, kIsi_tup, kIsi_list, kIsiR_int, kIsiR_bool, kIsiR_tup, kIsiR_list, okT_non, okT_bl, okT_int, okT_str, okT_tup, okT_fl, isLstD, wp_noPart, wp_part, kPart, wp_sl, kSl1, kSl2, kSl3T, kSl3L, kSl3C, kSlR, wp_rev, kRev, wp_listRg1, kLq, wp_listRg2, kLr1, kLr2, ws_seq, qSeq_nx, qSeq_rt, qSeq_ex, qSeq_br, qSeq_ct, ws_skip, ws_break, ws_cont, ws_retN, ws_raise, ws_mret, ws_drop, kDrop, ws_if, kIf, ws_asg, kAsg1, kAsg2, kAsg3, kX, ws_put, kPut1, kPut2, kPutC, kPutR, kPut4, ixN_3_0, ixN_3_1, ixN_3_2, wp_append, kApp1, kAppC, kAppR, ws_for, kForT, kForG, kForCe, kForR, wp_seqI, kSeqIT, kSeqIL, kSeqIR, kSq, sqE, sqc_l, sqc_f, kIsL_l, kIsL_f, kIsL_o, wp_rng1, wp_rng2, kRng1, kRng2, wp_lc, ws_loop0, ws_loop1, qLp_nx, qLp_ct, qLp_br, qLp_rt, qLp_ex, qN_nx, qN_ct, qN_br, qN_rt, qN_ex, qLi_nx, qLi_ct, qLi_br, qLi_rt, qLi_ex, qF_nx, qF_rt, qF_ex, kExD, kExRn, kExRn0, kExC, wp_fnM, qE_nx, qE_rt, qE_ex, qTry_nx, qTry_rt, qTry_ex, kTry1, kTry0, ws_try, wp_isE, kIsE, wp_add, wp_addT, wp_addC, kAdd, wp_sub, wp_mul, wp_div, wp_mod, wp_pow, wp_cmp, wp_eqI, wp_neI, wp_eqB, wp_neB, wp_ix, kDt, wp_ixC, kIxR, wp_lenT, wp_lenC, kLenR, wp_int, wp_abs, wp_max2, wp_min2, wp_tupleT, wp_tupleC, kTupR, wp_listT, wp_listC, kLisR, wp_allC, wp_anyC, kAllR, wp_sumT', wp_sumC, kSmR, wp_yes, wp_ixD_T, wp_ixD_L, wp_ixD_FK, wp_ixD_FN, wp_ixD_C, kIxD_l, kIxD_f, kIxD_k, kIxD_n, kIxD_kf, kIxD_nf, kKey, keyOf_i, keyOf_s, keyT_2i, keyT_is, kIn, kNi, wp_inD, wp_notInD, inAll_C, inC_k, inC_n, inC_kf, inC_nf, wp_lenD_T, wp_lenD_L, wp_lenD_F, wp_lenD_C, kLenD_l, kLenD_f, kLenD_k, kLenD_n, kLenD_kf, kLenD_nf, wp_dnewK, wp_dnewN, ws_putD, kPd1, kPd2, kPd3, kPdC_k, kPdC_n, kPdC_l', wp_fz, kFz_d, kFz_r, kFzC_l, kFzC_f, kFzC_k, kFzC_n, wp_meth, kMe1, kMe2, kDtS, wp_pop, kPop, wp_popAt, kPopAt, wp_insert, kIns, wp_extend, kExt, kExt2, wp_bits, kBits, wp_shl, wp_shr, wp_band, wp_bor, wp_sortT, kSoI, wp_sortC, kSoR, kSoC_i, kSoC_p, at_0, at_1, at_2, at_3, items_lst, items_frz, wipeR, get_ap, get_ap0, take_ap, set_ap, set_ap0, List.append_assoc, Nat.add_assoc, List.take_succ_cons, List.take_zero, List.take_nil, take_len, if_if, wp_comp0, wp_comp1, kCp0, kCp1, kCp2, rngD_1, rngD_2, rngD_3, rngD_4, kAsgM, setAll, wp_enum, kEnumT, kEnumL, wp_maxT, wp_maxC, wp_minC, kMx, kMxR, List.length_cons, List.length_nil, List.map_cons, List.map_nil, List.replicate_succ, List.replicate_zero, List.cons_append, List.nil_append, List.set_cons_zero, List.set_cons_succ, List.getElem?_cons_zero, List.getElem?_cons_succ, List.take_length, take_ap0, List.length_append, List.length_set, Nat.zero_add, Nat.reduceAdd, Nat.reduceSub, Nat.sub_self, Nat.reduceEqDiff, Nat.reduceLeDiff, Nat.reduceLT, Nat.reduceMul, true_and, and_true, if_true, if_false, Bool.false_eq_true, Bool.not_true, Bool.not_false, decide_eq_true_eq, decide_true, decide_false, eq_self, not_false_eq_true, not_true_eq_false, and_self, Int.reduceEq, Int.reduceNeg, Int.reduceLT, Int.reduceLE, Int.reduceAdd, Int.reduceSub, Int.reduceMul, Int.reducePow, Int.reduceToNat, Int.reduceNe, natAbs_10, natAbs_2, Int.cast_ofNat_Int, Nat.reducePow, Int.neg_zero, Nat.lt_irrefl, ne_eq, isIntD, isBlD, isTupD, $[$ts:term],*])
section
variable {X : XP} {S S0 : Sto} {P : Vl → Sto → Prop} {i n : Nat}
def R1 (y : Dt) : Prop := ∃ m : Nat, y = nD m ∧ m ≤ 1000
theorem R1_int {z : Int} (h : 0 ≤ z ∧ z ≤ 1000) : R1 (.int z) := ⟨z.toNat, by unfold nD; congr 1; omega, by omega⟩
theorem R1_all {ys : List Dt} (h : ∀ y ∈ ys, R1 y) (h1 : ys.length = n) (hn : 1 ≤ n ∧ n ≤ 12) : ∃ rs, ys = rs.map nD ∧ rs.length = n ∧ okR rs := by
  have : ∃ rs : List Nat, ys = rs.map nD ∧ ∀ x ∈ rs, x ≤ 1000 := by
    clear h1
    induction ys with
    | nil => exact ⟨[], rfl, by simp⟩
    | cons y ys ih =>
      obtain ⟨m, rfl, hm⟩ := h y (by simp)
      obtain ⟨rs, rfl, hr⟩ := ih fun z hz => h z (List.mem_cons_of_mem _ hz)
      exact ⟨m :: rs, rfl, fun x hx => by
        rcases List.mem_cons.mp hx with rfl | hx
        · exact hm
        · exact hr x hx⟩
  obtain ⟨rs, rfl, hr⟩ := this
  rw [List.length_map] at h1
  exact ⟨rs, rfl, h1, hr, by omega⟩
def Rd (n : Nat) (v : Vl) : Prop := ∃ rs, v = .d (rdD rs) ∧ rs.length = n ∧ okR rs
theorem rng_get' {n : Nat} {x : Dt} (h : x ∈ rngD 0 n) : ∃ k : Nat, x = nD k ∧ k < n := by
  rw [rng_nD] at h
  obtain ⟨k, hk, rfl⟩ := List.mem_map.mp h
  exact ⟨k, rfl, List.mem_range.mp hk⟩
theorem ready_go {me : ME} {ρ : Rho} {S1 : Sto} {j : Nat} (hn : 1 ≤ n ∧ n ≤ 12) (h : Dq i S S1) (hx : ∀ k, k < n → ∀ S1 acc, Dq i S S1 → wp nX (me (ρ.set j (some (.d (nD k)))) (S1 ++ [.lst acc])) fun v S2 => ∃ z S3, v = .d (.int z) ∧ (0 ≤ z ∧ z ≤ 1000) ∧ Dq i S S3 ∧ S2 = S3 ++ [.lst acc])
    (k : ∀ rs S2, rs.length = n → okR rs → Dq i S S2 → P (.r S2.length) (S2 ++ [.lst (rs.map nD)])) : KLc X (.one j) mYes me ρ P (.tup (rngD 0 n)) S1 := by
  refine kLc_drawn (R := R1) h (fun x hx' S2 acc d => ?_) (by rw [rngD_length]; unfold big; omega) fun ys S2 h1 h2 d => ?_
  · obtain ⟨q, rfl, hq⟩ := rng_get' hx'
    refine ⟨_, rfl, ?_⟩
    refine wp_imp (hx q hq S2 acc d) (fun v S3 ⟨z, S4, e1, e2, e3, e4⟩ => ⟨_, S4, e1, R1_int e2, e3, e4⟩) fun _ _ q => q
  · obtain ⟨rs, rfl, q1, q2⟩ := R1_all h2 (h1.trans (rngD_length ..)) hn
    exact k rs S2 q1 q2 d
theorem ready_d (hn : 1 ≤ n ∧ n ≤ 12) : Drawn i (law_ready [.r i, .d (.int (n : Nat))]) (Rd n) := .mk fun S hs => by
  have bl : -lim ≤ ((n : Nat) : Int) ∧ ((n : Nat) : Int) ≤ lim := by unfold lim; omega
  unfold law_ready Rd
  rw [e_draw, e_pick]
  exists and_self
  refine wp_draw (.refl hs) ⟨by decide, by decide⟩ fun w S1 w0 w1 d1 => ?_
  exists and_self
  by_cases c0 : w = 0
  · exists c0
    refine wp_draw d1 ⟨by decide, by decide⟩ fun t S2 t0 t1 d2 => ?_
    exists kLcG_T, Int.toNat_natCast
    refine ⟨bl, ready_go hn d2 (fun k hk S3 acc d => ?_) fun rs S3 h1 h2 d => ?_⟩
    · exists and_self
      exact ⟨t, S3, rfl, by omega, d, rfl⟩
    · rw [← d.len]; try rw [d2.len, ← d.len]
      exists and_self
      exact ⟨⟨rs, rfl, h1, h2⟩, d⟩
  exists c0
  by_cases c1 : w = 1
  · exists c1
    refine wp_draw d1 ⟨by decide, by decide⟩ fun t S2 t0 t1 d2 => ?_
    exists kLcG_T, Int.toNat_natCast
    refine ⟨bl, ready_go hn d2 (fun k hk S3 acc d => ?_) fun rs S3 h1 h2 d => ?_⟩
    · exists and_self
      refine wp_drawA d ⟨by decide, by decide⟩ fun u S4 u0 u1 d4 => ?_
      exists and_self
      exact ⟨_, S4, rfl, by omega, d4, rfl⟩
    · rw [← d.len]; try rw [d2.len, ← d.len]
      exists and_self
      exact ⟨⟨rs, rfl, h1, h2⟩, d⟩
  exists c1
  by_cases c2 : w = 2
  · exists c2
    refine wp_draw d1 ⟨by decide, by decide⟩ fun t S2 t0 t1 d2 => ?_
    exists kLcG_T, Int.toNat_natCast
    refine ⟨bl, ready_go hn d2 (fun k hk S3 acc d => ?_) fun rs S3 h1 h2 d => ?_⟩
    · exists nD
      by_cases c : ((k : Nat) : Int).fmod 2 = 1
      · exists c
        exact ⟨t, S3, rfl, by omega, d, rfl⟩
      · exists c
        refine wp_drawA d ⟨by decide, by decide⟩ fun u S4 u0 u1 d4 => ?_
        exact ⟨_, S4, rfl, by omega, d4, rfl⟩
    · rw [← d.len]; try rw [d2.len, ← d.len]
      exists and_self
      exact ⟨⟨rs, rfl, h1, h2⟩, d⟩
  exists c2
  by_cases c3 : w = 3
  · exists c3, kLcG_T, Int.toNat_natCast
    refine ⟨bl, ready_go hn d1 (fun k hk S3 acc d => ?_) fun rs S3 h1 h2 d => ?_⟩
    · exists and_self
      refine wp_drawA d ⟨by decide, by decide⟩ fun u S4 u0 u1 d4 => ?_
      exists and_self
      refine ⟨okMul_l (by decide), ?_⟩
      exact ⟨_, S4, rfl, by omega, d4, rfl⟩
    · rw [← d.len]; try rw [d1.len, ← d.len]
      exists and_self
      exact ⟨⟨rs, rfl, h1, h2⟩, d⟩
  exists c3
  by_cases c4 : w = 4
  · exists c4
    refine wp_draw d1 ⟨by decide, by decide⟩ fun t S2 t0 t1 d2 => ?_
    exists and_self
    refine wp_draw d2 ⟨by decide, by decide⟩ fun g S2 g0 g1 d2 => ?_
    exists kLcG_T, Int.toNat_natCast
    refine ⟨bl, ready_go hn d2 (fun k hk S3 acc d => ?_) fun rs S3 h1 h2 d => ?_⟩
    · exists nD
      by_cases c : 0 ≤ g - 1
      · exists c
        refine ⟨okMul_r (by omega), ?_⟩
        have : g - 1 = 0 ∨ g - 1 = 1 := by omega
        refine ⟨_, S3, rfl, ?_, d, rfl⟩
        rcases this with q | q <;> rw [q] <;> omega
      · exists c
        exact ⟨_, S3, rfl, by omega, d, rfl⟩
    · rw [← d.len]; try rw [d2.len, ← d.len]
      exists and_self
      exact ⟨⟨rs, rfl, h1, h2⟩, d⟩
  exists c4
  by_cases c5 : w = 5
  · exists c5, kLcG_T, Int.toNat_natCast
    refine ⟨bl, ready_go hn d1 (fun k hk S3 acc d => ?_) fun rs S3 h1 h2 d => ?_⟩
    · exists and_self
      refine wp_pickA d ⟨by decide, by decide⟩ fun u S4 u0 d4 => ?_
      simp only [List.mem_cons, List.not_mem_nil, or_false] at u0
      rcases u0 with rfl | rfl | rfl | rfl <;> exact ⟨_, S4, rfl, by omega, d4, rfl⟩
    · rw [← d.len]; try rw [d1.len, ← d.len]
      exists and_self
      exact ⟨⟨rs, rfl, h1, h2⟩, d⟩
  exists c5, kLcG_T, Int.toNat_natCast
  refine ⟨bl, ready_go hn d1 (fun k hk S3 acc d => ?_) fun rs S3 h1 h2 d => ?_⟩
  · exists and_self
    refine wp_drawA d ⟨by decide, by decide⟩ fun u S4 u0 u1 d4 => ?_
    exact ⟨_, S4, rfl, by omega, d4, rfl⟩
  · rw [← d.len]; try rw [d1.len, ← d.len]
    exists and_self
    exact ⟨⟨rs, rfl, h1, h2⟩, d⟩
end
end K84
namespace K84
open PySem Mo
open L2 (atI ixN)
local macro_rules | `(tactic| exists $ts,*) => `(tactic| simp only [wp_ok, wp_exc, wp_bad, wp_var, kV, wp_c, wp_op, kOp1, kOp2, wp_t, kT, wp_chain, kCh1, kCh2, kCh3, kCh4, wp_and, wp_or, wp_not, kAnd, kOr, kNot, wp_andV, wp_orV, wp_notV, kAndV, kOrV, kNotV, wp_neg, kNeg, wp_ifE, kIfE, wp_nil, wp_cons, kC1, kC2, wp_tup, wp_lst, kTup0, kTup1, kTup2, kTup3, kTup4, kTup5, kTup6, kTup7, kTup8, kTup9, kTup10, kTup11, kTup12, kLst0, kLst1, kLst2, kLst3, kLst4, kLst5, kLst6, kLst7, kLst8, kLst9, kLst10, kLst11, kLst12, wp_fn, kFn, wp_call, kCall, wp_isi, kIsi_int, kIsi_bool, kIsi_tup, kIsi_list, kIsiR_int, kIsiR_bool, kIsiR_tup, kIsiR_list, okT_non, okT_bl, okT_int, okT_str, okT_tup, okT_fl, isLstD, wp_noPart, wp_part, kPart, wp_sl, kSl1, kSl2, kSl3T, kSl3L, kSl3C, kSlR, wp_rev, kRev, wp_listRg1, kLq, wp_listRg2, kLr1, kLr2, ws_seq, qSeq_nx, qSeq_rt, qSeq_ex, qSeq_br, qSeq_ct, ws_skip, ws_break, ws_cont, ws_retN, ws_raise, ws_mret, ws_drop, kDrop, ws_if, kIf, ws_asg, kAsg1, kAsg2, kAsg3, kX, ws_put, kPut1, kPut2, kPutC, kPutR, kPut4, ixN_3_0, ixN_3_1, ixN_3_2, wp_append, kApp1, kAppC, kAppR, ws_for, kForT, kForG, kForCe, kForR, wp_seqI, kSeqIT, kSeqIL, kSeqIR, kSq, sqE, sqc_l, sqc_f, kIsL_l, kIsL_f, kIsL_o, wp_rng1, wp_rng2, kRng1, kRng2, wp_lc, ws_loop0, ws_loop1, qLp_nx, qLp_ct, qLp_br, qLp_rt, qLp_ex, qN_nx, qN_ct, qN_br, qN_rt, qN_ex, qLi_nx, qLi_ct, qLi_br, qLi_rt, qLi_ex, qF_nx, qF_rt, qF_ex, kExD, kExRn, kExRn0, kExC, wp_fnM, qE_nx, qE_rt, qE_ex, qTry_nx, qTry_rt, qTry_ex, kTry1, kTry0, ws_try, wp_isE, kIsE, wp_add, wp_addT, wp_addC, kAdd, wp_sub, wp_mul, wp_div, wp_mod, wp_pow, wp_cmp, wp_eqI, wp_neI, wp_eqB, wp_neB, wp_ix, kDt, wp_ixC, kIxR, wp_lenT, wp_lenC, kLenR, wp_int, wp_abs, wp_max2, wp_min2, wp_tupleT, wp_tupleC, kTupR, wp_listT, wp_listC, kLisR, wp_allC, wp_anyC, kAllR, wp_sumT', wp_sumC, kSmR, wp_yes, wp_ixD_T, wp_ixD_L, wp_ixD_FK, wp_ixD_FN, wp_ixD_C, kIxD_l, kIxD_f, kIxD_k, kIxD_n, kIxD_kf, kIxD_nf, kKey, keyOf_i, keyOf_s, keyT_2i, keyT_is, kIn, kNi, wp_inD, wp_notInD, inAll_C, inC_k, inC_n, inC_kf, inC_nf, wp_lenD_T, wp_lenD_L, wp_lenD_F, wp_lenD_C, kLenD_l, kLenD_f, kLenD_k, kLenD_n, kLenD_kf, kLenD_nf, wp_dnewK, wp_dnewN, ws_putD, kPd1, kPd2, kPd3, kPdC_k, kPdC_n, kPdC_l', wp_fz, kFz_d, kFz_r, kFzC_l, kFzC_f, kFzC_k, kFzC_n, wp_meth, kMe1, kMe2, kDtS, wp_pop, kPop, wp_popAt, kPopAt, wp_insert, kIns, wp_extend, kExt, kExt2, wp_bits, kBits, wp_shl, wp_shr, wp_band, wp_bor, wp_sortT, kSoI, wp_sortC, kSoR, kSoC_i, kSoC_p, at_0, at_1, at_2, at_3, items_lst, items_frz, wipeR, get_ap, get_ap0, take_ap, set_ap, set_ap0, List.append_assoc, Nat.add_assoc, List.take_succ_cons, List.take_zero, List.take_nil, take_len, if_if, wp_comp0, wp_comp1, kCp0, kCp1, kCp2, rngD_1, rngD_2, rngD_3, rngD_4, kAsgM, setAll, wp_enum, kEnumT, kEnumL, wp_maxT, wp_maxC, wp_minC, kMx, kMxR, List.length_cons, List.length_nil, List.map_cons, List.map_nil, List.replicate_succ, List.replicate_zero, List.cons_append, List.nil_append, List.set_cons_zero, List.set_cons_succ, List.getElem?_cons_zero, List.getElem?_cons_succ, List.take_length, take_ap0, List.length_append, List.length_set, Nat.zero_add, Nat.reduceAdd, Nat.reduceSub, Nat.sub_self, Nat.reduceEqDiff, Nat.reduceLeDiff, Nat.reduceLT, Nat.reduceMul, true_and, and_true, if_true, if_false, Bool.false_eq_true, Bool.not_true, Bool.not_false, decide_eq_true_eq, decide_true, decide_false, eq_self, not_false_eq_true, not_true_eq_false, and_self, Int.reduceEq, Int.reduceNeg, Int.reduceLT, Int.reduceLE, Int.reduceAdd, Int.reduceSub, Int.reduceMul, Int.reducePow, Int.reduceToNat, Int.reduceNe, natAbs_10, natAbs_2, Int.cast_ofNat_Int, Nat.reducePow, Int.neg_zero, Nat.lt_irrefl, ne_eq, isIntD, isBlD, isTupD, $[$ts:term],*])
section
variable {X : XP} {S S0 : Sto} {P : Vl → Sto → Prop} {i n : Nat}
def Bent (v : Vl) : Prop := ∃ xs, v = .d (.tup xs) ∧ (∀ x ∈ xs, okT x = true) ∧ okRd xs = false ∧ xs.length ≤ 13
theorem okRd_mem {xs : List Dt} {x : Dt} (h : x ∈ xs) (hw : win x 0 1000 = false) : okRd xs = false := by
  unfold okRd
  have : xs.all (fun x => win x 0 1000) = false := by
    rw [List.all_eq_false]
    exact ⟨x, h, by rw [hw]; decide⟩
  rw [this, Bool.false_and]
theorem bent_d {rs : List Nat} (hr : okR rs) : Drawn i (law_bent_ready [.r i, .d (rdD rs)]) Bent := .mk fun S hs => by
  have hn := hr.2
  unfold law_bent_ready Bent
  rw [e_draw, e_pick]
  exists and_self
  refine wp_draw (.refl hs) ⟨by decide, by decide⟩ fun w S1 w0 w1 d1 => ?_
  exists and_self
  by_cases c0 : w = 0
  · exists c0
    rw [← d1.len]
    exists and_self
    exact ⟨⟨[], rfl, by simp, rfl, by simp⟩, d1⟩
  exists c0
  by_cases c1 : w = 1
  · exists c1, kLcG_T
    refine ⟨by unfold lim; omega, ?_⟩
    refine kLc_drawn (R := fun y => okT y = true) d1 (fun x hx' S2 acc d => ?_) (by rw [rngD_length]; unfold big; omega) fun ys S2 h1 h2 d => ?_
    · refine ⟨_, rfl, ?_⟩
      exists and_self
      refine wp_drawA d ⟨by decide, by decide⟩ fun u S4 u0 u1 d4 => ?_
      exact ⟨_, S4, rfl, rfl, d4, rfl⟩
    · rw [d1.len, ← d.len]
      exists and_self
      rw [rngD_length] at h1
      have h1 : ys.length = 13 := h1
      refine ⟨⟨ys, rfl, h2, ?_, by omega⟩, d⟩
      unfold okRd
      rw [h1]
      simp
  exists c1, rdD, List.length_map
  refine wp_draw d1 ⟨by omega, by omega⟩ fun p S2 p0 p1 d2 => ?_
  exists and_self
  refine wp_pick d2 ⟨by decide, by decide⟩ fun u S3 u0 d3 => ?_
  exists cut_pre p0, cut_post (show 0 ≤ p + 1 by omega)
  rw [take_len d3.len]
  have l1 : ((rs.map nD).take p.toNat).length = p.toNat := by simp; omega
  have l2 : ((rs.map nD).drop (p + 1).toNat).length ≤ 12 := by simp; omega
  rw [l1]
  refine ⟨by unfold big; omega, by unfold big; omega, ⟨_, rfl, ?_, ?_, ?_⟩, d3⟩
  · have hd : ∀ x ∈ rs.map nD, okT x = true := fun x hx => by
      obtain ⟨k, _, rfl⟩ := List.mem_map.mp hx
      rfl
    have hu : okT u = true := by
      simp only [List.mem_cons, List.not_mem_nil, or_false] at u0
      rcases u0 with rfl | rfl | rfl | rfl | rfl | rfl <;> rfl
    intro x hx
    rcases List.mem_append.mp hx with hx | hx
    · exact hd x (List.mem_of_mem_take hx)
    · rcases List.mem_cons.mp hx with rfl | hx
      · exact hu
      · exact hd x (List.mem_of_mem_drop hx)
  · refine okRd_mem (x := u) (by simp) ?_
    simp only [List.mem_cons, List.not_mem_nil, or_false] at u0
    rcases u0 with rfl | rfl | rfl | rfl | rfl | rfl <;> rfl
  · rw [List.length_append, List.length_cons, l1]
    have : p.toNat ≤ 12 := by omega
    have l3 : ((rs.map nD).drop (p + 1).toNat).length = rs.length - (p + 1).toNat := by simp
    omega
theorem inN (S : Sto) (c : Ce) (us : List Nat) (u : Nat) : inAll (.d (.int (u : Nat))) (.r (S.length + 1)) (S ++ [c, .lst (us.map nD)]) = some (decide (u ∈ us)) := by
  rw [inAll_ints (ns := us.map fun u => ((u : Nat) : Int)) (by rw [List.map_map]; simp [nD])]
  congr 1
  have : ((u : Nat) : Int) ∈ us.map (fun u => ((u : Nat) : Int)) ↔ u ∈ us := by
    rw [List.mem_map]
    constructor
    · rintro ⟨a, ha, e⟩
      have : a = u := by omega
      exact this ▸ ha
    · exact fun h => ⟨u, h, rfl⟩
  rw [decide_eq_decide]
  exact this
theorem inN' (S : Sto) (c : Ce) (us : List Nat) (u : Nat) : inC (.d (.int (u : Nat))) (.r (S.length + 1)) (.int (u : Nat)) (S ++ [c, .lst (us.map nD)]) (some (.lst (us.map nD))) = some (decide (u ∈ us)) := inN S c us u
theorem used_map (us : List Nat) (u : Nat) : us.map nD ++ [.int (u : Nat)] = (us ++ [u]).map nD := by simp [nD]
/-! leaves -/
def tD (l : List Nat) : Dt := .tup (l.map nD)
theorem lvD_get {n : Nat} {pl : Pl} {k : Nat} (h : k < n + pl.length) : atI ((lvs n pl).map tD) ((k : Nat) : Int) = some (.tup (((lvs n pl).getD k []).map nD)) := by
  have hl : k < (lvs n pl).length := by rw [lvs_len]; exact h
  rw [at_nat (by omega) (by rw [List.length_map]; omega), List.getElem_map]
  simp only [Int.toNat_natCast]
  rw [List.getD_eq_getElem?_getD, List.getElem?_eq_getElem hl]
  rfl
theorem lvs_bd (n : Nat) : ∀ (pl : Pl) (p : Nat), ((lvs n pl).getD p []).length ≤ 2 ^ pl.length := by
  refine snoc_ind (fun p => ?_) fun pl q ih p => ?_
  · rw [List.getD_eq_getElem?_getD]
    cases e : (lvs n [])[p]? with
    | none => simp
    | some l =>
      have := List.mem_of_getElem? e
      simp only [lvs, List.foldl_nil, List.mem_map] at this
      obtain ⟨a, _, rfl⟩ := this
      simp
  · rw [lvs_snoc, List.length_append, List.length_singleton, Nat.pow_succ]
    by_cases c : p < (lvs n pl).length
    · rw [getD_app c]
      have := ih p
      omega
    · by_cases d : p = (lvs n pl).length
      · rw [getD_new d, List.length_append]
        have := ih q.1
        have := ih q.2
        omega
      · rw [List.getD_eq_getElem?_getD, List.getElem?_eq_none (by rw [List.length_append, List.length_singleton]; omega)]
        simp
theorem leaves_ok {pl : Pl} {L : List Nat} (h : Bld n pl L) (h1 : 1 ≤ n ∧ n ≤ 12) (hl : pl.length = n - 1) : law_leaves [.d (.int (n : Nat)), .d (plD pl)] S = .ok (.r S.length) (S ++ [.lst ((lvs n pl).map tD)]) := wp_eq (by
  have w2 : ((pl.length : Nat) : Int) = (n : Int) - 1 := by omega
  have bl : -lim ≤ ((n : Nat) : Int) ∧ ((n : Nat) : Int) ≤ lim := by unfold lim; omega
  exists law_leaves, plD, List.length_map, w2, kLcG_T, Int.toNat_natCast, bl
  rw [kLc_map (f := fun x => .tup [x]) (fun x hx acc => ⟨_, rfl, wp_eq (by exists and_self)⟩) (by rw [rngD_length]; unfold big; omega)]
  exists and_self
  have hbd := h.bd
  refine ws_inv (I := fun r ρ S1 => ∃ done rest o4 o5 o6, pl = done ++ rest ∧ r = rest.map prN ∧ ρ = [some (.d (.int (n : Nat))), some (.d (.tup (pl.map prN))), some (.r S.length), some (.r (S.length + 1)), o4, o5, o6] ∧ S1 = S ++ [.lst ((lvs n done).map tD), .lst ((used done).map nD)]) ?_ ?_ ⟨[], pl, none, none, none, rfl, rfl, rfl, by rw [rng_nD, List.map_map]; simp [lvs, used, tD]⟩
  · rintro x r ρ S1 ⟨done, rest, o4, o5, o6, e, e2, rfl, rfl⟩
    cases rest with
    | nil => cases e2
    | cons p rest =>
      cases e2
      refine ⟨_, rfl, ?_⟩
      obtain ⟨b1, b2⟩ := hbd done.length p (by rw [e, List.getElem?_append_right (Nat.le_refl _)]; simp)
      obtain ⟨u1, u2, u3⟩ := h.step done p rest e
      have hdl : done.length ≤ 11 := by
        have := congrArg List.length e
        simp at this; omega
      have ul : (used done).length ≤ 22 := by
        have : ∀ q : Pl, (used q).length = 2 * q.length := fun q => by
          induction q with
          | nil => rfl
          | cons a q ih => simp [used] at ih ⊢; omega
        rw [this]; omega
      have bg : (used done).length ≤ big := by unfold big; omega
      have bg2 : (used done ++ [p.1]).length ≤ big := by rw [List.length_append]; unfold big; simp; omega
      have bg3 : n + done.length ≤ big := by unfold big; omega
      have pw : 2 ^ done.length ≤ 2048 := Nat.pow_le_pow_right (by decide) hdl
      have bg4 : ((lvs n done).getD p.1 []).length + ((lvs n done).getD p.2 []).length ≤ big := by
        have := lvs_bd n done p.1
        have := lvs_bd n done p.2
        unfold big; omega
      have bg5 : (used done).length + 1 ≤ big := by unfold big; omega
      have u4 : p.2 ∉ used done ++ [p.1] := by simp [u2]; exact fun e => u3 e.symm
      have n1 : ¬ (((p.1 : Nat) : Int) < 0) := by omega
      have n2 : ¬ (((p.2 : Nat) : Int) < 0) := by omega
      have n3 : ¬ (((n + done.length : Nat) : Int) ≤ (p.1 : Nat)) := by omega
      have n4 : ¬ (((n + done.length : Nat) : Int) ≤ (p.2 : Nat)) := by omega
      exists prN, e_whole, sIsInteger_d _ okT_int, isN, List.length_map, lvs_len, n1, n2, n3, n4, inN', u1, used_map, u4, bg, bg2, bg4, bg5, bg3, lvD_get b1, lvD_get b2
      refine ⟨done ++ [p], rest, _, _, _, by rw [e]; simp, rfl, rfl, ?_⟩
      rw [lvs_snoc, used_snoc]
      simp [tD]
  · rintro ρ S1 ⟨done, rest, o4, o5, o6, e, e2, rfl, rfl⟩
    cases rest with
    | cons p rest => cases e2
    | nil =>
      rw [List.append_nil] at e
      subst e
      exists and_self)
/-! last time -/
theorem set_nD (A : List Nat) (i v : Nat) : (A.map nD).set i (.int (v : Nat)) = (A.set i v).map nD := by
  rw [List.map_set]; rfl
theorem ixN_nat {n k : Nat} (h : k < n) : ixN n (k : Int) = some k := by
  unfold ixN
  rw [if_pos (by omega), if_pos (by omega)]
  rfl
theorem mx_ints {L : List Nat} {f : Nat → Nat} : (L ≠ [] → ((mx L f : Nat) : Int) ∈ L.map fun i => ((f i : Nat) : Int)) ∧ ∀ y ∈ L.map (fun i => ((f i : Nat) : Int)), y ≤ (mx L f : Nat) := by
  induction L with
  | nil => exact ⟨fun h => absurd rfl h, by simp⟩
  | cons x L ih =>
    rw [mx_cons]
    refine ⟨fun _ => ?_, fun y hy => ?_⟩
    · rw [List.map_cons, List.mem_cons]
      by_cases c : L = []
      · subst c; left; simp [mx]
      · have := ih.1 c
        by_cases d : mx L f ≤ f x
        · left; omega
        · right
          have e : max (f x) (mx L f) = mx L f := by omega
          rw [e]; exact this
    · rcases List.mem_cons.mp hy with rfl | hy
      · dsimp only; omega
      · have := ih.2 y hy; omega
theorem kMx_mx {L : List Nat} (hL : L ≠ []) {f : Nat → Nat} : KMx P maxI S (toInts (L.map fun i => .int ((f i : Nat) : Int))) = P (.d (.int (mx L f : Nat))) S := by
  rw [toInts_mapf (fun i => ((f i : Nat) : Int))]
  obtain ⟨h1, h2⟩ := mx_ints (L := L) (f := f)
  have e := maxI_max (h1 hL) h2
  cases L with
  | nil => exact absurd rfl hL
  | cons x L =>
    rw [List.map_cons, kMx, e]
    rfl
theorem last_time_ok {rs : List Nat} {pl : Pl} {L : List Nat} (hr : okR rs) (h : Bld rs.length pl L) (hl : pl.length = rs.length - 1) : law_last_time [.d (rdD rs), .d (plD pl)] S = .ok (.d (.int (fnl rs pl : Nat))) S := wp_eq (by
  have hn := hr.2
  have e1 : (2 * (rs.length : Int) - 1).toNat = 2 * rs.length - 1 := by omega
  have e2 : ((rs.length : Int) - 1).toNat = rs.length - 1 := by omega
  exists law_last_time, rdD, plD, List.length_map, kLcG_T, e1, e2
  refine ⟨okMul_l (by decide), by unfold lim; omega, ?_⟩
  rw [kLc_map (f := fun x => .int 0) (fun x hx acc => ⟨_, rfl, wp_eq (by exists and_self)⟩) (by rw [rngD_length]; unfold big; omega)]
  exists e2
  refine ⟨by unfold lim; omega, ?_⟩
  have eA : (rngD 0 (2 * rs.length - 1)).map (fun _ => Dt.int 0) = (List.replicate (2 * rs.length - 1) 0).map nD := by
    rw [List.map_const', rngD_length, List.map_replicate]
    rfl
  rw [eA]
  refine ws_invR (lo := 0) (n := rs.length - 1) (I := fun b ρ S1 => ∃ (A : List Nat) (o4 o5 o6 : Option Vl), ρ = [some (.d (.tup (rs.map nD))), some (.d (.tup (pl.map prN))), some (.d (.int (rs.length : Nat))), some (.r S.length), o4, o5, o6, none] ∧ S1 = S ++ [.lst (A.map nD)] ∧ A.length = 2 * rs.length - 1 ∧ abL rs.length (pl.take (rs.length - 1 - b)).reverse A = abL rs.length pl.reverse (List.replicate (2 * rs.length - 1) 0)) ?_ ?_ ⟨_, none, none, none, rfl, rfl, by simp, by rw [Nat.sub_zero, ← hl, List.take_length]⟩
  · rintro b hb ρ S1 ⟨A, o4, o5, o6, rfl, rfl, lA, ab⟩
    refine ⟨_, rfl, ?_⟩
    obtain ⟨k, hk⟩ : ∃ k, rs.length = k + 2 + b := ⟨rs.length - 2 - b, by omega⟩
    obtain ⟨p, hp⟩ : ∃ p, pl[k]? = some p := ⟨pl[k], List.getElem?_eq_getElem (by omega)⟩
    have hb := h.bd k p hp
    have em : (rs.length : Int) - 2 - (0 + (b : Nat)) = (k : Nat) := by omega
    have ek : (rs.length : Int) + (k : Nat) = ((rs.length + k : Nat) : Int) := by omega
    have pk : atI (pl.map prN) (k : Int) = some (prN p) := at_nat' (by rw [List.getElem?_map, hp]; rfl)
    generalize hv : A.getD (rs.length + k) 0 + 1 = v
    have v1 : ((A.getD (rs.length + k) 0 : Nat) : Int) + 1 = (v : Nat) := by omega
    have v2 : (A.set p.1 v).getD (rs.length + k) 0 = A.getD (rs.length + k) 0 := by rw [getD_set (by omega), if_neg (by omega)]
    exists em, ek, pk, prN, at_nD (T := A) (i := rs.length + k) (by omega), v1, List.length_map, ixN_nat (n := A.length) (k := p.1) (by omega), set_nD, at_nD (T := A.set p.1 v) (i := rs.length + k) (by rw [List.length_set]; omega), v2, List.length_set, ixN_nat (n := A.length) (k := p.2) (by omega)
    refine ⟨_, _, _, _, rfl, rfl, by rw [List.length_set, List.length_set]; exact lA, ?_⟩
    rw [← ab]
    have t : (pl.take (rs.length - 1 - b)).reverse = p :: (pl.take (rs.length - 1 - (b + 1))).reverse := by
      rw [show rs.length - 1 - b = k + 1 by omega, show rs.length - 1 - (b + 1) = k by omega, List.take_add_one, hp]
      simp
    rw [t, abL, List.length_reverse, List.length_take, show min (rs.length - 1 - (b + 1)) pl.length = k by omega, hv]
  · rintro ρ S1 ⟨A, o4, o5, o6, rfl, rfl, lA, ab⟩
    rw [Nat.sub_self] at ab
    have ab : A = abL rs.length pl.reverse (List.replicate (2 * rs.length - 1) 0) := ab
    exists kLcG_T, Int.toNat_natCast
    refine ⟨by unfold lim; omega, ?_⟩
    rw [kLc_map (f := fun x => match x with | .int z => Dt.int ((rs.getD z.toNat 0 + A.getD z.toNat 0 : Nat) : Int) | y => y) (fun x hx acc => by
      obtain ⟨q, rfl, hq⟩ := rng_get' hx
      refine ⟨_, rfl, wp_eq ?_⟩
      have s : ((rs.getD q 0 : Nat) : Int) + ((A.getD q 0 : Nat) : Int) = ((rs.getD q 0 + A.getD q 0 : Nat) : Int) := by omega
      rw [show nD q = Dt.int ((q : Nat) : Int) from rfl]
      exists at_nD (T := rs) (i := q) hq, at_nD (T := A) (i := q) (by omega), s, Int.toNat_natCast) (by rw [rngD_length]; unfold big; omega)]
    have ef : (rngD 0 rs.length).map (fun x => match x with | .int z => Dt.int ((rs.getD z.toNat 0 + A.getD z.toNat 0 : Nat) : Int) | y => y) = (List.range rs.length).map fun i => Dt.int ((rs.getD i 0 + A.getD i 0 : Nat) : Int) := by
      rw [rng_nD, List.map_map]
      refine List.map_congr_left fun a _ => ?_
      simp [nD]
    rw [ef]
    have ne : List.range rs.length ≠ [] := by
      intro e
      have := congrArg List.length e
      rw [List.length_range, List.length_nil] at this
      omega
    exists kMx_mx ne (f := fun i => rs.getD i 0 + A.getD i 0)
    have m := mx_ends rfl h (List.replicate (2 * rs.length - 1) 0) (by rw [List.length_replicate]; omega)
    rw [← ab] at m
    rw [m, (h.last (by omega) hl).1, mx_cons]
    have z : (List.replicate (2 * rs.length - 1) 0).getD (2 * rs.length - 2) 0 = 0 := by
      rw [List.getD_eq_getElem?_getD, List.getElem?_replicate]
      split <;> rfl
    rw [z]
    simp [mx, fnl])
end
end K84
namespace K84
open PySem Mo
open L2 (atI ixN)
local macro_rules | `(tactic| exists $ts,*) => `(tactic| simp only [wp_ok, wp_exc, wp_bad, wp_var, kV, wp_c, wp_op, kOp1, kOp2, wp_t, kT, wp_chain, kCh1, kCh2, kCh3, kCh4, wp_and, wp_or, wp_not, kAnd, kOr, kNot, wp_andV, wp_orV, wp_notV, kAndV, kOrV, kNotV, wp_neg, kNeg, wp_ifE, kIfE, wp_nil, wp_cons, kC1, kC2, wp_tup, wp_lst, kTup0, kTup1, kTup2, kTup3, kTup4, kTup5, kTup6, kTup7, kTup8, kTup9, kTup10, kTup11, kTup12, kLst0, kLst1, kLst2, kLst3, kLst4, kLst5, kLst6, kLst7, kLst8, kLst9, kLst10, kLst11, kLst12, wp_fn, kFn, wp_call, kCall, wp_isi, kIsi_int, kIsi_bool, kIsi_tup, kIsi_list, kIsiR_int, kIsiR_bool, kIsiR_tup, kIsiR_list, okT_non, okT_bl, okT_int, okT_str, okT_tup, okT_fl, isLstD, wp_noPart, wp_part, kPart, wp_sl, kSl1, kSl2, kSl3T, kSl3L, kSl3C, kSlR, wp_rev, kRev, wp_listRg1, kLq, wp_listRg2, kLr1, kLr2, ws_seq, qSeq_nx, qSeq_rt, qSeq_ex, qSeq_br, qSeq_ct, ws_skip, ws_break, ws_cont, ws_retN, ws_raise, ws_mret, ws_drop, kDrop, ws_if, kIf, ws_asg, kAsg1, kAsg2, kAsg3, kX, ws_put, kPut1, kPut2, kPutC, kPutR, kPut4, ixN_3_0, ixN_3_1, ixN_3_2, wp_append, kApp1, kAppC, kAppR, ws_for, kForT, kForG, kForCe, kForR, wp_seqI, kSeqIT, kSeqIL, kSeqIR, kSq, sqE, sqc_l, sqc_f, kIsL_l, kIsL_f, kIsL_o, wp_rng1, wp_rng2, kRng1, kRng2, wp_lc, ws_loop0, ws_loop1, qLp_nx, qLp_ct, qLp_br, qLp_rt, qLp_ex, qN_nx, qN_ct, qN_br, qN_rt, qN_ex, qLi_nx, qLi_ct, qLi_br, qLi_rt, qLi_ex, qF_nx, qF_rt, qF_ex, kExD, kExRn, kExRn0, kExC, wp_fnM, qE_nx, qE_rt, qE_ex, qTry_nx, qTry_rt, qTry_ex, kTry1, kTry0, ws_try, wp_isE, kIsE, wp_add, wp_addT, wp_addC, kAdd, wp_sub, wp_mul, wp_div, wp_mod, wp_pow, wp_cmp, wp_eqI, wp_neI, wp_eqB, wp_neB, wp_ix, kDt, wp_ixC, kIxR, wp_lenT, wp_lenC, kLenR, wp_int, wp_abs, wp_max2, wp_min2, wp_tupleT, wp_tupleC, kTupR, wp_listT, wp_listC, kLisR, wp_allC, wp_anyC, kAllR, wp_sumT', wp_sumC, kSmR, wp_yes, wp_ixD_T, wp_ixD_L, wp_ixD_FK, wp_ixD_FN, wp_ixD_C, kIxD_l, kIxD_f, kIxD_k, kIxD_n, kIxD_kf, kIxD_nf, kKey, keyOf_i, keyOf_s, keyT_2i, keyT_is, kIn, kNi, wp_inD, wp_notInD, inAll_C, inC_k, inC_n, inC_kf, inC_nf, wp_lenD_T, wp_lenD_L, wp_lenD_F, wp_lenD_C, kLenD_l, kLenD_f, kLenD_k, kLenD_n, kLenD_kf, kLenD_nf, wp_dnewK, wp_dnewN, ws_putD, kPd1, kPd2, kPd3, kPdC_k, kPdC_n, kPdC_l', wp_fz, kFz_d, kFz_r, kFzC_l, kFzC_f, kFzC_k, kFzC_n, wp_meth, kMe1, kMe2, kDtS, wp_pop, kPop, wp_popAt, kPopAt, wp_insert, kIns, wp_extend, kExt, kExt2, wp_bits, kBits, wp_shl, wp_shr, wp_band, wp_bor, wp_sortT, kSoI, wp_sortC, kSoR, kSoC_i, kSoC_p, at_0, at_1, at_2, at_3, items_lst, items_frz, wipeR, get_ap, get_ap0, take_ap, set_ap, set_ap0, List.append_assoc, Nat.add_assoc, List.take_succ_cons, List.take_zero, List.take_nil, take_len, if_if, wp_comp0, wp_comp1, kCp0, kCp1, kCp2, rngD_1, rngD_2, rngD_3, rngD_4, kAsgM, setAll, wp_enum, kEnumT, kEnumL, wp_maxT, wp_maxC, wp_minC, kMx, kMxR, List.length_cons, List.length_nil, List.map_cons, List.map_nil, List.replicate_succ, List.replicate_zero, List.cons_append, List.nil_append, List.set_cons_zero, List.set_cons_succ, List.getElem?_cons_zero, List.getElem?_cons_succ, List.take_length, take_ap0, List.length_append, List.length_set, Nat.zero_add, Nat.reduceAdd, Nat.reduceSub, Nat.sub_self, Nat.reduceEqDiff, Nat.reduceLeDiff, Nat.reduceLT, Nat.reduceMul, true_and, and_true, if_true, if_false, Bool.false_eq_true, Bool.not_true, Bool.not_false, decide_eq_true_eq, decide_true, decide_false, eq_self, not_false_eq_true, not_true_eq_false, and_self, Int.reduceEq, Int.reduceNeg, Int.reduceLT, Int.reduceLE, Int.reduceAdd, Int.reduceSub, Int.reduceMul, Int.reducePow, Int.reduceToNat, Int.reduceNe, natAbs_10, natAbs_2, Int.cast_ofNat_Int, Nat.reducePow, Int.neg_zero, Nat.lt_irrefl, ne_eq, isIntD, isBlD, isTupD, $[$ts:term],*])
section
variable {X : XP} {S S0 : Sto} {P : Vl → Sto → Prop} {i n : Nat}
def gT (rs : List Nat) (kvs : List (Dt × Dt)) (b e : Nat) : Prop := getD kvs (kk b e) = some (.int (E (seg rs b e) : Nat))
theorem gT_mono {rs : List Nat} {kvs : List (Dt × Dt)} {v : Dt} {x y b e : Nat} (hk : ∀ p ∈ kvs, nb p.1 = true) (n : b ≠ x ∨ e ≠ y) (h : gT rs kvs b e) : gT rs (setD kvs (kk x y) v) b e := by
  unfold gT
  rw [getD_setD_ne (kk_nb _ _) (kk_nb _ _) hk (kk_ne (by omega))]
  exact h
theorem kMx_mn {L : List Int} {m : Int} (h1 : m ∈ L) (h2 : ∀ y ∈ L, m ≤ y) : KMx P minI S (some L) = P (.d (.int m)) S := by
  rw [minI_min h1 h2]
  cases L with
  | nil => cases h1
  | cons x L => rfl
theorem table_end_ok {rs : List Nat} (hr : okR rs) : law_table_end [.d (rdD rs)] S = .ok (.d (.int (E rs : Nat))) S := wp_eq (by
  have hn := hr.2
  exists law_table_end, rdD, List.length_map, Int.toNat_natCast
  refine ⟨by unfold lim; omega, ?_⟩
  refine ws_invR (lo := 0) (n := rs.length) (I := fun c ρ S1 => ∃ kvs o3, ρ = [some (.d (.tup (rs.map nD))), some (.d (.int (rs.length : Nat))), some (.r S.length), o3, none, none, none, none, none] ∧ S1 = S ++ [.oth (.dN kvs)] ∧ filled rs (gT rs) kvs 1 c) ?_ ?_ ⟨[], none, rfl, rfl, by simp, by simp, fun b e h1 h2 h3 => by omega⟩
  · rintro c hc ρ S1 ⟨kvs, o3, rfl, rfl, hf⟩
    refine ⟨_, rfl, ?_⟩
    have e0 : (0 : Int) + (c : Nat) = (c : Nat) := by omega
    have ee : ((c : Nat) : Int) + 1 = ((c + 1 : Nat) : Int) := by omega
    have hl : kvs.length ≤ big := by have := hf.2.1; unfold big; omega
    exists e0, ee, at_nD (T := rs) (i := c) hc, hl
    refine ⟨_, _, rfl, rfl, filled_put hf ?_ fun b e n g => gT_mono hf.1 n g⟩
    unfold gT
    rw [getD_setD_same (kk_nb _ _) hf.1, seg_one hc, E_one]
  · intro ρ S1 hI
    obtain ⟨kvs, hI⟩ := hI
    obtain ⟨o3, hI⟩ := hI
    obtain ⟨h1, h2, hf⟩ := hI
    subst h1 h2
    have hf : filled rs (gT rs) kvs 2 0 := ⟨hf.1, by have := hf.2.1; omega, fun b e h1 h2 h3 => hf.2.2 b e h1 h2 (by omega)⟩
    have e1 : ((rs.length : Int) + 1 - 2).toNat = rs.length - 1 := by omega
    exists e1
    refine ⟨by unfold lim; omega, ?_⟩
    refine ws_invR (lo := 2) (n := rs.length - 1) (I := fun k ρ S1 => ∃ kvs o3 o4 o5 o6 o7, ρ = [some (.d (.tup (rs.map nD))), some (.d (.int (rs.length : Nat))), some (.r S.length), o3, o4, o5, o6, o7, none] ∧ (∃ T, S1 = S ++ .oth (.dN kvs) :: T) ∧ filled rs (gT rs) kvs (k + 2) 0) ?_ ?_ ⟨kvs, _, _, _, _, _, rfl, ⟨[], rfl⟩, hf⟩
    · rintro k hk ρ S1 ⟨kvs, o3, o4, o5, o6, o7, rfl, ⟨T, rfl⟩, hf⟩
      refine ⟨_, rfl, ?_⟩
      have en2 : ((rs.length : Int) - (2 + (k : Nat)) + 1).toNat = rs.length - 1 - k := by omega
      exists en2
      refine ⟨by unfold lim; omega, ?_⟩
      refine ws_invR (lo := 0) (n := rs.length - 1 - k) (I := fun c ρ S1 => ∃ kvs o5 o6 o7, ρ = [some (.d (.tup (rs.map nD))), some (.d (.int (rs.length : Nat))), some (.r S.length), o3, some (.d (.int (2 + (k : Nat)))), o5, o6, o7, none] ∧ (∃ T, S1 = S ++ .oth (.dN kvs) :: T) ∧ filled rs (gT rs) kvs (k + 2) c) ?_ ?_ ⟨kvs, _, _, _, rfl, ⟨T, rfl⟩, hf⟩
      · rintro c hc ρ S1 ⟨kvs, o5, o6, o7, rfl, ⟨T, rfl⟩, hf⟩
        refine ⟨_, rfl, ?_⟩
        have e0 : (0 : Int) + (c : Nat) = (c : Nat) := by omega
        have ee : ((c : Nat) : Int) + (2 + (k : Nat)) = ((c + (k + 2) : Nat) : Int) := by omega
        have en3 : (((c + (k + 2) : Nat) : Int) - ((c : Nat) + 1)).toNat = k + 1 := by omega
        exists e0, ee, kLcG_T, en3
        refine ⟨by unfold lim; omega, ?_⟩
        have hx : ∀ x ∈ rngD (((c : Nat) : Int) + 1) (k + 1), ∃ y : Nat, x = .int (y : Nat) ∧ c < y ∧ y < c + (k + 2) := fun x hx => by
          unfold rngD at hx
          obtain ⟨j, hj, rfl⟩ := List.mem_map.mp hx
          have := List.mem_range.mp hj
          exact ⟨c + 1 + j, by congr 1, by omega, by omega⟩
        rw [kLc_map (f := fun x => match x with | .int z => Dt.int ((jn rs c z.toNat (c + (k + 2)) : Nat) : Int) | y => y) (fun x hx' acc => by
          obtain ⟨y, rfl, y1, y2⟩ := hx x hx'
          refine ⟨_, rfl, wp_eq ?_⟩
          have g1 := hf.2.2 c y (by omega) (by omega) (by omega)
          have g2 := hf.2.2 y (c + (k + 2)) (by omega) (by omega) (by omega)
          unfold gT kk at g1 g2
          have ej : max (E (seg rs c y)) (E (seg rs y (c + (k + 2)))) + 1 = jn rs c y (c + (k + 2)) := rfl
          exists g1, g2, max0, ej, Int.toNat_natCast) (by rw [rngD_length]; unfold big; omega)]
        have hl : kvs.length ≤ big := by have := hf.2.1; unfold big; omega
        have em : ∀ (P : Vl → Sto → Prop) (S : Sto), KMx P minI S (toInts ((rngD (((c : Nat) : Int) + 1) (k + 1)).map fun x => match x with | .int z => Dt.int ((jn rs c z.toNat (c + (k + 2)) : Nat) : Int) | y => y)) = P (.d (.int (E (seg rs c (c + (k + 2))) : Nat))) S := fun P S => by
          have e2 : ((rngD (((c : Nat) : Int) + 1) (k + 1)).map fun x => match x with | .int z => Dt.int ((jn rs c z.toNat (c + (k + 2)) : Nat) : Int) | y => y) = ((List.range (k + 1)).map fun j => ((jn rs c (c + 1 + j) (c + (k + 2)) : Nat) : Int)).map Dt.int := by
            unfold rngD
            rw [List.map_map, List.map_map]
            refine List.map_congr_left fun j _ => ?_
            have : (((c : Nat) : Int) + 1 + (j : Nat)).toNat = c + 1 + j := by omega
            simp only [Function.comp, this]
          rw [e2, toInts_map]
          obtain ⟨y, y1, y2, y3⟩ := E_seg_ex (rs := rs) (b := c) (e := c + (k + 2)) (by omega) (by omega)
          refine kMx_mn (List.mem_map.mpr ⟨y - (c + 1), List.mem_range.mpr (by omega), ?_⟩) fun z hz => ?_
          · rw [y3, show c + 1 + (y - (c + 1)) = y by omega]
          · obtain ⟨j, hj, rfl⟩ := List.mem_map.mp hz
            have := List.mem_range.mp hj
            have := E_seg_le (rs := rs) (b := c) (m := c + 1 + j) (e := c + (k + 2)) (by omega) (by omega)
            omega
        exists em, hl
        refine ⟨_, _, _, _, rfl, ⟨_, rfl⟩, filled_put hf ?_ fun b e n g => gT_mono hf.1 n g⟩
        unfold gT
        rw [getD_setD_same (kk_nb _ _) hf.1]
      · rintro ρ S1 ⟨kvs, o5, o6, o7, rfl, ⟨T, rfl⟩, hf⟩
        exact ⟨kvs, _, _, _, _, _, rfl, ⟨T, rfl⟩, hf.1, by have := hf.2.1; omega, fun b e h1 h2 h3 => hf.2.2 b e h1 h2 (by omega)⟩
    · rintro ρ S1 ⟨kvs, o3, o4, o5, o6, o7, rfl, ⟨T, rfl⟩, hf⟩
      have g := hf.2.2 0 rs.length (by omega) (Nat.le_refl _) (by omega)
      unfold gT kk at g
      rw [seg_all] at g
      have z : ((0 : Nat) : Int) = 0 := rfl
      rw [z] at g
      exists g)
/-! packed, summed -/
theorem bits_cl (m : Nat) (h : 1 ≤ m) : Builtin.Int.intBits (((m : Nat) : Int) - 1) = cl m := by
  unfold Builtin.Int.intBits cl
  by_cases c : m ≤ 1
  · have : m = 1 := by omega
    subst this
    rfl
  · have e : ((m : Int) - 1).natAbs = m - 1 := by omega
    have n : ¬ ((m : Int) - 1 == 0) = true := by
      rw [beq_iff_eq]; omega
    rw [if_neg n, if_neg c, e]
theorem pow_cast (x : Nat) : (1 : Int) * 2 ^ ((x : Nat) : Int).toNat = ((2 ^ x : Nat) : Int) := by
  rw [Int.toNat_natCast, Int.one_mul]
  simp
theorem sm_le {L : List Nat} (h : ∀ x ∈ L, x ≤ 1000) : sm L ≤ L.length * 2 ^ 1000 := by
  induction L with
  | nil => simp [sm]
  | cons x L ih =>
    rw [sm_cons, List.length_cons, Nat.add_mul]
    have h1 := ih fun y hy => h y (List.mem_cons_of_mem _ hy)
    have h2 : 2 ^ x ≤ 2 ^ 1000 := Nat.pow_le_pow_right (by decide) (h x List.mem_cons_self)
    generalize 2 ^ 1000 = M at *
    omega
theorem bits_le {x m : Nat} (h : x < 2 ^ m) : Builtin.Int.intBits ((x : Nat) : Int) ≤ m := by
  unfold Builtin.Int.intBits
  split
  · exact Nat.zero_le _
  · rename_i c
    have c : x ≠ 0 := fun e => c (by rw [e]; rfl)
    have := (Nat.log2_lt (n := x) (k := m) c).mpr h
    rw [Int.natAbs_natCast]
    omega
theorem packed_ok {rs : List Nat} (hr : okR rs) : law_packed_end [.d (rdD rs)] S = .ok (.d (.int (E rs : Nat))) S := wp_eq (by
  have hn := hr.2
  exists law_packed_end, rdD
  refine ws_inv (I := fun r ρ S1 => ∃ done rest o2 o3, rs = done ++ rest ∧ r = rest.map nD ∧ ρ = [some (.d (.tup (rs.map nD))), some (.d (.int (place 0 done : Nat))), o2, o3] ∧ S1 = S) ?_ ?_ ⟨[], rs, none, none, rfl, rfl, rfl, rfl⟩
  · rintro x r ρ S1 ⟨done, rest, o2, o3, e, e2, rfl, rfl⟩
    cases rest with
    | nil => cases e2
    | cons a rest =>
      cases e2
      refine ⟨_, rfl, ?_⟩
      have ha : a ≤ 1000 := hr.1 a (by rw [e]; simp)
      have hb : 0 ≤ ((a : Nat) : Int) ∧ ((a : Nat) : Int) ≤ 1000000 := by omega
      rw [show nD a = Dt.int ((a : Nat) : Int) from rfl]
      have hp : 0 < 2 ^ a := Nat.two_pow_pos a
      have f1 : (((place 0 done : Nat) : Int) + ((2 ^ a : Nat) : Int) - 1).fdiv ((2 ^ a : Nat) : Int) = (((place 0 done + 2 ^ a - 1) / 2 ^ a : Nat) : Int) := by
        rw [show ((place 0 done : Nat) : Int) + ((2 ^ a : Nat) : Int) - 1 = ((place 0 done + 2 ^ a - 1 : Nat) : Int) by omega, Int.fdiv_eq_ediv_of_nonneg _ (by omega), Int.natCast_ediv]
      have f2 : (((place 0 done + 2 ^ a - 1) / 2 ^ a : Nat) : Int) * ((2 ^ a : Nat) : Int) + ((2 ^ a : Nat) : Int) = ((place 0 (done ++ [a]) : Nat) : Int) := by
        rw [place_app]
        show _ = (((place 0 done + 2 ^ a - 1) / 2 ^ a * 2 ^ a + 2 ^ a : Nat) : Int)
        rw [Int.natCast_add, Int.natCast_mul]
      have o1 : okDiv (((place 0 done : Nat) : Int) + ((2 ^ a : Nat) : Int) - 1) ((2 ^ a : Nat) : Int) := .inl ⟨by omega, by
        rw [Int.natAbs_natCast, Nat.log2_two_pow]; omega⟩
      have sd : ∀ x ∈ done, x ≤ 1000 := fun x hx => hr.1 x (by rw [e]; simp [hx])
      have ld : done.length ≤ 12 := by
        have := congrArg List.length e
        simp at this; omega
      have pw : 2 ^ a ≤ 2 ^ 1000 := Nat.pow_le_pow_right (by decide) ha
      have pd : place 0 done ≤ 24 * 2 ^ 1000 := by
        have h1 := place_le (l := done) 0
        have h2 := sm_le sd
        have h3 : done.length * 2 ^ 1000 ≤ 12 * 2 ^ 1000 := Nat.mul_le_mul_right _ ld
        generalize 2 ^ 1000 = M at *
        omega
      have o2 : okMul (((place 0 done + 2 ^ a - 1) / 2 ^ a : Nat) : Int) ((2 ^ a : Nat) : Int) := by
        refine .inr ?_
        have b1 : Builtin.Int.intBits (((place 0 done + 2 ^ a - 1) / 2 ^ a : Nat) : Int) ≤ 1000 + 10 := bits_le (by
          refine Nat.lt_of_le_of_lt (Nat.div_le_self _ _) ?_
          rw [Nat.pow_add]
          generalize 2 ^ 1000 = M at *
          omega)
        have b2 : Builtin.Int.intBits ((2 ^ a : Nat) : Int) ≤ 1000 + 10 := bits_le (by
          rw [Nat.pow_add]
          generalize 2 ^ 1000 = M at *
          omega)
        unfold L2.CMulX
        omega
      exists pow_cast, hb, f1, f2
      refine ⟨by decide, o1, o2, done ++ [a], rest, _, _, by rw [e]; simp, rfl, rfl⟩
  · rintro ρ S1 ⟨done, rest, o2, o3, e, e2, rfl, rfl⟩
    cases rest with
    | cons p rest => cases e2
    | nil =>
      rw [List.append_nil] at e
      subst e
      have : 1 ≤ place 0 rs := by
        have := place_ge (l := rs) 0
        have := sm_pos (l := rs) (by intro e; rw [e] at hn; simp at hn)
        omega
      exists bits_cl _ this, E)
theorem sum_ok {rs : List Nat} (hr : okR rs) : law_sum_end [.d (rdD rs)] S = .ok (.d (.int (F rs : Nat))) S := wp_eq (by
  have hn := hr.2
  exists law_sum_end, rdD
  rw [kLc_map (f := fun x => match x with | .int z => Dt.int ((2 ^ z.toNat : Nat) : Int) | y => y) (fun x hx acc => by
    obtain ⟨a, ha, rfl⟩ := List.mem_map.mp hx
    have ha : a ≤ 1000 := hr.1 a ha
    have hb : 0 ≤ ((a : Nat) : Int) ∧ ((a : Nat) : Int) ≤ 1000000 := by omega
    refine ⟨_, rfl, wp_eq ?_⟩
    rw [show nD a = Dt.int ((a : Nat) : Int) from rfl]
    have pc := pow_cast a
    exists pc, hb
    exact ⟨by decide, by rw [Int.toNat_natCast]⟩) (by rw [List.length_map]; unfold big; omega)]
  have e1 : ((rs.map nD).map fun x => match x with | .int z => Dt.int ((2 ^ z.toNat : Nat) : Int) | y => y) = (rs.map fun a => ((2 ^ a : Nat) : Int)).map Dt.int := by
    rw [List.map_map, List.map_map]
    rfl
  have e2 : (rs.map fun a => ((2 ^ a : Nat) : Int)).sum = ((sm rs : Nat) : Int) := by
    unfold sm
    generalize rs = L
    induction L with
    | nil => rfl
    | cons x L ih => rw [List.map_cons, List.sum_cons, ih, List.map_cons, List.sum_cons]; omega
  have p : 1 ≤ sm rs := sm_pos (l := rs) (by intro e; rw [e] at hn; simp at hn)
  rw [e1]
  exists toInts_map, kSm, e2, bits_cl _ p, F)
end
end K84
namespace K84
open PySem Mo
open L2 (atI ixN)
local macro_rules | `(tactic| exists $ts,*) => `(tactic| simp only [wp_ok, wp_exc, wp_bad, wp_var, kV, wp_c, wp_op, kOp1, kOp2, wp_t, kT, wp_chain, kCh1, kCh2, kCh3, kCh4, wp_and, wp_or, wp_not, kAnd, kOr, kNot, wp_andV, wp_orV, wp_notV, kAndV, kOrV, kNotV, wp_neg, kNeg, wp_ifE, kIfE, wp_nil, wp_cons, kC1, kC2, wp_tup, wp_lst, kTup0, kTup1, kTup2, kTup3, kTup4, kTup5, kTup6, kTup7, kTup8, kTup9, kTup10, kTup11, kTup12, kLst0, kLst1, kLst2, kLst3, kLst4, kLst5, kLst6, kLst7, kLst8, kLst9, kLst10, kLst11, kLst12, wp_fn, kFn, wp_call, kCall, wp_isi, kIsi_int, kIsi_bool, kIsi_tup, kIsi_list, kIsiR_int, kIsiR_bool, kIsiR_tup, kIsiR_list, okT_non, okT_bl, okT_int, okT_str, okT_tup, okT_fl, isLstD, wp_noPart, wp_part, kPart, wp_sl, kSl1, kSl2, kSl3T, kSl3L, kSl3C, kSlR, wp_rev, kRev, wp_listRg1, kLq, wp_listRg2, kLr1, kLr2, ws_seq, qSeq_nx, qSeq_rt, qSeq_ex, qSeq_br, qSeq_ct, ws_skip, ws_break, ws_cont, ws_retN, ws_raise, ws_mret, ws_drop, kDrop, ws_if, kIf, ws_asg, kAsg1, kAsg2, kAsg3, kX, ws_put, kPut1, kPut2, kPutC, kPutR, kPut4, ixN_3_0, ixN_3_1, ixN_3_2, wp_append, kApp1, kAppC, kAppR, ws_for, kForT, kForG, kForCe, kForR, wp_seqI, kSeqIT, kSeqIL, kSeqIR, kSq, sqE, sqc_l, sqc_f, kIsL_l, kIsL_f, kIsL_o, wp_rng1, wp_rng2, kRng1, kRng2, wp_lc, ws_loop0, ws_loop1, qLp_nx, qLp_ct, qLp_br, qLp_rt, qLp_ex, qN_nx, qN_ct, qN_br, qN_rt, qN_ex, qLi_nx, qLi_ct, qLi_br, qLi_rt, qLi_ex, qF_nx, qF_rt, qF_ex, kExD, kExRn, kExRn0, kExC, wp_fnM, qE_nx, qE_rt, qE_ex, qTry_nx, qTry_rt, qTry_ex, kTry1, kTry0, ws_try, wp_isE, kIsE, wp_add, wp_addT, wp_addC, kAdd, wp_sub, wp_mul, wp_div, wp_mod, wp_pow, wp_cmp, wp_eqI, wp_neI, wp_eqB, wp_neB, wp_ix, kDt, wp_ixC, kIxR, wp_lenT, wp_lenC, kLenR, wp_int, wp_abs, wp_max2, wp_min2, wp_tupleT, wp_tupleC, kTupR, wp_listT, wp_listC, kLisR, wp_allC, wp_anyC, kAllR, wp_sumT', wp_sumC, kSmR, wp_yes, wp_ixD_T, wp_ixD_L, wp_ixD_FK, wp_ixD_FN, wp_ixD_C, kIxD_l, kIxD_f, kIxD_k, kIxD_n, kIxD_kf, kIxD_nf, kKey, keyOf_i, keyOf_s, keyT_2i, keyT_is, kIn, kNi, wp_inD, wp_notInD, inAll_C, inC_k, inC_n, inC_kf, inC_nf, wp_lenD_T, wp_lenD_L, wp_lenD_F, wp_lenD_C, kLenD_l, kLenD_f, kLenD_k, kLenD_n, kLenD_kf, kLenD_nf, wp_dnewK, wp_dnewN, ws_putD, kPd1, kPd2, kPd3, kPdC_k, kPdC_n, kPdC_l', wp_fz, kFz_d, kFz_r, kFzC_l, kFzC_f, kFzC_k, kFzC_n, wp_meth, kMe1, kMe2, kDtS, wp_pop, kPop, wp_popAt, kPopAt, wp_insert, kIns, wp_extend, kExt, kExt2, wp_bits, kBits, wp_shl, wp_shr, wp_band, wp_bor, wp_sortT, kSoI, wp_sortC, kSoR, kSoC_i, kSoC_p, at_0, at_1, at_2, at_3, items_lst, items_frz, wipeR, get_ap, get_ap0, take_ap, set_ap, set_ap0, List.append_assoc, Nat.add_assoc, List.take_succ_cons, List.take_zero, List.take_nil, take_len, if_if, wp_comp0, wp_comp1, kCp0, kCp1, kCp2, rngD_1, rngD_2, rngD_3, rngD_4, kAsgM, setAll, wp_enum, kEnumT, kEnumL, wp_maxT, wp_maxC, wp_minC, kMx, kMxR, List.length_cons, List.length_nil, List.map_cons, List.map_nil, List.replicate_succ, List.replicate_zero, List.cons_append, List.nil_append, List.set_cons_zero, List.set_cons_succ, List.getElem?_cons_zero, List.getElem?_cons_succ, List.take_length, take_ap0, List.length_append, List.length_set, Nat.zero_add, Nat.reduceAdd, Nat.reduceSub, Nat.sub_self, Nat.reduceEqDiff, Nat.reduceLeDiff, Nat.reduceLT, Nat.reduceMul, true_and, and_true, if_true, if_false, Bool.false_eq_true, Bool.not_true, Bool.not_false, decide_eq_true_eq, decide_true, decide_false, eq_self, not_false_eq_true, not_true_eq_false, and_self, Int.reduceEq, Int.reduceNeg, Int.reduceLT, Int.reduceLE, Int.reduceAdd, Int.reduceSub, Int.reduceMul, Int.reducePow, Int.reduceToNat, Int.reduceNe, natAbs_10, natAbs_2, Int.cast_ofNat_Int, Nat.reducePow, Int.neg_zero, Nat.lt_irrefl, ne_eq, isIntD, isBlD, isTupD, $[$ts:term],*])
section
variable {X : XP} {S S0 : Sto} {P : Vl → Sto → Prop} {i n : Nat}
theorem lk_split : List.lookup ("BadNumber" : Str) t_SplitError = some true := rfl
theorem lk_bad : List.lookup ("BadNumber" : Str) i_BadNumber = some true := rfl
theorem lk_plan : List.lookup ("BadNumber" : Str) i_BadPlan = some false := rfl
theorem eq_self_nD (L : List Nat) : eqB (.d (.tup (L.map nD))) (.d (.tup (L.map nD))) S = some true := by
  have h : shDs 0 (L.map nD) = true := shDs_all fun d hd => by
    obtain ⟨k, _, rfl⟩ := List.mem_map.mp hd
    rfl
  have hd : dataDs (L.map nD) = true := by
    induction L with
    | nil => rfl
    | cons x L ih =>
      rw [List.map_cons] at h ⊢
      rw [shDs, Bool.and_eq_true] at h
      rw [dataDs, ih h.2]
      rfl
  rw [eqB_tup (k := 0) h h, eqDs_refl _ hd]
/-- the pieces in another order -/
def re (rs l : List Nat) : List Nat := l.map fun i => rs.getD i 0
theorem re_perm {rs l : List Nat} (h : l.Perm (List.range rs.length)) : (re rs l).Perm rs := by
  unfold re
  refine (h.map _).trans ?_
  have : (List.range rs.length).map (fun i => rs.getD i 0) = rs := by
    apply List.ext_getElem
    · simp
    · intro i h1 h2
      simp [List.getD_eq_getElem?_getD, h2]
  rw [this]
theorem okR_perm {rs l : List Nat} (h : l.Perm rs) (hr : okR rs) : okR l := ⟨fun x hx => hr.1 x (h.mem_iff.mp hx), by rw [h.length_eq]; exact hr.2⟩
theorem least_of_ok {rs : List Nat} {m : Nat} (hr : okR rs) (h : E rs = m) : law_least_of [.d (rdD rs), .d (.int (m : Nat))] S = .ok (.d (.bl true)) S := wp_eq (by
  exists law_least_of, least_end_ok hr, e_whole, sIsInteger_d _ okT_int, isN, h)
theorem freely_ok {rs : List Nat} (hr : okR rs) : least_end_freely [.d (rdD rs)] S = .ok (.d (.int (F rs : Nat))) S := wp_eq (by
  obtain ⟨pl, e1, h1, h2, h3⟩ := free_plan_ok (S := S) hr
  exists least_end_freely, e1, plan_end_ok hr h1 h2, h3)
theorem lvs_last {pl : Pl} (hn : 1 ≤ n) (hl : pl.length = n - 1) : atI ((lvs n pl).map tD) (-1) = some (.tup (((lvs n pl).getD (2 * n - 2) []).map nD)) := by
  have e : atI ((lvs n pl).map tD) (-1) = ((lvs n pl).map tD)[2 * n - 2]? := by
    unfold atI ixN
    rw [if_neg (by decide), List.length_map, lvs_len, hl, if_pos (by omega)]
    show ((lvs n pl).map tD)[_]? = _
    congr 1
    omega
  rw [e, List.getElem?_map, List.getD_eq_getElem?_getD, List.getElem?_eq_getElem (by rw [lvs_len]; omega)]
  rfl
theorem freely_asked_ok {rs : List Nat} (hr : okR rs) : law_freely_asked [.d (rdD rs), .d (.int (F rs : Nat))] S = .ok (.d (.bl true)) S := wp_eq (by
  have hn := hr.2
  obtain ⟨pl, e1, h1, h2, h3⟩ := free_plan_ok (S := S) hr
  have hlast := (h1.last (by omega) h2).2
  generalize hl : (lvs rs.length pl).getD (2 * rs.length - 2) [] = l at hlast
  have e2 : atI ((lvs rs.length pl).map tD) (-1) = some (.tup (l.map nD)) := by rw [lvs_last hn.1 h2, hl]
  have fo : ∀ S : Sto, least_end_freely [.d (.tup (rs.map nD))] S = .ok (.d (.int (F rs : Nat))) S := fun S => freely_ok hr
  have lt : ∀ S : Sto, law_last_time [.d (.tup (rs.map nD)), .d (plD pl)] S = .ok (.d (.int (F rs : Nat))) S := fun S => by rw [← h3]; exact last_time_ok hr h1 h2
  have pe : ∀ S : Sto, plan_end [.d (.tup (rs.map nD)), .d (plD pl)] S = .ok (.d (.int (F rs : Nat))) S := fun S => by rw [← h3]; exact plan_end_ok hr h1 h2
  unfold rdD at e1
  exists law_freely_asked, rdD, List.length_map, fo, e_whole, sIsInteger_d _ okT_int, isN, e1, leaves_ok h1 hn h2, isN_r, lt, pe, e2
  have lm : l.length ≤ 12 := by rw [hlast.length_eq, List.length_range]; exact hn.2
  rw [kLc_map (f := fun x => match x with | .int z => nD (rs.getD z.toNat 0) | y => y) (fun x hx acc => by
    obtain ⟨k, hk, rfl⟩ := List.mem_map.mp hx
    have kl := List.mem_range.mp (hlast.mem_iff.mp hk)
    refine ⟨_, rfl, wp_eq ?_⟩
    rw [show nD k = Dt.int ((k : Nat) : Int) from rfl]
    exists at_nD (T := rs) (i := k) kl, Int.toNat_natCast
    rfl) (by rw [List.length_map]; unfold big; omega)]
  have e3 : ((l.map nD).map fun x => match x with | .int z => nD (rs.getD z.toNat 0) | y => y) = (re rs l).map nD := by
    unfold re
    rw [List.map_map, List.map_map]
    refine List.map_congr_left fun k _ => ?_
    simp [nD]
  rw [e3]
  have rp := re_perm hlast
  have el : E (re rs l) = F rs := by
    refine Nat.le_antisymm ?_ (by rw [← F_perm rp]; exact F_le_E _)
    have := E_tms (rs := rs) rfl pl h1.bd (2 * rs.length - 2) (by omega)
    rw [hl] at this
    rw [← h3]
    exact this
  have lo : ∀ S : Sto, law_least_of [.d (.tup ((re rs l).map nD)), .d (.int (F rs : Nat))] S = .ok (.d (.bl true)) S := fun S => least_of_ok (okR_perm rp hr) el
  exists lo)
theorem near_asked_ok {rs : List Nat} (hr : okR rs) : law_near_asked [.d (rdD rs), .d (.int (E rs : Nat))] S = .ok (.d (.bl true)) S := wp_eq (by
  have hn := hr.2
  obtain ⟨pl, e1, h1, h2, h3⟩ := least_plan_ok (S := S) hr
  have hlast := h1.last (by omega) h2
  have e2 : atI ((lvs rs.length pl).map tD) (-1) = some (.tup ((List.range rs.length).map nD)) := by rw [lvs_last hn.1 h2, hlast]
  have lo : ∀ S : Sto, law_least_of [.d (.tup (rs.map nD)), .d (.int (E rs : Nat))] S = .ok (.d (.bl true)) S := fun S => least_of_ok hr rfl
  have po : ∀ S : Sto, law_packed_end [.d (.tup (rs.map nD))] S = .ok (.d (.int (E rs : Nat))) S := fun S => packed_ok hr
  have lt : ∀ S : Sto, law_last_time [.d (.tup (rs.map nD)), .d (plD pl)] S = .ok (.d (.int (E rs : Nat))) S := fun S => by rw [← h3]; exact last_time_ok hr h1.bld h2
  have pe : ∀ S : Sto, plan_end [.d (.tup (rs.map nD)), .d (plD pl)] S = .ok (.d (.int (E rs : Nat))) S := fun S => by rw [← h3]; exact plan_end_ok hr h1.bld h2
  unfold rdD at e1
  exists law_near_asked, rdD, List.length_map, lo, po, e1, leaves_ok h1.bld hn h2, isN_r, lt, pe, e2, rng_nD, Int.toNat_natCast
  refine ⟨by unfold big; omega, ?_⟩
  exists wp_neO (eq_self_nD _), lt, pe)
theorem refused_ok {xs : List Dt} (ok : ∀ x ∈ xs, okT x = true) (h : okRd xs = false) (hb : xs.length ≤ 13) {w : Int} (hw : 0 ≤ w ∧ w < 4) : law_refused [.d (.int w), .d (.tup xs)] S = .ok (.d (.bl true)) S := wp_eq (by
  have ck : ∀ S : Sto, check_ready [.d (.tup xs)] S = .exc ⟨"BadNumber"⟩ S := fun S => check_ready_bad xs ok h (by unfold big; omega)
  have : w = 0 ∨ w = 1 ∨ w = 2 ∨ w = 3 := by omega
  rcases this with rfl | rfl | rfl | rfl
  · exists law_refused, least_end, ck, lk_split, lk_bad, lk_plan
  · exists law_refused, least_plan, ck, lk_split, lk_bad, lk_plan
  · exists law_refused, least_end_freely, free_plan, ck, lk_split, lk_bad, lk_plan
  · exists law_refused, free_plan, ck, lk_split, lk_bad, lk_plan)
end
end K84
namespace K84
open PySem Mo
open L2 (atI ixN)
local macro_rules | `(tactic| exists $ts,*) => `(tactic| simp only [wp_ok, wp_exc, wp_bad, wp_var, kV, wp_c, wp_op, kOp1, kOp2, wp_t, kT, wp_chain, kCh1, kCh2, kCh3, kCh4, wp_and, wp_or, wp_not, kAnd, kOr, kNot, wp_andV, wp_orV, wp_notV, kAndV, kOrV, kNotV, wp_neg, kNeg, wp_ifE, kIfE, wp_nil, wp_cons, kC1, kC2, wp_tup, wp_lst, kTup0, kTup1, kTup2, kTup3, kTup4, kTup5, kTup6, kTup7, kTup8, kTup9, kTup10, kTup11, kTup12, kLst0, kLst1, kLst2, kLst3, kLst4, kLst5, kLst6, kLst7, kLst8, kLst9, kLst10, kLst11, kLst12, wp_fn, kFn, wp_call, kCall, wp_isi, kIsi_int, kIsi_bool, kIsi_tup, kIsi_list, kIsiR_int, kIsiR_bool, kIsiR_tup, kIsiR_list, okT_non, okT_bl, okT_int, okT_str, okT_tup, okT_fl, isLstD, wp_noPart, wp_part, kPart, wp_sl, kSl1, kSl2, kSl3T, kSl3L, kSl3C, kSlR, wp_rev, kRev, wp_listRg1, kLq, wp_listRg2, kLr1, kLr2, ws_seq, qSeq_nx, qSeq_rt, qSeq_ex, qSeq_br, qSeq_ct, ws_skip, ws_break, ws_cont, ws_retN, ws_raise, ws_mret, ws_drop, kDrop, ws_if, kIf, ws_asg, kAsg1, kAsg2, kAsg3, kX, ws_put, kPut1, kPut2, kPutC, kPutR, kPut4, ixN_3_0, ixN_3_1, ixN_3_2, wp_append, kApp1, kAppC, kAppR, ws_for, kForT, kForG, kForCe, kForR, wp_seqI, kSeqIT, kSeqIL, kSeqIR, kSq, sqE, sqc_l, sqc_f, kIsL_l, kIsL_f, kIsL_o, wp_rng1, wp_rng2, kRng1, kRng2, wp_lc, ws_loop0, ws_loop1, qLp_nx, qLp_ct, qLp_br, qLp_rt, qLp_ex, qN_nx, qN_ct, qN_br, qN_rt, qN_ex, qLi_nx, qLi_ct, qLi_br, qLi_rt, qLi_ex, qF_nx, qF_rt, qF_ex, kExD, kExRn, kExRn0, kExC, wp_fnM, qE_nx, qE_rt, qE_ex, qTry_nx, qTry_rt, qTry_ex, kTry1, kTry0, ws_try, wp_isE, kIsE, wp_add, wp_addT, wp_addC, kAdd, wp_sub, wp_mul, wp_div, wp_mod, wp_pow, wp_cmp, wp_eqI, wp_neI, wp_eqB, wp_neB, wp_ix, kDt, wp_ixC, kIxR, wp_lenT, wp_lenC, kLenR, wp_int, wp_abs, wp_max2, wp_min2, wp_tupleT, wp_tupleC, kTupR, wp_listT, wp_listC, kLisR, wp_allC, wp_anyC, kAllR, wp_sumT', wp_sumC, kSmR, wp_yes, wp_ixD_T, wp_ixD_L, wp_ixD_FK, wp_ixD_FN, wp_ixD_C, kIxD_l, kIxD_f, kIxD_k, kIxD_n, kIxD_kf, kIxD_nf, kKey, keyOf_i, keyOf_s, keyT_2i, keyT_is, kIn, kNi, wp_inD, wp_notInD, inAll_C, inC_k, inC_n, inC_kf, inC_nf, wp_lenD_T, wp_lenD_L, wp_lenD_F, wp_lenD_C, kLenD_l, kLenD_f, kLenD_k, kLenD_n, kLenD_kf, kLenD_nf, wp_dnewK, wp_dnewN, ws_putD, kPd1, kPd2, kPd3, kPdC_k, kPdC_n, kPdC_l', wp_fz, kFz_d, kFz_r, kFzC_l, kFzC_f, kFzC_k, kFzC_n, wp_meth, kMe1, kMe2, kDtS, wp_pop, kPop, wp_popAt, kPopAt, wp_insert, kIns, wp_extend, kExt, kExt2, wp_bits, kBits, wp_shl, wp_shr, wp_band, wp_bor, wp_sortT, kSoI, wp_sortC, kSoR, kSoC_i, kSoC_p, at_0, at_1, at_2, at_3, items_lst, items_frz, wipeR, get_ap, get_ap0, take_ap, set_ap, set_ap0, List.append_assoc, Nat.add_assoc, List.take_succ_cons, List.take_zero, List.take_nil, take_len, if_if, wp_comp0, wp_comp1, kCp0, kCp1, kCp2, rngD_1, rngD_2, rngD_3, rngD_4, kAsgM, setAll, wp_enum, kEnumT, kEnumL, wp_maxT, wp_maxC, wp_minC, kMx, kMxR, List.length_cons, List.length_nil, List.map_cons, List.map_nil, List.replicate_succ, List.replicate_zero, List.cons_append, List.nil_append, List.set_cons_zero, List.set_cons_succ, List.getElem?_cons_zero, List.getElem?_cons_succ, List.take_length, take_ap0, List.length_append, List.length_set, Nat.zero_add, Nat.reduceAdd, Nat.reduceSub, Nat.sub_self, Nat.reduceEqDiff, Nat.reduceLeDiff, Nat.reduceLT, Nat.reduceMul, true_and, and_true, if_true, if_false, Bool.false_eq_true, Bool.not_true, Bool.not_false, decide_eq_true_eq, decide_true, decide_false, eq_self, not_false_eq_true, not_true_eq_false, and_self, Int.reduceEq, Int.reduceNeg, Int.reduceLT, Int.reduceLE, Int.reduceAdd, Int.reduceSub, Int.reduceMul, Int.reducePow, Int.reduceToNat, Int.reduceNe, natAbs_10, natAbs_2, Int.cast_ofNat_Int, Nat.reducePow, Int.neg_zero, Nat.lt_irrefl, ne_eq, isIntD, isBlD, isTupD, $[$ts:term],*])
theorem toInts_nD (rs : List Nat) : toInts (rs.map nD) = some (rs.map fun a => ((a : Nat) : Int)) := toInts_mapf (fun a : Nat => ((a : Nat) : Int)) rs
theorem sort_nD (rs : List Nat) : ∃ l : List Nat, (sortI (rs.map fun a => ((a : Nat) : Int))).map Dt.int = l.map nD ∧ l.Perm rs ∧ l.Pairwise fun x y => x ≤ y := by
  have hp := sortI_perm (rs.map fun a => ((a : Nat) : Int))
  have hs := sortI_srt (rs.map fun a => ((a : Nat) : Int))
  generalize sortI (rs.map fun a => ((a : Nat) : Int)) = Z at *
  refine ⟨Z.map Int.toNat, ?_, ?_, ?_⟩
  · rw [List.map_map]
    refine List.map_congr_left fun z hz => ?_
    obtain ⟨q, _, rfl⟩ := List.mem_map.mp (hp.mem_iff.mp hz)
    simp [nD]
  · have := hp.map Int.toNat
    rw [List.map_map] at this
    have e : (Int.toNat ∘ fun a : Nat => ((a : Nat) : Int)) = id := by funext a; simp
    rw [e, List.map_id] at this
    exact this
  · rw [List.pairwise_map]
    exact hs.imp fun {p q} h => by omega
theorem E_fin {rs : List Nat} {pl : Pl} {L : List Nat} (hn : 1 ≤ rs.length) (h : BldN rs.length pl L) (hl : pl.length = rs.length - 1) : E rs ≤ fnl rs pl := by
  have l := h.last (by omega) hl
  have e := E_tms (rs := rs) rfl pl h.bld.bd (2 * rs.length - 2) (by omega)
  rw [l] at e
  have : (List.range rs.length).map (fun i => rs.getD i 0) = rs := by
    apply List.ext_getElem
    · simp
    · intro i h1 h2
      simp [List.getD_eq_getElem?_getD, h2]
  rw [this] at e
  exact e
theorem law_true (ns : List Int) (h : ns.length ≤ 63) : ∃ S, law [.r 0] [.frz (ns.map Dt.int)] = .ok (.d (.bl true)) S := by
  have h0 : ([.frz (ns.map Dt.int)] : Sto)[0]? = some (.frz (ns.map .int)) := rfl
  have key : wp nX (law [.r 0] [.frz (ns.map Dt.int)]) fun v _ => v = .d (.bl true) := by
    generalize ([.frz (ns.map Dt.int)] : Sto) = S at h0 ⊢
    have hl0 := (List.getElem?_eq_some_iff.mp h0).1
    exists law, e_source, e_draw
    obtain ⟨l, s, t, e1, hl⟩ := sSource_ok h0 h (p := 0) (by omega)
    exists e1
    have s1 : Src S.length (S ++ [.lst [.int l, .int s, .int t]]) := ⟨l, s, t, get_ap0 rfl, hl⟩
    have h1 : (S ++ [.lst [.int l, .int s, .int t]])[0]? = some (.frz (ns.map .int)) := get_app h0
    generalize hS1 : S ++ [Ce.lst [.int l, .int s, .int t]] = S1 at s1 h1 ⊢
    have n0 : 0 ≠ S.length := by omega
    refine wp_draw (.refl s1) ⟨by decide, by decide⟩ fun w S2 w0 w1 d2 => ?_
    exists and_self
    obtain ⟨n, hn⟩ : ∃ n : Nat, 1 + w = (n : Nat) := ⟨(1 + w).toNat, by omega⟩
    rw [hn]
    have hn1 : 1 ≤ n ∧ n ≤ 12 := by omega
    refine (ready_d hn1).go d2 fun _ S3 ⟨rs, e, hrn, hr⟩ d3 => ?_
    subst e
    have h3 := d3.get n0 h1
    clear d3 d2 hS1 s1
    have lo : ∀ S : Sto, least_end [.d (rdD rs)] S = .ok (.d (.int (E rs : Nat))) S := fun S => least_end_ok hr
    have fo : ∀ S : Sto, least_end_freely [.d (rdD rs)] S = .ok (.d (.int (F rs : Nat))) S := fun S => freely_ok hr
    exists table_end_ok hr, sum_ok hr, near_asked_ok hr, freely_asked_ok hr, lo, fo
    have ei : ∀ S : Sto, inAll (.d (.int ((E rs : Int) - (F rs : Nat)))) (.d (.tup [.int 0, .int 1])) S = some true := fun S => by
      have q := inAll_tints (S := S) (z := (E rs : Int) - (F rs : Nat)) (ns := [0, 1])
      have a1 := F_le_E rs
      have a2 := E_le_F rs
      have : (E rs : Int) - (F rs : Nat) = 0 ∨ (E rs : Int) - (F rs : Nat) = 1 := by omega
      rw [decide_eq_true (by simpa using this)] at q
      exact q
    obtain ⟨l, l1, l2, l3⟩ := sort_nD rs
    have rl := okR_perm l2 hr
    have rlr := okR_perm (List.reverse_perm l) rl
    have f1 : ∀ S : Sto, law_least_of [.d (.tup (l.map nD)), .d (.int (F rs : Nat))] S = .ok (.d (.bl true)) S := fun S => least_of_ok rl (by rw [E_asc l3, F_perm l2])
    have f2 : ∀ S : Sto, law_least_of [.d (.tup (l.reverse.map nD)), .d (.int (F rs : Nat))] S = .ok (.d (.bl true)) S := fun S => least_of_ok rlr (by rw [E_reverse, E_asc l3, F_perm l2])
    exists ei
    have rv : ∀ l : List Nat, (l.map nD).reverse = l.reverse.map nD := fun l => List.map_reverse.symm
    exists rdD, toInts_nD, l1, rv, f1, f2
    obtain ⟨x2, s2, t2, e2, hx2⟩ := sSource_ok h3 h (p := 1) (by omega)
    exists e2
    have s4 : Src S3.length (S3 ++ [.lst [.int x2, .int s2, .int t2]]) := ⟨x2, s2, t2, get_ap0 rfl, hx2⟩
    have h4 : (S3 ++ [.lst [.int x2, .int s2, .int t2]])[0]? = some (.frz (ns.map .int)) := get_app h3
    have n1 : 0 ≠ S3.length := by have := (List.getElem?_eq_some_iff.mp h3).1; omega
    have hl3 : ∀ c : Ce, (S3 ++ [c]).length = S3.length + 1 := fun c => by simp
    generalize hS4 : S3 ++ [Ce.lst [.int x2, .int s2, .int t2]] = S4 at s4 h4 ⊢
    obtain ⟨σ, S5, e5, p5, d5⟩ := shuffled_ok s4 hn1
    exists e5
    have ls : σ.length ≤ 12 := by rw [p5.length_eq, List.length_range]; omega
    have p5' : σ.Perm (List.range rs.length) := hrn ▸ p5
    rw [kLc_mapC (c := .lst (σ.map nD)) (f := fun x => match x with | .int z => nD (rs.getD z.toNat 0) | y => y) (sq_l (by rw [← d5.len]; exact get_new)) (fun x hx acc => by
      obtain ⟨k, hk, rfl⟩ := List.mem_map.mp hx
      have kl := List.mem_range.mp (p5'.mem_iff.mp hk)
      refine ⟨_, rfl, wp_eq ?_⟩
      rw [show nD k = Dt.int ((k : Nat) : Int) from rfl]
      exists at_nD (T := rs) (i := k) kl, Int.toNat_natCast
      rfl) (by show (σ.map nD).length ≤ big; rw [List.length_map]; unfold big; omega)]
    have e3 : ((Ce.lst (σ.map nD)).items.map fun x => match x with | .int z => nD (rs.getD z.toNat 0) | y => y) = (re rs σ).map nD := by
      unfold re
      show (σ.map nD).map _ = _
      rw [List.map_map, List.map_map]
      refine List.map_congr_left fun k _ => ?_
      simp [nD]
    rw [e3]
    have rp := re_perm p5'
    have ro := okR_perm rp hr
    have g1 : ∀ S : Sto, law_near_asked [.d (.tup ((re rs σ).map nD)), .d (.int (E (re rs σ) : Nat))] S = .ok (.d (.bl true)) S := fun S => near_asked_ok ro
    have g2 : ∀ S : Sto, law_freely_asked [.d (.tup ((re rs σ).map nD)), .d (.int (F rs : Nat))] S = .ok (.d (.bl true)) S := fun S => by rw [← F_perm rp]; exact freely_asked_ok ro
    have g3 : ∀ S : Sto, law_table_end [.d (.tup ((re rs σ).map nD))] S = .ok (.d (.int (E (re rs σ) : Nat))) S := fun S => table_end_ok ro
    have g4 : ∀ S : Sto, law_least_of [.d (.tup (rs.reverse.map nD)), .d (.int (E rs : Nat))] S = .ok (.d (.bl true)) S := fun S => least_of_ok (okR_perm (List.reverse_perm rs) hr) (E_reverse rs)
    have l5 : S5.length = S3.length + 1 := by rw [d5.len, ← hS4, hl3]
    rw [← d5.len]
    try rw [← l5]
    exists g1, g2, g3, rv, g4
    obtain ⟨pl, S6, e6, b6, k6, d6⟩ := near_ok d5.src hn1
    exists e6
    obtain ⟨ql, S7, e7, b7, k7, d7⟩ := loose_ok d6.src hn1
    exists e7
    have h7 : S7[0]? = some (.frz (ns.map .int)) := d7.get n1 (d6.get n1 (d5.get n1 h4))
    subst hrn
    have q1 : ∀ S : Sto, plan_end [.d (.tup (rs.map nD)), .d (plD pl)] S = .ok (.d (.int (fnl rs pl : Nat))) S := fun S => plan_end_ok hr b6.bld k6
    have q2 : ∀ S : Sto, law_last_time [.d (.tup (rs.map nD)), .d (plD pl)] S = .ok (.d (.int (fnl rs pl : Nat))) S := fun S => last_time_ok hr b6.bld k6
    have q3 : ∀ S : Sto, plan_end [.d (.tup (rs.map nD)), .d (plD ql)] S = .ok (.d (.int (fnl rs ql : Nat))) S := fun S => plan_end_ok hr b7 k7
    have q4 : ∀ S : Sto, law_last_time [.d (.tup (rs.map nD)), .d (plD ql)] S = .ok (.d (.int (fnl rs ql : Nat))) S := fun S => last_time_ok hr b7 k7
    have lo : ∀ S : Sto, least_end [.d (.tup (rs.map nD))] S = .ok (.d (.int (E rs : Nat))) S := lo
    have fo : ∀ S : Sto, least_end_freely [.d (.tup (rs.map nD))] S = .ok (.d (.int (F rs : Nat))) S := fo
    have m1 : ¬ ((fnl rs pl : Nat) : Int) < (E rs : Nat) := by
      have := E_fin (by omega) b6 k6
      omega
    have m2 : ¬ ((fnl rs ql : Nat) : Int) < (F rs : Nat) := by
      have := F_fin hr.2.1 b7 k7
      omega
    exists q1, q2, q3, q4, lo, fo, m1, m2
    obtain ⟨x8, s8, t8, e8, hx8⟩ := sSource_ok h7 h (p := 2) (by omega)
    exists e8
    have s8 : Src S7.length (S7 ++ [.lst [.int x8, .int s8, .int t8]]) := ⟨x8, s8, t8, get_ap0 rfl, hx8⟩
    refine (bent_d hr).go (.refl s8) fun _ S9 ⟨xs, e, o1, o2, o3⟩ d9 => ?_
    subst e
    exists kLcG_T
    refine ⟨by unfold lim; omega, ?_⟩
    rw [kLc_map (f := fun x => .bl true) (fun x hx acc => by
      have : ∃ w : Int, x = .int w ∧ 0 ≤ w ∧ w < 4 := by
        simp only [List.mem_cons, List.not_mem_nil, or_false] at hx
        rcases hx with rfl | rfl | rfl | rfl <;> exact ⟨_, rfl, by decide, by decide⟩
      obtain ⟨w, rfl, w0, w1⟩ := this
      exact ⟨_, rfl, wp_eq (by exists refused_ok o1 o2 o3 ⟨w0, w1⟩)⟩) (by unfold big; simp)]
    exists toBls, kBls, kBlv
    first | done | exact rfl | exact trivial | exact ⟨rfl, rfl⟩ | exact ⟨rfl, trivial⟩
  generalize law [.r 0] [.frz (ns.map Dt.int)] = r at key ⊢
  obtain ⟨v, S1, e, rfl⟩ := wp_get key
  exact ⟨S1, e⟩
end K84
/-! The walk of each def, printed by tr.py. -/
namespace K84
open PySem PySem.Spec PyProof.Rows L2 Mo
def top (i : Nat) : Stmt := PySem.Challenge.pw_splitwhole_k84_whole_least_ends.main.body.getD i (.Pass ⟨0, 0, 0, 0⟩)
abbrev s_is_integer : Stmt := top 5
abbrev s_is_within : Stmt := top 6
abbrev s_is_numbers : Stmt := top 7
abbrev s_is_size : Stmt := top 8
abbrev s_is_plan : Stmt := top 12
abbrev s_check_ready : Stmt := top 13
abbrev s_plan_end : Stmt := top 14
abbrev s_least_ends : Stmt := top 15
abbrev s_least_end : Stmt := top 16
abbrev s_put_joins : Stmt := top 17
abbrev s_least_plan : Stmt := top 18
abbrev s_free_plan : Stmt := top 19
abbrev s_least_end_freely : Stmt := top 20
abbrev s_law_source : Stmt := top 22
abbrev s_law_draw : Stmt := top 23
abbrev s_law_pick : Stmt := top 24
abbrev s_law_shuffled : Stmt := top 25
abbrev s_law_is_whole : Stmt := top 26
abbrev s_law_drawn_plan : Stmt := top 27
abbrev s_law_leaves : Stmt := top 28
abbrev s_law_last_time : Stmt := top 29
abbrev s_law_ready : Stmt := top 30
abbrev s_law_bent_ready : Stmt := top 31
abbrev s_law_table_end : Stmt := top 32
abbrev s_law_packed_end : Stmt := top 33
abbrev s_law_sum_end : Stmt := top 34
abbrev s_law_refused : Stmt := top 35
abbrev s_law_least_of : Stmt := top 36
abbrev s_law_freely_asked : Stmt := top 37
abbrev s_law_near_asked : Stmt := top 38
abbrev s_law : Stmt := top 39
/-- what the top has written -/
structure Tops (P : Program) (w : World) (K : PySem.W.Frag) (mg : Str → Option Value) (C_BadNumber : Addr) (C_BadPlan : Addr) (C_SplitError : Addr) : Prop where
  d_is_integer : DefOk K mg "is_integer" s_is_integer ["value"]
  d_is_within : DefOk K mg "is_within" s_is_within ["value", "low", "high"]
  d_is_numbers : DefOk K mg "is_numbers" s_is_numbers ["values", "low", "high"]
  d_is_size : DefOk K mg "is_size" s_is_size ["value", "size"]
  d_is_plan : DefOk K mg "is_plan" s_is_plan ["n", "plan"]
  d_check_ready : DefOk K mg "check_ready" s_check_ready ["ready"]
  d_plan_end : DefOk K mg "plan_end" s_plan_end ["ready", "plan"]
  d_least_ends : DefOk K mg "least_ends" s_least_ends ["ready"]
  d_least_end : DefOk K mg "least_end" s_least_end ["ready"]
  d_put_joins : DefOk K mg "put_joins" s_put_joins ["found", "begin", "end", "joins", "n"]
  d_least_plan : DefOk K mg "least_plan" s_least_plan ["ready"]
  d_free_plan : DefOk K mg "free_plan" s_free_plan ["ready"]
  d_least_end_freely : DefOk K mg "least_end_freely" s_least_end_freely ["ready"]
  d_law_source : DefOk K mg "_law_source" s_law_source ["script", "place"]
  d_law_draw : DefOk K mg "_law_draw" s_law_draw ["source", "many"]
  d_law_pick : DefOk K mg "_law_pick" s_law_pick ["source", "items"]
  d_law_shuffled : DefOk K mg "_law_shuffled" s_law_shuffled ["source", "many"]
  d_law_is_whole : DefOk K mg "_law_is_whole" s_law_is_whole ["value"]
  d_law_drawn_plan : DefOk K mg "_law_drawn_plan" s_law_drawn_plan ["source", "n", "near"]
  d_law_leaves : DefOk K mg "_law_leaves" s_law_leaves ["n", "plan"]
  d_law_last_time : DefOk K mg "_law_last_time" s_law_last_time ["ready", "plan"]
  d_law_ready : DefOk K mg "_law_ready" s_law_ready ["source", "n"]
  d_law_bent_ready : DefOk K mg "_law_bent_ready" s_law_bent_ready ["source", "ready"]
  d_law_table_end : DefOk K mg "_law_table_end" s_law_table_end ["ready"]
  d_law_packed_end : DefOk K mg "_law_packed_end" s_law_packed_end ["ready"]
  d_law_sum_end : DefOk K mg "_law_sum_end" s_law_sum_end ["ready"]
  d_law_refused : DefOk K mg "_law_refused" s_law_refused ["way", "ready"]
  d_law_least_of : DefOk K mg "_law_least_of" s_law_least_of ["ready", "due"]
  d_law_freely_asked : DefOk K mg "_law_freely_asked" s_law_freely_asked ["ready", "freely"]
  d_law_near_asked : DefOk K mg "_law_near_asked" s_law_near_asked ["ready", "near"]
  d_law : DefOk K mg "law" s_law ["script"]
  g_MOST_WORKERS : ∃ t, mg "MOST_WORKERS" = some (.int 12 t)
  g_LATEST : ∃ t, mg "LATEST" = some (.int 1000 t)
  x_BadNumber : XcOk K mg "BadNumber" C_BadNumber
  x_BadPlan : XcOk K mg "BadPlan" C_BadPlan
  m_SplitError : mg "SplitError" = some (.ref C_SplitError)
  t_SplitError : TblOk K mg (.ref C_SplitError) t_SplitError
  i_BadNumber : IsTbl K mg (.ref C_BadNumber) i_BadNumber
  i_BadPlan : IsTbl K mg (.ref C_BadPlan) i_BadPlan
  n_abs : mg "abs" = none
  n_all : mg "all" = none
  n_bool : mg "bool" = none
  n_enumerate : mg "enumerate" = none
  n_int : mg "int" = none
  n_isinstance : mg "isinstance" = none
  n_len : mg "len" = none
  n_list : mg "list" = none
  n_max : mg "max" = none
  n_min : mg "min" = none
  n_range : mg "range" = none
  n_sorted : mg "sorted" = none
  n_sum : mg "sum" = none
  n_tuple : mg "tuple" = none
theorem Tops.end_ : True := trivial
section
variable {P : Program} {w : World} {K : PySem.W.Frag} {mg : Str → Option Value} {base : Heap} {C_BadNumber : Addr} {C_BadPlan : Addr} {C_SplitError : Addr} 
theorem sc_is_integer : FnScope ["value"] ["value"] (defScope s_is_integer) := ⟨rfl, rfl, rfl, by decide +kernel, rfl, by decide +kernel, by decide +kernel⟩
theorem ok_is_integer (D : Tops P w K mg C_BadNumber C_BadPlan C_SplitError) : CallOk P w K mg base 1 "is_integer" ["value"] is_integer := D.d_is_integer.mk sc_is_integer fun f cdv A outer s H E hr => by
  have nd := (sc_is_integer).nd
  exact (dss_one (ds_ret (de_and (de_isi "int" D.n_isinstance D.n_int (by decide +kernel) (de_var 0)) (de_one (de_not (de_isi "bool" D.n_isinstance D.n_bool (by decide +kernel) (de_var 0)))))))
theorem sc_is_within : FnScope ["value", "low", "high"] ["value", "low", "high"] (defScope s_is_within) := ⟨rfl, rfl, rfl, by decide +kernel, rfl, by decide +kernel, by decide +kernel⟩
theorem ok_is_within (D : Tops P w K mg C_BadNumber C_BadPlan C_SplitError) : CallOk P w K mg base 2 "is_within" ["value", "low", "high"] is_within := D.d_is_within.mk sc_is_within fun f cdv A outer s H E hr => by
  have nd := (sc_is_within).nd
  have tk : Takes (cxOf (L2.CX P w) P w K mg base ["value", "low", "high"] "is_within" (defScope s_is_within) f cdv A outer s H E) (fun cls d _ H => E cls d H) := takes_of rfl rfl rfl rfl
  exact (dss_one (ds_ret (de_and (de_fn (ok_is_integer D) hr (by decide) tk (da_cons (de_var 0) da_nil)) (de_one (de_chLL (de_var 1) (de_var 0) (de_var 2))))))
theorem sc_is_numbers : FnScope ["values", "low", "high", "value"] ["values", "low", "high"] (defScope s_is_numbers) := ⟨rfl, rfl, rfl, by decide +kernel, rfl, by decide +kernel, by decide +kernel⟩
theorem ok_is_numbers (D : Tops P w K mg C_BadNumber C_BadPlan C_SplitError) : CallOk P w K mg base 3 "is_numbers" ["values", "low", "high"] is_numbers := D.d_is_numbers.mk sc_is_numbers fun f cdv A outer s H E hr => by
  have nd := (sc_is_numbers).nd
  exact (dss_one (ds_ret (de_and (de_isi "tuple" D.n_isinstance D.n_tuple (by decide +kernel) (de_var 0)) (de_one (de_all rfl D.n_all (da_cons (de_lc [("value", 3)] rfl nd (di_seq (de_var 0)) (blkOk_by (N := ["values", "low", "high", "value"]) (sc := defScope s_is_numbers) (by decide +kernel)) (by decide) (fun _ _ _ _ _ => (dg_one 3 nd)) (fun _ _ _ _ _ => dts_nil) (fun _ _ _ _ _ => (de_fn (ok_is_within D) hr (by decide) takes0 (da_cons (de_var 3) (da_cons (de_var 1) (da_cons (de_var 2) da_nil)))))) da_nil))))))
theorem sc_is_size : FnScope ["value", "size"] ["value", "size"] (defScope s_is_size) := ⟨rfl, rfl, rfl, by decide +kernel, rfl, by decide +kernel, by decide +kernel⟩
theorem ok_is_size (D : Tops P w K mg C_BadNumber C_BadPlan C_SplitError) : CallOk P w K mg base 1 "is_size" ["value", "size"] is_size := D.d_is_size.mk sc_is_size fun f cdv A outer s H E hr => by
  have nd := (sc_is_size).nd
  exact (dss_one (ds_ret (de_and (de_isi "tuple" D.n_isinstance D.n_tuple (by decide +kernel) (de_var 0)) (de_one (de_eq hr.units (de_lenD D.n_len (da_cons (de_var 0) da_nil)) (de_var 1))))))
theorem sc_is_plan : FnScope ["n", "plan", "used", "k", "pair", "part"] ["n", "plan"] (defScope s_is_plan) := ⟨rfl, rfl, rfl, by decide +kernel, rfl, by decide +kernel, by decide +kernel⟩
theorem ok_is_plan (D : Tops P w K mg C_BadNumber C_BadPlan C_SplitError) : CallOk P w K mg base 4 "is_plan" ["n", "plan"] is_plan := D.d_is_plan.mk sc_is_plan fun f cdv A outer s H E hr => by
  have nd := (sc_is_plan).nd
  have tk : Takes (cxOf (L2.CX P w) P w K mg base ["n", "plan", "used", "k", "pair", "part"] "is_plan" (defScope s_is_plan) f cdv A outer s H E) (fun cls d _ H => E cls d H) := takes_of rfl rfl rfl rfl
  have po : PassesOwn (model P w) (A.deeper (envOfC "is_plan" (defScope s_is_plan) s.heap.objs.size f cdv)) (envOfC "is_plan" (defScope s_is_plan) s.heap.objs.size f cdv) (cxOf (L2.CX P w) P w K mg base ["n", "plan", "used", "k", "pair", "part"] "is_plan" (defScope s_is_plan) f cdv A outer s H E).xe := passes_of (X := cxOf (L2.CX P w) P w K mg base ["n", "plan", "used", "k", "pair", "part"] "is_plan" (defScope s_is_plan) f cdv A outer s H E) rfl
  exact (dss_cons (ds_if (DW.t (dw_or (dt_not (dt_val (de_fn (ok_is_within D) hr (by decide) tk (da_cons (de_var 0) (da_cons de_int (da_cons (de_gint D.g_MOST_WORKERS) da_nil)))))) (dw_or1 (dt_not (dt_val (de_fn (ok_is_size D) hr (by decide) tk (da_cons (de_var 1) (da_cons (de_sub (de_var 0) de_int) da_nil)))))))) (dss_one (ds_ret de_bl)) dss_nil)
  (dss_cons (ds_set 2 nd (de_dnewK))
  (dss_cons (ds_for po rfl (di_enum D.n_enumerate (da_cons (de_var 1) da_nil)) (dg_many rfl (dgs_cons 3 nd (dgs_cons 4 nd dgs_nil))) (dss_cons (ds_if (DW.t (dw_or (dt_not (dt_val (de_fn (ok_is_size D) hr (by decide) tk (da_cons (de_var 4) (da_cons de_int da_nil))))) (dw_or1 (dt_not (dt_val (de_fn (ok_is_numbers D) hr (by decide) tk (da_cons (de_var 4) (da_cons de_int (da_cons (de_sub (de_add (de_var 0) (de_var 3)) de_int) da_nil))))))))) (dss_one (ds_ret de_bl)) dss_nil)
  (dss_one (ds_for po rfl (di_seq (de_var 4)) (dg_one 5 nd) (dss_cons (ds_if (dt_inD (u65 hr) (de_var 5) (de_var 2)) (dss_one (ds_ret de_bl)) dss_nil)
  (dss_one (ds_putD de_bl (de_var 2) (de_var 5) (ps_asg de_bl (pg_sub (de_var 2) (de_var 5) (set_D hr.units))))))))))
  (dss_one (ds_ret de_bl)))))
theorem sc_check_ready : FnScope ["ready"] ["ready"] (defScope s_check_ready) := ⟨rfl, rfl, rfl, by decide +kernel, rfl, by decide +kernel, by decide +kernel⟩
theorem ok_check_ready (D : Tops P w K mg C_BadNumber C_BadPlan C_SplitError) : CallOk P w K mg base 4 "check_ready" ["ready"] check_ready := D.d_check_ready.mk sc_check_ready fun f cdv A outer s H E hr => by
  have nd := (sc_check_ready).nd
  have tk : Takes (cxOf (L2.CX P w) P w K mg base ["ready"] "check_ready" (defScope s_check_ready) f cdv A outer s H E) (fun cls d _ H => E cls d H) := takes_of rfl rfl rfl rfl
  exact (dss_one (ds_if (DW.t (dw_or (dt_not (dt_val (de_fn (ok_is_numbers D) hr (by decide) tk (da_cons (de_var 0) (da_cons de_int (da_cons (de_gint D.g_LATEST) da_nil)))))) (dw_or1 (dt_not (dt_chLL de_int (de_lenD D.n_len (da_cons (de_var 0) da_nil)) (de_gint D.g_MOST_WORKERS)))))) (dss_one (ds_raise rfl tk D.x_BadNumber)) dss_nil))
theorem sc_plan_end : FnScope ["ready", "plan", "times", "i", "j"] ["ready", "plan"] (defScope s_plan_end) := ⟨rfl, rfl, rfl, by decide +kernel, rfl, by decide +kernel, by decide +kernel⟩
theorem ok_plan_end (D : Tops P w K mg C_BadNumber C_BadPlan C_SplitError) : CallOk P w K mg base 5 "plan_end" ["ready", "plan"] plan_end := D.d_plan_end.mk sc_plan_end fun f cdv A outer s H E hr => by
  have nd := (sc_plan_end).nd
  have tk : Takes (cxOf (L2.CX P w) P w K mg base ["ready", "plan", "times", "i", "j"] "plan_end" (defScope s_plan_end) f cdv A outer s H E) (fun cls d _ H => E cls d H) := takes_of rfl rfl rfl rfl
  have po : PassesOwn (model P w) (A.deeper (envOfC "plan_end" (defScope s_plan_end) s.heap.objs.size f cdv)) (envOfC "plan_end" (defScope s_plan_end) s.heap.objs.size f cdv) (cxOf (L2.CX P w) P w K mg base ["ready", "plan", "times", "i", "j"] "plan_end" (defScope s_plan_end) f cdv A outer s H E).xe := passes_of (X := cxOf (L2.CX P w) P w K mg base ["ready", "plan", "times", "i", "j"] "plan_end" (defScope s_plan_end) f cdv A outer s H E) rfl
  exact (dss_cons (ds_expr (de_fn (ok_check_ready D) hr (by decide) tk (da_cons (de_var 0) da_nil)))
  (dss_cons (ds_if (dt_not (dt_val (de_fn (ok_is_plan D) hr (by decide) tk (da_cons (de_lenD D.n_len (da_cons (de_var 0) da_nil)) (da_cons (de_var 1) da_nil))))) (dss_one (ds_raise rfl tk D.x_BadPlan)) dss_nil)
  (dss_cons (ds_set 2 nd (de_list D.n_list (da_cons (de_var 0) da_nil)))
  (dss_cons (ds_for po rfl (di_seq (de_var 1)) (dg_many rfl (dgs_cons 3 nd (dgs_cons 4 nd dgs_nil))) (dss_one (ds_expr (de_append (de_var 2) (de_add (de_max rfl D.n_max (da_cons (de_ixD hr.units (de_var 2) (de_var 3)) (da_cons (de_ixD hr.units (de_var 2) (de_var 4)) da_nil))) de_int) (pe_bm PySem.F.plainAttrs_list PySem.F.slot_list_append PySem.F.type_list_append mt_append (de_var 2) (pa_cons (de_add (de_max rfl D.n_max (da_cons (de_ixD hr.units (de_var 2) (de_var 3)) (da_cons (de_ixD hr.units (de_var 2) (de_var 4)) da_nil))) de_int) pa_nil))))))
  (dss_one (ds_ret (de_ixD hr.units (de_var 2) (de_neg de_int))))))))
theorem sc_least_ends : FnScope ["ready", "found", "size", "begin", "end", "best", "middle", "time"] ["ready"] (defScope s_least_ends) := ⟨rfl, rfl, rfl, by decide +kernel, rfl, by decide +kernel, by decide +kernel⟩
theorem ok_least_ends (D : Tops P w K mg C_BadNumber C_BadPlan C_SplitError) : CallOk P w K mg base 1 "least_ends" ["ready"] least_ends := D.d_least_ends.mk sc_least_ends fun f cdv A outer s H E hr => by
  have nd := (sc_least_ends).nd
  have po : PassesOwn (model P w) (A.deeper (envOfC "least_ends" (defScope s_least_ends) s.heap.objs.size f cdv)) (envOfC "least_ends" (defScope s_least_ends) s.heap.objs.size f cdv) (cxOf (L2.CX P w) P w K mg base ["ready", "found", "size", "begin", "end", "best", "middle", "time"] "least_ends" (defScope s_least_ends) f cdv A outer s H E).xe := passes_of (X := cxOf (L2.CX P w) P w K mg base ["ready", "found", "size", "begin", "end", "best", "middle", "time"] "least_ends" (defScope s_least_ends) f cdv A outer s H E) rfl
  exact (dss_cons (ds_set 1 nd (de_dnewN))
  (dss_cons (ds_for po rfl (di_range2 D.n_range (da_cons de_int (da_cons (de_add (de_lenD D.n_len (da_cons (de_var 0) da_nil)) de_int) da_nil))) (dg_one 2 nd) (dss_one (ds_for po rfl (di_range1 D.n_range (da_cons (de_add (de_sub (de_lenD D.n_len (da_cons (de_var 0) da_nil)) (de_var 2)) de_int) da_nil)) (dg_one 3 nd) (dss_cons (ds_set 4 nd (de_add (de_var 3) (de_var 2)))
  (dss_cons (ds_set 5 nd (de_tup (da_cons (de_ixD hr.units (de_var 0) (de_var 3)) (da_cons de_non da_nil))))
  (dss_cons (ds_for po rfl (di_range2 D.n_range (da_cons (de_add (de_var 3) de_int) (da_cons (de_var 4) da_nil))) (dg_one 6 nd) (dss_cons (ds_set 7 nd (de_add (de_max rfl D.n_max (da_cons (de_ixD hr.units (de_ixD hr.units (de_var 1) (de_tup (da_cons (de_var 3) (da_cons (de_var 6) da_nil)))) de_int) (da_cons (de_ixD hr.units (de_ixD hr.units (de_var 1) (de_tup (da_cons (de_var 6) (da_cons (de_var 4) da_nil)))) de_int) da_nil))) de_int))
  (dss_one (ds_if (DW.t (dw_or (dt_eq hr.units (de_var 6) (de_add (de_var 3) de_int)) (dw_or1 (dt_lt (de_var 7) (de_ixD hr.units (de_var 5) de_int))))) (dss_one (ds_set 5 nd (de_tup (da_cons (de_var 7) (da_cons (de_var 6) da_nil))))) dss_nil))))
  (dss_one (ds_putD (de_var 5) (de_var 1) (de_tup (da_cons (de_var 3) (da_cons (de_var 4) da_nil))) (ps_asg (de_var 5) (pg_sub (de_var 1) (de_tup (da_cons (de_var 3) (da_cons (de_var 4) da_nil))) (set_D hr.units)))))))))))
  (dss_one (ds_ret (de_var 1)))))
theorem sc_least_end : FnScope ["ready"] ["ready"] (defScope s_least_end) := ⟨rfl, rfl, rfl, by decide +kernel, rfl, by decide +kernel, by decide +kernel⟩
theorem ok_least_end (D : Tops P w K mg C_BadNumber C_BadPlan C_SplitError) : CallOk P w K mg base 5 "least_end" ["ready"] least_end := D.d_least_end.mk sc_least_end fun f cdv A outer s H E hr => by
  have nd := (sc_least_end).nd
  have tk : Takes (cxOf (L2.CX P w) P w K mg base ["ready"] "least_end" (defScope s_least_end) f cdv A outer s H E) (fun cls d _ H => E cls d H) := takes_of rfl rfl rfl rfl
  exact (dss_cons (ds_expr (de_fn (ok_check_ready D) hr (by decide) tk (da_cons (de_var 0) da_nil)))
  (dss_one (ds_ret (de_ixD hr.units (de_ixD hr.units (de_fn (ok_least_ends D) hr (by decide) tk (da_cons (de_var 0) da_nil)) (de_tup (da_cons de_int (da_cons (de_lenD D.n_len (da_cons (de_var 0) da_nil)) da_nil)))) de_int))))
theorem sc_put_joins : FnScope ["found", "begin", "end", "joins", "n", "middle", "first", "second"] ["found", "begin", "end", "joins", "n"] (defScope s_put_joins) := ⟨rfl, rfl, rfl, by decide +kernel, rfl, by decide +kernel, by decide +kernel⟩
theorem okr_put_joins (D : Tops P w K mg C_BadNumber C_BadPlan C_SplitError) : ∀ n : Nat, CallOk P w K mg base (0 + n + 1) "put_joins" ["found", "begin", "end", "joins", "n"] (put_joins_ n)
  | 0 => D.d_put_joins.mk (k := 0) sc_put_joins fun f cdv A outer s H E hr => dss_bad
  | n + 1 => D.d_put_joins.mk (k := 0 + (n + 1)) sc_put_joins fun f cdv A outer s H E hr => by
    have ih := okr_put_joins D n
    have nd := (sc_put_joins).nd
    have tk : Takes (cxOf (L2.CX P w) P w K mg base ["found", "begin", "end", "joins", "n", "middle", "first", "second"] "put_joins" (defScope s_put_joins) f cdv A outer s H E) (fun cls d _ H => E cls d H) := takes_of rfl rfl rfl rfl
    exact (dss_cons (ds_set 5 nd (de_ixD hr.units (de_ixD hr.units (de_var 0) (de_tup (da_cons (de_var 1) (da_cons (de_var 2) da_nil)))) de_int))
  (dss_cons (ds_if (dt_is (de_var 5) de_non) (dss_one (ds_ret (de_var 1))) dss_nil)
  (dss_cons (ds_set 6 nd (de_fn ih hr (by omega) tk (da_cons (de_var 0) (da_cons (de_var 1) (da_cons (de_var 5) (da_cons (de_var 3) (da_cons (de_var 4) da_nil)))))))
  (dss_cons (ds_set 7 nd (de_fn ih hr (by omega) tk (da_cons (de_var 0) (da_cons (de_var 5) (da_cons (de_var 2) (da_cons (de_var 3) (da_cons (de_var 4) da_nil)))))))
  (dss_cons (ds_expr (de_append (de_var 3) (de_tup (da_cons (de_var 6) (da_cons (de_var 7) da_nil))) (pe_bm PySem.F.plainAttrs_list PySem.F.slot_list_append PySem.F.type_list_append mt_append (de_var 3) (pa_cons (de_tup (da_cons (de_var 6) (da_cons (de_var 7) da_nil))) pa_nil))))
  (dss_one (ds_ret (de_sub (de_add (de_var 4) (de_lenD D.n_len (da_cons (de_var 3) da_nil))) de_int))))))))
theorem ok_put_joins (D : Tops P w K mg C_BadNumber C_BadPlan C_SplitError) : CallOk P w K mg base 41 "put_joins" ["found", "begin", "end", "joins", "n"] put_joins := okr_put_joins D 40
theorem sc_least_plan : FnScope ["ready", "joins"] ["ready"] (defScope s_least_plan) := ⟨rfl, rfl, rfl, by decide +kernel, rfl, by decide +kernel, by decide +kernel⟩
theorem ok_least_plan (D : Tops P w K mg C_BadNumber C_BadPlan C_SplitError) : CallOk P w K mg base 42 "least_plan" ["ready"] least_plan := D.d_least_plan.mk sc_least_plan fun f cdv A outer s H E hr => by
  have nd := (sc_least_plan).nd
  have tk : Takes (cxOf (L2.CX P w) P w K mg base ["ready", "joins"] "least_plan" (defScope s_least_plan) f cdv A outer s H E) (fun cls d _ H => E cls d H) := takes_of rfl rfl rfl rfl
  exact (dss_cons (ds_expr (de_fn (ok_check_ready D) hr (by decide) tk (da_cons (de_var 0) da_nil)))
  (dss_cons (ds_set 1 nd (de_lst da_nil))
  (dss_cons (ds_expr (de_fn (ok_put_joins D) hr (by decide) tk (da_cons (de_fn (ok_least_ends D) hr (by decide) tk (da_cons (de_var 0) da_nil)) (da_cons de_int (da_cons (de_lenD D.n_len (da_cons (de_var 0) da_nil)) (da_cons (de_var 1) (da_cons (de_lenD D.n_len (da_cons (de_var 0) da_nil)) da_nil)))))))
  (dss_one (ds_ret (de_tuple D.n_tuple (da_cons (de_var 1) da_nil)))))))
theorem sc_free_plan : FnScope ["ready", "waiting", "joins", "first", "second", "part", "time"] ["ready"] (defScope s_free_plan) := ⟨rfl, rfl, rfl, by decide +kernel, rfl, by decide +kernel, by decide +kernel⟩
theorem ok_free_plan (D : Tops P w K mg C_BadNumber C_BadPlan C_SplitError) : CallOk P w K mg base 5 "free_plan" ["ready"] free_plan := D.d_free_plan.mk sc_free_plan fun f cdv A outer s H E hr => by
  have nd := (sc_free_plan).nd
  have tk : Takes (cxOf (L2.CX P w) P w K mg base ["ready", "waiting", "joins", "first", "second", "part", "time"] "free_plan" (defScope s_free_plan) f cdv A outer s H E) (fun cls d _ H => E cls d H) := takes_of rfl rfl rfl rfl
  have po : PassesOwn (model P w) (A.deeper (envOfC "free_plan" (defScope s_free_plan) s.heap.objs.size f cdv)) (envOfC "free_plan" (defScope s_free_plan) s.heap.objs.size f cdv) (cxOf (L2.CX P w) P w K mg base ["ready", "waiting", "joins", "first", "second", "part", "time"] "free_plan" (defScope s_free_plan) f cdv A outer s H E).xe := passes_of (X := cxOf (L2.CX P w) P w K mg base ["ready", "waiting", "joins", "first", "second", "part", "time"] "free_plan" (defScope s_free_plan) f cdv A outer s H E) rfl
  exact (dss_cons (ds_expr (de_fn (ok_check_ready D) hr (by decide) tk (da_cons (de_var 0) da_nil)))
  (dss_cons (ds_expr (de_fn (ok_check_ready D) hr (by decide) tk (da_cons (de_var 0) da_nil)))
  (dss_cons (ds_setLc 1 [("part", 5), ("time", 6)] rfl nd (di_enum D.n_enumerate (da_cons (de_var 0) da_nil)) (blkOk_by (N := ["ready", "waiting", "joins", "first", "second", "part", "time"]) (sc := defScope s_free_plan) (by decide +kernel)) (by decide) (fun _ _ _ _ _ => (dg_many rfl (dgs_cons 5 nd (dgs_cons 6 nd dgs_nil)))) (fun _ _ _ _ _ => dts_nil) (fun _ _ _ _ _ => (de_tup (da_cons (de_var 6) (da_cons (de_var 5) da_nil)))) (sw_true rfl rfl rfl (by decide +kernel)))
  (dss_cons (ds_set 2 nd (de_lst da_nil))
  (dss_cons (ds_while 100000 po (dt_gt (de_lenD D.n_len (da_cons (de_var 1) da_nil)) de_int) (dss_cons (ds_set 1 nd (de_sorted D.n_sorted (da_cons (de_var 1) da_nil)))
  (dss_cons (ds_par 3 4 rfl nd (da_cons (de_ixD hr.units (de_var 1) de_int) (da_cons (de_ixD hr.units (de_var 1) de_int) da_nil)))
  (dss_cons (ds_expr (de_append (de_var 2) (de_tup (da_cons (de_ixD hr.units (de_var 3) de_int) (da_cons (de_ixD hr.units (de_var 4) de_int) da_nil))) (pe_bm PySem.F.plainAttrs_list PySem.F.slot_list_append PySem.F.type_list_append mt_append (de_var 2) (pa_cons (de_tup (da_cons (de_ixD hr.units (de_var 3) de_int) (da_cons (de_ixD hr.units (de_var 4) de_int) da_nil))) pa_nil))))
  (dss_one (ds_set 1 nd (de_add (de_sl (de_var 1) (do_some de_int) do_none) (de_lst (da_cons (de_tup (da_cons (de_add (de_ixD hr.units (de_var 4) de_int) de_int) (da_cons (de_sub (de_add (de_lenD D.n_len (da_cons (de_var 0) da_nil)) (de_lenD D.n_len (da_cons (de_var 2) da_nil))) de_int) da_nil))) da_nil)))))))))
  (dss_one (ds_ret (de_tuple D.n_tuple (da_cons (de_var 2) da_nil)))))))))
theorem sc_least_end_freely : FnScope ["ready"] ["ready"] (defScope s_least_end_freely) := ⟨rfl, rfl, rfl, by decide +kernel, rfl, by decide +kernel, by decide +kernel⟩
theorem ok_least_end_freely (D : Tops P w K mg C_BadNumber C_BadPlan C_SplitError) : CallOk P w K mg base 6 "least_end_freely" ["ready"] least_end_freely := D.d_least_end_freely.mk sc_least_end_freely fun f cdv A outer s H E hr => by
  have nd := (sc_least_end_freely).nd
  have tk : Takes (cxOf (L2.CX P w) P w K mg base ["ready"] "least_end_freely" (defScope s_least_end_freely) f cdv A outer s H E) (fun cls d _ H => E cls d H) := takes_of rfl rfl rfl rfl
  exact (dss_one (ds_ret (de_fn (ok_plan_end D) hr (by decide) tk (da_cons (de_var 0) (da_cons (de_fn (ok_free_plan D) hr (by decide) tk (da_cons (de_var 0) da_nil)) da_nil)))))
theorem sc_law_source : FnScope ["script", "place", "kept", "cell", "left", "one"] ["script", "place"] (defScope s_law_source) := ⟨rfl, rfl, rfl, by decide +kernel, rfl, by decide +kernel, by decide +kernel⟩
theorem ok_law_source (D : Tops P w K mg C_BadNumber C_BadPlan C_SplitError) : CallOk P w K mg base 1 "_law_source" ["script", "place"] law_source := D.d_law_source.mk sc_law_source fun f cdv A outer s H E hr => by
  have nd := (sc_law_source).nd
  exact (dss_cons (ds_setLc 2 [("cell", 3)] rfl nd (di_seq (de_sl (de_var 0) do_none (do_some de_int))) (blkOk_by (N := ["script", "place", "kept", "cell", "left", "one"]) (sc := defScope s_law_source) (by decide +kernel)) (by decide) (fun _ _ _ _ _ => (dg_one 3 nd)) (fun _ _ _ _ _ => dts_nil) (fun _ _ _ _ _ => (de_intc D.n_int (da_cons (de_var 3) da_nil))) (sw_true rfl rfl rfl (by decide +kernel)))
  (dss_cons (ds_if (dt_lt (de_var 1) (de_lenD D.n_len (da_cons (de_var 2) da_nil))) (dss_one (ds_set 3 nd (de_ixD hr.units (de_var 2) (de_var 1)))) (dss_one (ds_set 3 nd (de_add (de_mul (de_add (de_add (de_sum rfl D.n_sum (da_cons (de_lc [("one", 5)] rfl nd (di_seq (de_var 2)) (blkOk_by (N := ["script", "place", "kept", "cell", "left", "one"]) (sc := defScope s_law_source) (by decide +kernel)) (by decide) (fun _ _ _ _ _ => (dg_one 5 nd)) (fun _ _ _ _ _ => dts_nil) (fun _ _ _ _ _ => (de_mod (de_intc D.n_int (da_cons (de_var 5) da_nil)) de_int))) da_nil)) (de_lenD D.n_len (da_cons (de_var 2) da_nil))) de_int) de_int) (de_mul (de_var 1) de_int)))))
  (dss_cons (ds_set 4 nd (de_ifE (dt_ge (de_abs D.n_abs (da_cons (de_var 3) da_nil)) (de_pow de_int de_int)) (de_abs D.n_abs (da_cons (de_var 3) da_nil)) de_int))
  (dss_one (ds_ret (de_lst (da_cons (de_var 4) (da_cons (de_mod (de_intc D.n_int (da_cons (de_var 3) da_nil)) de_int) (da_cons de_int da_nil)))))))))
theorem sc_law_draw : FnScope ["source", "many", "digit", "first", "second"] ["source", "many"] (defScope s_law_draw) := ⟨rfl, rfl, rfl, by decide +kernel, rfl, by decide +kernel, by decide +kernel⟩
theorem ok_law_draw (D : Tops P w K mg C_BadNumber C_BadPlan C_SplitError) : CallOk P w K mg base 1 "_law_draw" ["source", "many"] law_draw := D.d_law_draw.mk sc_law_draw fun f cdv A outer s H E hr => by
  have nd := (sc_law_draw).nd
  exact (dss_cons (ds_if (dt_gt (de_ixD hr.units (de_var 0) de_int) de_int) (dss_cons (ds_set 2 nd (de_mod (de_intc D.n_int (da_cons (de_ixD hr.units (de_var 0) de_int) da_nil)) (de_var 1)))
  (dss_cons (ds_putD (de_div (de_ixD hr.units (de_var 0) de_int) (de_var 1)) (de_var 0) de_int (ps_asg (de_div (de_ixD hr.units (de_var 0) de_int) (de_var 1)) (pg_sub (de_var 0) de_int (set_D hr.units))))
  (dss_one (ds_ret (de_var 2))))) dss_nil)
  (dss_cons (ds_putD (de_add (de_ixD hr.units (de_var 0) de_int) de_int) (de_var 0) de_int (ps_asg (de_add (de_ixD hr.units (de_var 0) de_int) de_int) (pg_sub (de_var 0) de_int (set_D hr.units))))
  (dss_cons (ds_set 3 nd (de_mod (de_intc D.n_int (da_cons (de_add (de_add (de_mul (de_ixD hr.units (de_var 0) de_int) de_int) (de_mul (de_ixD hr.units (de_var 0) de_int) de_int)) de_int) da_nil)) de_int))
  (dss_cons (ds_set 4 nd (de_mod (de_intc D.n_int (da_cons (de_add (de_add (de_mul (de_var 3) de_int) (de_mul (de_div (de_var 3) de_int) (de_ixD hr.units (de_var 0) de_int))) de_int) da_nil)) de_int))
  (dss_one (ds_ret (de_mod (de_intc D.n_int (da_cons (de_div (de_var 4) de_int) da_nil)) (de_var 1))))))))
theorem sc_law_pick : FnScope ["source", "items"] ["source", "items"] (defScope s_law_pick) := ⟨rfl, rfl, rfl, by decide +kernel, rfl, by decide +kernel, by decide +kernel⟩
theorem ok_law_pick (D : Tops P w K mg C_BadNumber C_BadPlan C_SplitError) : CallOk P w K mg base 2 "_law_pick" ["source", "items"] law_pick := D.d_law_pick.mk sc_law_pick fun f cdv A outer s H E hr => by
  have nd := (sc_law_pick).nd
  have tk : Takes (cxOf (L2.CX P w) P w K mg base ["source", "items"] "_law_pick" (defScope s_law_pick) f cdv A outer s H E) (fun cls d _ H => E cls d H) := takes_of rfl rfl rfl rfl
  exact (dss_one (ds_ret (de_ixD hr.units (de_var 1) (de_fn (ok_law_draw D) hr (by decide) tk (da_cons (de_var 0) (da_cons (de_lenD D.n_len (da_cons (de_var 1) da_nil)) da_nil))))))
theorem sc_law_shuffled : FnScope ["source", "many", "left", "found", "k"] ["source", "many"] (defScope s_law_shuffled) := ⟨rfl, rfl, rfl, by decide +kernel, rfl, by decide +kernel, by decide +kernel⟩
theorem ok_law_shuffled (D : Tops P w K mg C_BadNumber C_BadPlan C_SplitError) : CallOk P w K mg base 2 "_law_shuffled" ["source", "many"] law_shuffled := D.d_law_shuffled.mk sc_law_shuffled fun f cdv A outer s H E hr => by
  have nd := (sc_law_shuffled).nd
  have tk : Takes (cxOf (L2.CX P w) P w K mg base ["source", "many", "left", "found", "k"] "_law_shuffled" (defScope s_law_shuffled) f cdv A outer s H E) (fun cls d _ H => E cls d H) := takes_of rfl rfl rfl rfl
  have po : PassesOwn (model P w) (A.deeper (envOfC "_law_shuffled" (defScope s_law_shuffled) s.heap.objs.size f cdv)) (envOfC "_law_shuffled" (defScope s_law_shuffled) s.heap.objs.size f cdv) (cxOf (L2.CX P w) P w K mg base ["source", "many", "left", "found", "k"] "_law_shuffled" (defScope s_law_shuffled) f cdv A outer s H E).xe := passes_of (X := cxOf (L2.CX P w) P w K mg base ["source", "many", "left", "found", "k"] "_law_shuffled" (defScope s_law_shuffled) f cdv A outer s H E) rfl
  exact (dss_cons (ds_set 2 nd (de_listRg1 D.n_list D.n_range (de_var 1)))
  (dss_cons (ds_set 3 nd (de_lst da_nil))
  (dss_cons (ds_for po rfl (di_range1 D.n_range (da_cons (de_var 1) da_nil)) (dg_one 4 nd) (dss_one (ds_expr (de_append (de_var 3) (de_meth mr_popAt (pe_bm PySem.F.plainAttrs_list PySem.F.slot_list_pop PySem.F.type_list_pop mt_popAt (de_var 2) (da_cons (de_fn (ok_law_draw D) hr (by decide) tk (da_cons (de_var 0) (da_cons (de_lenD D.n_len (da_cons (de_var 2) da_nil)) da_nil))) da_nil))) (pe_bm PySem.F.plainAttrs_list PySem.F.slot_list_append PySem.F.type_list_append mt_append (de_var 3) (pa_cons (de_meth mr_popAt (pe_bm PySem.F.plainAttrs_list PySem.F.slot_list_pop PySem.F.type_list_pop mt_popAt (de_var 2) (da_cons (de_fn (ok_law_draw D) hr (by decide) tk (da_cons (de_var 0) (da_cons (de_lenD D.n_len (da_cons (de_var 2) da_nil)) da_nil))) da_nil))) pa_nil))))))
  (dss_one (ds_ret (de_var 3))))))
theorem sc_law_is_whole : FnScope ["value"] ["value"] (defScope s_law_is_whole) := ⟨rfl, rfl, rfl, by decide +kernel, rfl, by decide +kernel, by decide +kernel⟩
theorem ok_law_is_whole (D : Tops P w K mg C_BadNumber C_BadPlan C_SplitError) : CallOk P w K mg base 1 "_law_is_whole" ["value"] law_is_whole := D.d_law_is_whole.mk sc_law_is_whole fun f cdv A outer s H E hr => by
  have nd := (sc_law_is_whole).nd
  exact (dss_one (ds_ret (de_and (de_isi "int" D.n_isinstance D.n_int (by decide +kernel) (de_var 0)) (de_one (de_not (de_isi "bool" D.n_isinstance D.n_bool (by decide +kernel) (de_var 0)))))))
theorem sc_law_drawn_plan : FnScope ["source", "n", "near", "line", "joins", "k", "place", "first", "second"] ["source", "n", "near"] (defScope s_law_drawn_plan) := ⟨rfl, rfl, rfl, by decide +kernel, rfl, by decide +kernel, by decide +kernel⟩
theorem ok_law_drawn_plan (D : Tops P w K mg C_BadNumber C_BadPlan C_SplitError) : CallOk P w K mg base 2 "_law_drawn_plan" ["source", "n", "near"] law_drawn_plan := D.d_law_drawn_plan.mk sc_law_drawn_plan fun f cdv A outer s H E hr => by
  have nd := (sc_law_drawn_plan).nd
  have tk : Takes (cxOf (L2.CX P w) P w K mg base ["source", "n", "near", "line", "joins", "k", "place", "first", "second"] "_law_drawn_plan" (defScope s_law_drawn_plan) f cdv A outer s H E) (fun cls d _ H => E cls d H) := takes_of rfl rfl rfl rfl
  have po : PassesOwn (model P w) (A.deeper (envOfC "_law_drawn_plan" (defScope s_law_drawn_plan) s.heap.objs.size f cdv)) (envOfC "_law_drawn_plan" (defScope s_law_drawn_plan) s.heap.objs.size f cdv) (cxOf (L2.CX P w) P w K mg base ["source", "n", "near", "line", "joins", "k", "place", "first", "second"] "_law_drawn_plan" (defScope s_law_drawn_plan) f cdv A outer s H E).xe := passes_of (X := cxOf (L2.CX P w) P w K mg base ["source", "n", "near", "line", "joins", "k", "place", "first", "second"] "_law_drawn_plan" (defScope s_law_drawn_plan) f cdv A outer s H E) rfl
  exact (dss_cons (ds_set 3 nd (de_listRg1 D.n_list D.n_range (de_var 1)))
  (dss_cons (ds_set 4 nd (de_lst da_nil))
  (dss_cons (ds_for po rfl (di_range1 D.n_range (da_cons (de_sub (de_var 1) de_int) da_nil)) (dg_one 5 nd) (dss_cons (ds_if (dt_val (de_var 2)) (dss_cons (ds_set 6 nd (de_fn (ok_law_draw D) hr (by decide) tk (da_cons (de_var 0) (da_cons (de_sub (de_lenD D.n_len (da_cons (de_var 3) da_nil)) de_int) da_nil))))
  (dss_cons (ds_set 7 nd (de_meth mr_popAt (pe_bm PySem.F.plainAttrs_list PySem.F.slot_list_pop PySem.F.type_list_pop mt_popAt (de_var 3) (da_cons (de_var 6) da_nil))))
  (dss_cons (ds_set 8 nd (de_meth mr_popAt (pe_bm PySem.F.plainAttrs_list PySem.F.slot_list_pop PySem.F.type_list_pop mt_popAt (de_var 3) (da_cons (de_var 6) da_nil))))
  (dss_one (ds_expr (de_meth mr_insert (pe_bm PySem.F.plainAttrs_list PySem.F.slot_list_insert PySem.F.type_list_insert mt_insert (de_var 3) (da_cons (de_var 6) (da_cons (de_add (de_var 1) (de_var 5)) da_nil))))))))) (dss_cons (ds_set 7 nd (de_meth mr_popAt (pe_bm PySem.F.plainAttrs_list PySem.F.slot_list_pop PySem.F.type_list_pop mt_popAt (de_var 3) (da_cons (de_fn (ok_law_draw D) hr (by decide) tk (da_cons (de_var 0) (da_cons (de_lenD D.n_len (da_cons (de_var 3) da_nil)) da_nil))) da_nil))))
  (dss_cons (ds_set 8 nd (de_meth mr_popAt (pe_bm PySem.F.plainAttrs_list PySem.F.slot_list_pop PySem.F.type_list_pop mt_popAt (de_var 3) (da_cons (de_fn (ok_law_draw D) hr (by decide) tk (da_cons (de_var 0) (da_cons (de_lenD D.n_len (da_cons (de_var 3) da_nil)) da_nil))) da_nil))))
  (dss_one (ds_expr (de_append (de_var 3) (de_add (de_var 1) (de_var 5)) (pe_bm PySem.F.plainAttrs_list PySem.F.slot_list_append PySem.F.type_list_append mt_append (de_var 3) (pa_cons (de_add (de_var 1) (de_var 5)) pa_nil))))))))
  (dss_one (ds_expr (de_append (de_var 4) (de_tup (da_cons (de_var 7) (da_cons (de_var 8) da_nil))) (pe_bm PySem.F.plainAttrs_list PySem.F.slot_list_append PySem.F.type_list_append mt_append (de_var 4) (pa_cons (de_tup (da_cons (de_var 7) (da_cons (de_var 8) da_nil))) pa_nil)))))))
  (dss_one (ds_ret (de_tuple D.n_tuple (da_cons (de_var 4) da_nil)))))))
theorem sc_law_leaves : FnScope ["n", "plan", "leaves", "used", "pair", "part", "place"] ["n", "plan"] (defScope s_law_leaves) := ⟨rfl, rfl, rfl, by decide +kernel, rfl, by decide +kernel, by decide +kernel⟩
theorem ok_law_leaves (D : Tops P w K mg C_BadNumber C_BadPlan C_SplitError) : CallOk P w K mg base 2 "_law_leaves" ["n", "plan"] law_leaves := D.d_law_leaves.mk sc_law_leaves fun f cdv A outer s H E hr => by
  have nd := (sc_law_leaves).nd
  have tk : Takes (cxOf (L2.CX P w) P w K mg base ["n", "plan", "leaves", "used", "pair", "part", "place"] "_law_leaves" (defScope s_law_leaves) f cdv A outer s H E) (fun cls d _ H => E cls d H) := takes_of rfl rfl rfl rfl
  have po : PassesOwn (model P w) (A.deeper (envOfC "_law_leaves" (defScope s_law_leaves) s.heap.objs.size f cdv)) (envOfC "_law_leaves" (defScope s_law_leaves) s.heap.objs.size f cdv) (cxOf (L2.CX P w) P w K mg base ["n", "plan", "leaves", "used", "pair", "part", "place"] "_law_leaves" (defScope s_law_leaves) f cdv A outer s H E).xe := passes_of (X := cxOf (L2.CX P w) P w K mg base ["n", "plan", "leaves", "used", "pair", "part", "place"] "_law_leaves" (defScope s_law_leaves) f cdv A outer s H E) rfl
  exact (dss_cons (ds_if (DW.t (dw_or (dt_not (dt_val (de_isi "tuple" D.n_isinstance D.n_tuple (by decide +kernel) (de_var 1)))) (dw_or1 (dt_ne hr.units (de_lenD D.n_len (da_cons (de_var 1) da_nil)) (de_sub (de_var 0) de_int))))) (dss_one (ds_ret de_non)) dss_nil)
  (dss_cons (ds_setLc 2 [("place", 6)] rfl nd (di_range1 D.n_range (da_cons (de_var 0) da_nil)) (blkOk_by (N := ["n", "plan", "leaves", "used", "pair", "part", "place"]) (sc := defScope s_law_leaves) (by decide +kernel)) (by decide) (fun _ _ _ _ _ => (dg_one 6 nd)) (fun _ _ _ _ _ => dts_nil) (fun _ _ _ _ _ => (de_tup (da_cons (de_var 6) da_nil))) (sw_true rfl rfl rfl (by decide +kernel)))
  (dss_cons (ds_set 3 nd (de_lst da_nil))
  (dss_cons (ds_for po rfl (di_seq (de_var 1)) (dg_one 4 nd) (dss_cons (ds_if (DW.t (dw_or (dt_not (dt_val (de_isi "tuple" D.n_isinstance D.n_tuple (by decide +kernel) (de_var 4)))) (dw_or1 (dt_ne hr.units (de_lenD D.n_len (da_cons (de_var 4) da_nil)) de_int)))) (dss_one (ds_ret de_non)) dss_nil)
  (dss_cons (ds_for po rfl (di_seq (de_var 4)) (dg_one 5 nd) (dss_cons (ds_if (DW.t (dw_or (dt_not (dt_val (de_fn (ok_law_is_whole D) hr (by decide) tk (da_cons (de_var 5) da_nil)))) (dw_or (dt_lt (de_var 5) de_int) (dw_or (dt_ge (de_var 5) (de_lenD D.n_len (da_cons (de_var 2) da_nil))) (dw_or1 (dt_inD (u65 hr) (de_var 5) (de_var 3))))))) (dss_one (ds_ret de_non)) dss_nil)
  (dss_one (ds_expr (de_append (de_var 3) (de_var 5) (pe_bm PySem.F.plainAttrs_list PySem.F.slot_list_append PySem.F.type_list_append mt_append (de_var 3) (pa_cons (de_var 5) pa_nil)))))))
  (dss_one (ds_expr (de_append (de_var 2) (de_add (de_ixD hr.units (de_var 2) (de_ixD hr.units (de_var 4) de_int)) (de_ixD hr.units (de_var 2) (de_ixD hr.units (de_var 4) de_int))) (pe_bm PySem.F.plainAttrs_list PySem.F.slot_list_append PySem.F.type_list_append mt_append (de_var 2) (pa_cons (de_add (de_ixD hr.units (de_var 2) (de_ixD hr.units (de_var 4) de_int)) (de_ixD hr.units (de_var 2) (de_ixD hr.units (de_var 4) de_int))) pa_nil))))))))
  (dss_one (ds_ret (de_var 2)))))))
theorem sc_law_last_time : FnScope ["ready", "plan", "n", "above", "back", "k", "part", "place"] ["ready", "plan"] (defScope s_law_last_time) := ⟨rfl, rfl, rfl, by decide +kernel, rfl, by decide +kernel, by decide +kernel⟩
theorem ok_law_last_time (D : Tops P w K mg C_BadNumber C_BadPlan C_SplitError) : CallOk P w K mg base 1 "_law_last_time" ["ready", "plan"] law_last_time := D.d_law_last_time.mk sc_law_last_time fun f cdv A outer s H E hr => by
  have nd := (sc_law_last_time).nd
  have po : PassesOwn (model P w) (A.deeper (envOfC "_law_last_time" (defScope s_law_last_time) s.heap.objs.size f cdv)) (envOfC "_law_last_time" (defScope s_law_last_time) s.heap.objs.size f cdv) (cxOf (L2.CX P w) P w K mg base ["ready", "plan", "n", "above", "back", "k", "part", "place"] "_law_last_time" (defScope s_law_last_time) f cdv A outer s H E).xe := passes_of (X := cxOf (L2.CX P w) P w K mg base ["ready", "plan", "n", "above", "back", "k", "part", "place"] "_law_last_time" (defScope s_law_last_time) f cdv A outer s H E) rfl
  exact (dss_cons (ds_set 2 nd (de_lenD D.n_len (da_cons (de_var 0) da_nil)))
  (dss_cons (ds_set 3 nd (de_lc [("part", 6)] rfl nd (di_range1 D.n_range (da_cons (de_sub (de_mul de_int (de_var 2)) de_int) da_nil)) (blkOk_by (N := ["ready", "plan", "n", "above", "back", "k", "part", "place"]) (sc := defScope s_law_last_time) (by decide +kernel)) (by decide) (fun _ _ _ _ _ => (dg_one 6 nd)) (fun _ _ _ _ _ => dts_nil) (fun _ _ _ _ _ => de_int)))
  (dss_cons (ds_for po rfl (di_range1 D.n_range (da_cons (de_sub (de_var 2) de_int) da_nil)) (dg_one 4 nd) (dss_cons (ds_set 5 nd (de_sub (de_sub (de_var 2) de_int) (de_var 4)))
  (dss_one (ds_for po rfl (di_seq (de_ixD hr.units (de_var 1) (de_var 5))) (dg_one 6 nd) (dss_one (ds_putD (de_add (de_ixD hr.units (de_var 3) (de_add (de_var 2) (de_var 5))) de_int) (de_var 3) (de_var 6) (ps_asg (de_add (de_ixD hr.units (de_var 3) (de_add (de_var 2) (de_var 5))) de_int) (pg_sub (de_var 3) (de_var 6) (set_D hr.units)))))))))
  (dss_one (ds_ret (de_max rfl D.n_max (da_cons (de_lc [("place", 7)] rfl nd (di_range1 D.n_range (da_cons (de_var 2) da_nil)) (blkOk_by (N := ["ready", "plan", "n", "above", "back", "k", "part", "place"]) (sc := defScope s_law_last_time) (by decide +kernel)) (by decide) (fun _ _ _ _ _ => (dg_one 7 nd)) (fun _ _ _ _ _ => dts_nil) (fun _ _ _ _ _ => (de_add (de_ixD hr.units (de_var 0) (de_var 7)) (de_ixD hr.units (de_var 3) (de_var 7))))) da_nil)))))))
theorem sc_law_ready : FnScope ["source", "n", "way", "time", "low", "high", "gap", "place"] ["source", "n"] (defScope s_law_ready) := ⟨rfl, rfl, rfl, by decide +kernel, rfl, by decide +kernel, by decide +kernel⟩
theorem ok_law_ready (D : Tops P w K mg C_BadNumber C_BadPlan C_SplitError) : CallOk P w K mg base 3 "_law_ready" ["source", "n"] law_ready := D.d_law_ready.mk sc_law_ready fun f cdv A outer s H E hr => by
  have nd := (sc_law_ready).nd
  have tk : Takes (cxOf (L2.CX P w) P w K mg base ["source", "n", "way", "time", "low", "high", "gap", "place"] "_law_ready" (defScope s_law_ready) f cdv A outer s H E) (fun cls d _ H => E cls d H) := takes_of rfl rfl rfl rfl
  exact (dss_cons (ds_set 2 nd (de_fn (ok_law_draw D) hr (by decide) tk (da_cons (de_var 0) (da_cons de_int da_nil))))
  (dss_cons (ds_if (dt_eq hr.units (de_var 2) de_int) (dss_cons (ds_set 3 nd (de_fn (ok_law_draw D) hr (by decide) tk (da_cons (de_var 0) (da_cons de_int da_nil))))
  (dss_one (ds_ret (de_tuple D.n_tuple (da_cons (de_lc [("place", 7)] rfl nd (di_range1 D.n_range (da_cons (de_var 1) da_nil)) (blkOk_by (N := ["source", "n", "way", "time", "low", "high", "gap", "place"]) (sc := defScope s_law_ready) (by decide +kernel)) (by decide) (fun _ _ _ _ _ => (dg_one 7 nd)) (fun _ _ _ _ _ => dts_nil) (fun _ _ _ _ _ => (de_var 3))) da_nil))))) dss_nil)
  (dss_cons (ds_if (dt_eq hr.units (de_var 2) de_int) (dss_cons (ds_set 4 nd (de_fn (ok_law_draw D) hr (by decide) tk (da_cons (de_var 0) (da_cons de_int da_nil))))
  (dss_one (ds_ret (de_tuple D.n_tuple (da_cons (de_lc [("place", 7)] rfl nd (di_range1 D.n_range (da_cons (de_var 1) da_nil)) (blkOk_by (N := ["source", "n", "way", "time", "low", "high", "gap", "place"]) (sc := defScope s_law_ready) (by decide +kernel)) (by decide) (fun _ _ _ _ _ => (dg_one 7 nd)) (fun _ _ _ _ _ => dts_nil) (fun _ _ _ _ _ => (de_add (de_var 4) (de_fn (ok_law_draw D) hr (by decide) takes0 (da_cons (de_var 0) (da_cons de_int da_nil)))))) da_nil))))) dss_nil)
  (dss_cons (ds_if (dt_eq hr.units (de_var 2) de_int) (dss_cons (ds_set 5 nd (de_fn (ok_law_draw D) hr (by decide) tk (da_cons (de_var 0) (da_cons de_int da_nil))))
  (dss_one (ds_ret (de_tuple D.n_tuple (da_cons (de_lc [("place", 7)] rfl nd (di_range1 D.n_range (da_cons (de_var 1) da_nil)) (blkOk_by (N := ["source", "n", "way", "time", "low", "high", "gap", "place"]) (sc := defScope s_law_ready) (by decide +kernel)) (by decide) (fun _ _ _ _ _ => (dg_one 7 nd)) (fun _ _ _ _ _ => dts_nil) (fun _ _ _ _ _ => (de_ifE (dt_eq hr.units (de_mod (de_intc D.n_int (da_cons (de_var 7) da_nil)) de_int) de_int) (de_var 5) (de_fn (ok_law_draw D) hr (by decide) takes0 (da_cons (de_var 0) (da_cons de_int da_nil)))))) da_nil))))) dss_nil)
  (dss_cons (ds_if (dt_eq hr.units (de_var 2) de_int) (dss_one (ds_ret (de_tuple D.n_tuple (da_cons (de_lc [("place", 7)] rfl nd (di_range1 D.n_range (da_cons (de_var 1) da_nil)) (blkOk_by (N := ["source", "n", "way", "time", "low", "high", "gap", "place"]) (sc := defScope s_law_ready) (by decide +kernel)) (by decide) (fun _ _ _ _ _ => (dg_one 7 nd)) (fun _ _ _ _ _ => dts_nil) (fun _ _ _ _ _ => (de_mul de_int (de_fn (ok_law_draw D) hr (by decide) takes0 (da_cons (de_var 0) (da_cons de_int da_nil)))))) da_nil)))) dss_nil)
  (dss_cons (ds_if (dt_eq hr.units (de_var 2) de_int) (dss_cons (ds_set 4 nd (de_fn (ok_law_draw D) hr (by decide) tk (da_cons (de_var 0) (da_cons de_int da_nil))))
  (dss_cons (ds_set 6 nd (de_sub (de_fn (ok_law_draw D) hr (by decide) tk (da_cons (de_var 0) (da_cons de_int da_nil))) de_int))
  (dss_one (ds_ret (de_tuple D.n_tuple (da_cons (de_lc [("place", 7)] rfl nd (di_range1 D.n_range (da_cons (de_var 1) da_nil)) (blkOk_by (N := ["source", "n", "way", "time", "low", "high", "gap", "place"]) (sc := defScope s_law_ready) (by decide +kernel)) (by decide) (fun _ _ _ _ _ => (dg_one 7 nd)) (fun _ _ _ _ _ => dts_nil) (fun _ _ _ _ _ => (de_add (de_var 4) (de_ifE (dt_ge (de_var 6) de_int) (de_mul (de_var 7) (de_var 6)) (de_sub (de_var 1) (de_var 7)))))) da_nil)))))) dss_nil)
  (dss_cons (ds_if (dt_eq hr.units (de_var 2) de_int) (dss_one (ds_ret (de_tuple D.n_tuple (da_cons (de_lc [("place", 7)] rfl nd (di_range1 D.n_range (da_cons (de_var 1) da_nil)) (blkOk_by (N := ["source", "n", "way", "time", "low", "high", "gap", "place"]) (sc := defScope s_law_ready) (by decide +kernel)) (by decide) (fun _ _ _ _ _ => (dg_one 7 nd)) (fun _ _ _ _ _ => dts_nil) (fun _ _ _ _ _ => (de_fn (ok_law_pick D) hr (by decide) takes0 (da_cons (de_var 0) (da_cons (de_tup (da_cons de_int (da_cons de_int (da_cons de_int (da_cons de_int da_nil))))) da_nil))))) da_nil)))) dss_nil)
  (dss_one (ds_ret (de_tuple D.n_tuple (da_cons (de_lc [("place", 7)] rfl nd (di_range1 D.n_range (da_cons (de_var 1) da_nil)) (blkOk_by (N := ["source", "n", "way", "time", "low", "high", "gap", "place"]) (sc := defScope s_law_ready) (by decide +kernel)) (by decide) (fun _ _ _ _ _ => (dg_one 7 nd)) (fun _ _ _ _ _ => dts_nil) (fun _ _ _ _ _ => (de_fn (ok_law_draw D) hr (by decide) takes0 (da_cons (de_var 0) (da_cons de_int da_nil))))) da_nil)))))))))))
theorem sc_law_bent_ready : FnScope ["source", "ready", "way", "place", "odd"] ["source", "ready"] (defScope s_law_bent_ready) := ⟨rfl, rfl, rfl, by decide +kernel, rfl, by decide +kernel, by decide +kernel⟩
theorem ok_law_bent_ready (D : Tops P w K mg C_BadNumber C_BadPlan C_SplitError) : CallOk P w K mg base 3 "_law_bent_ready" ["source", "ready"] law_bent_ready := D.d_law_bent_ready.mk sc_law_bent_ready fun f cdv A outer s H E hr => by
  have nd := (sc_law_bent_ready).nd
  have tk : Takes (cxOf (L2.CX P w) P w K mg base ["source", "ready", "way", "place", "odd"] "_law_bent_ready" (defScope s_law_bent_ready) f cdv A outer s H E) (fun cls d _ H => E cls d H) := takes_of rfl rfl rfl rfl
  exact (dss_cons (ds_set 2 nd (de_fn (ok_law_draw D) hr (by decide) tk (da_cons (de_var 0) (da_cons de_int da_nil))))
  (dss_cons (ds_if (dt_eq hr.units (de_var 2) de_int) (dss_one (ds_ret (de_tup da_nil))) dss_nil)
  (dss_cons (ds_if (dt_eq hr.units (de_var 2) de_int) (dss_one (ds_ret (de_tuple D.n_tuple (da_cons (de_lc [("place", 3)] rfl nd (di_range1 D.n_range (da_cons de_int da_nil)) (blkOk_by (N := ["source", "ready", "way", "place", "odd"]) (sc := defScope s_law_bent_ready) (by decide +kernel)) (by decide) (fun _ _ _ _ _ => (dg_one 3 nd)) (fun _ _ _ _ _ => dts_nil) (fun _ _ _ _ _ => (de_fn (ok_law_draw D) hr (by decide) takes0 (da_cons (de_var 0) (da_cons de_int da_nil))))) da_nil)))) dss_nil)
  (dss_cons (ds_set 3 nd (de_fn (ok_law_draw D) hr (by decide) tk (da_cons (de_var 0) (da_cons (de_lenD D.n_len (da_cons (de_var 1) da_nil)) da_nil))))
  (dss_cons (ds_set 4 nd (de_fn (ok_law_pick D) hr (by decide) tk (da_cons (de_var 0) (da_cons (de_tup (da_cons (de_neg de_int) (da_cons de_int (da_cons de_int (da_cons (de_neg de_int) (da_cons de_bl (da_cons de_non da_nil))))))) da_nil))))
  (dss_one (ds_ret (de_add (de_add (de_sl (de_var 1) do_none (do_some (de_var 3))) (de_tup (da_cons (de_var 4) da_nil))) (de_sl (de_var 1) (do_some (de_add (de_var 3) de_int)) do_none)))))))))
theorem sc_law_table_end : FnScope ["ready", "n", "found", "place", "size", "begin", "end", "ends", "cut"] ["ready"] (defScope s_law_table_end) := ⟨rfl, rfl, rfl, by decide +kernel, rfl, by decide +kernel, by decide +kernel⟩
theorem ok_law_table_end (D : Tops P w K mg C_BadNumber C_BadPlan C_SplitError) : CallOk P w K mg base 1 "_law_table_end" ["ready"] law_table_end := D.d_law_table_end.mk sc_law_table_end fun f cdv A outer s H E hr => by
  have nd := (sc_law_table_end).nd
  have po : PassesOwn (model P w) (A.deeper (envOfC "_law_table_end" (defScope s_law_table_end) s.heap.objs.size f cdv)) (envOfC "_law_table_end" (defScope s_law_table_end) s.heap.objs.size f cdv) (cxOf (L2.CX P w) P w K mg base ["ready", "n", "found", "place", "size", "begin", "end", "ends", "cut"] "_law_table_end" (defScope s_law_table_end) f cdv A outer s H E).xe := passes_of (X := cxOf (L2.CX P w) P w K mg base ["ready", "n", "found", "place", "size", "begin", "end", "ends", "cut"] "_law_table_end" (defScope s_law_table_end) f cdv A outer s H E) rfl
  exact (dss_cons (ds_set 1 nd (de_lenD D.n_len (da_cons (de_var 0) da_nil)))
  (dss_cons (ds_set 2 nd (de_dnewN))
  (dss_cons (ds_for po rfl (di_range1 D.n_range (da_cons (de_var 1) da_nil)) (dg_one 3 nd) (dss_one (ds_putD (de_ixD hr.units (de_var 0) (de_var 3)) (de_var 2) (de_tup (da_cons (de_var 3) (da_cons (de_add (de_var 3) de_int) da_nil))) (ps_asg (de_ixD hr.units (de_var 0) (de_var 3)) (pg_sub (de_var 2) (de_tup (da_cons (de_var 3) (da_cons (de_add (de_var 3) de_int) da_nil))) (set_D hr.units))))))
  (dss_cons (ds_for po rfl (di_range2 D.n_range (da_cons de_int (da_cons (de_add (de_var 1) de_int) da_nil))) (dg_one 4 nd) (dss_one (ds_for po rfl (di_range1 D.n_range (da_cons (de_add (de_sub (de_var 1) (de_var 4)) de_int) da_nil)) (dg_one 5 nd) (dss_cons (ds_set 6 nd (de_add (de_var 5) (de_var 4)))
  (dss_cons (ds_setLc 7 [("cut", 8)] rfl nd (di_range2 D.n_range (da_cons (de_add (de_var 5) de_int) (da_cons (de_var 6) da_nil))) (blkOk_by (N := ["ready", "n", "found", "place", "size", "begin", "end", "ends", "cut"]) (sc := defScope s_law_table_end) (by decide +kernel)) (by decide) (fun _ _ _ _ _ => (dg_one 8 nd)) (fun _ _ _ _ _ => dts_nil) (fun _ _ _ _ _ => (de_add (de_max rfl D.n_max (da_cons (de_ixD hr.units (de_var 2) (de_tup (da_cons (de_var 5) (da_cons (de_var 8) da_nil)))) (da_cons (de_ixD hr.units (de_var 2) (de_tup (da_cons (de_var 8) (da_cons (de_var 6) da_nil)))) da_nil))) de_int)) (sw_true rfl rfl rfl (by decide +kernel)))
  (dss_one (ds_putD (de_min rfl D.n_min (da_cons (de_var 7) da_nil)) (de_var 2) (de_tup (da_cons (de_var 5) (da_cons (de_var 6) da_nil))) (ps_asg (de_min rfl D.n_min (da_cons (de_var 7) da_nil)) (pg_sub (de_var 2) (de_tup (da_cons (de_var 5) (da_cons (de_var 6) da_nil))) (set_D hr.units))))))))))
  (dss_one (ds_ret (de_ixD hr.units (de_var 2) (de_tup (da_cons de_int (da_cons (de_var 1) da_nil))))))))))
theorem sc_law_packed_end : FnScope ["ready", "laid", "time", "size"] ["ready"] (defScope s_law_packed_end) := ⟨rfl, rfl, rfl, by decide +kernel, rfl, by decide +kernel, by decide +kernel⟩
theorem ok_law_packed_end (D : Tops P w K mg C_BadNumber C_BadPlan C_SplitError) : CallOk P w K mg base 1 "_law_packed_end" ["ready"] law_packed_end := D.d_law_packed_end.mk sc_law_packed_end fun f cdv A outer s H E hr => by
  have nd := (sc_law_packed_end).nd
  have po : PassesOwn (model P w) (A.deeper (envOfC "_law_packed_end" (defScope s_law_packed_end) s.heap.objs.size f cdv)) (envOfC "_law_packed_end" (defScope s_law_packed_end) s.heap.objs.size f cdv) (cxOf (L2.CX P w) P w K mg base ["ready", "laid", "time", "size"] "_law_packed_end" (defScope s_law_packed_end) f cdv A outer s H E).xe := passes_of (X := cxOf (L2.CX P w) P w K mg base ["ready", "laid", "time", "size"] "_law_packed_end" (defScope s_law_packed_end) f cdv A outer s H E) rfl
  exact (dss_cons (ds_set 1 nd de_int)
  (dss_cons (ds_for po rfl (di_seq (de_var 0)) (dg_one 2 nd) (dss_cons (ds_set 3 nd (de_shl de_int (de_var 2)))
  (dss_one (ds_set 1 nd (de_add (de_mul (de_div (de_sub (de_add (de_var 1) (de_var 3)) de_int) (de_var 3)) (de_var 3)) (de_var 3))))))
  (dss_one (ds_ret (de_bits (de_sub (de_var 1) de_int))))))
theorem sc_law_sum_end : FnScope ["ready", "time"] ["ready"] (defScope s_law_sum_end) := ⟨rfl, rfl, rfl, by decide +kernel, rfl, by decide +kernel, by decide +kernel⟩
theorem ok_law_sum_end (D : Tops P w K mg C_BadNumber C_BadPlan C_SplitError) : CallOk P w K mg base 1 "_law_sum_end" ["ready"] law_sum_end := D.d_law_sum_end.mk sc_law_sum_end fun f cdv A outer s H E hr => by
  have nd := (sc_law_sum_end).nd
  exact (dss_one (ds_ret (de_bits (de_sub (de_sum rfl D.n_sum (da_cons (de_lc [("time", 1)] rfl nd (di_seq (de_var 0)) (blkOk_by (N := ["ready", "time"]) (sc := defScope s_law_sum_end) (by decide +kernel)) (by decide) (fun _ _ _ _ _ => (dg_one 1 nd)) (fun _ _ _ _ _ => dts_nil) (fun _ _ _ _ _ => (de_shl de_int (de_var 1)))) da_nil)) de_int))))
theorem sc_law_refused : FnScope ["way", "ready", "error"] ["way", "ready"] (defScope s_law_refused) := ⟨rfl, rfl, rfl, by decide +kernel, rfl, by decide +kernel, by decide +kernel⟩
theorem ok_law_refused (D : Tops P w K mg C_BadNumber C_BadPlan C_SplitError) : CallOk P w K mg base 43 "_law_refused" ["way", "ready"] law_refused := D.d_law_refused.mk sc_law_refused fun f cdv A outer s H E hr => by
  have nd := (sc_law_refused).nd
  have tk : Takes (cxOf (L2.CX P w) P w K mg base ["way", "ready", "error"] "_law_refused" (defScope s_law_refused) f cdv A outer s H E) (fun cls d _ H => E cls d H) := takes_of rfl rfl rfl rfl
  exact (dss_cons (ds_try 2 rfl rfl nd ⟨rfl, by decide, .inl D.m_SplitError⟩ tk
  (fun W2 pn xe t1 t2 => (dss_one (ds_if (dt_eq hr.units (de_var 0) de_int) (dss_one (ds_expr (de_fn (ok_least_end D) hr (by decide) t1 (da_cons (de_var 1) da_nil)))) (dss_one (ds_if (dt_eq hr.units (de_var 0) de_int) (dss_one (ds_expr (de_fn (ok_least_plan D) hr (by decide) t1 (da_cons (de_var 1) da_nil)))) (dss_one (ds_if (dt_eq hr.units (de_var 0) de_int) (dss_one (ds_expr (de_fn (ok_least_end_freely D) hr (by decide) t1 (da_cons (de_var 1) da_nil)))) (dss_one (ds_expr (de_fn (ok_free_plan D) hr (by decide) t1 (da_cons (de_var 1) da_nil)))))))))))
  (fun x a oe C pn hz hv hg => (dss_one (ds_ret (de_and (de_isE hz hv hg D.i_BadNumber D.n_isinstance (pe_glob (v := .ref C_BadNumber) rfl D.x_BadNumber.g rfl) (fun _ h => h)) (de_one (de_not (de_isE hz hv hg D.i_BadPlan D.n_isinstance (pe_glob (v := .ref C_BadPlan) rfl D.x_BadPlan.g rfl) (fun _ h => h)))))))) D.t_SplitError)
  (dss_one (ds_ret de_bl)))
theorem sc_law_least_of : FnScope ["ready", "due", "told"] ["ready", "due"] (defScope s_law_least_of) := ⟨rfl, rfl, rfl, by decide +kernel, rfl, by decide +kernel, by decide +kernel⟩
theorem ok_law_least_of (D : Tops P w K mg C_BadNumber C_BadPlan C_SplitError) : CallOk P w K mg base 6 "_law_least_of" ["ready", "due"] law_least_of := D.d_law_least_of.mk sc_law_least_of fun f cdv A outer s H E hr => by
  have nd := (sc_law_least_of).nd
  have tk : Takes (cxOf (L2.CX P w) P w K mg base ["ready", "due", "told"] "_law_least_of" (defScope s_law_least_of) f cdv A outer s H E) (fun cls d _ H => E cls d H) := takes_of rfl rfl rfl rfl
  exact (dss_cons (ds_set 2 nd (de_fn (ok_least_end D) hr (by decide) tk (da_cons (de_var 0) da_nil)))
  (dss_one (ds_ret (de_and (de_fn (ok_law_is_whole D) hr (by decide) tk (da_cons (de_var 2) da_nil)) (de_one (de_eq hr.units (de_var 2) (de_var 1)))))))
theorem sc_law_freely_asked : FnScope ["ready", "freely", "n", "told", "plan", "leaves", "place"] ["ready", "freely"] (defScope s_law_freely_asked) := ⟨rfl, rfl, rfl, by decide +kernel, rfl, by decide +kernel, by decide +kernel⟩
theorem ok_law_freely_asked (D : Tops P w K mg C_BadNumber C_BadPlan C_SplitError) : CallOk P w K mg base 7 "_law_freely_asked" ["ready", "freely"] law_freely_asked := D.d_law_freely_asked.mk sc_law_freely_asked fun f cdv A outer s H E hr => by
  have nd := (sc_law_freely_asked).nd
  have tk : Takes (cxOf (L2.CX P w) P w K mg base ["ready", "freely", "n", "told", "plan", "leaves", "place"] "_law_freely_asked" (defScope s_law_freely_asked) f cdv A outer s H E) (fun cls d _ H => E cls d H) := takes_of rfl rfl rfl rfl
  exact (dss_cons (ds_set 2 nd (de_lenD D.n_len (da_cons (de_var 0) da_nil)))
  (dss_cons (ds_set 3 nd (de_fn (ok_least_end_freely D) hr (by decide) tk (da_cons (de_var 0) da_nil)))
  (dss_cons (ds_if (DW.t (dw_or (dt_not (dt_val (de_fn (ok_law_is_whole D) hr (by decide) tk (da_cons (de_var 3) da_nil)))) (dw_or1 (dt_ne hr.units (de_var 3) (de_var 1))))) (dss_one (ds_ret de_bl)) dss_nil)
  (dss_cons (ds_set 4 nd (de_fn (ok_free_plan D) hr (by decide) tk (da_cons (de_var 0) da_nil)))
  (dss_cons (ds_set 5 nd (de_fn (ok_law_leaves D) hr (by decide) tk (da_cons (de_var 2) (da_cons (de_var 4) da_nil))))
  (dss_cons (ds_if (DW.t (dw_or (dt_is (de_var 5) de_non) (dw_or (dt_ne hr.units (de_fn (ok_law_last_time D) hr (by decide) tk (da_cons (de_var 0) (da_cons (de_var 4) da_nil))) (de_var 1)) (dw_or1 (dt_ne hr.units (de_fn (ok_plan_end D) hr (by decide) tk (da_cons (de_var 0) (da_cons (de_var 4) da_nil))) (de_var 1)))))) (dss_one (ds_ret de_bl)) dss_nil)
  (dss_one (ds_ret (de_fn (ok_law_least_of D) hr (by decide) tk (da_cons (de_tuple D.n_tuple (da_cons (de_lc [("place", 6)] rfl nd (di_seq (de_ixD hr.units (de_var 5) (de_neg de_int))) (blkOk_by (N := ["ready", "freely", "n", "told", "plan", "leaves", "place"]) (sc := defScope s_law_freely_asked) (by decide +kernel)) (by decide) (fun _ _ _ _ _ => (dg_one 6 nd)) (fun _ _ _ _ _ => dts_nil) (fun _ _ _ _ _ => (de_ixD hr.units (de_var 0) (de_var 6)))) da_nil)) (da_cons (de_var 1) da_nil)))))))))))
theorem sc_law_near_asked : FnScope ["ready", "near", "n", "plan", "leaves"] ["ready", "near"] (defScope s_law_near_asked) := ⟨rfl, rfl, rfl, by decide +kernel, rfl, by decide +kernel, by decide +kernel⟩
theorem ok_law_near_asked (D : Tops P w K mg C_BadNumber C_BadPlan C_SplitError) : CallOk P w K mg base 43 "_law_near_asked" ["ready", "near"] law_near_asked := D.d_law_near_asked.mk sc_law_near_asked fun f cdv A outer s H E hr => by
  have nd := (sc_law_near_asked).nd
  have tk : Takes (cxOf (L2.CX P w) P w K mg base ["ready", "near", "n", "plan", "leaves"] "_law_near_asked" (defScope s_law_near_asked) f cdv A outer s H E) (fun cls d _ H => E cls d H) := takes_of rfl rfl rfl rfl
  exact (dss_cons (ds_set 2 nd (de_lenD D.n_len (da_cons (de_var 0) da_nil)))
  (dss_cons (ds_if (DW.t (dw_or (dt_not (dt_val (de_fn (ok_law_least_of D) hr (by decide) tk (da_cons (de_var 0) (da_cons (de_var 1) da_nil))))) (dw_or1 (dt_not (dt_val (de_fn (ok_law_least_of D) hr (by decide) tk (da_cons (de_var 0) (da_cons (de_fn (ok_law_packed_end D) hr (by decide) tk (da_cons (de_var 0) da_nil)) da_nil)))))))) (dss_one (ds_ret de_bl)) dss_nil)
  (dss_cons (ds_set 3 nd (de_fn (ok_least_plan D) hr (by decide) tk (da_cons (de_var 0) da_nil)))
  (dss_cons (ds_set 4 nd (de_fn (ok_law_leaves D) hr (by decide) tk (da_cons (de_var 2) (da_cons (de_var 3) da_nil))))
  (dss_cons (ds_if (DW.t (dw_or (dt_is (de_var 4) de_non) (dw_or1 (dt_ne hr.units (de_ixD hr.units (de_var 4) (de_neg de_int)) (de_tuple D.n_tuple (da_cons (de_listRg1 D.n_list D.n_range (de_var 2)) da_nil)))))) (dss_one (ds_ret de_bl)) dss_nil)
  (dss_one (ds_ret (de_and (de_eq hr.units (de_fn (ok_law_last_time D) hr (by decide) tk (da_cons (de_var 0) (da_cons (de_var 3) da_nil))) (de_var 1)) (de_one (de_eq hr.units (de_fn (ok_plan_end D) hr (by decide) tk (da_cons (de_var 0) (da_cons (de_var 3) da_nil))) (de_var 1)))))))))))
theorem sc_law : FnScope ["script", "source", "n", "ready", "near", "freely", "rising", "draws", "other", "plan", "loose", "bent", "place", "way"] ["script"] (defScope s_law) := ⟨rfl, rfl, rfl, by decide +kernel, rfl, by decide +kernel, by decide +kernel⟩
theorem ok_law (D : Tops P w K mg C_BadNumber C_BadPlan C_SplitError) : CallOk P w K mg base 44 "law" ["script"] law := D.d_law.mk sc_law fun f cdv A outer s H E hr => by
  have nd := (sc_law).nd
  have tk : Takes (cxOf (L2.CX P w) P w K mg base ["script", "source", "n", "ready", "near", "freely", "rising", "draws", "other", "plan", "loose", "bent", "place", "way"] "law" (defScope s_law) f cdv A outer s H E) (fun cls d _ H => E cls d H) := takes_of rfl rfl rfl rfl
  exact (dss_cons (ds_set 1 nd (de_fn (ok_law_source D) hr (by decide) tk (da_cons (de_var 0) (da_cons de_int da_nil))))
  (dss_cons (ds_set 2 nd (de_add de_int (de_fn (ok_law_draw D) hr (by decide) tk (da_cons (de_var 1) (da_cons de_int da_nil)))))
  (dss_cons (ds_set 3 nd (de_fn (ok_law_ready D) hr (by decide) tk (da_cons (de_var 1) (da_cons (de_var 2) da_nil))))
  (dss_cons (ds_set 4 nd (de_fn (ok_law_table_end D) hr (by decide) tk (da_cons (de_var 3) da_nil)))
  (dss_cons (ds_set 5 nd (de_fn (ok_law_sum_end D) hr (by decide) tk (da_cons (de_var 3) da_nil)))
  (dss_cons (ds_if (DW.t (dw_or (dt_not (dt_val (de_fn (ok_law_near_asked D) hr (by decide) tk (da_cons (de_var 3) (da_cons (de_var 4) da_nil))))) (dw_or1 (dt_not (dt_val (de_fn (ok_law_freely_asked D) hr (by decide) tk (da_cons (de_var 3) (da_cons (de_var 5) da_nil)))))))) (dss_one (ds_ret de_bl)) dss_nil)
  (dss_cons (ds_if (dt_notInD (u65 hr) (de_sub (de_fn (ok_least_end D) hr (by decide) tk (da_cons (de_var 3) da_nil)) (de_fn (ok_least_end_freely D) hr (by decide) tk (da_cons (de_var 3) da_nil))) (de_tup (da_cons de_int (da_cons de_int da_nil)))) (dss_one (ds_ret de_bl)) dss_nil)
  (dss_cons (ds_set 6 nd (de_tuple D.n_tuple (da_cons (de_sorted D.n_sorted (da_cons (de_var 3) da_nil)) da_nil)))
  (dss_cons (ds_if (DW.t (dw_or (dt_not (dt_val (de_fn (ok_law_least_of D) hr (by decide) tk (da_cons (de_var 6) (da_cons (de_var 5) da_nil))))) (dw_or1 (dt_not (dt_val (de_fn (ok_law_least_of D) hr (by decide) tk (da_cons (de_rev (de_var 6)) (da_cons (de_var 5) da_nil)))))))) (dss_one (ds_ret de_bl)) dss_nil)
  (dss_cons (ds_set 7 nd (de_fn (ok_law_source D) hr (by decide) tk (da_cons (de_var 0) (da_cons de_int da_nil))))
  (dss_cons (ds_set 8 nd (de_tuple D.n_tuple (da_cons (de_lc [("place", 12)] rfl nd (di_seq (de_fn (ok_law_shuffled D) hr (by decide) tk (da_cons (de_var 7) (da_cons (de_var 2) da_nil)))) (blkOk_by (N := ["script", "source", "n", "ready", "near", "freely", "rising", "draws", "other", "plan", "loose", "bent", "place", "way"]) (sc := defScope s_law) (by decide +kernel)) (by decide) (fun _ _ _ _ _ => (dg_one 12 nd)) (fun _ _ _ _ _ => dts_nil) (fun _ _ _ _ _ => (de_ixD hr.units (de_var 3) (de_var 12)))) da_nil)))
  (dss_cons (ds_if (DW.t (dw_or (dt_not (dt_val (de_fn (ok_law_near_asked D) hr (by decide) tk (da_cons (de_var 8) (da_cons (de_fn (ok_law_table_end D) hr (by decide) tk (da_cons (de_var 8) da_nil)) da_nil))))) (dw_or1 (dt_not (dt_val (de_fn (ok_law_freely_asked D) hr (by decide) tk (da_cons (de_var 8) (da_cons (de_var 5) da_nil)))))))) (dss_one (ds_ret de_bl)) dss_nil)
  (dss_cons (ds_if (dt_not (dt_val (de_fn (ok_law_least_of D) hr (by decide) tk (da_cons (de_rev (de_var 3)) (da_cons (de_var 4) da_nil))))) (dss_one (ds_ret de_bl)) dss_nil)
  (dss_cons (ds_set 9 nd (de_fn (ok_law_drawn_plan D) hr (by decide) tk (da_cons (de_var 7) (da_cons (de_var 2) (da_cons de_bl da_nil)))))
  (dss_cons (ds_set 10 nd (de_fn (ok_law_drawn_plan D) hr (by decide) tk (da_cons (de_var 7) (da_cons (de_var 2) (da_cons de_bl da_nil)))))
  (dss_cons (ds_if (DW.t (dw_or (dt_ne hr.units (de_fn (ok_plan_end D) hr (by decide) tk (da_cons (de_var 3) (da_cons (de_var 9) da_nil))) (de_fn (ok_law_last_time D) hr (by decide) tk (da_cons (de_var 3) (da_cons (de_var 9) da_nil)))) (dw_or1 (dt_lt (de_fn (ok_plan_end D) hr (by decide) tk (da_cons (de_var 3) (da_cons (de_var 9) da_nil))) (de_fn (ok_least_end D) hr (by decide) tk (da_cons (de_var 3) da_nil)))))) (dss_one (ds_ret de_bl)) dss_nil)
  (dss_cons (ds_if (DW.t (dw_or (dt_ne hr.units (de_fn (ok_plan_end D) hr (by decide) tk (da_cons (de_var 3) (da_cons (de_var 10) da_nil))) (de_fn (ok_law_last_time D) hr (by decide) tk (da_cons (de_var 3) (da_cons (de_var 10) da_nil)))) (dw_or1 (dt_lt (de_fn (ok_plan_end D) hr (by decide) tk (da_cons (de_var 3) (da_cons (de_var 10) da_nil))) (de_fn (ok_least_end_freely D) hr (by decide) tk (da_cons (de_var 3) da_nil)))))) (dss_one (ds_ret de_bl)) dss_nil)
  (dss_cons (ds_set 11 nd (de_fn (ok_law_bent_ready D) hr (by decide) tk (da_cons (de_fn (ok_law_source D) hr (by decide) tk (da_cons (de_var 0) (da_cons de_int da_nil))) (da_cons (de_var 3) da_nil))))
  (dss_one (ds_ret (de_all rfl D.n_all (da_cons (de_lc [("way", 13)] rfl nd (di_range1 D.n_range (da_cons de_int da_nil)) (blkOk_by (N := ["script", "source", "n", "ready", "near", "freely", "rising", "draws", "other", "plan", "loose", "bent", "place", "way"]) (sc := defScope s_law) (by decide +kernel)) (by decide) (fun _ _ _ _ _ => (dg_one 13 nd)) (fun _ _ _ _ _ => dts_nil) (fun _ _ _ _ _ => (de_fn (ok_law_refused D) hr (by decide) takes0 (da_cons (de_var 13) (da_cons (de_var 11) da_nil))))) da_nil))))))))))))))))))))))
end
theorem fin {P : Program} {w : World} {K : PySem.W.Frag} {mg : Str → Option Value} {h : Heap} (_ : K.In h) (_ : h.Ns mainGlobals mg) (T : ∃ C_BadNumber C_BadPlan C_SplitError, Tops P w K mg C_BadNumber C_BadPlan C_SplitError) : DefOk K mg "law" s_law ["script"] ∧ ∀ base : Heap, CallOk P w K mg base 44 "law" ["script"] law := by
  obtain ⟨C_BadNumber, C_BadPlan, C_SplitError, T⟩ := T
  exact ⟨T.d_law, fun base => ok_law T⟩
end K84
namespace K84
open PySem PySem.Spec PyProof.Rows L2 Mo
end K84
open PySem PySem.W PyProof.Rows
set_option maxRecDepth 100000 in
set_option maxHeartbeats 0 in
theorem PySem.Challenge.cw_splitwhole_k84_whole_least_ends_holds : PySem.Challenge.rw_splitwhole_k84_whole_least_ends.Holds := by
  w_on; o_law; k_head; (case hw => w_witness2)
  k_fill
  refine Mo.walk (l := PySem.Challenge.rw_splitwhole_k84_whole_least_ends) (k := 44) (x := "script") (st := K84.s_law) (g := K84.law) rfl rfl ⟨rfl, by decide, by decide⟩ (fun w h Y => PySem.W.kIn_of Y) ?F K84.law_true
  case F =>
    intro w mg h KX G
    refine' K84.fin KX G ⟨_, _, _, ⟨?d_is_integer, ?d_is_within, ?d_is_numbers, ?d_is_size, ?d_is_plan, ?d_check_ready, ?d_plan_end, ?d_least_ends, ?d_least_end, ?d_put_joins, ?d_least_plan, ?d_free_plan, ?d_least_end_freely, ?d_law_source, ?d_law_draw, ?d_law_pick, ?d_law_shuffled, ?d_law_is_whole, ?d_law_drawn_plan, ?d_law_leaves, ?d_law_last_time, ?d_law_ready, ?d_law_bent_ready, ?d_law_table_end, ?d_law_packed_end, ?d_law_sum_end, ?d_law_refused, ?d_law_least_of, ?d_law_freely_asked, ?d_law_near_asked, ?d_law, ?g_MOST_WORKERS, ?g_LATEST, ?x_BadNumber, ?x_BadPlan, ?m_SplitError, ?t_SplitError, ?i_BadNumber, ?i_BadPlan, ?n_abs, ?n_all, ?n_bool, ?n_enumerate, ?n_int, ?n_isinstance, ?n_len, ?n_list, ?n_max, ?n_min, ?n_range, ?n_sorted, ?n_sum, ?n_tuple⟩⟩
    (case x_BadNumber => refine' Mo.xcOk_mk KX G ?za ?zq ?zk ?zs ?zt; (case za => k_is); (case zq => k_exc); (case zk => k_is); (case zs => k_is); (case zt => k_is))
    (case x_BadPlan => refine' Mo.xcOk_mk KX G ?za ?zq ?zk ?zs ?zt; (case za => k_is); (case zq => k_exc); (case zk => k_is); (case zs => k_is); (case zt => k_is))
    (case m_SplitError => refine' PySem.W.mg_of KX G ?za; (case za => k_is))
    (case d_is_integer => refine' Mo.defOk_mk KX G ?za ?zl ?zc ?zk (fun _ _ _ _ _ _ us hl => match us, hl with | [_], _ => rfl); (case za => k_is); (case zl => k_is); (case zc => k_is); (case zk => k_is))
    (case d_is_within => refine' Mo.defOk_mk KX G ?za ?zl ?zc ?zk (fun _ _ _ _ _ _ us hl => match us, hl with | [_, _, _], _ => rfl); (case za => k_is); (case zl => k_is); (case zc => k_is); (case zk => k_is))
    (case d_is_numbers => refine' Mo.defOk_mk KX G ?za ?zl ?zc ?zk (fun _ _ _ _ _ _ us hl => match us, hl with | [_, _, _], _ => rfl); (case za => k_is); (case zl => k_is); (case zc => k_is); (case zk => k_is))
    (case d_is_size => refine' Mo.defOk_mk KX G ?za ?zl ?zc ?zk (fun _ _ _ _ _ _ us hl => match us, hl with | [_, _], _ => rfl); (case za => k_is); (case zl => k_is); (case zc => k_is); (case zk => k_is))
    (case d_is_plan => refine' Mo.defOk_mk KX G ?za ?zl ?zc ?zk (fun _ _ _ _ _ _ us hl => match us, hl with | [_, _], _ => rfl); (case za => k_is); (case zl => k_is); (case zc => k_is); (case zk => k_is))
    (case d_check_ready => refine' Mo.defOk_mk KX G ?za ?zl ?zc ?zk (fun _ _ _ _ _ _ us hl => match us, hl with | [_], _ => rfl); (case za => k_is); (case zl => k_is); (case zc => k_is); (case zk => k_is))
    (case d_plan_end => refine' Mo.defOk_mk KX G ?za ?zl ?zc ?zk (fun _ _ _ _ _ _ us hl => match us, hl with | [_, _], _ => rfl); (case za => k_is); (case zl => k_is); (case zc => k_is); (case zk => k_is))
    (case d_least_ends => refine' Mo.defOk_mk KX G ?za ?zl ?zc ?zk (fun _ _ _ _ _ _ us hl => match us, hl with | [_], _ => rfl); (case za => k_is); (case zl => k_is); (case zc => k_is); (case zk => k_is))
    (case d_least_end => refine' Mo.defOk_mk KX G ?za ?zl ?zc ?zk (fun _ _ _ _ _ _ us hl => match us, hl with | [_], _ => rfl); (case za => k_is); (case zl => k_is); (case zc => k_is); (case zk => k_is))
    (case d_put_joins => refine' Mo.defOk_mk KX G ?za ?zl ?zc ?zk (fun _ _ _ _ _ _ us hl => match us, hl with | [_, _, _, _, _], _ => rfl); (case za => k_is); (case zl => k_is); (case zc => k_is); (case zk => k_is))
    (case d_least_plan => refine' Mo.defOk_mk KX G ?za ?zl ?zc ?zk (fun _ _ _ _ _ _ us hl => match us, hl with | [_], _ => rfl); (case za => k_is); (case zl => k_is); (case zc => k_is); (case zk => k_is))
    (case d_free_plan => refine' Mo.defOk_mk KX G ?za ?zl ?zc ?zk (fun _ _ _ _ _ _ us hl => match us, hl with | [_], _ => rfl); (case za => k_is); (case zl => k_is); (case zc => k_is); (case zk => k_is))
    (case d_least_end_freely => refine' Mo.defOk_mk KX G ?za ?zl ?zc ?zk (fun _ _ _ _ _ _ us hl => match us, hl with | [_], _ => rfl); (case za => k_is); (case zl => k_is); (case zc => k_is); (case zk => k_is))
    (case d_law_source => refine' Mo.defOk_mk KX G ?za ?zl ?zc ?zk (fun _ _ _ _ _ _ us hl => match us, hl with | [_, _], _ => rfl); (case za => k_is); (case zl => k_is); (case zc => k_is); (case zk => k_is))
    (case d_law_draw => refine' Mo.defOk_mk KX G ?za ?zl ?zc ?zk (fun _ _ _ _ _ _ us hl => match us, hl with | [_, _], _ => rfl); (case za => k_is); (case zl => k_is); (case zc => k_is); (case zk => k_is))
    (case d_law_pick => refine' Mo.defOk_mk KX G ?za ?zl ?zc ?zk (fun _ _ _ _ _ _ us hl => match us, hl with | [_, _], _ => rfl); (case za => k_is); (case zl => k_is); (case zc => k_is); (case zk => k_is))
    (case d_law_shuffled => refine' Mo.defOk_mk KX G ?za ?zl ?zc ?zk (fun _ _ _ _ _ _ us hl => match us, hl with | [_, _], _ => rfl); (case za => k_is); (case zl => k_is); (case zc => k_is); (case zk => k_is))
    (case d_law_is_whole => refine' Mo.defOk_mk KX G ?za ?zl ?zc ?zk (fun _ _ _ _ _ _ us hl => match us, hl with | [_], _ => rfl); (case za => k_is); (case zl => k_is); (case zc => k_is); (case zk => k_is))
    (case d_law_drawn_plan => refine' Mo.defOk_mk KX G ?za ?zl ?zc ?zk (fun _ _ _ _ _ _ us hl => match us, hl with | [_, _, _], _ => rfl); (case za => k_is); (case zl => k_is); (case zc => k_is); (case zk => k_is))
    (case d_law_leaves => refine' Mo.defOk_mk KX G ?za ?zl ?zc ?zk (fun _ _ _ _ _ _ us hl => match us, hl with | [_, _], _ => rfl); (case za => k_is); (case zl => k_is); (case zc => k_is); (case zk => k_is))
    (case d_law_last_time => refine' Mo.defOk_mk KX G ?za ?zl ?zc ?zk (fun _ _ _ _ _ _ us hl => match us, hl with | [_, _], _ => rfl); (case za => k_is); (case zl => k_is); (case zc => k_is); (case zk => k_is))
    (case d_law_ready => refine' Mo.defOk_mk KX G ?za ?zl ?zc ?zk (fun _ _ _ _ _ _ us hl => match us, hl with | [_, _], _ => rfl); (case za => k_is); (case zl => k_is); (case zc => k_is); (case zk => k_is))
    (case d_law_bent_ready => refine' Mo.defOk_mk KX G ?za ?zl ?zc ?zk (fun _ _ _ _ _ _ us hl => match us, hl with | [_, _], _ => rfl); (case za => k_is); (case zl => k_is); (case zc => k_is); (case zk => k_is))
    (case d_law_table_end => refine' Mo.defOk_mk KX G ?za ?zl ?zc ?zk (fun _ _ _ _ _ _ us hl => match us, hl with | [_], _ => rfl); (case za => k_is); (case zl => k_is); (case zc => k_is); (case zk => k_is))
    (case d_law_packed_end => refine' Mo.defOk_mk KX G ?za ?zl ?zc ?zk (fun _ _ _ _ _ _ us hl => match us, hl with | [_], _ => rfl); (case za => k_is); (case zl => k_is); (case zc => k_is); (case zk => k_is))
    (case d_law_sum_end => refine' Mo.defOk_mk KX G ?za ?zl ?zc ?zk (fun _ _ _ _ _ _ us hl => match us, hl with | [_], _ => rfl); (case za => k_is); (case zl => k_is); (case zc => k_is); (case zk => k_is))
    (case d_law_refused => refine' Mo.defOk_mk KX G ?za ?zl ?zc ?zk (fun _ _ _ _ _ _ us hl => match us, hl with | [_, _], _ => rfl); (case za => k_is); (case zl => k_is); (case zc => k_is); (case zk => k_is))
    (case d_law_least_of => refine' Mo.defOk_mk KX G ?za ?zl ?zc ?zk (fun _ _ _ _ _ _ us hl => match us, hl with | [_, _], _ => rfl); (case za => k_is); (case zl => k_is); (case zc => k_is); (case zk => k_is))
    (case d_law_freely_asked => refine' Mo.defOk_mk KX G ?za ?zl ?zc ?zk (fun _ _ _ _ _ _ us hl => match us, hl with | [_, _], _ => rfl); (case za => k_is); (case zl => k_is); (case zc => k_is); (case zk => k_is))
    (case d_law_near_asked => refine' Mo.defOk_mk KX G ?za ?zl ?zc ?zk (fun _ _ _ _ _ _ us hl => match us, hl with | [_, _], _ => rfl); (case za => k_is); (case zl => k_is); (case zc => k_is); (case zk => k_is))
    (case d_law => refine' Mo.defOk_mk KX G ?za ?zl ?zc ?zk (fun _ _ _ _ _ _ us hl => match us, hl with | [_], _ => rfl); (case za => k_is); (case zl => k_is); (case zc => k_is); (case zk => k_is))
    (case g_MOST_WORKERS => refine' Mo.gint_mk KX G ?za; (case za => k_is))
    (case g_LATEST => refine' Mo.gint_mk KX G ?za; (case za => k_is))
    (case t_SplitError => refine' (Mo.tblOk_cons ?zm_BadNumber ?za_BadNumber ?zb_BadNumber ?zc_BadNumber ?zd_BadNumber (Mo.tblOk_cons ?zm_BadPlan ?za_BadPlan ?zb_BadPlan ?zc_BadPlan ?zd_BadPlan Mo.tblOk_nil)); (case zm_BadNumber => refine' PySem.W.mg_of KX G ?za; (case za => k_is)); (case za_BadNumber => k_is); (case zb_BadNumber => k_is); (case zc_BadNumber => k_is); (case zd_BadNumber => first | rfl | k_is); (case zm_BadPlan => refine' PySem.W.mg_of KX G ?za; (case za => k_is)); (case za_BadPlan => k_is); (case zb_BadPlan => k_is); (case zc_BadPlan => k_is); (case zd_BadPlan => first | rfl | k_is))
    (case i_BadNumber => refine' (Mo.isTbl_cons ?zm_BadNumber ?ze_BadNumber ?zk_BadNumber (Mo.isTbl_cons ?zm_BadPlan ?ze_BadPlan ?zk_BadPlan Mo.isTbl_nil)); (case zm_BadNumber => refine' PySem.W.mg_of KX G ?za; (case za => k_is)); (case ze_BadNumber => refine' ⟨?zhg, ?zhk, ?zhs, ?zhd, ?zha, ?zhn, ?zht, ?zhm⟩; (case zhg => k_is); (case zhk => k_is); (case zhs => k_is); (case zhd => k_is); (case zha => k_is); (case zhn => k_is); (case zht => k_is); (case zhm => k_is)); (case zk_BadNumber => first | rfl | k_is); (case zm_BadPlan => refine' PySem.W.mg_of KX G ?za; (case za => k_is)); (case ze_BadPlan => refine' ⟨?zhg, ?zhk, ?zhs, ?zhd, ?zha, ?zhn, ?zht, ?zhm⟩; (case zhg => k_is); (case zhk => k_is); (case zhs => k_is); (case zhd => k_is); (case zha => k_is); (case zhn => k_is); (case zht => k_is); (case zhm => k_is)); (case zk_BadPlan => first | rfl | k_is))
    (case i_BadPlan => refine' (Mo.isTbl_cons ?zm_BadNumber ?ze_BadNumber ?zk_BadNumber (Mo.isTbl_cons ?zm_BadPlan ?ze_BadPlan ?zk_BadPlan Mo.isTbl_nil)); (case zm_BadNumber => refine' PySem.W.mg_of KX G ?za; (case za => k_is)); (case ze_BadNumber => refine' ⟨?zhg, ?zhk, ?zhs, ?zhd, ?zha, ?zhn, ?zht, ?zhm⟩; (case zhg => k_is); (case zhk => k_is); (case zhs => k_is); (case zhd => k_is); (case zha => k_is); (case zhn => k_is); (case zht => k_is); (case zhm => k_is)); (case zk_BadNumber => first | rfl | k_is); (case zm_BadPlan => refine' PySem.W.mg_of KX G ?za; (case za => k_is)); (case ze_BadPlan => refine' ⟨?zhg, ?zhk, ?zhs, ?zhd, ?zha, ?zhn, ?zht, ?zhm⟩; (case zhg => k_is); (case zhk => k_is); (case zhs => k_is); (case zhd => k_is); (case zha => k_is); (case zhn => k_is); (case zht => k_is); (case zhm => k_is)); (case zk_BadPlan => first | rfl | k_is))
    (case n_abs => refine' Mo.gnone_mk KX G ?za; (case za => k_is))
    (case n_all => refine' Mo.gnone_mk KX G ?za; (case za => k_is))
    (case n_bool => refine' Mo.gnone_mk KX G ?za; (case za => k_is))
    (case n_enumerate => refine' Mo.gnone_mk KX G ?za; (case za => k_is))
    (case n_int => refine' Mo.gnone_mk KX G ?za; (case za => k_is))
    (case n_isinstance => refine' Mo.gnone_mk KX G ?za; (case za => k_is))
    (case n_len => refine' Mo.gnone_mk KX G ?za; (case za => k_is))
    (case n_list => refine' Mo.gnone_mk KX G ?za; (case za => k_is))
    (case n_max => refine' Mo.gnone_mk KX G ?za; (case za => k_is))
    (case n_min => refine' Mo.gnone_mk KX G ?za; (case za => k_is))
    (case n_range => refine' Mo.gnone_mk KX G ?za; (case za => k_is))
    (case n_sorted => refine' Mo.gnone_mk KX G ?za; (case za => k_is))
    (case n_sum => refine' Mo.gnone_mk KX G ?za; (case za => k_is))
    (case n_tuple => refine' Mo.gnone_mk KX G ?za; (case za => k_is))
