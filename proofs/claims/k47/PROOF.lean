import PyProof.Rows.All
import Wide.All
import OpenK.AllK
import Wide.FinOn
import HandS.ForMost
import HandS.AnyAll
import HandS.Conv
import HandS.Walk
import HandS.Zip
import HandS.Rev
import HandS.RevRange
import HandS.Deep
import HandS.Flow
import HandS.Style
import HandS.TupAny
import HandS.TupMul
import HandS.IsInst
import KE.DataEq
import HandS.Dict
import KE.KDictLaw
import HandS.WordsDict
import KE.KDictCopyH
import KE.KDictItemsList
import KE.KDictDisplayH
import PyProof.Rows.SeqRoads
import KE.DataCmp
import HandS.Gcd
import KE.SortData
import HandS.SortInts
import HandS.Text
import KE.DataFind
import KE.DataMinMax
import KE.GoesEnum
import HandS.GenOver
import HandS.EndOwn
import HandS.Replace
import HandS.SetFor
import HandS.TupSets
import HandS.TupLe
import HandS.StrMore
import PySem.Challenge.RW_shadehall_k47_whole_rows_alike_from_both
set_option Elab.async false
set_option linter.all false
set_option autoImplicit false
set_option maxRecDepth 100000
set_option maxHeartbeats 4000000
/-! Pu: values as data, without the heap. -/
namespace Pu
open PySem PySem.Spec PyProof.Rows L2 GxR

/-! ### data held by a value -/
/-- a list that is read: at an address of A, or the module's own -/
abbrev LsAt (K : PySem.W.Frag) (H : Hp) (A : Addr → Prop) (a : Addr) (ys : List V) : Prop := (A a ∧ Rd H a (.lst ys)) ∨ SqL K (fun _ => none) a ys
theorem LsAt.sql {K : PySem.W.Frag} {H : Hp} {A : Addr → Prop} {a : Addr} {ys : List V} (h : LsAt K H A a ys) : SqL K H a ys := by
  rcases h with ⟨_, h⟩ | h
  · exact .inl h
  · rcases h with h | h
    · rcases h with h | ⟨o, h⟩ <;> cases h
    · exact .inr h
/-- a tuple at a -/
def TpT (H : Hp) (a : Addr) (ys : List V) : Prop := H a = some (.tup ys)
theorem TpT.of {H : Hp} {a : Addr} {ys : List V} (h : H a = some (.tup ys)) : TpT H a ys := h
theorem TpT.sqt {K : PySem.W.Frag} {H : Hp} {a : Addr} {ys : List V} (h : TpT H a ys) : SqT K H a ys := .of h
instance {K : PySem.W.Frag} {H : Hp} {a : Addr} {ys : List V} : Coe (TpT H a ys) (SqT K H a ys) := ⟨fun h => h.sqt⟩
/-- a key as data -/
def kD : L2.Key → PyData
  | .inl i => .int i
  | .inr x => .str x
/-- a dict at a: its keys, its values -/
def DcAt (H : Hp) (a : Addr) (ks : List PyData) (vs : List V) : Prop :=
  (∃ kvs : List (L2.Key × V), H a = some (.dK kvs) ∧ ks = kvs.map (fun p => kD p.1) ∧ vs = kvs.map (·.2)) ∨ ∃ kvs : List (List L2.Key × V), H a = some (.dT kvs) ∧ kvs ≠ [] ∧ ks = kvs.map (fun p => .tuple (p.1.map kD)) ∧ vs = kvs.map (·.2)
/-- a thing of one's own: a list, a dict -/
def IsOw (o : HO) : Prop := (∃ zs, o = .lst zs) ∨ (∃ zs, o = .dK zs) ∨ ∃ zs, o = .dT zs
theorem IsOw.ntup {xs : List V} (h : IsOw (.tup xs)) : False := by rcases h with ⟨_, q⟩ | ⟨_, q⟩ | ⟨_, q⟩ <;> cases q
theorem IsOw.nfrz {o : Obj} {u : HO} (h : IsOw (.frz o u)) : False := by rcases h with ⟨_, q⟩ | ⟨_, q⟩ | ⟨_, q⟩ <;> cases q
theorem IsOw.ntbl {ps : Array Value} (h : IsOw (.tbl ps)) : False := by rcases h with ⟨_, q⟩ | ⟨_, q⟩ | ⟨_, q⟩ <;> cases q
theorem IsOw.nt {o : HO} (h : IsOw o) : ∀ ps, o ≠ HO.tbl ps := fun ps e => by subst e; exact h.ntbl
theorem DcAt.is {H : Hp} {a : Addr} {ks : List PyData} {vs : List V} (h : DcAt H a ks vs) : ∃ o, H a = some o ∧ IsOw o := by
  rcases h with ⟨kvs, e, _⟩ | ⟨kvs, e, _⟩
  · exact ⟨_, e, .inr (.inl ⟨_, rfl⟩)⟩
  · exact ⟨_, e, .inr (.inr ⟨_, rfl⟩)⟩
theorem DcAt.to {H H' : Hp} {a : Addr} {ks : List PyData} {vs : List V} (h : DcAt H a ks vs) (k : ∀ o, H a = some o → IsOw o → H' a = some o) : DcAt H' a ks vs := by
  rcases h with ⟨kvs, e, q⟩ | ⟨kvs, e, q⟩
  · exact .inl ⟨kvs, k _ e (.inr (.inl ⟨_, rfl⟩)), q⟩
  · exact .inr ⟨kvs, k _ e (.inr (.inr ⟨_, rfl⟩)), q⟩
theorem DcAt.len {H : Hp} {a : Addr} {ks : List PyData} {vs : List V} (h : DcAt H a ks vs) : ks.length = vs.length := by
  rcases h with ⟨kvs, _, rfl, rfl⟩ | ⟨kvs, _, _, rfl, rfl⟩ <;> simp
mutual
/-- the value v stands for the data d; its lists stand at addresses of A -/
inductive Rep (K : PySem.W.Frag) (H : Hp) (A : Addr → Prop) : PyData → V → Prop
  | non : Rep K H A .none .non
  | bl (b : Bool) : Rep K H A (.bool b) (.bl b)
  | int (i : Int) : Rep K H A (.int i) (.int i)
  | str (x : Str) : Rep K H A (.str x) (.str x)
  | tup {a : Addr} {ys : List V} {ds : List PyData} : TpT H a ys → Reps K H A ds ys → Rep K H A (.tuple ds) (.ref a)
  | lst {a : Addr} {ys : List V} {ds : List PyData} : LsAt K H A a ys → Reps K H A ds ys → Rep K H A (.list ds) (.ref a)
  | dct {a : Addr} {vs : List V} {kvs : List (PyData × PyData)} : A a → DcAt H a (kvs.map (·.1)) vs → Reps K H A (kvs.map (·.2)) vs → Rep K H A (.dict kvs) (.ref a)
inductive Reps (K : PySem.W.Frag) (H : Hp) (A : Addr → Prop) : List PyData → List V → Prop
  | nil : Reps K H A [] []
  | cons {d : PyData} {v : V} {ds : List PyData} {vs : List V} : Rep K H A d v → Reps K H A ds vs → Reps K H A (d :: ds) (v :: vs)
end
section
variable {K : PySem.W.Frag} {H H' : Hp} {A A' : Addr → Prop}
mutual
theorem Rep.imp (hT : ∀ a ys, TpT H a ys → TpT H' a ys) (hL : ∀ a ys, A a → Rd H a (.lst ys) → A' a ∧ Rd H' a (.lst ys)) (hC : ∀ a ks vs, A a → DcAt H a ks vs → A' a ∧ DcAt H' a ks vs) : ∀ {d : PyData} {v : V}, Rep K H A d v → Rep K H' A' d v
  | _, _, .non => .non
  | _, _, .bl b => .bl b
  | _, _, .int i => .int i
  | _, _, .str x => .str x
  | _, _, .tup h r => .tup (hT _ _ h) (Reps.imp hT hL hC r)
  | _, _, .lst h r => .lst (h.imp (fun z => hL _ _ z.1 z.2) id) (Reps.imp hT hL hC r)
  | _, _, .dct h h2 r => .dct (hC _ _ _ h h2).1 (hC _ _ _ h h2).2 (Reps.imp hT hL hC r)
theorem Reps.imp (hT : ∀ a ys, TpT H a ys → TpT H' a ys) (hL : ∀ a ys, A a → Rd H a (.lst ys) → A' a ∧ Rd H' a (.lst ys)) (hC : ∀ a ks vs, A a → DcAt H a ks vs → A' a ∧ DcAt H' a ks vs) : ∀ {ds : List PyData} {vs : List V}, Reps K H A ds vs → Reps K H' A' ds vs
  | _, _, .nil => .nil
  | _, _, .cons r rs => .cons (Rep.imp hT hL hC r) (Reps.imp hT hL hC rs)
end
mutual
theorem Rep.dp : ∀ {d : PyData} {v : V}, Rep K H A d v → d.plain = true → Dp K H v d
  | _, _, .non, _ => .non
  | _, _, .bl b, _ => .bl b
  | _, _, .int i, _ => .int i
  | _, _, .str x, _ => .str x
  | _, _, .tup h r, e => .tup h (Reps.dp r (by rw [PyData.plain] at e; exact e))
  | _, _, .lst h r, e => .lst h.sql (Reps.dp r (by rw [PyData.plain] at e; exact e))
  | _, _, .dct _ _ _, e => by simp [PyData.plain] at e
theorem Reps.dp : ∀ {ds : List PyData} {vs : List V}, Reps K H A ds vs → PyData.plainAll ds = true → DpAll K H vs ds
  | _, _, .nil, _ => .nil
  | _, _, .cons r rs, e => by
    simp only [PyData.plainAll, Bool.and_eq_true] at e
    exact .cons (Rep.dp r e.1) (Reps.dp rs e.2)
end
theorem Reps.length : ∀ {ds : List PyData} {vs : List V}, Reps K H A ds vs → ds.length = vs.length
  | _, _, .nil => rfl
  | _, _, .cons _ rs => congrArg (· + 1) (Reps.length rs)
theorem Reps.get : ∀ {ds : List PyData} {vs : List V} {i : Nat} {d : PyData}, Reps K H A ds vs → ds[i]? = some d → ∃ v, vs[i]? = some v ∧ Rep K H A d v
  | _, _, _, _, .nil, e => by simp at e
  | _, _, 0, _, .cons r _, e => by simp at e; subst e; exact ⟨_, rfl, r⟩
  | _, _, i + 1, _, .cons _ rs, e => by
    obtain ⟨v, h1, h2⟩ := Reps.get (i := i) rs (by simpa using e)
    exact ⟨v, by simpa using h1, h2⟩
theorem Reps.get' : ∀ {ds : List PyData} {vs : List V} {i : Nat} {v : V}, Reps K H A ds vs → vs[i]? = some v → ∃ d, ds[i]? = some d ∧ Rep K H A d v
  | _, _, _, _, .nil, e => by simp at e
  | _, _, 0, _, .cons r _, e => by simp at e; subst e; exact ⟨_, rfl, r⟩
  | _, _, i + 1, _, .cons _ rs, e => by
    obtain ⟨v, h1, h2⟩ := Reps.get' (i := i) rs (by simpa using e)
    exact ⟨v, by simpa using h1, h2⟩
theorem Reps.append : ∀ {ds es : List PyData} {vs ws : List V}, Reps K H A ds vs → Reps K H A es ws → Reps K H A (ds ++ es) (vs ++ ws)
  | _, _, _, _, .nil, s => s
  | _, _, _, _, .cons r t, s => .cons r (Reps.append t s)
theorem Reps.take : ∀ {ds : List PyData} {vs : List V} (n : Nat), Reps K H A ds vs → Reps K H A (ds.take n) (vs.take n)
  | _, _, 0, _ => .nil
  | _, _, _ + 1, .nil => .nil
  | _, _, n + 1, .cons r t => .cons r (Reps.take n t)
theorem Reps.drop : ∀ {ds : List PyData} {vs : List V} (n : Nat), Reps K H A ds vs → Reps K H A (ds.drop n) (vs.drop n)
  | _, _, 0, r => r
  | _, _, _ + 1, .nil => .nil
  | _, _, n + 1, .cons _ t => Reps.drop n t
theorem Reps.reverse {ds : List PyData} {vs : List V} (h : Reps K H A ds vs) : Reps K H A ds.reverse vs.reverse := by
  induction h using Reps.rec (motive_1 := fun _ _ _ => True) with
  | nil => exact .nil
  | cons r rs _ ih => rw [List.reverse_cons, List.reverse_cons]; exact ih.append (.cons r .nil)
  | _ => trivial
theorem Reps.set : ∀ {ds : List PyData} {vs : List V} {d : PyData} {v : V} (i : Nat), Reps K H A ds vs → Rep K H A d v → Reps K H A (ds.set i d) (vs.set i v)
  | _, _, _, _, _, .nil, _ => .nil
  | _, _, _, _, 0, .cons _ t, r => .cons r t
  | _, _, _, _, i + 1, .cons q t, r => .cons q (Reps.set i t r)
theorem Reps.eraseIdx : ∀ {ds : List PyData} {vs : List V} (i : Nat), Reps K H A ds vs → Reps K H A (ds.eraseIdx i) (vs.eraseIdx i)
  | _, _, _, .nil => .nil
  | _, _, 0, .cons _ t => t
  | _, _, i + 1, .cons q t => .cons q (Reps.eraseIdx i t)
theorem Reps.dropLast {ds : List PyData} {vs : List V} (h : Reps K H A ds vs) : Reps K H A ds.dropLast vs.dropLast := by
  rw [List.dropLast_eq_take, List.dropLast_eq_take, h.length]; exact h.take _
theorem Reps.rep {ds : List PyData} {vs : List V} (h : Reps K H A ds vs) : ∀ n : Nat, Reps K H A (List.replicate n ds).flatten (List.replicate n vs).flatten
  | 0 => .nil
  | n + 1 => by rw [List.replicate_succ, List.replicate_succ, List.flatten_cons, List.flatten_cons]; exact h.append (Reps.rep h n)
theorem Reps.ints : ∀ (ns : List Int), Reps K H A (ns.map .int) (ns.map V.int)
  | [] => .nil
  | n :: ns => .cons (.int n) (Reps.ints ns)
theorem Reps.strs : ∀ (ns : List Str), Reps K H A (ns.map .str) (ns.map V.str)
  | [] => .nil
  | n :: ns => .cons (.str n) (Reps.strs ns)
theorem Reps.bls : ∀ (ns : List Bool), Reps K H A (ns.map .bool) (ns.map V.bl)
  | [] => .nil
  | n :: ns => .cons (.bl n) (Reps.bls ns)
theorem Reps.of_ints : ∀ {ns : List Int} {vs : List V}, Reps K H A (ns.map .int) vs → vs = ns.map V.int
  | [], _, .nil => rfl
  | n :: ns, _, .cons (.int _) rs => by rw [Reps.of_ints rs]; rfl
theorem Reps.of_strs : ∀ {ns : List Str} {vs : List V}, Reps K H A (ns.map .str) vs → vs = ns.map V.str
  | [], _, .nil => rfl
  | n :: ns, _, .cons (.str _) rs => by rw [Reps.of_strs rs]; rfl
theorem Reps.of_bls : ∀ {ns : List Bool} {vs : List V}, Reps K H A (ns.map .bool) vs → vs = ns.map V.bl
  | [], _, .nil => rfl
  | n :: ns, _, .cons (.bl _) rs => by rw [Reps.of_bls rs]; rfl
end

mutual
/-- no list within -/
def noL : PyData → Bool
  | .list _ => false
  | .dict _ => false
  | .tuple xs => noLs xs
  | _ => true
def noLs : List PyData → Bool
  | [] => true
  | x :: xs => noL x && noLs xs
end
section
variable {K : PySem.W.Frag} {H H' : Hp} {A A' : Addr → Prop}
mutual
theorem Rep.flat : ∀ {d : PyData} {v : V}, Rep K H A d v → noL d = true → Rep K H A' d v
  | _, _, .non, _ => .non
  | _, _, .bl b, _ => .bl b
  | _, _, .int i, _ => .int i
  | _, _, .str x, _ => .str x
  | _, _, .tup h r, e => .tup h (Reps.flat r (by simpa [noL] using e))
  | _, _, .lst _ _, e => by simp [noL] at e
  | _, _, .dct _ _ _, e => by simp [noL] at e
theorem Reps.flat : ∀ {ds : List PyData} {vs : List V}, Reps K H A ds vs → noLs ds = true → Reps K H A' ds vs
  | _, _, .nil, _ => .nil
  | _, _, .cons r rs, e => by
    simp [noLs] at e
    exact .cons (Rep.flat r e.1) (Reps.flat rs e.2)
end
end

/-! ### heaps that grow -/
structure Grow (H H' : Hp) : Prop where
  same : ∀ b o, (∀ ps, o ≠ HO.tbl ps) → H b = some o → H' b = some o
  tab : ∀ b, TabG H b → TabG H' b
  fresh : ∀ b, H' b = none → H b = none
section
variable {K : PySem.W.Frag} {H H' H'' : Hp} {A A' : Addr → Prop}
theorem Grow.refl (H : Hp) : Grow H H := ⟨fun _ _ _ h => h, fun _ h => h, fun _ h => h⟩
theorem Grow.trans (a : Grow H H') (b : Grow H' H'') : Grow H H'' := ⟨fun c o n h => b.same c o n (a.same c o n h), fun c h => b.tab c (a.tab c h), fun c h => a.fresh c (b.fresh c h)⟩
theorem Grow.of (h : Same H H') : Grow H H' := ⟨fun b o _ e => h b o e, fun b ⟨ps, e, t⟩ => ⟨ps, h _ _ e, t⟩, fun b e => h.free e⟩
theorem same_new {p : Addr} {o : HO} (h : H p = none) : Same H (upd H p o) := fun b x e => by
  rw [upd_ne (ne_of_none e h)]
  exact e
theorem Grow.new {p : Addr} {o : HO} (h : H p = none) : Grow H (upd H p o) := .of (same_new h)
theorem Grow.rd {a : Addr} {u : HO} (g : Grow H H') (nt : ∀ ps, u ≠ .tbl ps) (h : Rd H a u) : Rd H' a u := by
  rcases h with h | ⟨o, h⟩
  · exact .inl (g.same _ _ nt h)
  · exact .inr ⟨o, g.same _ _ (fun ps => HO.noConfusion) h⟩
theorem Grow.tpT {a : Addr} {ys : List V} (g : Grow H H') (h : TpT H a ys) : TpT H' a ys := g.same _ _ (fun ps => HO.noConfusion) h
theorem Grow.sqT {a : Addr} {ys : List V} (g : Grow H H') (h : SqT K H a ys) : SqT K H' a ys := by
  rcases h with h | h
  · exact .inl (g.rd (fun ps => HO.noConfusion) h)
  · exact .inr h
theorem Grow.sqL {a : Addr} {ys : List V} (g : Grow H H') (h : SqL K H a ys) : SqL K H' a ys := by
  rcases h with h | h
  · exact .inl (g.rd (fun ps => HO.noConfusion) h)
  · exact .inr h
theorem Grow.dc {a : Addr} {ks : List PyData} {vs : List V} (g : Grow H H') (h : DcAt H a ks vs) : DcAt H' a ks vs := h.to fun o e io => g.same _ _ io.nt e
theorem Rep.grow {d : PyData} {v : V} (r : Rep K H A d v) (g : Grow H H') (hA : ∀ a, A a → A' a) : Rep K H' A' d v := r.imp (fun _ _ => g.tpT) (fun a _ h1 h2 => ⟨hA a h1, g.rd (fun ps => HO.noConfusion) h2⟩) fun a _ _ h1 h2 => ⟨hA a h1, g.dc h2⟩
theorem Reps.grow {d : List PyData} {v : List V} (r : Reps K H A d v) (g : Grow H H') (hA : ∀ a, A a → A' a) : Reps K H' A' d v := r.imp (fun _ _ => g.tpT) (fun a _ h1 h2 => ⟨hA a h1, g.rd (fun ps => HO.noConfusion) h2⟩) fun a _ _ h1 h2 => ⟨hA a h1, g.dc h2⟩
theorem Rep.up {d : PyData} {v : V} (r : Rep K H A d v) (g : Grow H H') : Rep K H' A d v := r.grow g fun _ h => h
theorem Reps.up {d : List PyData} {v : List V} (r : Reps K H A d v) (g : Grow H H') : Reps K H' A d v := r.grow g fun _ h => h
theorem Rep.wide {d : PyData} {v : V} (r : Rep K H A d v) (hA : ∀ a, A a → A' a) : Rep K H A' d v := r.grow (.refl H) hA
theorem Reps.wide {d : List PyData} {v : List V} (r : Reps K H A d v) (hA : ∀ a, A a → A' a) : Reps K H A' d v := r.grow (.refl H) hA
theorem rd_some {a : Addr} {u : HO} (h : Rd H a u) : ∃ o, H a = some o := by
  rcases h with h | ⟨o, h⟩
  · exact ⟨_, h⟩
  · exact ⟨_, h⟩
/-- what stands in the heap keeps away from a free address -/
theorem Rep.away {d : PyData} {v : V} {p : Addr} (r : Rep K H A d v) (hp : H p = none) : Rep K H (fun a => A a ∧ a ≠ p) d v := r.imp (fun _ _ h => h) (fun a _ h1 h2 => ⟨⟨h1, fun e => by
  obtain ⟨o, q⟩ := rd_some h2
  rw [e, hp] at q; cases q⟩, h2⟩) fun a _ _ h1 h2 => ⟨⟨h1, fun e => by
  obtain ⟨o, q, _⟩ := h2.is
  rw [e, hp] at q; cases q⟩, h2⟩
theorem Reps.away {d : List PyData} {v : List V} {p : Addr} (r : Reps K H A d v) (hp : H p = none) : Reps K H (fun a => A a ∧ a ≠ p) d v := r.imp (fun _ _ h => h) (fun a _ h1 h2 => ⟨⟨h1, fun e => by
  obtain ⟨o, q⟩ := rd_some h2
  rw [e, hp] at q; cases q⟩, h2⟩) fun a _ _ h1 h2 => ⟨⟨h1, fun e => by
  obtain ⟨o, q, _⟩ := h2.is
  rw [e, hp] at q; cases q⟩, h2⟩
/-- a thing outside A is written -/
theorem rep_write {p : Addr} {o0 : HO} {o : HO} (hp : H p = some o0) (ho : IsOw o0) (hA : ¬ A p) : (∀ {d v}, Rep K H A d v → Rep K (upd H p o) A d v) ∧ (∀ {d v}, Reps K H A d v → Reps K (upd H p o) A d v) := by
  have hT : ∀ a ys, TpT H a ys → TpT (upd H p o) a ys := fun a ys h => by
    have h : H a = some (.tup ys) := h
    exact .of (by rw [upd_ne (fun z => by rw [z, hp] at h; cases h; exact ho.ntup)]; exact h)
  have hL : ∀ a ys, A a → Rd H a (.lst ys) → A a ∧ Rd (upd H p o) a (.lst ys) := fun a ys h1 h2 => by
    have ne : a ≠ p := fun e => hA (e ▸ h1)
    refine ⟨h1, ?_⟩
    rcases h2 with h2 | ⟨ob, h2⟩
    · exact .inl (by rw [upd_ne ne]; exact h2)
    · exact .inr ⟨ob, by rw [upd_ne ne]; exact h2⟩
  have hC : ∀ a ks vs, A a → DcAt H a ks vs → A a ∧ DcAt (upd H p o) a ks vs := fun a ks vs h1 h2 => ⟨h1, h2.to fun ob e _ => by
    have ne : a ≠ p := fun z => hA (z ▸ h1)
    rw [upd_ne ne]; exact e⟩
  exact ⟨fun r => r.imp hT hL hC, fun r => r.imp hT hL hC⟩
end
end Pu

set_option Elab.async false
set_option linter.all false
set_option autoImplicit false
set_option maxRecDepth 100000
set_option maxHeartbeats 4000000
namespace Pu
open PySem PySem.Spec PyProof.Rows L2 GxR

/-! ### a def's slots: empty, a value, a list of one's own -/
inductive Sl where
  | un
  | va (d : PyData)
  | ow (ds : List PyData)
  | od (kvs : List (PyData × PyData))
abbrev Sls := List Sl
def Sl.own : Sl → Bool
  | .ow _ => true
  | .od _ => true
  | _ => false
@[simp] theorem Sl.own_un : Sl.un.own = false := rfl
@[simp] theorem Sl.own_va (d : PyData) : (Sl.va d).own = false := rfl
@[simp] theorem Sl.own_ow (d : List PyData) : (Sl.ow d).own = true := rfl
@[simp] theorem Sl.own_od (d : List (PyData × PyData)) : (Sl.od d).own = true := rfl
def OWx (ms : List Nat) (env : Sls) (σ : L2.St) : Addr → Prop := fun a => ∃ (i : Nat) (s : Sl), (env[i]? = some s ∧ s.own = true) ∧ i ∉ ms ∧ σ[i]? = some (some (.ref a))
/-- what stands at a slot's own thing -/
def OwR (K : PySem.W.Frag) (H : Hp) (A : Addr → Prop) (s : Sl) (a : Addr) : Prop := match s with
  | .ow ds => ∃ ys, H a = some (.lst ys) ∧ Reps K H A ds ys
  | .od kvs => ∃ vs, DcAt H a (kvs.map (·.1)) vs ∧ Reps K H A (kvs.map (·.2)) vs
  | _ => False
section
variable {K : PySem.W.Frag} {H H' : Hp} {A A' : Addr → Prop} {s : Sl} {a : Addr}
theorem OwR.is (h : OwR K H A s a) : ∃ o, H a = some o ∧ IsOw o := by
  cases s with
  | ow ds => obtain ⟨ys, e, _⟩ := h; exact ⟨_, e, .inl ⟨_, rfl⟩⟩
  | od kvs => obtain ⟨vs, e, _⟩ := h; exact e.is
  | _ => exact h.elim
theorem OwR.up (h : OwR K H A s a) (g : Grow H H') : OwR K H' A s a := by
  cases s with
  | ow ds => obtain ⟨ys, e, r⟩ := h; exact ⟨ys, g.same _ _ (fun _ => HO.noConfusion) e, r.up g⟩
  | od kvs => obtain ⟨vs, e, r⟩ := h; exact ⟨vs, g.dc e, r.up g⟩
  | _ => exact h.elim
theorem OwR.wide (h : OwR K H A s a) (w : ∀ a, A a → A' a) : OwR K H A' s a := by
  cases s with
  | ow ds => obtain ⟨ys, e, r⟩ := h; exact ⟨ys, e, r.wide w⟩
  | od kvs => obtain ⟨vs, e, r⟩ := h; exact ⟨vs, e, r.wide w⟩
  | _ => exact h.elim
theorem OwR.away {p : Addr} (h : OwR K H A s a) (hp : H p = none) : OwR K H (fun a => A a ∧ a ≠ p) s a := by
  cases s with
  | ow ds => obtain ⟨ys, e, r⟩ := h; exact ⟨ys, e, r.away hp⟩
  | od kvs => obtain ⟨vs, e, r⟩ := h; exact ⟨vs, e, r.away hp⟩
  | _ => exact h.elim
theorem OwR.write {p : Addr} {o0 : HO} {o : HO} (h : OwR K H A s a) (hp : H p = some o0) (ho : IsOw o0) (hA : ¬ A p) (ne : a ≠ p) : OwR K (upd H p o) A s a := by
  cases s with
  | ow ds => obtain ⟨ys, e, r⟩ := h; exact ⟨ys, by rw [upd_ne ne]; exact e, (rep_write hp ho hA).2 r⟩
  | od kvs => obtain ⟨vs, e, r⟩ := h; exact ⟨vs, e.to fun ob q _ => by rw [upd_ne ne]; exact q, (rep_write hp ho hA).2 r⟩
  | _ => exact h.elim
end
abbrev OW (env : Sls) (σ : L2.St) : Addr → Prop := OWx [] env σ
def sel (ms : List Nat) (A : Addr → Prop) (env : Sls) (σ : L2.St) : Addr → Prop := fun a => A a ∧ ¬ OWx ms env σ a
theorem OWx.sub {ms ns : List Nat} {env : Sls} {σ : L2.St} {a : Addr} (h : OWx ms env σ a) (hs : ∀ i ∈ ns, i ∈ ms) : OWx ns env σ a := by
  obtain ⟨i, s, e, n, q⟩ := h
  exact ⟨i, s, e, fun z => n (hs i z), q⟩
theorem sel.sub {ms ns : List Nat} {A : Addr → Prop} {env : Sls} {σ : L2.St} {a : Addr} (h : sel ms A env σ a) (hs : ∀ i ∈ ms, i ∈ ns) : sel ns A env σ a := ⟨h.1, fun z => h.2 (z.sub hs)⟩
theorem sel.l {ms ns : List Nat} {A : Addr → Prop} {env : Sls} {σ : L2.St} {a : Addr} (h : sel ms A env σ a) : sel (ms ++ ns) A env σ a := h.sub fun i z => List.mem_append_left _ z
theorem sel.r {ms ns : List Nat} {A : Addr → Prop} {env : Sls} {σ : L2.St} {a : Addr} (h : sel ns A env σ a) : sel (ms ++ ns) A env σ a := h.sub fun i z => List.mem_append_right _ z

structure EnvRep (K : PySem.W.Frag) (TB A : Addr → Prop) (H0 H : Hp) (σ : L2.St) (env : Sls) : Prop where
  len : σ.length = env.length
  va : ∀ (i : Nat) (d : PyData), env[i]? = some (Sl.va d) → ∃ x, σ[i]? = some (some x) ∧ Rep K H (sel [] A env σ) d x
  ows : ∀ (i : Nat) (s : Sl), env[i]? = some s → s.own = true → ∃ a, σ[i]? = some (some (.ref a)) ∧ OwR K H (sel [] A env σ) s a ∧ A a ∧ H0 a = none
  injs : ∀ (i j : Nat) (s t : Sl) (a : Addr), env[i]? = some s → s.own = true → env[j]? = some t → t.own = true → σ[i]? = some (some (.ref a)) → σ[j]? = some (some (.ref a)) → i = j
  grow : Grow H0 H
  free : ∀ a, H a = none → A a
  tabs : ∀ b, TB b → TabG H b

section
variable {K : PySem.W.Frag} {TB A : Addr → Prop} {H0 H H' : Hp} {σ : L2.St} {env : Sls}
theorem EnvRep.ow (E : EnvRep K TB A H0 H σ env) (i : Nat) (ds : List PyData) (h : env[i]? = some (Sl.ow ds)) : ∃ a ys, σ[i]? = some (some (.ref a)) ∧ H a = some (.lst ys) ∧ A a ∧ H0 a = none ∧ Reps K H (sel [] A env σ) ds ys := by
  obtain ⟨a, h1, ⟨ys, h2, h3⟩, h4, h5⟩ := E.ows i _ h rfl
  exact ⟨a, ys, h1, h2, h4, h5, h3⟩
theorem EnvRep.od (E : EnvRep K TB A H0 H σ env) (i : Nat) (kvs : List (PyData × PyData)) (h : env[i]? = some (Sl.od kvs)) : ∃ a vs, σ[i]? = some (some (.ref a)) ∧ DcAt H a (kvs.map (·.1)) vs ∧ A a ∧ H0 a = none ∧ Reps K H (sel [] A env σ) (kvs.map (·.2)) vs := by
  obtain ⟨a, h1, ⟨ys, h2, h3⟩, h4, h5⟩ := E.ows i _ h rfl
  exact ⟨a, ys, h1, h2, h4, h5, h3⟩
theorem EnvRep.inj (E : EnvRep K TB A H0 H σ env) (i j : Nat) (ds es : List PyData) (a : Addr) (h1 : env[i]? = some (Sl.ow ds)) (h2 : env[j]? = some (Sl.ow es)) (h3 : σ[i]? = some (some (.ref a))) (h4 : σ[j]? = some (some (.ref a))) : i = j :=
  E.injs i j _ _ a h1 rfl h2 rfl h3 h4
theorem EnvRep.owl (E : EnvRep K TB A H0 H σ env) {ms : List Nat} {a : Addr} (h : OWx ms env σ a) : ∃ o, (H a = some o ∧ IsOw o) ∧ A a ∧ H0 a = none := by
  obtain ⟨i, s, ⟨e, hs⟩, _, q⟩ := h
  obtain ⟨b, e1, e2, e3, e4⟩ := E.ows i s e hs
  rw [q] at e1; cases e1
  obtain ⟨o, h1, h2⟩ := e2.is
  exact ⟨o, ⟨h1, h2⟩, e3, e4⟩
theorem EnvRep.up (E : EnvRep K TB A H0 H σ env) (g : Grow H H') : EnvRep K TB A H0 H' σ env where
  len := E.len
  va i d e := let ⟨x, h1, h2⟩ := E.va i d e; ⟨x, h1, h2.up g⟩
  ows i s e hs := let ⟨a, h1, h2, h3, h4⟩ := E.ows i s e hs; ⟨a, h1, h2.up g, h3, h4⟩
  injs := E.injs
  grow := E.grow.trans g
  free a e := E.free a (g.fresh a e)
  tabs b e := g.tab b (E.tabs b e)
theorem EnvRep.selfree (E : EnvRep K TB A H0 H σ env) (ms : List Nat) : ∀ a, H a = none → sel ms A env σ a := fun a e => ⟨E.free a e, fun z => by
  obtain ⟨ys, ⟨q, _⟩, _⟩ := E.owl z
  rw [e] at q; cases q⟩

/-- the slots ms given up -/
def freeze1 (i : Nat) (env : Sls) : Sls := match env[i]? with
  | some (.ow ds) => env.set i (.va (.list ds))
  | some (.od kvs) => env.set i (.va (.dict kvs))
  | _ => env
def freeze : List Nat → Sls → Sls
  | [], env => env
  | i :: is, env => freeze is (freeze1 i env)
theorem freeze1_len (i : Nat) (env : Sls) : (freeze1 i env).length = env.length := by
  unfold freeze1; split <;> simp
theorem freeze_len : ∀ (ms : List Nat) (env : Sls), (freeze ms env).length = env.length
  | [], _ => rfl
  | i :: is, env => by unfold freeze; rw [freeze_len is, freeze1_len]
theorem freeze1_ownI {i j : Nat} {env : Sls} {s : Sl} (hs : s.own = true) : (freeze1 i env)[j]? = some s ↔ env[j]? = some s ∧ j ≠ i := by
  have key : ∀ (t : Sl) (d : PyData), env[i]? = some t → t.own = true → ((env.set i (.va d))[j]? = some s ↔ env[j]? = some s ∧ j ≠ i) := fun t d h _ => by
    have hi : i < env.length := (List.getElem?_eq_some_iff.mp h).1
    by_cases hj : j = i
    · subst hj; rw [List.getElem?_set_self hi]
      constructor
      · intro e; cases e; cases hs
      · intro e; exact absurd rfl e.2
    · rw [List.getElem?_set_ne (Ne.symm hj)]; simp [hj]
  unfold freeze1
  split
  · rename_i es h; exact key _ _ h rfl
  · rename_i es h; exact key _ _ h rfl
  · rename_i h1 h2
    refine ⟨fun e => ⟨e, fun z => ?_⟩, fun e => e.1⟩
    subst z
    cases s with
    | ow ds => exact h1 _ e
    | od ds => exact h2 _ e
    | _ => cases hs
theorem freeze_ownI : ∀ {ms : List Nat} {j : Nat} {env : Sls} {s : Sl}, s.own = true → ((freeze ms env)[j]? = some s ↔ env[j]? = some s ∧ j ∉ ms)
  | [], _, _, _, _ => by simp [freeze]
  | i :: is, j, env, s, hs => by
    unfold freeze
    rw [freeze_ownI (ms := is) hs, freeze1_ownI hs]
    simp only [List.mem_cons, not_or]
    constructor
    · rintro ⟨⟨a, b⟩, c⟩; exact ⟨a, b, c⟩
    · rintro ⟨a, b, c⟩; exact ⟨⟨a, b⟩, c⟩
theorem freeze_ow {ms : List Nat} {j : Nat} {env : Sls} {ds : List PyData} : (freeze ms env)[j]? = some (.ow ds) ↔ env[j]? = some (.ow ds) ∧ j ∉ ms := freeze_ownI rfl
theorem freeze_od {ms : List Nat} {j : Nat} {env : Sls} {ds : List (PyData × PyData)} : (freeze ms env)[j]? = some (.od ds) ↔ env[j]? = some (.od ds) ∧ j ∉ ms := freeze_ownI rfl
theorem OW_freeze {ms : List Nat} {env : Sls} {σ : L2.St} {a : Addr} : OW (freeze ms env) σ a ↔ OWx ms env σ a := by
  constructor
  · rintro ⟨i, ds, ⟨e, hs⟩, _, q⟩
    obtain ⟨e1, e2⟩ := (freeze_ownI hs).mp e
    exact ⟨i, ds, ⟨e1, hs⟩, e2, q⟩
  · rintro ⟨i, ds, ⟨e, hs⟩, n, q⟩
    exact ⟨i, ds, ⟨(freeze_ownI hs).mpr ⟨e, n⟩, hs⟩, by simp, q⟩
theorem sel_freeze {ms : List Nat} {A : Addr → Prop} {env : Sls} {σ : L2.St} {a : Addr} : sel [] A (freeze ms env) σ a ↔ sel ms A env σ a := by
  unfold sel
  rw [show OWx [] (freeze ms env) σ a ↔ OWx ms env σ a from OW_freeze]
theorem OWx_freeze1 {ms : List Nat} {i : Nat} {env : Sls} {σ : L2.St} {a : Addr} (h : OWx ms (freeze1 i env) σ a) : OWx ms env σ a := by
  obtain ⟨j, ds, ⟨e, hs⟩, n, q⟩ := h
  exact ⟨j, ds, ⟨((freeze1_ownI hs).mp e).1, hs⟩, n, q⟩
theorem EnvRep.freeze1 (E : EnvRep K TB A H0 H σ env) (i : Nat) : EnvRep K TB A H0 H σ (freeze1 i env) := by
  have wd : ∀ a, sel [] A env σ a → sel [] A (Pu.freeze1 i env) σ a := fun a h => ⟨h.1, fun z => h.2 (OWx_freeze1 z)⟩
  have slf : ∀ (s : Sl) (a : Addr), env[i]? = some s → s.own = true → σ[i]? = some (some (.ref a)) → A a → sel [] A (Pu.freeze1 i env) σ a := fun s a h hs h1 h3 => ⟨h3, fun z => by
    obtain ⟨k, t, ⟨e1, ht⟩, _, e2⟩ := z
    obtain ⟨e3, e4⟩ := (freeze1_ownI ht).mp e1
    exact e4 (E.injs k i t s a e3 ht h hs e2 h1)⟩
  have oth : ∀ (j : Nat) (d e : PyData), (env.set i (.va e))[j]? = some (Sl.va d) → i ≠ j → ∃ x, σ[j]? = some (some x) ∧ Rep K H (sel [] A (Pu.freeze1 i env) σ) d x := fun j d e h hj => by
    rw [List.getElem?_set_ne hj] at h
    obtain ⟨x, h1, h2⟩ := E.va j d h
    exact ⟨x, h1, h2.wide wd⟩
  refine ⟨by rw [freeze1_len]; exact E.len, fun j d e => ?_, fun j s e hs => ?_, fun j k s t a e1 hs e2 ht => E.injs j k s t a ((freeze1_ownI hs).mp e1).1 hs ((freeze1_ownI ht).mp e2).1 ht, E.grow, E.free, E.tabs⟩
  · have e0 := e
    unfold Pu.freeze1 at e
    split at e
    · rename_i es h
      have hi : i < env.length := (List.getElem?_eq_some_iff.mp h).1
      by_cases hj : i = j
      · subst hj
        rw [List.getElem?_set_self hi] at e
        cases e
        obtain ⟨a, ys, h1, h2, h3, h4, h5⟩ := E.ow _ _ h
        exact ⟨_, h1, .lst (.inl ⟨slf _ a h rfl h1 h3, .inl h2⟩) (h5.wide wd)⟩
      · exact oth j d _ e hj
    · rename_i es h
      have hi : i < env.length := (List.getElem?_eq_some_iff.mp h).1
      by_cases hj : i = j
      · subst hj
        rw [List.getElem?_set_self hi] at e
        cases e
        obtain ⟨a, ys, h1, h2, h3, h4, h5⟩ := E.od _ _ h
        exact ⟨_, h1, .dct (slf _ a h rfl h1 h3) h2 (h5.wide wd)⟩
      · exact oth j d _ e hj
    · obtain ⟨x, h1, h2⟩ := E.va j d e
      exact ⟨x, h1, h2.wide wd⟩
  · obtain ⟨e1, _⟩ := (freeze1_ownI hs).mp e
    obtain ⟨a, h1, h2, h3, h4⟩ := E.ows j s e1 hs
    exact ⟨a, h1, h2.wide wd, h3, h4⟩
theorem EnvRep.freeze : ∀ (ms : List Nat) {env : Sls}, EnvRep K TB A H0 H σ env → EnvRep K TB A H0 H σ (freeze ms env)
  | [], _, E => E
  | i :: is, _, E => EnvRep.freeze is (E.freeze1 i)
/-- ms given up where the data d may hold one of them -/
def settle (ms : List Nat) (d : PyData) (env : Sls) : Sls := if noL d = true then env else freeze ms env
theorem settle_len (ms : List Nat) (d : PyData) (env : Sls) : (settle ms d env).length = env.length := by
  unfold settle; split
  · rfl
  · exact freeze_len _ _
theorem EnvRep.settle (E : EnvRep K TB A H0 H σ env) {ms : List Nat} {d : PyData} {x : V} (r : Rep K H (sel ms A env σ) d x) : EnvRep K TB A H0 H σ (settle ms d env) ∧ Rep K H (sel [] A (settle ms d env) σ) d x := by
  unfold Pu.settle
  split
  · rename_i h
    exact ⟨E, r.flat h⟩
  · exact ⟨E.freeze ms, r.wide fun a h => sel_freeze.mpr h⟩
theorem OW_settle {ms : List Nat} {d : PyData} {env : Sls} {σ : L2.St} {a : Addr} (h : OW (settle ms d env) σ a) : OW env σ a := by
  unfold settle at h
  split at h
  · exact h
  · exact (OW_freeze.mp h).sub (by simp)

/-! ### how a statement may change the heap -/
structure Evo (env : Sls) (σ : L2.St) (H : Hp) (env' : Sls) (σ' : L2.St) (H' : Hp) : Prop where
  stay : ∀ b o, ¬ OW env σ b → (∀ ps, o ≠ HO.tbl ps) → H b = some o → H' b = some o
  ow : ∀ a, OW env' σ' a → OW env σ a ∨ H a = none
  fresh : ∀ b, H' b = none → H b = none
  tab : ∀ b, TabG H b → TabG H' b
theorem Evo.refl (env : Sls) (σ : L2.St) (H : Hp) : Evo env σ H env σ H := ⟨fun _ _ _ _ h => h, fun _ h => .inl h, fun _ h => h, fun _ h => h⟩
theorem Evo.trans {env env' env'' : Sls} {σ σ' σ'' : L2.St} {H H' H'' : Hp} (a : Evo env σ H env' σ' H') (b : Evo env' σ' H' env'' σ'' H'') : Evo env σ H env'' σ'' H'' where
  stay c o n nt e := b.stay c o (fun z => (a.ow c z).elim n fun q => by rw [e] at q; cases q) nt (a.stay c o n nt e)
  ow c h := (b.ow c h).elim (a.ow c) fun q => .inr (a.fresh c q)
  fresh c h := a.fresh c (b.fresh c h)
  tab c h := b.tab c (a.tab c h)
theorem Evo.grow {env env' : Sls} {σ σ' : L2.St} {H H' : Hp} (g : Grow H H') (h : ∀ a, OW env' σ' a → OW env σ a ∨ H a = none) : Evo env σ H env' σ' H' :=
  ⟨fun b o _ nt e => g.same b o nt e, h, g.fresh, g.tab⟩

/-! ### stores to slots -/
theorem owx_set_va {env : Sls} {σ : L2.St} {i : Nat} {d : PyData} {x : V} {ms : List Nat} {a : Addr} (h : OWx ms (env.set i (.va d)) (σ.set i (some x)) a) : OWx ms env σ a := by
  obtain ⟨j, s, ⟨e, hs⟩, n, q⟩ := h
  by_cases hj : i = j
  · subst hj
    rw [List.getElem?_set] at e
    simp at e
    obtain ⟨_, e⟩ := e
    subst e
    cases hs
  · rw [List.getElem?_set_ne hj] at e q
    exact ⟨j, s, ⟨e, hs⟩, n, q⟩
theorem EnvRep.setVa (E : EnvRep K TB A H0 H σ env) (i : Nat) {d : PyData} {x : V} (r : Rep K H (sel [] A env σ) d x) : EnvRep K TB A H0 H (σ.set i (some x)) (env.set i (.va d)) := by
  have wd : ∀ a, sel [] A env σ a → sel [] A (env.set i (.va d)) (σ.set i (some x)) a := fun a h => ⟨h.1, fun z => h.2 (owx_set_va z)⟩
  have no : ∀ s : Sl, (env.set i (.va d))[i]? = some s → s.own = true → False := fun s h hs => by
    rw [List.getElem?_set] at h
    simp at h
    obtain ⟨_, h⟩ := h
    subst h
    cases hs
  refine ⟨by simp [E.len], fun j e h => ?_, fun j s h hs => ?_, fun j k s t a h1 hs h2 ht h3 h4 => ?_, E.grow, E.free, E.tabs⟩
  · by_cases hj : i = j
    · subst hj
      rw [List.getElem?_set] at h
      simp at h
      obtain ⟨hl, h⟩ := h
      subst h
      refine ⟨x, ?_, r.wide wd⟩
      rw [List.getElem?_set_self (by rw [E.len]; exact hl)]
    · rw [List.getElem?_set_ne hj] at h ⊢
      obtain ⟨y, h1, h2⟩ := E.va j e h
      exact ⟨y, h1, h2.wide wd⟩
  · by_cases hj : i = j
    · subst hj
      exact (no s h hs).elim
    · rw [List.getElem?_set_ne hj] at h ⊢
      obtain ⟨a, h1, h2, h3, h4⟩ := E.ows j s h hs
      exact ⟨a, h1, h2.wide wd, h3, h4⟩
  · by_cases hj : i = j
    · subst hj; exact (no s h1 hs).elim
    · by_cases hk : i = k
      · subst hk; exact (no t h2 ht).elim
      · rw [List.getElem?_set_ne hj] at h1 h3
        rw [List.getElem?_set_ne hk] at h2 h4
        exact E.injs j k s t a h1 hs h2 ht h3 h4
theorem owx_set_own {env : Sls} {σ : L2.St} {i : Nat} {t : Sl} {p : Addr} {ms : List Nat} {a : Addr} (h : OWx ms (env.set i t) (σ.set i (some (.ref p))) a) : OWx ms env σ a ∨ a = p := by
  obtain ⟨j, s, e, n, q⟩ := h
  by_cases hj : i = j
  · subst hj
    rw [List.getElem?_set] at q
    simp at q
    obtain ⟨_, q⟩ := q
    exact .inr q.symm
  · rw [List.getElem?_set_ne hj] at e q
    exact .inl ⟨j, s, e, n, q⟩
theorem owx_set_ow {env : Sls} {σ : L2.St} {i : Nat} {es : List PyData} {p : Addr} {ms : List Nat} {a : Addr} (h : OWx ms (env.set i (.ow es)) (σ.set i (some (.ref p))) a) : OWx ms env σ a ∨ a = p := owx_set_own h
/-- a new thing stored: H1 the heap ahead of its making -/
theorem EnvRep.setOwn {H1 : Hp} (E : EnvRep K TB A H0 H1 σ env) (i : Nat) {t : Sl} {p : Addr} (hp : H1 p = none) (g : Grow H1 H) (ht : t.own = true) (r : OwR K H (fun a => sel [] A env σ a ∧ a ≠ p) t p) :
    EnvRep K TB A H0 H (σ.set i (some (.ref p))) (env.set i t) := by
  have wd : ∀ a, (sel [] A env σ a ∧ a ≠ p) → sel [] A (env.set i t) (σ.set i (some (.ref p))) a := fun a h => ⟨h.1.1, fun z => (owx_set_own z).elim h.1.2 h.2⟩
  have E' := E.up g
  have np : ∀ (j : Nat) (s : Sl), env[j]? = some s → s.own = true → σ[j]? ≠ some (some (V.ref p)) := fun j s h hs q => by
    obtain ⟨a, h1, h2, _⟩ := E.ows j s h hs
    rw [q] at h1; cases h1
    obtain ⟨o, h3, _⟩ := h2.is
    rw [hp] at h3; cases h3
  refine ⟨by simp [E.len], fun j e h => ?_, fun j s h hs => ?_, fun j k s u a h1 hs h2 hu h3 h4 => ?_, E'.grow, E'.free, E'.tabs⟩
  · by_cases hj : i = j
    · subst hj
      rw [List.getElem?_set] at h
      simp at h
      obtain ⟨_, h⟩ := h
      subst h
      cases ht
    · rw [List.getElem?_set_ne hj] at h ⊢
      obtain ⟨y, h1, h2⟩ := E.va j e h
      exact ⟨y, h1, ((h2.away hp).up g).wide wd⟩
  · by_cases hj : i = j
    · subst hj
      rw [List.getElem?_set] at h
      simp at h
      obtain ⟨hlt, h⟩ := h
      subst h
      exact ⟨p, by rw [List.getElem?_set_self (by rw [E.len]; exact hlt)], r.wide wd, E.free p hp, E.grow.fresh p hp⟩
    · rw [List.getElem?_set_ne hj] at h ⊢
      obtain ⟨a, h1, h2, h3, h4⟩ := E.ows j s h hs
      exact ⟨a, h1, ((h2.away hp).up g).wide wd, h3, h4⟩
  · by_cases hj : i = j
    · by_cases hk : i = k
      · exact hj.symm.trans hk
      · subst hj
        rw [List.getElem?_set_ne hk] at h2 h4
        rw [List.getElem?_set] at h3
        simp at h3
        obtain ⟨_, h3⟩ := h3
        exact absurd (h3 ▸ h4) (np k u h2 hu)
    · by_cases hk : i = k
      · subst hk
        rw [List.getElem?_set_ne hj] at h1 h3
        rw [List.getElem?_set] at h4
        simp at h4
        obtain ⟨_, h4⟩ := h4
        exact absurd (h4 ▸ h3) (np j s h1 hs)
      · rw [List.getElem?_set_ne hj] at h1 h3
        rw [List.getElem?_set_ne hk] at h2 h4
        exact E.injs j k s u a h1 hs h2 hu h3 h4
theorem EnvRep.setOw {H1 : Hp} (E : EnvRep K TB A H0 H1 σ env) (i : Nat) {ds : List PyData} {ys : List V} {p : Addr} (hp : H1 p = none) (g : Grow H1 H) (hl : H p = some (.lst ys)) (r : Reps K H (fun a => sel [] A env σ a ∧ a ≠ p) ds ys) :
    EnvRep K TB A H0 H (σ.set i (some (.ref p))) (env.set i (.ow ds)) := E.setOwn i hp g rfl ⟨ys, hl, r⟩
/-- a thing of one's own written -/
theorem EnvRep.writes (E : EnvRep K TB A H0 H σ env) {i : Nat} {s s' : Sl} {a : Addr} {o : HO} (hi : env[i]? = some s) (hs : s.own = true) (hs' : s'.own = true) (hσ : σ[i]? = some (some (.ref a))) (r : OwR K (upd H a o) (sel [] A env σ) s' a) :
    EnvRep K TB A H0 (upd H a o) σ (env.set i s') ∧ Evo env σ H (env.set i s') σ (upd H a o) := by
  have hil : i < env.length := (List.getElem?_eq_some_iff.mp hi).1
  have ow2 : ∀ ms b, OWx ms (env.set i s') σ b ↔ OWx ms env σ b := fun ms b => by
    constructor
    · rintro ⟨j, es, e, n, q⟩
      by_cases hj : i = j
      · subst hj; exact ⟨i, s, ⟨hi, hs⟩, n, q⟩
      · rw [List.getElem?_set_ne hj] at e; exact ⟨j, es, e, n, q⟩
    · rintro ⟨j, es, e, n, q⟩
      by_cases hj : i = j
      · subst hj; exact ⟨i, s', ⟨by rw [List.getElem?_set_self hil], hs'⟩, n, q⟩
      · exact ⟨j, es, by rw [List.getElem?_set_ne hj]; exact e, n, q⟩
  have oa : OW env σ a := ⟨i, s, ⟨hi, hs⟩, by simp, hσ⟩
  have hna : ¬ sel [] A env σ a := fun z => z.2 oa
  obtain ⟨a0, z1, z2, z3, z4⟩ := E.ows i s hi hs
  rw [hσ] at z1; cases z1
  obtain ⟨o0, ha, ho⟩ := z2.is
  have W := rep_write (K := K) (o := o) ha ho hna
  have wd : ∀ b, sel [] A env σ b → sel [] A (env.set i s') σ b := fun b h => ⟨h.1, fun z => h.2 ((ow2 _ b).mp z)⟩
  have ntb : ∀ b ps, H b = some (.tbl ps) → b ≠ a := fun b ps q z => by rw [z, ha] at q; cases q; exact ho.ntbl
  have gr : Grow H0 (upd H a o) := ⟨fun b ob nt e => by
      have ne : b ≠ a := fun z => by rw [z, z4] at e; cases e
      rw [upd_ne ne]; exact E.grow.same b ob nt e, fun b e => by
      obtain ⟨ps, q, t⟩ := E.grow.tab b e
      exact ⟨ps, by rw [upd_ne (ntb b ps q)]; exact q, t⟩, fun b e => by
      by_cases hb : b = a
      · rw [hb, upd_same] at e; cases e
      · rw [upd_ne hb] at e; exact E.grow.fresh b e⟩
  have tb : ∀ b, TabG H b → TabG (upd H a o) b := fun b ⟨ps, q, t⟩ => ⟨ps, by rw [upd_ne (ntb b ps q)]; exact q, t⟩
  have fr : ∀ b, upd H a o b = none → H b = none := fun b e => by
    by_cases hb : b = a
    · rw [hb, upd_same] at e; cases e
    · rw [upd_ne hb] at e; exact e
  have bk : ∀ (j : Nat) (t : Sl), (env.set i s')[j]? = some t → t.own = true → ∃ t', env[j]? = some t' ∧ t'.own = true := fun j t h ht => by
    by_cases hj : i = j
    · subst hj; exact ⟨s, hi, hs⟩
    · rw [List.getElem?_set_ne hj] at h; exact ⟨t, h, ht⟩
  refine ⟨⟨by simp [E.len], fun j e h => ?_, fun j t h ht => ?_, fun j k t u b h1 ht h2 hu h3 h4 => ?_, gr, fun b e => E.free b (fr b e), fun b e => tb b (E.tabs b e)⟩, ⟨fun b ob n nt e => ?_, fun b h => .inl ((ow2 _ b).mp h), fr, tb⟩⟩
  · by_cases hj : i = j
    · subst hj
      rw [List.getElem?_set_self hil] at h
      cases h
      cases hs'
    · rw [List.getElem?_set_ne hj] at h
      obtain ⟨y, h1, h2⟩ := E.va j e h
      exact ⟨y, h1, (W.1 h2).wide wd⟩
  · by_cases hj : i = j
    · subst hj
      rw [List.getElem?_set_self hil] at h
      cases h
      exact ⟨a, hσ, r.wide wd, z3, z4⟩
    · rw [List.getElem?_set_ne hj] at h
      obtain ⟨b, h1, h2, h3, h4⟩ := E.ows j t h ht
      have ne : b ≠ a := fun z => hj (E.injs i j s t a hi hs h ht hσ (z ▸ h1))
      exact ⟨b, h1, (h2.write ha ho hna ne).wide wd, h3, h4⟩
  · obtain ⟨t', q1, q2⟩ := bk j t h1 ht
    obtain ⟨u', q3, q4⟩ := bk k u h2 hu
    exact E.injs j k t' u' b q1 q2 q3 q4 h3 h4
  · have ne : b ≠ a := fun z => n (z ▸ oa)
    rw [upd_ne ne]; exact e
theorem EnvRep.write (E : EnvRep K TB A H0 H σ env) {i : Nat} {ds ds' : List PyData} {a : Addr} {ys ys' : List V} (hi : env[i]? = some (.ow ds)) (hσ : σ[i]? = some (some (.ref a))) (ha : H a = some (.lst ys)) (r : Reps K H (sel [] A env σ) ds' ys') :
    EnvRep K TB A H0 (upd H a (.lst ys')) σ (env.set i (.ow ds')) ∧ Evo env σ H (env.set i (.ow ds')) σ (upd H a (.lst ys')) :=
  E.writes hi rfl rfl hσ ⟨ys', upd_same, (rep_write ha (.inl ⟨_, rfl⟩) (fun z => z.2 ⟨i, _, ⟨hi, rfl⟩, by simp, hσ⟩)).2 r⟩
end
end Pu

set_option Elab.async false
set_option linter.all false
set_option autoImplicit false
set_option maxRecDepth 100000
set_option maxHeartbeats 4000000
namespace Pu
open PySem PySem.Spec PyProof.Rows L2 GxR

/-- the value of a name that is imported from a module: a built-in, or a type -/
def maV (s : String) : Value := if s = "itertools.combinations" then .type "itertools.combinations" else if s = "itertools.permutations" then .type "itertools.permutations" else .builtin s
/-- a def's meaning -/
abbrev Fn := List PyData → Option PyData
/-- what a text knows beside its own slots: defs (name, number of parameters, meaning), names that are built-ins, names of math -/
structure Tab where
  fs : List (Str × Nat × Fn)
  bl : List Str
  ma : List (Str × String) := []
  ge : Bool := false

def spF (K : PySem.W.Frag) (TB : Addr → Prop) (n : Nat) (F : Fn) : Sp := fun vs H Q _ => ∃ (A : Addr → Prop) (ds : List PyData) (d : PyData), (∀ a, H a = none → A a) ∧ (∀ b, TB b → TabG H b) ∧ Reps K H A ds vs ∧ ds.length = n ∧ F ds = some d ∧ ∀ x H', Grow H H' → Rep K H' A d x → Q x H'
def Has (X : Cx) (TB : Addr → Prop) (k : Nat) (g : Str) (n : Nat) (F : Fn) : Prop :=
  ∃ (f : Addr) (fd : FuncData) (ps : List Str), FnOk X.prog X.w X.K X.mg X.base CX0 k f fd ps (spF X.K TB n F) ∧ X.mg g = some (.ref f) ∧ PySem.W.keepIn X.K (.ref f) = true ∧ Binds X.K fd ps []

structure Good (S : List (Str × Nat)) (nm : List (Str × NameKind)) (T : Tab) (TB : Addr → Prop) (k : Nat) (X : Cx) : Prop where
  N : X.N = S.map (·.1)
  nd : X.N.Nodup
  calm : X.calm = true
  xe : X.xe = fun _ _ => False
  kind : X.env.scope.kind = .function
  loc : ∀ x, nm.lookup x = some .local → X.env.scope.names.lookup x = some .local
  cell : ∀ x, nm.lookup x = some .cell → X.env.scope.names.lookup x = some .cell ∧ X.fn x = true
  fre : ∀ x, nm.lookup x = some .free → X.env.scope.names.lookup x = some .cell ∨ X.env.scope.names.lookup x = some .free
  glo : ∀ x, nm.lookup x = some .globalImplicit → Gl X x
  blt : ∀ x ∈ T.bl, X.mg x = none
  mat : ∀ p ∈ T.ma, X.mg p.1 = some (maV p.2)
  has : ∀ p ∈ T.fs, Has X TB k p.1 p.2.1 p.2.2
  room : Room k X.A
  gen : T.ge = true → Room (k + 1) X.A ∧ ∃ c P : Addr, X.env.code = .ref c ∧ TabB X.base X.mg c P ∧ TB P

/-- how a reading follows a meaning -/
abbrev ESp (X : Cx) (TB : Addr → Prop) (ms : List Nat) (f : Sls → Option PyData) (t : TE) : Prop := ∀ (A : Addr → Prop) (H0 H : Hp) (σ : L2.St) (env : Sls) (d : PyData) (Q : VK), EnvRep X.K TB A H0 H σ env → f env = some d →
    (∀ x H', Grow H H' → Rep X.K H' (sel ms A env σ) d x → Q x H') → t σ H Q
abbrev TSp (X : Cx) (TB : Addr → Prop) (f : Sls → Option Bool) (t : TT) : Prop := ∀ (A : Addr → Prop) (H0 H : Hp) (σ : L2.St) (env : Sls) (b : Bool) (Q : Bool → Hp → Prop), EnvRep X.K TB A H0 H σ env → f env = some b →
    (∀ H', Grow H H' → Q b H') → t σ H Q
abbrev ASp (X : Cx) (TB : Addr → Prop) (ms : List Nat) (f : Sls → Option (List PyData)) (t : TA) : Prop := ∀ (A : Addr → Prop) (H0 H : Hp) (σ : L2.St) (env : Sls) (ds : List PyData) (Q : List V → Hp → Prop), EnvRep X.K TB A H0 H σ env → f env = some ds →
    (∀ xs H', Grow H H' → Reps X.K H' (sel ms A env σ) ds xs → Q xs H') → t σ H Q
/-- an expression's meaning; ms: the slots that its value may share a list with; c: what is to be checked of the text -/
class PurE (S : List (Str × Nat)) (nm : List (Str × NameKind)) (T : Tab) (e : Expr) (ms : outParam (List Nat)) (f : outParam (Sls → Option PyData)) (c : outParam Bool) : Prop where
  run : c = true → ∀ (TB : Addr → Prop) (k : Nat) (X : Cx), Good S nm T TB k X → ∃ t, PE X e t ∧ ESp X TB ms f t
/-- a test's -/
class PurT (S : List (Str × Nat)) (nm : List (Str × NameKind)) (T : Tab) (e : Expr) (f : outParam (Sls → Option Bool)) (c : outParam Bool) : Prop where
  run : c = true → ∀ (TB : Addr → Prop) (k : Nat) (X : Cx), Good S nm T TB k X → ∃ t, PT X e t ∧ TSp X TB f t
class PurW (S : List (Str × Nat)) (nm : List (Str × NameKind)) (T : Tab) (e : Expr) (f : outParam (Sls → Option Bool)) (c : outParam Bool) : Prop where
  run : c = true → ∀ (TB : Addr → Prop) (k : Nat) (X : Cx), Good S nm T TB k X → ∃ t, PW X e t ∧ TSp X TB f t
/-- arguments -/
class PurA (S : List (Str × Nat)) (nm : List (Str × NameKind)) (T : Tab) (es : List Expr) (ms : outParam (List Nat)) (f : outParam (Sls → Option (List PyData))) (c : outParam Bool) : Prop where
  run : c = true → ∀ (TB : Addr → Prop) (k : Nat) (X : Cx), Good S nm T TB k X → ∃ t, PA X es t ∧ (∀ env ds, f env = some ds → ds.length = es.length) ∧ ASp X TB ms f t

/-- where a name stands -/
class SlotOf (S : List (Str × Nat)) (x : Str) (i : outParam Nat) : Prop where
  ok : True
instance (priority := high) slotHere {x : Str} {i : Nat} {S : List (Str × Nat)} : SlotOf ((x, i) :: S) x i := ⟨trivial⟩
instance (priority := low) slotThere {x y : Str} {i j : Nat} {S : List (Str × Nat)} [SlotOf S x i] : SlotOf ((y, j) :: S) x i := ⟨trivial⟩

section
variable {S : List (Str × Nat)} {nm : List (Str × NameKind)} {T : Tab} {TB : Addr → Prop} {k : Nat} {X : Cx}

/-! ### names -/
def nameC (S : List (Str × Nat)) (nm : List (Str × NameKind)) (x : Str) (i : Nat) : Bool :=
  decide ((S.map (·.1))[i]? = some x) && (match nm.lookup x with | some .local => true | some .cell => true | some .free => true | _ => false) && !(x == ("__debug__" : Str)) && !(x == ("__classdict__" : Str))
def getV (i : Nat) (env : Sls) : Option PyData := match env[i]? with
  | some (.va d) => some d
  | some (.ow ds) => some (.list ds)
  | some (.od kvs) => some (.dict kvs)
  | _ => none
theorem Good.vis (G : Good S nm T TB k X) {x : Str} (h : (match nm.lookup x with | some .local => true | some .cell => true | some .free => true | _ => false) = true) : Vis X.env.scope x := by
  split at h
  · exact .inl (G.loc x (by assumption))
  · exact .inr (.inl (G.cell x (by assumption)).1)
  · rcases G.fre x (by assumption) with z | z
    · exact .inr (.inl z)
    · exact .inr (.inr z)
  · cases h
theorem getV_rep {K : PySem.W.Frag} {A : Addr → Prop} {H0 H : Hp} {σ : L2.St} {env : Sls} (E : EnvRep K TB A H0 H σ env) {i : Nat} {d : PyData} (h : getV i env = some d) : ∃ x, σ[i]? = some (some x) ∧ Rep K H (sel [i] A env σ) d x := by
  unfold getV at h
  split at h
  · rename_i e he
    cases h
    obtain ⟨x, h1, h2⟩ := E.va _ _ he
    exact ⟨x, h1, h2.wide fun a z => z.sub (by simp)⟩
  · rename_i ds he
    cases h
    obtain ⟨a, ys, h1, h2, h3, h4, h5⟩ := E.ow _ _ he
    refine ⟨_, h1, .lst (.inl ⟨⟨h3, fun z => ?_⟩, .inl h2⟩) (h5.wide fun a z => z.sub (by simp))⟩
    obtain ⟨j, t, ⟨e1, ht⟩, e2, e3⟩ := z
    exact e2 (by simp [E.injs j i t _ a e1 ht he rfl e3 h1])
  · rename_i ds he
    cases h
    obtain ⟨a, ys, h1, h2, h3, h4, h5⟩ := E.od _ _ he
    refine ⟨_, h1, .dct ⟨h3, fun z => ?_⟩ h2 (h5.wide fun a z => z.sub (by simp))⟩
    obtain ⟨j, t, ⟨e1, ht⟩, e2, e3⟩ := z
    exact e2 (by simp [E.injs j i t _ a e1 ht he rfl e3 h1])
  · cases h
instance purName {x : Str} {p : Pos} {i : Nat} [SlotOf S x i] : PurE S nm T (.Name x p) [i] (getV i) (nameC S nm x i) where
  run hc TB k X G := by
    unfold nameC at hc
    simp only [Bool.and_eq_true, decide_eq_true_eq, Bool.not_eq_true'] at hc
    obtain ⟨⟨⟨h1, h2⟩, h3⟩, h4⟩ := hc
    refine ⟨_, pe_var (i := i) (by rw [G.N]; exact h1) (G.vis h2) h3 h4, fun A H0 H σ env d Q E hf q => ?_⟩
    obtain ⟨v, e, r⟩ := getV_rep E hf
    exact ⟨v, e, q v H (.refl H) r⟩

/-! ### constants -/
instance purInt {i : Int} {j : Nat} {p : Pos} : PurE S nm T (.Constant (.int i) j p) [] (fun _ => some (.int i)) true where
  run _ TB k X G := ⟨_, pe_int, fun A H0 H σ env d Q E hf q => by cases hf; exact q _ H (.refl H) (.int i)⟩
instance purStr {x : Str} {j : Nat} {p : Pos} : PurE S nm T (.Constant (.str x) j p) [] (fun _ => some (.str x)) true where
  run _ TB k X G := ⟨_, pe_str, fun A H0 H σ env d Q E hf q => by cases hf; exact q _ H (.refl H) (.str x)⟩
instance purBool {b : Bool} {j : Nat} {p : Pos} : PurE S nm T (.Constant (.bool b) j p) [] (fun _ => some (.bool b)) true where
  run _ TB k X G := ⟨_, pe_bl, fun A H0 H σ env d Q E hf q => by cases hf; exact q _ H (.refl H) (.bl b)⟩
instance purNone {j : Nat} {p : Pos} : PurE S nm T (.Constant .none j p) [] (fun _ => some .none) true where
  run _ TB k X G := ⟨_, pe_non, fun A H0 H σ env d Q E hf q => by cases hf; exact q _ H (.refl H) .non⟩

/-! ### operators -/
def bind1 (f : PyData → Option PyData) (a : Option PyData) : Option PyData := match a with
  | some x => f x
  | none => none
def bind2 (f : PyData → PyData → Option PyData) (a b : Option PyData) : Option PyData := match a with
  | some x => (match b with | some y => f x y | none => none)
  | none => none
theorem bind1_some {f : PyData → Option PyData} {a : Option PyData} {d : PyData} (h : bind1 f a = some d) : ∃ x, a = some x ∧ f x = some d := by
  cases a with
  | none => cases h
  | some x => exact ⟨x, rfl, h⟩
theorem bind2_some {f : PyData → PyData → Option PyData} {a b : Option PyData} {d : PyData} (h : bind2 f a b = some d) : ∃ x y, a = some x ∧ b = some y ∧ f x y = some d := by
  cases a with
  | none => cases h
  | some x => cases b with
    | none => cases h
    | some y => exact ⟨x, y, rfl, rfl, h⟩
/-- what an operator by values asks and gives -/
abbrev rOp (K : PySem.W.Frag) (f : PyData → PyData → Option PyData) : R2 := fun x y H Q => ∃ (A : Addr → Prop) (d e res : PyData), (∀ a, H a = none → A a) ∧ Rep K H A d x ∧ Rep K H A e y ∧ f d e = some res ∧ ∀ z H', Grow H H' → Rep K H' A res z → Q z H'
theorem op_rule {f : PyData → PyData → Option PyData} {ta tb : TE} {ms ns : List Nat} {fa fb : Sls → Option PyData} (ha : ESp X TB ms fa ta) (hb : ESp X TB ns fb tb)
    {A : Addr → Prop} {H0 H : Hp} {σ : L2.St} {env : Sls} {d : PyData} {Q : VK} (E : EnvRep X.K TB A H0 H σ env) (hf : bind2 f (fa env) (fb env) = some d)
    (q : ∀ x H', Grow H H' → Rep X.K H' (sel (ms ++ ns) A env σ) d x → Q x H') : tOp (rOp X.K f) ta tb σ H Q := by
  obtain ⟨x, y, e1, e2, e3⟩ := bind2_some hf
  refine ha A H0 H σ env x _ E e1 fun u H1 g1 r1 => ?_
  refine hb A H0 H1 σ env y _ (E.up g1) e2 fun v H2 g2 r2 => ?_
  exact ⟨sel (ms ++ ns) A env σ, x, y, d, (E.up (g1.trans g2)).selfree _, (r1.up g2).wide fun a z => z.l, r2.wide fun a z => z.r, e3, fun z H' g r => q z H' ((g1.trans g2).trans g) r⟩

abbrev LIM : Nat := 16777216
theorem lim_line : LIM = sizeLine := sizeLine_eq.symm
def addP : PyData → PyData → Option PyData
  | .int a, .int b => some (.int (a + b))
  | .str a, .str b => if a.length + b.length ≤ LIM then some (.str (a ++ b)) else none
  | .list a, .list b => if a.length + b.length ≤ LIM then some (.list (a ++ b)) else none
  | .tuple a, .tuple b => if a.length + b.length ≤ LIM then some (.tuple (a ++ b)) else none
  | _, _ => none
def subP : PyData → PyData → Option PyData
  | .int a, .int b => some (.int (a - b))
  | _, _ => none
def MulC (a b : Int) : Prop := (-(2 ^ 64) < a ∧ a < 2 ^ 64) ∨ (-(2 ^ 64) < b ∧ b < 2 ^ 64)
noncomputable instance (a b : Int) : Decidable (MulC a b) := Classical.propDecidable _
def FdC (b : Int) : Prop := b ≠ 0 ∧ b.natAbs < 1073741824
noncomputable instance (b : Int) : Decidable (FdC b) := Classical.propDecidable _
def PwC (a b : Int) : Prop := 0 ≤ b ∧ b ≤ 1000000 ∧ a.natAbs < 2 ^ 64
noncomputable instance (a b : Int) : Decidable (PwC a b) := Classical.propDecidable _
noncomputable def mulI : PyData → PyData → Option PyData
  | .int a, .int b => if MulC a b then some (.int (a * b)) else none
  | _, _ => none
/-- a text n times, a tuple n times -/
def repS (x : Str) (n : Int) : Str := ⟨((List.replicate n.toNat x.cps.toList).flatten).toArray⟩
def RpS (x : Str) (n : Int) : Prop := (-1000000000 < n ∧ n < 1000000000) ∧ x.length * n.toNat ≤ LIM
noncomputable instance (x : Str) (n : Int) : Decidable (RpS x n) := Classical.propDecidable _
def RpT (m : Nat) (n : Int) : Prop := (-1000 ≤ n ∧ n ≤ 1000) ∧ m ≤ 1000
noncomputable instance (m : Nat) (n : Int) : Decidable (RpT m n) := Classical.propDecidable _
noncomputable def mulP : PyData → PyData → Option PyData
  | .int a, .int b => if MulC a b then some (.int (a * b)) else none
  | .str x, .int n => if RpS x n then some (.str (repS x n)) else none
  | .tuple xs, .int n => if RpT xs.length n then some (.tuple (List.replicate n.toNat xs).flatten) else none
  | _, _ => none
noncomputable def fdivP : PyData → PyData → Option PyData
  | .int a, .int b => if FdC b then some (.int (a.fdiv b)) else none
  | _, _ => none
def modP : PyData → PyData → Option PyData
  | .int a, .int b => if b ≠ 0 then some (.int (a.fmod b)) else none
  | _, _ => none
noncomputable def powP : PyData → PyData → Option PyData
  | .int a, .int b => if PwC a b then some (.int (a ^ b.toNat)) else none
  | _, _ => none

/-- list + list, read only -/
def rCatL (K : PySem.W.Frag) : R2 := fun x y H Q => ∃ l b xs zs, x = .ref l ∧ y = .ref b ∧ SqL K H l xs ∧ SqL K H b zs ∧ xs.length + zs.length ≤ sizeLine ∧ ∀ p, H p = none → Q (.ref p) (upd H p (.lst (xs ++ zs)))
theorem op_catL : OpR X (binaryOp .Add) (rCatL X.K) := by
  intro pins s σ H x y v u Q I rx ry h
  obtain ⟨l, b, xs, zs, rfl, rfl, hH, hB, hz, q⟩ := h
  cases rx
  cases ry
  obtain ⟨its, r, p1, z1⟩ := I.list hH
  obtain ⟨its2, r2, p2, z2⟩ := I.list hB
  obtain ⟨⟨cls, dd, data, sl⟩, ho, hc, n, hd⟩ := p1.isList
  obtain ⟨⟨cls2, dd2, data2, sl2⟩, ho2, hc2, n2, hd2⟩ := p2.isList
  simp only at hc hd hc2 hd2
  subst hc hd hc2 hd2
  have e : its.toArray ++ its2.toArray = (its ++ its2).toArray := by simp
  refine concat_meets ⟨_, ho, rfl⟩ ⟨_, ho2, rfl⟩ noFill_list_add seq_list_add PySem.F.slot_list_add PySem.F.entry_list_add (PySem.F.args_list_add_2 _ _) (list_addW l b its.toArray its2.toArray n n2 dd dd2 sl sl2 (by have e1 := r.length; have e2 := r2.length; simp only [List.size_toArray]; omega)) ⟨ho, ho2, ?_⟩
  rw [e]
  exact ⟨.ref _, _, I.lnew (t' := s.toks) (r.append r2) (by rw [List.length_append]; omega), rfl, q _ I.fresh⟩
theorem op_addP : OpR X (binaryOp .Add) (rOp X.K addP) := by
  intro pins s σ H x y v u Q I rx ry h
  obtain ⟨A, d, e, res, hA, rd, re, hf, q⟩ := h
  cases rd with
  | int a => cases re with
    | int b => cases hf; exact op_add pins s σ H _ _ _ _ Q I rx ry ⟨_, _, rfl, rfl, q _ _ (.refl H) (.int _)⟩
    | _ => cases hf
  | str a => cases re with
    | str b =>
      change (if a.length + b.length ≤ LIM then some (PyData.str (a ++ b)) else none) = some res at hf
      split at hf
      · cases hf
        exact op_add_str pins s σ H _ _ _ _ Q I rx ry ⟨_, _, rfl, rfl, by rw [← lim_line]; assumption, q _ _ (.refl H) (.str _)⟩
      · cases hf
    | _ => cases hf
  | tup ha ra => cases re with
    | tup hb rb =>
      rename_i a as ds b bs es
      change (if ds.length + es.length ≤ LIM then some (PyData.tuple (ds ++ es)) else none) = some res at hf
      split at hf
      · cases hf
        refine op_catA pins s σ H _ _ _ _ Q I rx ry ⟨a, b, as, bs, rfl, rfl, ha, hb, by rw [← lim_line, ← ra.length, ← rb.length]; assumption, fun z => ?_, fun z1 z2 => ?_, fun z1 z2 p np => ?_⟩
        · subst z; cases ra; exact q _ _ (.refl H) (.tup hb rb)
        · subst z2; cases rb; rw [List.append_nil] at q; exact q _ _ (.refl H) (.tup ha ra)
        · exact q _ _ (.new np) (.tup (.of upd_same) ((ra.append rb).up (.new np)))
      · cases hf
    | _ => cases hf
  | lst ha ra => cases re with
    | lst hb rb =>
      rename_i a as ds b bs es
      change (if ds.length + es.length ≤ LIM then some (PyData.list (ds ++ es)) else none) = some res at hf
      split at hf
      · cases hf
        exact op_catL pins s σ H _ _ _ _ Q I rx ry ⟨a, b, as, bs, rfl, rfl, ha.sql, hb.sql, by rw [← lim_line, ← ra.length, ← rb.length]; assumption, fun p np => q _ _ (.new np) (.lst (.inl ⟨hA p np, .inl upd_same⟩) ((ra.append rb).up (.new np)))⟩
      · cases hf
    | _ => cases hf
  | _ => cases hf
end
end Pu

set_option Elab.async false
set_option linter.all false
set_option autoImplicit false
set_option maxRecDepth 100000
set_option maxHeartbeats 4000000
namespace Pu
open PySem PySem.Spec PyProof.Rows L2 GxR
/-! ### dicts as data -/
def leafK : PyData → Bool
  | .int _ => true
  | .str _ => true
  | _ => false
def isT : PyData → Bool
  | .tuple _ => true
  | _ => false
def keyK : PyData → Bool
  | .int _ => true
  | .str _ => true
  | .tuple xs => xs.all leafK
  | _ => false
/-- k may be a key beside those of kvs -/
def okK (kvs : List (PyData × PyData)) (k : PyData) : Bool := keyK k && kvs.all fun p => isT p.1 == isT k
open Classical in
noncomputable def lkD (kvs : List (PyData × PyData)) (k : PyData) : Option PyData := (kvs.find? fun p => decide (p.1 = k)).map (·.2)
open Classical in
noncomputable def anyD (kvs : List (PyData × PyData)) (k : PyData) : Bool := kvs.any fun p => decide (p.1 = k)
open Classical in
noncomputable def setD (kvs : List (PyData × PyData)) (k v : PyData) : List (PyData × PyData) := kvs.map fun p => if p.1 = k then (p.1, v) else p
open Classical in
noncomputable def putD (kvs : List (PyData × PyData)) (k v : PyData) : List (PyData × PyData) :=
  if anyD kvs k then setD kvs k v else kvs ++ [(k, v)]
theorem kD_inj {a b : L2.Key} (h : kD a = kD b) : a = b := by
  cases a <;> cases b <;> simp [kD] at h <;> rw [h]
theorem kDs_inj : ∀ {a b : List L2.Key}, a.map kD = b.map kD → a = b
  | [], [], _ => rfl
  | [], _ :: _, h => by simp at h
  | _ :: _, [], h => by simp at h
  | x :: a, y :: b, h => by
    simp only [List.map_cons, List.cons.injEq] at h
    rw [kD_inj h.1, kDs_inj h.2]
section
variable {K : PySem.W.Frag} {H : Hp} {A : Addr → Prop} {κ : Type} [DecidableEq κ]
theorem al_get {enc : κ → PyData} (inj : ∀ a b, enc a = enc b → a = b) : ∀ {kvs : List (PyData × PyData)} {ws : List (κ × V)}, kvs.map (·.1) = ws.map (fun p => enc p.1) → Reps K H A (kvs.map (·.2)) (ws.map (·.2)) → ∀ k : κ,
    (lkD kvs (enc k) = none ∧ valV ws k = none) ∨ ∃ d v, lkD kvs (enc k) = some d ∧ valV ws k = some v ∧ Rep K H A d v
  | [], [], _, _, k => .inl ⟨rfl, rfl⟩
  | [], _ :: _, h, _, _ => by simp at h
  | _ :: _, [], h, _, _ => by simp at h
  | p :: kvs, q :: ws, h, r, k => by
    simp only [List.map_cons, List.cons.injEq] at h r
    cases r with
    | cons r1 r2 =>
      by_cases e : q.1 = k
      · refine .inr ⟨p.2, q.2, ?_, valV_pos e, r1⟩
        have e' : p.1 = enc k := by rw [h.1, e]
        simp [lkD, List.find?_cons, e']
      · have e2 : ¬ p.1 = enc k := fun z => e (inj _ _ (h.1.symm.trans z))
        have e3 : lkD (p :: kvs) (enc k) = lkD kvs (enc k) := by
          simp [lkD, List.find?_cons, e2]
        rw [valV_neg e, e3]
        exact al_get inj h.2 r2 k
theorem al_any {enc : κ → PyData} (inj : ∀ a b, enc a = enc b → a = b) (k : κ) : ∀ {kvs : List (PyData × PyData)} {ws : List (κ × V)}, kvs.map (·.1) = ws.map (fun p => enc p.1) →
    anyD kvs (enc k) = ws.any fun p => decide (p.1 = k)
  | [], [], _ => rfl
  | [], _ :: _, h => by simp at h
  | _ :: _, [], h => by simp at h
  | p :: kvs, q :: ws, h => by
    simp only [List.map_cons, List.cons.injEq] at h
    have ih := al_any inj k h.2
    unfold anyD at ih ⊢
    rw [List.any_cons, List.any_cons, ih]
    congr 1
    rw [decide_eq_decide, h.1]
    exact ⟨inj _ _, fun e => by rw [e]⟩
theorem al_put {enc : κ → PyData} (inj : ∀ a b, enc a = enc b → a = b) {k : κ} {d : PyData} {v : V} (rv : Rep K H A d v) {kvs : List (PyData × PyData)} {ws : List (κ × V)} (h : kvs.map (·.1) = ws.map (fun p => enc p.1)) (r : Reps K H A (kvs.map (·.2)) (ws.map (·.2))) :
    (putD kvs (enc k) d).map (·.1) = (putK ws k v).map (fun p => enc p.1) ∧ Reps K H A ((putD kvs (enc k) d).map (·.2)) ((putK ws k v).map (·.2)) := by
  unfold putD putK
  have sc : ∀ (p : PyData × PyData) (kvs : List (PyData × PyData)), setD (p :: kvs) (enc k) d = (open Classical in if p.1 = enc k then (p.1, d) else p) :: setD kvs (enc k) d := fun _ _ => rfl
  have ha := al_any inj k h
  have hm : ∀ {kvs : List (PyData × PyData)} {ws : List (κ × V)}, kvs.map (·.1) = ws.map (fun p => enc p.1) → Reps K H A (kvs.map (·.2)) (ws.map (·.2)) →
      (setD kvs (enc k) d).map (·.1) = (ws.map fun p => if p.1 = k then (p.1, v) else p).map (fun p => enc p.1) ∧
      Reps K H A ((setD kvs (enc k) d).map (·.2)) ((ws.map fun p => if p.1 = k then (p.1, v) else p).map (·.2)) := fun {kvs} => by
    induction kvs with
    | nil => intro ws h r; cases ws with
      | nil => exact ⟨rfl, .nil⟩
      | cons _ _ => simp at h
    | cons p kvs ih => intro ws h r; cases ws with
      | nil => simp at h
      | cons q ws =>
        rw [sc]
        simp only [List.map_cons, List.cons.injEq] at h r ⊢
        cases r with
        | cons r1 r2 =>
          obtain ⟨i1, i2⟩ := ih h.2 r2
          by_cases e : q.1 = k
          · have e2 : p.1 = enc k := by rw [h.1, e]
            rw [if_pos e, if_pos e2]
            exact ⟨⟨h.1, i1⟩, .cons rv i2⟩
          · have e2 : ¬ p.1 = enc k := fun z => e (inj _ _ (h.1.symm.trans z))
            rw [if_neg e, if_neg e2]
            exact ⟨⟨h.1, i1⟩, .cons r1 i2⟩
  by_cases hb : (ws.any fun p => decide (p.1 = k)) = true
  · rw [if_pos (by rw [ha]; exact hb), if_pos hb]
    exact hm h r
  · rw [if_neg (by rw [ha]; exact hb), if_neg hb]
    simp only [List.map_append, List.map_cons, List.map_nil]
    exact ⟨by rw [h], r.append (.cons rv .nil)⟩
end
theorem leafs_of : ∀ {xs : List PyData}, xs.all leafK = true → ∃ ks : List L2.Key, xs = ks.map kD
  | [], _ => ⟨[], rfl⟩
  | x :: xs, h => by
    simp only [List.all_cons, Bool.and_eq_true] at h
    obtain ⟨ks, rfl⟩ := leafs_of h.2
    cases x with
    | int i => exact ⟨.inl i :: ks, rfl⟩
    | str z => exact ⟨.inr z :: ks, rfl⟩
    | _ => cases h.1
theorem reps_leafs {K : PySem.W.Frag} {H : Hp} {A : Addr → Prop} : ∀ {ks : List L2.Key} {ys : List V}, Reps K H A (ks.map kD) ys → ys = ks.map kV
  | [], _, .nil => rfl
  | .inl i :: ks, _, .cons r rs => by cases r; rw [reps_leafs rs]; rfl
  | .inr i :: ks, _, .cons r rs => by cases r; rw [reps_leafs rs]; rfl
section
variable {X : Cx} {pins : List (Addr × Obj)} {σ : L2.St} {H : Hp} {s : Shared} {a : Addr}
theorem obj_dT {P : Program} {w : World} {H H' : Hp} {h : Heap} (x : ObjOk P w H h a (.dK [])) : ObjOk P w H' h a (.dT []) := by
  obtain ⟨z, hd, vs, rel, o, es, ep, h1, h2, h3, _, h5, _⟩ := x
  cases rel
  have e : es.toList = [] := by
    generalize es.toList = l at h5
    cases h5
    rfl
  exact ⟨z, hd, [], .nil, o, es, ep, h1, h2, h3, by rw [e]; rfl, by simp⟩
theorem obj_dK {P : Program} {w : World} {H H' : Hp} {h : Heap} (x : ObjOk P w H h a (.dT [])) : ObjOk P w H' h a (.dK []) := by
  obtain ⟨z, hd, vs, rel, o, es, ep, h1, h2, h3, h5, _⟩ := x
  cases rel
  have e : es = #[] := Array.toList_inj.mp h5
  subst e
  exact ⟨z, hd, [], .nil, o, #[], ep, h1, h2, h3, fun e he => by simp at he, .nil, by simp⟩
theorem inv_swap {o o' : HO} (I : Inv X pins σ H s) (h : H a = some o) (mu : Mut (some o)) (he : ∃ u, s.heap.get? a = some u) (new : ObjOk X.prog X.w (upd H a o') s.heap a o') : Inv X pins σ (upd H a o') s :=
  I.write (h' := s.heap) (t' := s.toks) (x := a) (e := a) (by rw [h]; exact mu) (.inl rfl) (fun b u _ e => e) he new
theorem inv_dT (I : Inv X pins σ H s) (h : H a = some (.dK [])) : Inv X pins σ (upd H a (.dT [])) s := inv_swap I h True.intro (let ⟨_, _, _, _, o, _, _, h1, _⟩ := I.hok a _ h; ⟨o, h1⟩) (obj_dT (I.hok a _ h))
theorem upd_self {o : HO} (h : H a = some o) : upd H a o = H := by
  funext b
  by_cases e : b = a
  · subst e; rw [upd_same, h]
  · rw [upd_ne e]
theorem inv_dK (h : H a = some (.dK [])) (I : Inv X pins σ (upd H a (.dT [])) s) : Inv X pins σ H s := by
  have J := inv_swap (o := .dT []) (o' := .dK []) I upd_same True.intro (let ⟨_, _, _, _, o, _, _, h1, _⟩ := I.hok a _ upd_same; ⟨o, h1⟩) (obj_dK (I.hok a _ upd_same))
  rw [upd_upd, upd_self h] at J
  exact J
/-- what a dict's rule asks -/
theorem dc_get {K : PySem.W.Frag} {A A' : Addr → Prop} {kvs : List (PyData × PyData)} {k : PyData} {vs : List V} {y : V} (h : DcAt H a (kvs.map (·.1)) vs) (r : Reps K H A (kvs.map (·.2)) vs) (hk : okK kvs k = true) (rk : Rep K H A' k y) :
    ∃ o, (DGet H a y o ∨ (H a = some (.dK []) ∧ DGet (upd H a (.dT [])) a y o)) ∧ ((o = none ∧ lkD kvs k = none) ∨ ∃ d v, o = some v ∧ lkD kvs k = some d ∧ Rep K H A d v) := by
  unfold okK at hk
  rw [Bool.and_eq_true] at hk
  obtain ⟨hk, ha⟩ := hk
  have leaf : ∀ x : L2.Key, k = kD x → y = kV x → ∃ o, (DGet H a y o ∨ (H a = some (.dK []) ∧ DGet (upd H a (.dT [])) a y o)) ∧ ((o = none ∧ lkD kvs k = none) ∨ ∃ d v, o = some v ∧ lkD kvs k = some d ∧ Rep K H A d v) := fun x e1 e2 => by
    subst e1 e2
    rcases h with ⟨ws, e, h1, h2⟩ | ⟨ws, e, ne, h1, h2⟩
    · refine ⟨_, .inl (.k e), ?_⟩
      rw [h2] at r
      rcases al_get (fun a b => kD_inj) h1 r x with ⟨z1, z2⟩ | ⟨d, v, z1, z2, z3⟩
      · exact .inl ⟨z2, z1⟩
      · exact .inr ⟨d, v, z2, z1, z3⟩
    · cases ws with
      | cons q ws =>
        cases kvs with
        | nil => simp at h1
        | cons p kvs =>
          simp only [List.map_cons, List.cons.injEq] at h1
          simp only [List.all_cons, Bool.and_eq_true, beq_iff_eq] at ha
          rw [h1.1] at ha
          cases x <;> cases ha.1
      | nil => exact absurd rfl ne
  cases rk with
  | int i => exact leaf (.inl i) rfl rfl
  | str i => exact leaf (.inr i) rfl rfl
  | tup h3 h4 =>
    rename_i b ys xs
    obtain ⟨ks, rfl⟩ := leafs_of (by simpa [keyK] using hk)
    have ey := reps_leafs h4
    subst ey
    have h3 : H b = some (.tup (ks.map kV)) := h3
    rcases h with ⟨ws, e, h1, h2⟩ | ⟨ws, e, ne, h1, h2⟩
    · cases ws with
      | cons q ws =>
        cases kvs with
        | nil => simp at h1
        | cons p kvs =>
          simp only [List.map_cons, List.cons.injEq] at h1
          simp only [List.all_cons, Bool.and_eq_true, beq_iff_eq] at ha
          rw [h1.1] at ha
          obtain ⟨q1, q2⟩ := q
          cases q1 <;> cases ha.1
      | nil =>
        have e0 : kvs = [] := by cases kvs with
          | nil => rfl
          | cons p kvs => simp at h1
        subst e0
        have ne : b ≠ a := fun z => by rw [z, e] at h3; cases h3
        exact ⟨none, .inr ⟨e, .inr ⟨[], ks, b, .inl upd_same, rfl, by rw [upd_ne ne]; exact h3, rfl⟩⟩, .inl ⟨rfl, rfl⟩⟩
    · refine ⟨_, .inl (.t e h3), ?_⟩
      rw [h2] at r
      rcases al_get (enc := fun ks : List L2.Key => .tuple (ks.map kD)) (fun a b z => kDs_inj (by simpa using z)) h1 r ks with ⟨z1, z2⟩ | ⟨d, v, z1, z2, z3⟩
      · exact .inl ⟨z2, z1⟩
      · exact .inr ⟨d, v, z2, z1, z3⟩
  | _ => cases hk
end
end Pu

set_option Elab.async false
set_option linter.all false
set_option autoImplicit false
set_option maxRecDepth 100000
set_option maxHeartbeats 4000000
namespace Pu
open PySem PySem.Spec PyProof.Rows L2 GxR
section
variable {X : Cx} {pins : List (Addr × Obj)} {σ : L2.St} {H : Hp} {s : Shared} {a : Addr}
variable {K : PySem.W.Frag} {A A' : Addr → Prop} {kvs : List (PyData × PyData)} {k : PyData} {vs : List V} {y : V} {u : Value} {Am : Around} {E : Value → Shared → Prop}
theorem dc_in {Q : Value → Shared → Prop} (hu : Am.units + 1 < cLine) (I : Inv X pins σ H s) (h : DcAt H a (kvs.map (·.1)) vs) (r : Reps K H A (kvs.map (·.2)) vs) (hk : okK kvs k = true) (rk : Rep K H A' k y) (ry : RelV y u)
    (q : ∀ s', Inv X pins σ H s' → Q (.bool (lkD kvs k).isSome) s') : wpAny (model X.prog X.w) Am (compareOp .In u (.ref a)) Q E s := by
  obtain ⟨o, g, eo⟩ := dc_get h r hk rk
  have es : o.isSome = (lkD kvs k).isSome := by
    rcases eo with ⟨rfl, e⟩ | ⟨d, v, rfl, e, _⟩ <;> rw [e] <;> rfl
  rcases g with g | ⟨e, g⟩
  · exact d_in hu I g ry fun s' I' => by rw [es]; exact q s' I'
  · exact d_in hu (inv_dT I e) g ry fun s' I' => by rw [es]; exact q s' (inv_dK e I')
theorem dc_notIn {Q : Value → Shared → Prop} (hu : Am.units + 1 < cLine) (I : Inv X pins σ H s) (h : DcAt H a (kvs.map (·.1)) vs) (r : Reps K H A (kvs.map (·.2)) vs) (hk : okK kvs k = true) (rk : Rep K H A' k y) (ry : RelV y u)
    (q : ∀ s', Inv X pins σ H s' → Q (.bool (!(lkD kvs k).isSome)) s') : wpAny (model X.prog X.w) Am (compareOp .NotIn u (.ref a)) Q E s := by
  obtain ⟨o, g, eo⟩ := dc_get h r hk rk
  have es : o.isSome = (lkD kvs k).isSome := by
    rcases eo with ⟨rfl, e⟩ | ⟨d, v, rfl, e, _⟩ <;> rw [e] <;> rfl
  rcases g with g | ⟨e, g⟩
  · exact d_notIn hu I g ry fun s' I' => by rw [es]; exact q s' I'
  · exact d_notIn hu (inv_dT I e) g ry fun s' I' => by rw [es]; exact q s' (inv_dK e I')
theorem dc_item {Q : Value → Shared → Prop} {d : PyData} (hu : Am.units + 1 < cLine) (I : Inv X pins σ H s) (h : DcAt H a (kvs.map (·.1)) vs) (r : Reps K H A (kvs.map (·.2)) vs) (hk : okK kvs k = true) (rk : Rep K H A' k y) (ry : RelV y u) (hd : lkD kvs k = some d)
    (q : ∀ v w' s', Inv X pins σ H s' → RelV v w' → Rep K H A d v → Q w' s') : wpAny (model X.prog X.w) Am (getItem (.ref a) u) Q E s := by
  obtain ⟨o, g, eo⟩ := dc_get h r hk rk
  rcases eo with ⟨rfl, e⟩ | ⟨d', v, rfl, e, rv⟩
  · rw [hd] at e; cases e
  · rw [hd] at e; cases e
    rcases g with g | ⟨e, g⟩
    · exact d_getItem hu I g ry fun w' s' I' r' => q v w' s' I' r' rv
    · exact d_getItem hu (inv_dT I e) g ry fun w' s' I' r' => q v w' s' (inv_dK e I') r' rv
/-- where the dict's store leads -/
theorem dc_put {v : V} {w : Value} {d : PyData} {Q : Unit → Shared → Prop} (hu : Am.units + 1 < cLine) (I : Inv X pins σ H s) (h : DcAt H a (kvs.map (·.1)) vs) (r : Reps K H A (kvs.map (·.2)) vs) (hk : okK kvs k = true) (hl : kvs.length < LIM) (rk : Rep K H A' k y) (ry : RelV y u) (rd : Rep K H A d v) (rv : RelV v w)
    (q : ∀ o' vs' s', Inv X pins σ (upd H a o') s' → DcAt (upd H a o') a ((putD kvs k d).map (·.1)) vs' → Reps K H A ((putD kvs k d).map (·.2)) vs' → Q () s') : wpAny (model X.prog X.w) Am (setItem (.ref a) u w) Q E s := by
  have hs : LIM = sizeLine := lim_line
  have hk0 := hk
  unfold okK at hk
  rw [Bool.and_eq_true] at hk
  obtain ⟨hk, ha⟩ := hk
  have leaf : ∀ x : L2.Key, k = kD x → y = kV x → wpAny (model X.prog X.w) Am (setItem (.ref a) u w) Q E s := fun x e1 e2 => by
    subst e1 e2
    rcases h with ⟨ws, e, h1, h2⟩ | ⟨ws, e, ne, h1, h2⟩
    · rw [h2] at r
      obtain ⟨p1, p2⟩ := al_put (fun a b => kD_inj) (k := x) rd h1 r
      have hlen : ws.length < sizeLine := by
        have e3 := congrArg List.length h1
        simp at e3
        omega
      exact d_setItem hu I (.k e hlen) ry rv fun s' I' => q _ _ s' I' (.inl ⟨_, upd_same, p1, rfl⟩) p2
    · cases ws with
      | cons q0 ws =>
        cases kvs with
        | nil => simp at h1
        | cons p kvs =>
          simp only [List.map_cons, List.cons.injEq] at h1
          simp only [List.all_cons, Bool.and_eq_true, beq_iff_eq] at ha
          rw [h1.1] at ha
          cases x <;> cases ha.1
      | nil => exact absurd rfl ne
  cases rk with
  | int i => exact leaf (.inl i) rfl rfl
  | str i => exact leaf (.inr i) rfl rfl
  | tup h3 h4 =>
    rename_i b ys xs
    obtain ⟨ks, rfl⟩ := leafs_of (by simpa [keyK] using hk)
    have ey := reps_leafs h4
    subst ey
    have h3 : H b = some (.tup (ks.map kV)) := h3
    have pn : ∀ (ws : List (List L2.Key × V)), putK ws ks v ≠ [] := fun ws z => by
      have := valV_put ws ks ks v
      rw [z] at this
      simp [valV] at this
    have inj : ∀ a b : List L2.Key, (PyData.tuple (a.map kD)) = .tuple (b.map kD) → a = b := fun a b z => kDs_inj (by simpa using z)
    rcases h with ⟨ws, e, h1, h2⟩ | ⟨ws, e, ne, h1, h2⟩
    · cases ws with
      | cons q0 ws =>
        cases kvs with
        | nil => simp at h1
        | cons p kvs =>
          simp only [List.map_cons, List.cons.injEq] at h1
          simp only [List.all_cons, Bool.and_eq_true, beq_iff_eq] at ha
          rw [h1.1] at ha
          obtain ⟨q1, q2⟩ := q0
          cases q1 <;> cases ha.1
      | nil =>
        have e0 : kvs = [] := by cases kvs with
          | nil => rfl
          | cons p kvs => simp at h1
        subst e0
        have ne : b ≠ a := fun z => by rw [z, e] at h3; cases h3
        obtain ⟨p1, p2⟩ := al_put (enc := fun ks : List L2.Key => .tuple (ks.map kD)) inj (k := ks) rd (kvs := []) (ws := []) rfl .nil
        refine d_setItem hu (inv_dT I e) (.t upd_same (by rw [upd_ne ne]; exact h3) (by rw [← hs]; decide)) ry rv fun s' I' => ?_
        rw [upd_upd] at I'
        exact q _ _ s' I' (.inr ⟨_, upd_same, pn [], p1, rfl⟩) p2
    · rw [h2] at r
      obtain ⟨p1, p2⟩ := al_put (enc := fun ks : List L2.Key => .tuple (ks.map kD)) inj (k := ks) rd h1 r
      have hlen : ws.length < sizeLine := by
        have e3 := congrArg List.length h1
        simp at e3
        omega
      exact d_setItem hu I (.t e h3 hlen) ry rv fun s' I' => q _ _ s' I' (.inr ⟨_, upd_same, pn ws, p1, rfl⟩) p2
  | _ => cases hk
end
end Pu

set_option Elab.async false
set_option linter.all false
set_option autoImplicit false
set_option maxRecDepth 100000
set_option maxHeartbeats 4000000
namespace Pu
open PySem PySem.Spec PyProof.Rows L2 GxR PySem.W
theorem reps_lf {K : PySem.W.Frag} {H : Hp} {A : Addr → Prop} : ∀ ks : List L2.Key, Reps K H A (ks.map kD) (ks.map kV)
  | [] => .nil
  | .inl i :: ks => .cons (.int i) (reps_lf ks)
  | .inr i :: ks => .cons (.str i) (reps_lf ks)
theorem kV_of {k : L2.Key} {v : Value} (h : keyIs k v = true) : RelV (kV k) v := by
  rcases keyIs_shape h with ⟨i, t, rfl, rfl⟩ | ⟨x, t, rfl, rfl⟩
  · exact ⟨t, rfl⟩
  · exact ⟨t, rfl⟩
section
variable {X : Cx} {pins : List (Addr × Obj)} {σ : L2.St} {H : Hp} {s : Shared} {a : Addr} {ks : List PyData} {vs : List V}
/-- the entries of a dict -/
theorem dc_raw (I : Inv X pins σ H s) (h : DcAt H a ks vs) : ∃ es ep kv, s.heap.DictRaw a es ep ∧ (a == sysModules) = false ∧ es.size = ks.length ∧ es.size ≤ sizeLine ∧ Vals kv (es.toList.map (·.key)) ∧ Vals vs (es.toList.map (·.val)) ∧
    ∀ (K : PySem.W.Frag) (A : Addr → Prop), Reps K H A ks kv := by
  rcases h with ⟨ws, e, rfl, rfl⟩ | ⟨ws, e, ne, rfl, rfl⟩
  · obtain ⟨z, hd, us, rel, o, es, ep, h1, h2, h3, _, h5, _⟩ := dk_of I.hok e
    have key : ∀ (l : List DictEntry) (us : List (L2.Key × Value)) (ws : List (L2.Key × V)), Pairs (mixKind X.prog X.w) l us → KV ws us → l.length = ws.length ∧ Vals (ws.map fun p => kV p.1) (l.map (·.key)) ∧ Vals (ws.map (·.2)) (l.map (·.val)) := by
      intro l us ws p
      induction p generalizing ws with
      | nil => intro r; cases r; exact ⟨rfl, .nil, .nil⟩
      | cons h1 h2 _ ih =>
        intro r
        cases r with
        | cons r1 r2 =>
          obtain ⟨e1, e2, e3⟩ := ih _ r2
          refine ⟨by simp [e1], .cons (by have := kV_of h1; rw [← r1.1] at this; exact this) e2, .cons (by have := r1.2; rw [← h2] at this; exact this) e3⟩
    obtain ⟨e1, e2, e3⟩ := key _ _ _ h5 rel
    have es' : es.size = ws.length := by rw [← e1]; simp
    refine ⟨es, ep, ws.map (fun p => kV p.1), ⟨o, h1, h2, h3⟩, hd, by rw [es', List.length_map], by rw [es']; exact z, e2, e3, fun K A => ?_⟩
    have := reps_lf (K := K) (H := H) (A := A) (ws.map (·.1))
    simpa [List.map_map, Function.comp_def] using this
  · obtain ⟨z, hd, xs, rel, o, es, ep, h1, h2, h3, h4, _, _⟩ := dt_of I.hok e
    have key : ∀ (xs : List (List L2.Key × Addr × Value)) (ws : List (List L2.Key × V)), KT H ws xs → xs.length = ws.length ∧ ∃ kv : List V, Vals kv (xs.map fun x => Value.ref x.2.1) ∧ Vals (ws.map (·.2)) (xs.map fun x => x.2.2) ∧ ∀ (K : PySem.W.Frag) (A : Addr → Prop), Reps K H A (ws.map fun p => .tuple (p.1.map kD)) kv := by
      intro xs ws r
      induction r with
      | nil => exact ⟨rfl, [], .nil, .nil, fun _ _ => .nil⟩
      | cons r1 _ ih =>
        obtain ⟨e1, kv, e2, e3, e4⟩ := ih
        refine ⟨by simp [e1], .ref _ :: kv, .cons rfl e2, .cons r1.2.2 e3, fun K A => .cons (.tup (show TpT H _ _ from r1.2.1) (reps_lf _)) (e4 K A)⟩
    obtain ⟨e1, kv, e2, e3, e4⟩ := key _ _ rel
    have es' : es.size = ws.length := by
      rw [← e1]
      have := congrArg List.length h4
      simpa using this
    refine ⟨es, ep, kv, ⟨o, h1, h2, h3⟩, hd, by rw [es', List.length_map], by rw [es']; exact z, ?_, ?_, e4⟩
    · rw [h4, List.map_map]; exact e2
    · rw [h4, List.map_map]; exact e3
end
section
variable {prog : Program} {w : World} {A : Around} {E : Value → Shared → Prop} {s : Shared} {T : String} {r d : Addr} {n : Nat} {P : Nat → Value → Prop} {OK : Heap → Prop}
theorem collectK {R : List Value → Shared → Prop} (K : KdlSrc prog w T r d n P OK) (hh : A.handled = none) (hok : OK s.heap) (hn : n ≤ sizeLine)
    (h : ∀ (h' : Heap) (tk : Nat) (acc : Array Value), (∀ b o, s.heap.get? b = some o → h'.get? b = some o) → s.heap.objs.size ≤ h'.objs.size → ItemsOf P acc n → R acc.toList { s with heap := h', toks := tk }) :
    wpAny (model prog w) A (collect (.ref r)) R E s := by
  have hlt := K.there _ hok
  unfold collect
  refine wpAny_bind (wpAny_runValue (codeAny_builtin entry_proto_collect' ?_))
  rw [Around.under_plainId PySem.F.plain_proto_collect _]
  show wpAny _ A.in1 (newList [] >>= fun l => again (.builtin "list.__iadd__" ⟨[l, .ref r], []⟩)) _ _ s
  refine wpAny_bind (wpAny_newObj_type ?_)
  refine wpAny_pure ⟨plainId_quiet PySem.F.plain_list_iadd _, codeAny_builtin entry_list_iadd' ?_⟩
  rw [Around.under_plainId PySem.F.plain_list_iadd _]
  have hS₁ : (s.heap.push { cls := .type "list", data := .seq ([] : List Value).toArray }).get? s.heap.objs.size = some { cls := .type "list", data := .seq #[] } := Heap.get?_push_size _ rfl
  show wpAny _ A.in1 (Builtin.List.listExtendWith (.ref s.heap.objs.size) (.ref r) (.ref s.heap.objs.size)) _ _ _
  have key := kdl_extend (prog := prog) (w := w) (A := A) (s := { s with heap := s.heap.push { cls := .type "list", data := .seq ([] : List Value).toArray } })
    (R := fun (q : Result) (s' : Shared) => ∃ (h' : Heap) (tk : Nat) (acc' : Array Value) (c' : Nat), q = .ok (.ret (.ref s.heap.objs.size)) ∧ s' = { s with heap := h', toks := tk } ∧
      (∀ b o, s.heap.get? b = some o → h'.get? b = some o) ∧ h'.get? s.heap.objs.size = some { cls := .type "list", dict := none, data := .seq acc' c', slots := #[] } ∧ ItemsOf P acc' n)
    K hh (K.keep _ _ hok fun b _ o e => Heap.get?_push_of_some _ e) s.heap.objs.size (Nat.ne_of_gt hlt.1) (Nat.ne_of_gt hlt.2) (.ref s.heap.objs.size) 0 hS₁
    (fun h' tk acc' c' hk hS' hI => ⟨h', tk, acc', c', rfl, rfl, fun b o e => hk b o (Nat.ne_of_lt (Heap.lt_size e)) (Heap.get?_push_of_some _ e), hS', hI⟩) hn
  refine wpAny_mono key (fun fin s' x => ?_) fun e s' x => ?_
  · cases fin with
    | done f =>
      obtain ⟨h', tk, acc', c', e, rfl, hk, hS', hI⟩ := x
      cases e
      show wpAny _ A (load s.heap.objs.size >>= _) _ _ _
      refine wpAny_bind (wpAny_load hS' ?_)
      refine wpAny_pure ?_
      exact h h' tk acc' hk (Nat.le_of_lt (Heap.lt_size hS')) hI
    | again c₁ =>
      refine ⟨x.1, codeAny_mono x.2 fun q s₂ y => ?_⟩
      obtain ⟨h', tk, acc', c', rfl, rfl, hk, hS', hI⟩ := y
      show wpAny _ A (load s.heap.objs.size >>= _) _ _ _
      refine wpAny_bind (wpAny_load hS' ?_)
      refine wpAny_pure ?_
      exact h h' tk acc' hk (Nat.le_of_lt (Heap.lt_size hS')) hI
  · obtain ⟨h', tk, acc', c', e, _⟩ := x
    cases e
end
/-- what was collected of a dict's entries, as values -/
theorem vals_items {es : Array DictEntry} {f : DictEntry → Value} {kv : List V} {acc : Array Value} (r : Vals kv (es.toList.map f)) (h : ItemsOf (fun i v => ∃ hi : i < es.size, v = f es[i]) acc es.size) : Vals kv acc.toList := by
  have e : acc.toList = es.toList.map f := by
    obtain ⟨h1, h2⟩ := h
    apply List.ext_getElem?
    intro i
    by_cases hi : i < es.size
    · have e0 : acc[i]? = some acc[i] := Array.getElem?_eq_getElem (by omega)
      obtain ⟨_, e2⟩ := h2 i _ e0
      rw [Array.getElem?_toList, e0, e2, List.getElem?_map, Array.getElem?_toList, Array.getElem?_eq_getElem hi]
      rfl
    · rw [List.getElem?_eq_none (by simp; omega), List.getElem?_eq_none (by simp; omega)]
  rw [e]; exact r
section
variable {X : Cx} {pins : List (Addr × Obj)} {σ : L2.St} {H : Hp} {s : Shared} {a : Addr} {ks : List PyData} {vs : List V} {A : Around} {E : Value → Shared → Prop}
/-- the keys, collected -/
theorem dc_collect (hh : A.handled = none) (I : Inv X pins σ H s) (h : DcAt H a ks vs) : ∃ kv : List V, (∀ (K : PySem.W.Frag) (A : Addr → Prop), Reps K H A ks kv) ∧ kv.length ≤ sizeLine ∧
    ∀ (Q : List Value → Shared → Prop), (∀ h' tk its, (∀ b o, s.heap.get? b = some o → h'.get? b = some o) → s.heap.objs.size ≤ h'.objs.size → Vals kv its → Q its { s with heap := h', toks := tk }) → wpAny (model X.prog X.w) A (collect (.ref a)) Q E s := by
  obtain ⟨es, ep, kv, h1, h2, h3, h4, h5, h6, h7⟩ := dc_raw I h
  refine ⟨kv, h7, ?_, fun Q q => collectK (KdlSrc.rawDict h2) hh h1 h4 fun h' tk acc k z hi => q h' tk acc.toList k z (vals_items h5 hi)⟩
  have := h5.length
  rw [this]; simp; exact h4
/-- list(d) -/
theorem dc_list (hc : X.calm = true) (I : Inv X pins σ H s) (h : DcAt H a ks vs) {Q : VK} (q : ∀ (kv : List V) (l : Addr), (∀ (K : PySem.W.Frag) (A : Addr → Prop), Reps K H A ks kv) → H l = none → Q (.ref l) (upd H l (.lst kv))) :
    wpAny (model X.prog X.w) X.A (call (.type "list") [.ref a]) (EP X pins σ Q) X.xe s := by
  obtain ⟨es, ep, kv, h1, h2, h3, h4, h5, h6, h7⟩ := dc_raw I h
  have hl : kv.length ≤ sizeLine := by
    have := h5.length
    rw [this]; simp; exact h4
  have hn : H s.heap.objs.size = none := I.hok.fresh (Nat.le_refl _)
  exact kdl_call (KdlSrc.rawDict h2) (I.ok.hd hc) h1 h4 fun h' tk acc c' k e hi => ⟨.ref _, upd H s.heap.objs.size (.lst kv), I.laid (t' := tk) k (Nat.le_refl _) ⟨hl, acc.toList, c', vals_items h5 hi, e⟩, rfl, q kv _ h7 hn⟩
/-- len(d) -/
theorem dc_len (I : Inv X pins σ H s) (h : DcAt H a ks vs) {Q : Value → Shared → Prop} (q : ∀ t s', Inv X pins σ H s' → Q (.int ks.length t) s') : wpAny (model X.prog X.w) A (call (.builtin "len") [.ref a]) Q E s := by
  rcases h with ⟨ws, e, rfl, rfl⟩ | ⟨ws, e, ne, rfl, rfl⟩
  · refine d_len I (.inl e) fun t s' I' => ?_
    have := q t s' I'
    rw [List.length_map] at this
    exact this
  · obtain ⟨z, hd, xs, rel, hx⟩ := dt_of I.hok e
    have hk : s.heap.DictKeyed (tupleKind (mixKind X.prog X.w)) a (pairsH xs) := ⟨xs, hx, rfl⟩
    have hl : (pairsH xs).length = ws.length := by rw [pairsH_length]; exact (Paired.length rel).symm
    refine PyProof.Rows.call_len_slot (n := (pairsH xs).length) hk.typeIs F.slot_dict_len (fun Q' hq => len_keyed hd hk hq) (by omega) (by rw [sizeLine_eq] at z; omega) ?_
    have := q (s.toks + 1) { s with toks := s.toks + 1 + 1 } (I.tok _)
    rw [List.length_map, ← hl] at this
    exact this
end
section
variable {X : Cx} {pins : List (Addr × Obj)} {σ : L2.St} {H : Hp} {s : Shared} {a : Addr}
variable {K : PySem.W.Frag} {A A' : Addr → Prop} {kvs : List (PyData × PyData)} {k : PyData} {vs : List V} {y : V} {u : Value} {Am : Around} {E : Value → Shared → Prop}
theorem dc_get1 {Q : Value → Shared → Prop} (hu : Am.units + 1 < cLine) (I : Inv X pins σ H s) (h : DcAt H a (kvs.map (·.1)) vs) (r : Reps K H A (kvs.map (·.2)) vs) (hk : okK kvs k = true) (rk : Rep K H A' k y) (ry : RelV y u)
    (q : ∀ v w' s', Inv X pins σ H s' → RelV v w' → Rep K H A ((lkD kvs k).getD .none) v → Q w' s') : wpAny (model X.prog X.w) Am (call (.builtin "dict.get") [.ref a, u]) Q E s := by
  obtain ⟨o, g, eo⟩ := dc_get h r hk rk
  have er : Rep K H A ((lkD kvs k).getD .none) (o.getD .non) := by
    rcases eo with ⟨rfl, e⟩ | ⟨d, v, rfl, e, rv⟩
    · rw [e]; exact .non
    · rw [e]; exact rv
  rcases g with g | ⟨e, g⟩
  · exact d_get1 hu I g ry fun w' s' I' rw' => q _ w' s' I' rw' er
  · exact d_get1 hu (inv_dT I e) g ry fun w' s' I' rw' => q _ w' s' (inv_dK e I') rw' er
theorem dc_get2 {Q : Value → Shared → Prop} {d : PyData} {z : V} {zu : Value} (hu : Am.units + 1 < cLine) (I : Inv X pins σ H s) (h : DcAt H a (kvs.map (·.1)) vs) (r : Reps K H A (kvs.map (·.2)) vs) (hk : okK kvs k = true) (rk : Rep K H A' k y) (ry : RelV y u)
    (rz : Rep K H A d z) (ru : RelV z zu) (q : ∀ v w' s', Inv X pins σ H s' → RelV v w' → Rep K H A ((lkD kvs k).getD d) v → Q w' s') : wpAny (model X.prog X.w) Am (call (.builtin "dict.get") [.ref a, u, zu]) Q E s := by
  obtain ⟨o, g, eo⟩ := dc_get h r hk rk
  have er : Rep K H A ((lkD kvs k).getD d) (o.getD z) := by
    rcases eo with ⟨rfl, e⟩ | ⟨d', v, rfl, e, rv⟩
    · rw [e]; exact rz
    · rw [e]; exact rv
  rcases g with g | ⟨e, g⟩
  · exact d_get2 hu I g ry ru fun w' s' I' rw' => q _ w' s' I' rw' er
  · exact d_get2 hu (inv_dT I e) g ry ru fun w' s' I' rw' => q _ w' s' (inv_dK e I') rw' er
end
end Pu

set_option Elab.async false
set_option linter.all false
set_option autoImplicit false
set_option maxRecDepth 100000
set_option maxHeartbeats 4000000
namespace Pu
open PySem PySem.Spec PyProof.Rows L2 GxR
section
variable {S : List (Str × Nat)} {nm : List (Str × NameKind)} {T : Tab} {TB : Addr → Prop} {k : Nat} {X : Cx}

/-! ### int operators -/
theorem op_subP : OpR X (binaryOp .Sub) (rOp X.K subP) := by
  intro pins s σ H x y v u Q I rx ry h
  obtain ⟨A, d, e, res, hA, rd, re, hf, q⟩ := h
  cases rd with
  | int a => cases re with
    | int b => cases hf; exact op_sub pins s σ H _ _ _ _ Q I rx ry ⟨_, _, rfl, rfl, q _ _ (.refl H) (.int _)⟩
    | _ => cases hf
  | _ => cases hf
theorem op_fdivP : OpR X (binaryOp .FloorDiv) (rOp X.K fdivP) := by
  intro pins s σ H x y v u Q I rx ry h
  obtain ⟨A, d, e, res, hA, rd, re, hf, q⟩ := h
  cases rd with
  | int a => cases re with
    | int b =>
      change (if FdC b then some (PyData.int (a.fdiv b)) else none) = some res at hf
      split at hf
      · cases hf; exact op_fdivN pins s σ H _ _ _ _ Q I rx ry ⟨_, _, rfl, rfl, by assumption, q _ _ (.refl H) (.int _)⟩
      · cases hf
    | _ => cases hf
  | _ => cases hf
theorem op_modP : OpR X (binaryOp .Mod) (rOp X.K modP) := by
  intro pins s σ H x y v u Q I rx ry h
  obtain ⟨A, d, e, res, hA, rd, re, hf, q⟩ := h
  cases rd with
  | int a => cases re with
    | int b =>
      change (if b ≠ 0 then some (PyData.int (a.fmod b)) else none) = some res at hf
      split at hf
      · cases hf; exact op_modN pins s σ H _ _ _ _ Q I rx ry ⟨_, _, rfl, rfl, by assumption, q _ _ (.refl H) (.int _)⟩
      · cases hf
    | _ => cases hf
  | _ => cases hf
theorem op_powP : OpR X (binaryOp .Pow) (rOp X.K powP) := by
  intro pins s σ H x y v u Q I rx ry h
  obtain ⟨A, d, e, res, hA, rd, re, hf, q⟩ := h
  cases rd with
  | int a => cases re with
    | int b =>
      change (if PwC a b then some (PyData.int (a ^ b.toNat)) else none) = some res at hf
      split at hf
      · cases hf; exact op_pow pins s σ H _ _ _ _ Q I rx ry ⟨_, _, rfl, rfl, by assumption, q _ _ (.refl H) (.int _)⟩
      · cases hf
    | _ => cases hf
  | _ => cases hf
theorem tuple_mul1 (l : Addr) (items : Array Value) (n : Nat) (dd : Option Addr) (sl : Array (Option Value)) (x : Int) (u : Tok) (c0 : (decide (x < -(2 ^ 63)) || decide (x ≥ 2 ^ 63)) = false) (c1 : (items.isEmpty || x == 1) = true) :
    Meets (Builtin.«tuple.__mul__» ⟨[.ref l, .int x u], []⟩) (fun _ R s => s.heap.get? l = some { cls := .type "tuple", dict := dd, data := .seq items n, slots := sl } ∧
      R (.ok (.ret (Value.ref l))) s) :=
  .of_wp fun prog w A R s h => by
    obtain ⟨hp, g, d, tk, os⟩ := s
    obtain ⟨hl, h⟩ := h
    have f1 := AutoSeq1.idx_int
    wp_walk using wpAny_loadPart' hl
    repeat (first
      | (refine wpAny_ite_false (decide_eq_false (by rw [c0]; exact Bool.false_ne_true)) ?_; wp_walk using wpAny_loadPart' hl)
      | (refine wpAny_ite_true (decide_eq_true c1) ?_; wp_walk using wpAny_loadPart' hl))
    exact ⟨_, rfl, h⟩
theorem tuple_mul0 (l : Addr) (items : Array Value) (n : Nat) (dd : Option Addr) (sl : Array (Option Value)) (x : Int) (u : Tok) (c0 : (decide (x < -(2 ^ 63)) || decide (x ≥ 2 ^ 63)) = false) (c1 : (items.isEmpty || x == 1) = false) (c2 : (decide (x ≤ 0) || items.isEmpty) = true) :
    Meets (Builtin.«tuple.__mul__» ⟨[.ref l, .int x u], []⟩) (fun _ R s => s.heap.get? l = some { cls := .type "tuple", dict := dd, data := .seq items n, slots := sl } ∧
      R (.ok (.ret (Value.ref s.heap.objs.size))) { s with heap := s.heap.push { cls := Value.type "tuple", data := Data.seq #[] }, toks := s.toks }) :=
  .of_wp fun prog w A R s h => by
    obtain ⟨hp, g, d, tk, os⟩ := s
    obtain ⟨hl, h⟩ := h
    have f1 := AutoSeq1.idx_int
    wp_walk using wpAny_loadPart' hl
    repeat (first
      | (refine wpAny_ite_false (decide_eq_false (by rw [c0]; exact Bool.false_ne_true)) ?_; wp_walk using wpAny_loadPart' hl)
      | (refine wpAny_ite_false (decide_eq_false (by rw [c1]; exact Bool.false_ne_true)) ?_; wp_walk using wpAny_loadPart' hl)
      | (refine wpAny_ite_true (decide_eq_true c2) ?_; wp_walk using wpAny_loadPart' hl)
      | (refine wpAny_ite_false (decide_eq_false (Nat.not_lt.mpr (Nat.zero_le _))) ?_; wp_walk using wpAny_loadPart' hl))
    exact ⟨_, rfl, h⟩
theorem foldl_repN (its : List Nat) : ∀ (k : Nat) (acc : List Nat), List.foldl (fun x1 x2 => x1 ++ x2) acc.toArray (List.replicate k its.toArray) = (acc ++ (List.replicate k its).flatten).toArray
  | 0, acc => by simp
  | k + 1, acc => by
    have e : acc.toArray ++ its.toArray = (acc ++ its).toArray := by simp
    rw [List.replicate_succ, List.foldl_cons, e, foldl_repN its k (acc ++ its), List.replicate_succ, List.flatten_cons, List.append_assoc]
theorem rep_str (x : Str) (n : Nat) : (⟨(List.replicate n x.cps).foldl (· ++ ·) #[]⟩ : Str) = ⟨((List.replicate n x.cps.toList).flatten).toArray⟩ := by
  have h := foldl_repN x.cps.toList n []
  rw [List.nil_append] at h
  exact congrArg Str.mk h
theorem rep_len {α : Type} (l : List α) (n : Nat) : (List.replicate n l).flatten.length = n * l.length := by
  induction n with
  | zero => simp
  | succ n ih => rw [List.replicate_succ, List.flatten_cons, List.length_append, ih, Nat.succ_mul]; omega
theorem op_mulP : OpR X (binaryOp .Mult) (rOp X.K mulP) := by
  intro pins s σ H x y v u Q I rx ry h
  obtain ⟨A, d, e, res, hA, rd, re, hf, q⟩ := h
  cases rd with
  | int a => cases re with
    | int b =>
      change (if MulC a b then some (PyData.int (a * b)) else none) = some res at hf
      split at hf
      · cases hf; exact op_mul pins s σ H _ _ _ _ Q I rx ry ⟨_, _, rfl, rfl, by assumption, q _ _ (.refl H) (.int _)⟩
      · cases hf
    | _ => cases hf
  | str a => cases re with
    | int b =>
      change (if RpS a b then some (PyData.str (repS a b)) else none) = some res at hf
      split at hf
      · rename_i hc
        cases hf
        obtain ⟨t, rfl⟩ := rx
        obtain ⟨tn, rfl⟩ := ry
        obtain ⟨⟨c1, c2⟩, c3⟩ := hc
        have hL : LIM = 16777216 := rfl
        have fin : ∀ (z : Str) (tk : Tok) (tt : Nat), z = repS a b → EP X pins σ Q (.str z tk) { s with toks := tt } := fun z tk tt e => ⟨.str z, H, I.tok tt, ⟨tk, rfl⟩, by rw [e]; exact q _ _ (.refl H) (.str _)⟩
        have hz : a.cps.toList.length = a.length := by simp [Str.length]
        refine PySem.P.mul_str ?_ ?_ ?_ ?_
        · rw [decide_eq_false (by omega), decide_eq_false (by omega)]; rfl
        · intro h1 _
          have e : ((2 : Int) ^ 63 - 1) / b ≥ a.length := by
            rw [ge_iff_le, Int.le_ediv_iff_mul_le (by omega)]
            have : ((a.length * b.toNat : Nat) : Int) ≤ 16777216 := by omega
            rw [Int.natCast_mul, Int.toNat_of_nonneg (by omega)] at this
            omega
          omega
        · intro h1 _
          exact decide_eq_false (by rw [sizeLine_eq]; omega)
        · split
          · rename_i h1
            refine ⟨by decide, fin _ _ _ ?_⟩
            unfold repS
            rw [show b.toNat = 0 by omega]
            rfl
          · split
            · rename_i h1 h2
              refine fin a t s.toks ?_
              rw [Bool.or_eq_true, beq_iff_eq, beq_iff_eq] at h2
              unfold repS
              rcases h2 with h2 | h2
              · rw [h2]
                simp
              · have e : a.cps.toList = [] := List.length_eq_zero_iff.mp (by omega)
                have e2 : (List.replicate b.toNat ([] : List Nat)).flatten = [] := by simp
                rw [e, e2]
                cases a
                rename_i cp
                have : cp.toList = [] := e
                simp only [Str.mk.injEq]
                exact Array.toList_inj.mp this
            · refine ⟨?_, fin _ _ _ (rep_str a b.toNat)⟩
              rw [rep_str]
              show (List.toArray _).size ≤ _
              rw [List.size_toArray, rep_len, hz, sizeLine_eq, Nat.mul_comm]
              omega
      · cases hf
    | _ => cases hf
  | tup h1 h2 => cases re with
    | int b =>
      rename_i l ys xs
      change (if RpT xs.length b then some (PyData.tuple (List.replicate b.toNat xs).flatten) else none) = some res at hf
      split at hf
      · rename_i hc
        cases hf
        obtain ⟨⟨c1, c2⟩, c3⟩ := hc
        cases rx
        obtain ⟨t, rfl⟩ := ry
        obtain ⟨its, r, ⟨⟨cls, dd, data, sl⟩, ho, hcl, n, hd⟩, hs⟩ := I.tuple h1.sqt
        simp only at hcl hd
        subst hcl hd
        have hle : its.length = ys.length := r.length.symm
        have hly := h2.length
        have hr0 : (decide (b < -(2 ^ 63)) || decide (b ≥ 2 ^ 63)) = false := by
          rw [decide_eq_false (by omega), decide_eq_false (by omega)]; rfl
        by_cases k1 : (its.toArray.isEmpty || b == 1) = true
        · refine wpAny_binaryOp_repeat_ref (T := "tuple") (U := "int") (by decide) ⟨_, ho, rfl⟩ (fun s' => typeIs_int s' b t) noFill_tuple_mul F.fills_int_mul F.slot_int_rmul repeat_tuple F.slot_int_index.lookup
            (call_meets F.slot_int_rmul (typeIs_int s b t) F.entry_int_rmul (F.args_int_rmul_2 _ _) (int_rmul_tuple b t l its.toArray n dd sl)
              ⟨ho, rfl, ⟨_, ho, rfl⟩, call_meets F.slot_tuple_mul ⟨_, ho, rfl⟩ F.entry_tuple_mul (F.args_tuple_mul_2 _ _) (tuple_mul1 l its.toArray n dd sl b t hr0 k1) ⟨ho, ?_⟩⟩)
          refine ⟨.ref l, H, I, rfl, q _ _ (.refl H) (.tup h1 ?_)⟩
          have e : (List.replicate b.toNat xs).flatten = xs := by
            rw [Bool.or_eq_true, beq_iff_eq] at k1
            rcases k1 with k1 | k1
            · have : its = [] := by
                cases its with
                | nil => rfl
                | cons a b => cases k1
              rw [this] at hle
              have : xs = [] := List.length_eq_zero_iff.mp (by simp at hle; omega)
              rw [this]
              simp
            · rw [k1]
              simp
          rw [e]
          exact h2
        · have k1' : (its.toArray.isEmpty || b == 1) = false := by simpa using k1
          by_cases k2 : b ≤ 0
          · refine wpAny_binaryOp_repeat_ref (T := "tuple") (U := "int") (by decide) ⟨_, ho, rfl⟩ (fun s' => typeIs_int s' b t) noFill_tuple_mul F.fills_int_mul F.slot_int_rmul repeat_tuple F.slot_int_index.lookup
              (call_meets F.slot_int_rmul (typeIs_int s b t) F.entry_int_rmul (F.args_int_rmul_2 _ _) (int_rmul_tuple b t l its.toArray n dd sl)
                ⟨ho, rfl, ⟨_, ho, rfl⟩, call_meets F.slot_tuple_mul ⟨_, ho, rfl⟩ F.entry_tuple_mul (F.args_tuple_mul_2 _ _) (tuple_mul0 l its.toArray n dd sl b t hr0 k1' (by rw [decide_eq_true k2]; rfl)) ⟨ho, ?_⟩⟩)
            have hp : H s.heap.objs.size = none := I.hok.fresh (Nat.le_refl _)
            refine ⟨.ref s.heap.objs.size, _, I.laid (t' := s.toks) (o := .tup []) (fun b ob q => Heap.get?_push_of_some _ q) (Nat.le_refl _) ⟨Nat.zero_le _, [], .nil, IsTup.new _ _⟩, rfl, q _ _ (.new hp) ?_⟩
            rw [show b.toNat = 0 by omega]
            exact .tup (.of upd_same) .nil
          · have hne : ys ≠ [] := fun e => by
              rw [e] at hle
              have : its = [] := List.length_eq_zero_iff.mp (by simpa using hle)
              rw [this] at k1'
              cases k1'
            have hb1 : b ≠ 1 := fun e => by rw [e] at k1'; simp at k1'
            refine op_repT pins s σ H (.ref l) (.int b) (.ref l) (.int b t) Q I rfl ⟨t, rfl⟩ ⟨l, b, ys, rfl, rfl, h1, hne, by omega, by omega, by omega, fun p hp => ?_⟩
            refine q _ _ (.new hp) (.tup (.of upd_same) ?_)
            exact ((h2.rep b.toNat).away hp).up (.new hp) |>.wide fun a z => z.1
      · cases hf
    | _ => cases hf
  | _ => cases hf
theorem subP_flat {d e r : PyData} (h : subP d e = some r) : noL r = true := by
  unfold subP at h; split at h <;> cases h; rfl
theorem fdivP_flat {d e r : PyData} (h : fdivP d e = some r) : noL r = true := by
  unfold fdivP at h; split at h
  · split at h <;> cases h; rfl
  · cases h
theorem modP_flat {d e r : PyData} (h : modP d e = some r) : noL r = true := by
  unfold modP at h; split at h
  · split at h <;> cases h; rfl
  · cases h
theorem powP_flat {d e r : PyData} (h : powP d e = some r) : noL r = true := by
  unfold powP at h; split at h
  · split at h <;> cases h; rfl
  · cases h
variable {a b : Expr} {p : Pos} {ms ns : List Nat} {f g : Sls → Option PyData} {ca cb : Bool}
/-- a binary operator over a rule -/
theorem pur_bin {op : Operator} {F : PyData → PyData → Option PyData} [h1 : PurE S nm T a ms f ca] [h2 : PurE S nm T b ns g cb] (ho : ∀ X : Cx, OpR X (binaryOp op) (rOp X.K F)) : PurE S nm T (.BinOp a op b p) (ms ++ ns) (fun env => bind2 F (f env) (g env)) (ca && cb) where
  run hc TB k X G := by
    simp only [Bool.and_eq_true] at hc
    obtain ⟨ta, ha, qa⟩ := h1.run hc.1 TB k X G
    obtain ⟨tb, hb, qb⟩ := h2.run hc.2 TB k X G
    exact ⟨_, pe_op (ho X) ha hb, fun A H0 H σ env d Q E hf q => op_rule qa qb E hf q⟩
theorem pur_flat {e : Expr} {c : Bool} (h : PurE S nm T e ms f c) (hf : ∀ env d, f env = some d → noL d = true) : PurE S nm T e [] f c where
  run hc TB k X G := by
    obtain ⟨ta, ha, qa⟩ := h.run hc TB k X G
    exact ⟨ta, ha, fun A H0 H σ env d Q E e q => qa A H0 H σ env d Q E e fun x H' g r => q x H' g (r.flat (hf _ _ e))⟩
instance purAdd [PurE S nm T a ms f ca] [PurE S nm T b ns g cb] : PurE S nm T (.BinOp a .Add b p) (ms ++ ns) (fun env => bind2 addP (f env) (g env)) (ca && cb) := pur_bin fun _ => op_addP
instance purSub [PurE S nm T a ms f ca] [PurE S nm T b ns g cb] : PurE S nm T (.BinOp a .Sub b p) [] (fun env => bind2 subP (f env) (g env)) (ca && cb) :=
  pur_flat (pur_bin (ms := ms) (ns := ns) fun _ => op_subP) fun env d h => let ⟨_, _, _, _, e⟩ := bind2_some h; subP_flat e
instance purFdiv [PurE S nm T a ms f ca] [PurE S nm T b ns g cb] : PurE S nm T (.BinOp a .FloorDiv b p) [] (fun env => bind2 fdivP (f env) (g env)) (ca && cb) :=
  pur_flat (pur_bin (ms := ms) (ns := ns) fun _ => op_fdivP) fun env d h => let ⟨_, _, _, _, e⟩ := bind2_some h; fdivP_flat e
instance purMod [PurE S nm T a ms f ca] [PurE S nm T b ns g cb] : PurE S nm T (.BinOp a .Mod b p) [] (fun env => bind2 modP (f env) (g env)) (ca && cb) :=
  pur_flat (pur_bin (ms := ms) (ns := ns) fun _ => op_modP) fun env d h => let ⟨_, _, _, _, e⟩ := bind2_some h; modP_flat e
instance purPow [PurE S nm T a ms f ca] [PurE S nm T b ns g cb] : PurE S nm T (.BinOp a .Pow b p) [] (fun env => bind2 powP (f env) (g env)) (ca && cb) :=
  pur_flat (pur_bin (ms := ms) (ns := ns) fun _ => op_powP) fun env d h => let ⟨_, _, _, _, e⟩ := bind2_some h; powP_flat e
instance purMul [PurE S nm T a ms f ca] [PurE S nm T b ns g cb] : PurE S nm T (.BinOp a .Mult b p) (ms ++ ns) (fun env => bind2 mulP (f env) (g env)) (ca && cb) := pur_bin fun _ => op_mulP

/-! ### one place -/
theorem pur_un {op : UnaryOp} {F : PyData → Option PyData} [h1 : PurE S nm T a ms f ca]
    (ho : ∀ X : Cx, UnR X (unaryOp op) (fun x H Q => ∃ (A : Addr → Prop) (d res : PyData), (∀ a, H a = none → A a) ∧ Rep X.K H A d x ∧ F d = some res ∧ ∀ z H', Grow H H' → Rep X.K H' A res z → Q z H')) : PurE S nm T (.UnaryOp op a p) ms (fun env => bind1 F (f env)) ca where
  run hc TB k X G := by
    obtain ⟨ta, ha, qa⟩ := h1.run hc TB k X G
    refine ⟨_, pe_un (ho X) ha, fun A H0 H σ env d Q E hf q => ?_⟩
    obtain ⟨x, e1, e2⟩ := bind1_some hf
    refine qa A H0 H σ env x _ E e1 fun u H1 g1 r1 => ?_
    exact ⟨sel ms A env σ, x, d, (E.up g1).selfree _, r1, e2, fun z H' g r => q z H' (g1.trans g) r⟩
def negP : PyData → Option PyData
  | .int i => some (.int (-i))
  | _ => none
theorem un_negP : UnR X (unaryOp .USub) (fun x H Q => ∃ (A : Addr → Prop) (d res : PyData), (∀ a, H a = none → A a) ∧ Rep X.K H A d x ∧ negP d = some res ∧ ∀ z H', Grow H H' → Rep X.K H' A res z → Q z H') := by
  intro pins s σ H x u Q I rx h
  obtain ⟨A, d, res, hA, rd, hf, q⟩ := h
  cases rd with
  | int i => cases hf; exact un_neg pins s σ H _ _ Q I rx ⟨_, rfl, q _ _ (.refl H) (.int _)⟩
  | _ => cases hf
instance purNeg [PurE S nm T a ms f ca] : PurE S nm T (.UnaryOp .USub a p) [] (fun env => bind1 negP (f env)) ca :=
  pur_flat (pur_un (ms := ms) fun _ => un_negP) fun env d h => by
    obtain ⟨x, _, e⟩ := bind1_some h
    unfold negP at e; split at e <;> cases e; rfl

/-! ### comparisons -/
def DEP : Nat := 150
theorem room_dep {A : Around} {n : Nat} (r : Room k A) (h : n ≤ DEP) : A.units + n < cLine := by
  have := r.un
  unfold DEP at h
  omega
/-- the lesser depth, of data without dicts -/
def dpX (d e : PyData) : Nat := if d.plain = true ∧ e.plain = true then min d.depth e.depth else 1000
def dpL (xs : List PyData) (d : PyData) : Nat := if PyData.plainAll xs = true ∧ d.plain = true then 1 + min (PyData.depthAll xs) d.depth else 1000
theorem dpX_le {d e : PyData} (h : dpX d e ≤ DEP) : d.plain = true ∧ e.plain = true ∧ min d.depth e.depth ≤ DEP := by
  unfold dpX at h
  split at h
  · rename_i z; exact ⟨z.1, z.2, h⟩
  · unfold DEP at h; omega
theorem dpL_le {xs : List PyData} {d : PyData} (h : dpL xs d ≤ DEP) : PyData.plainAll xs = true ∧ d.plain = true ∧ 1 + min (PyData.depthAll xs) d.depth ≤ DEP := by
  unfold dpL at h
  split at h
  · rename_i z; exact ⟨z.1, z.2, h⟩
  · unfold DEP at h; omega
def eqP (d e : PyData) : Option PyData := if dpX d e ≤ DEP then some (.bool (PyData.eqv d e)) else none
def neP (d e : PyData) : Option PyData := if dpX d e ≤ DEP then some (.bool (!PyData.eqv d e)) else none
theorem Rep.reads {pins : List (Addr × Obj)} {s : Shared} {σ : L2.St} {H : Hp} {A : Addr → Prop} {d : PyData} {x : V} {u : Value} (r : Rep X.K H A d x) (hp : d.plain = true) (I : Inv X pins σ H s) (ru : RelV x u) : ∃ as, Reads s.heap u d as := Dp.reads I d x u (r.dp hp) ru
theorem Reps.reads {pins : List (Addr × Obj)} {s : Shared} {σ : L2.St} {H : Hp} {A : Addr → Prop} {ds : List PyData} {xs : List V} {us : List Value} (r : Reps X.K H A ds xs) (hp : PyData.plainAll ds = true) (I : Inv X pins σ H s) (ru : Vals xs us) : ∃ as, ReadsAll s.heap us ds as := Dp.readsAll I ds xs us (r.dp hp) ru
theorem op_eqP (hr : Room k X.A) : OpR X (compareOp .Eq) (rOp X.K eqP) := by
  intro pins s σ H x y v u Q I rx ry h
  obtain ⟨A, d, e, res, hA, rd, re, hf, q⟩ := h
  unfold eqP at hf
  split at hf
  · rename_i hd
    cases hf
    obtain ⟨p1, p2, hd⟩ := dpX_le hd
    obtain ⟨as, r1⟩ := rd.reads p1 I rx
    obtain ⟨bs, r2⟩ := re.reads p2 I ry
    exact SeqAt.eq_plain r1 r2 p1 p2 (room_dep hr hd) ⟨.bl _, H, I, rfl, q _ _ (.refl H) (.bl _)⟩
  · cases hf
theorem op_neP (hr : Room k X.A) : OpR X (compareOp .NotEq) (rOp X.K neP) := by
  intro pins s σ H x y v u Q I rx ry h
  obtain ⟨A, d, e, res, hA, rd, re, hf, q⟩ := h
  unfold neP at hf
  split at hf
  · rename_i hd
    cases hf
    obtain ⟨p1, p2, hd⟩ := dpX_le hd
    obtain ⟨as, r1⟩ := rd.reads p1 I rx
    obtain ⟨bs, r2⟩ := re.reads p2 I ry
    exact SeqAt.ne_plain r1 r2 p1 p2 (room_dep hr hd) ⟨.bl _, H, I, rfl, q _ _ (.refl H) (.bl _)⟩
  · cases hf
theorem dataLt_int (a b : Int) : PySem.W.dataLt (.int a) (.int b) = decide (a < b) := by
  have h := congrFun (congrFun (PySem.W.dataLe_int (fun n : Int => n)) b) a
  rw [PySem.W.dataLe_eq] at h
  have h2 : (!PySem.W.dataLt (.int a) (.int b)) = decide (b ≤ a) := h
  rw [← Bool.not_not (PySem.W.dataLt (.int a) (.int b)), h2, ← decide_not]
  exact decide_eq_decide.mpr (by omega)
theorem dataLt_str (a b : Str) : PySem.W.dataLt (.str a) (.str b) = decide (a.cps.toList < b.cps.toList) := by
  have h := congrFun (congrFun (PySem.W.dataLe_str (fun n : Str => n)) b) a
  rw [PySem.W.dataLe_eq] at h
  have h2 : (!PySem.W.dataLt (.str a) (.str b)) = decide (b.cps.toList ≤ a.cps.toList) := h
  rw [← Bool.not_not (PySem.W.dataLt (.str a) (.str b)), h2, ← decide_not]
  exact decide_eq_decide.mpr (by rw [List.not_le])
/-- order: of ints, texts and data whose places are alike -/
def ltD (d e : PyData) : Option Bool := match d, e with
  | .int a, .int b => some (decide (a < b))
  | .str a, .str b => some (decide (a.cps.toList < b.cps.toList))
  | .tuple xs, .tuple ys => if PySem.W.alikeAll xs ys = true ∧ dpX (.tuple xs) (.tuple ys) ≤ DEP then some (PySem.W.dataLt (.tuple xs) (.tuple ys)) else none
  | .list xs, .list ys => if PySem.W.alikeAll xs ys = true ∧ dpX (.list xs) (.list ys) ≤ DEP then some (PySem.W.dataLt (.list xs) (.list ys)) else none
  | _, _ => none
theorem ltD_some {d e : PyData} {b : Bool} (h : ltD d e = some b) : PySem.W.alike d e = true ∧ d ≠ .none ∧ e ≠ .none ∧ min d.depth e.depth ≤ DEP ∧ PySem.W.dataLt d e = b ∧ d.plain = true ∧ e.plain = true := by
  unfold ltD at h
  split at h
  · cases h; exact ⟨rfl, PyData.noConfusion, PyData.noConfusion, by simp [PyData.depth], dataLt_int _ _, rfl, rfl⟩
  · cases h; exact ⟨rfl, PyData.noConfusion, PyData.noConfusion, by simp [PyData.depth], dataLt_str _ _, rfl, rfl⟩
  · split at h
    · rename_i h2
      cases h; exact ⟨h2.1, PyData.noConfusion, PyData.noConfusion, (dpX_le h2.2).2.2, rfl, (dpX_le h2.2).1, (dpX_le h2.2).2.1⟩
    · cases h
  · split at h
    · rename_i h2
      cases h; exact ⟨h2.1, PyData.noConfusion, PyData.noConfusion, (dpX_le h2.2).2.2, rfl, (dpX_le h2.2).1, (dpX_le h2.2).2.1⟩
    · cases h
  · cases h
def ltP (d e : PyData) : Option PyData := match ltD d e with | some b => some (.bool b) | none => none
def gtP (d e : PyData) : Option PyData := match ltD e d with | some b => some (.bool b) | none => none
def leP (d e : PyData) : Option PyData := match ltD e d with | some b => some (.bool (!b)) | none => none
def geP (d e : PyData) : Option PyData := match ltD d e with | some b => some (.bool (!b)) | none => none
theorem op_ltP (hr : Room k X.A) : OpR X (compareOp .Lt) (rOp X.K ltP) := by
  intro pins s σ H x y v u Q I rx ry h
  obtain ⟨A, d, e, res, hA, rd, re, hf, q⟩ := h
  unfold ltP at hf
  split at hf
  · rename_i b hb
    obtain ⟨h1, h2, h3, h4, h5, h6, h7⟩ := ltD_some hb
    obtain ⟨as, r1⟩ := rd.reads h6 I rx
    obtain ⟨bs, r2⟩ := re.reads h7 I ry
    cases hf
    exact PySem.W.lt_data r1 r2 h1 h2 (room_dep hr h4) (by rw [h5]; exact ⟨.bl _, H, I, rfl, q _ _ (.refl H) (.bl _)⟩)
  · cases hf
theorem op_geP (hr : Room k X.A) : OpR X (compareOp .GtE) (rOp X.K geP) := by
  intro pins s σ H x y v u Q I rx ry h
  obtain ⟨A, d, e, res, hA, rd, re, hf, q⟩ := h
  unfold geP at hf
  split at hf
  · rename_i b hb
    obtain ⟨h1, h2, h3, h4, h5, h6, h7⟩ := ltD_some hb
    obtain ⟨as, r1⟩ := rd.reads h6 I rx
    obtain ⟨bs, r2⟩ := re.reads h7 I ry
    cases hf
    exact PySem.W.ge_data r1 r2 h1 h2 (room_dep hr h4) (by rw [h5]; exact ⟨.bl _, H, I, rfl, q _ _ (.refl H) (.bl _)⟩)
  · cases hf
theorem op_gtP (hr : Room k X.A) : OpR X (compareOp .Gt) (rOp X.K gtP) := by
  intro pins s σ H x y v u Q I rx ry h
  obtain ⟨A, d, e, res, hA, rd, re, hf, q⟩ := h
  unfold gtP at hf
  split at hf
  · rename_i b hb
    obtain ⟨h1, h2, h3, h4, h5, h6, h7⟩ := ltD_some hb
    obtain ⟨as, r1⟩ := rd.reads h7 I rx
    obtain ⟨bs, r2⟩ := re.reads h6 I ry
    cases hf
    exact PySem.W.gt_data r1 r2 (by rw [PySem.W.alike_comm]; exact h1) h3 (room_dep hr (by rw [Nat.min_comm]; exact h4)) (by rw [h5]; exact ⟨.bl _, H, I, rfl, q _ _ (.refl H) (.bl _)⟩)
  · cases hf
theorem op_leP (hr : Room k X.A) : OpR X (compareOp .LtE) (rOp X.K leP) := by
  intro pins s σ H x y v u Q I rx ry h
  obtain ⟨A, d, e, res, hA, rd, re, hf, q⟩ := h
  unfold leP at hf
  split at hf
  · rename_i b hb
    obtain ⟨h1, h2, h3, h4, h5, h6, h7⟩ := ltD_some hb
    obtain ⟨as, r1⟩ := rd.reads h7 I rx
    obtain ⟨bs, r2⟩ := re.reads h6 I ry
    cases hf
    exact PySem.W.le_data r1 r2 (by rw [PySem.W.alike_comm]; exact h1) h3 (room_dep hr (by rw [Nat.min_comm]; exact h4)) (by rw [h5]; exact ⟨.bl _, H, I, rfl, q _ _ (.refl H) (.bl _)⟩)
  · cases hf
/-- x in y -/
noncomputable def inD (d e : PyData) : Option Bool := match e with
  | .list xs => if dpL xs d ≤ DEP then some (xs.any fun y => PyData.eqv y d) else none
  | .tuple xs => if dpL xs d ≤ DEP then some (xs.any fun y => PyData.eqv y d) else none
  | .dict kvs => if okK kvs d = true then some (lkD kvs d).isSome else none
  | .str t => (match d with | .str z => some (!(Builtin.Str.occurrences t z 0 t.length 1).isEmpty) | _ => none)
  | _ => none
noncomputable def inP (d e : PyData) : Option PyData := match inD d e with | some b => some (.bool b) | none => none
noncomputable def ninP (d e : PyData) : Option PyData := match inD d e with | some b => some (.bool (!b)) | none => none
theorem op_inP (hr : Room k X.A) : OpR X (compareOp .In) (rOp X.K inP) := by
  intro pins s σ H x y v u Q I rx ry h
  obtain ⟨A, d, e, res, hA, rd, re, hf, q⟩ := h
  unfold inP at hf
  split at hf
  · rename_i b hb
    cases hf
    unfold inD at hb
    split at hb
    · split at hb
      · rename_i hu
        cases hb
        obtain ⟨p1, p2, hu⟩ := dpL_le hu
        obtain ⟨as, r1⟩ := rd.reads p2 I rx
        obtain ⟨bs, r2⟩ := re.reads (by rw [PyData.plain]; exact p1) I ry
        exact SeqAt.in_list_data r2 r1 p1 p2 (by have := room_dep hr hu; omega) ⟨.bl _, H, I, rfl, q _ _ (.refl H) (.bl _)⟩
      · cases hb
    · split at hb
      · rename_i hu
        cases hb
        obtain ⟨p1, p2, hu⟩ := dpL_le hu
        obtain ⟨as, r1⟩ := rd.reads p2 I rx
        obtain ⟨bs, r2⟩ := re.reads (by rw [PyData.plain]; exact p1) I ry
        exact SeqAt.in_tuple_data r2 r1 p1 p2 (by have := room_dep hr hu; omega) ⟨.bl _, H, I, rfl, q _ _ (.refl H) (.bl _)⟩
      · cases hb
    · split at hb
      · rename_i hk
        cases hb
        cases re with
        | dct h1 h2 h3 =>
          cases ry
          exact dc_in (room_dep hr (n := 1) (by decide)) I h2 h3 hk rd rx fun s' I' => ⟨.bl _, H, I', rfl, q _ _ (.refl H) (.bl _)⟩
      · cases hb
    · split at hb
      · cases hb
        cases rd
        cases re
        exact op_in_str pins s σ H _ _ _ _ Q I rx ry ⟨_, _, rfl, rfl, q _ _ (.refl H) (.bl _)⟩
      · cases hb
    · cases hb
  · cases hf
theorem op_ninP (hr : Room k X.A) : OpR X (compareOp .NotIn) (rOp X.K ninP) := by
  intro pins s σ H x y v u Q I rx ry h
  obtain ⟨A, d, e, res, hA, rd, re, hf, q⟩ := h
  unfold ninP at hf
  split at hf
  · rename_i b hb
    cases hf
    unfold inD at hb
    split at hb
    · split at hb
      · rename_i hu
        cases hb
        obtain ⟨p1, p2, hu⟩ := dpL_le hu
        obtain ⟨as, r1⟩ := rd.reads p2 I rx
        obtain ⟨bs, r2⟩ := re.reads (by rw [PyData.plain]; exact p1) I ry
        exact SeqAt.notIn_list_data r2 r1 p1 p2 (by have := room_dep hr hu; omega) ⟨.bl _, H, I, rfl, q _ _ (.refl H) (.bl _)⟩
      · cases hb
    · split at hb
      · rename_i hu
        cases hb
        obtain ⟨p1, p2, hu⟩ := dpL_le hu
        obtain ⟨as, r1⟩ := rd.reads p2 I rx
        obtain ⟨bs, r2⟩ := re.reads (by rw [PyData.plain]; exact p1) I ry
        exact SeqAt.notIn_tuple_data r2 r1 p1 p2 (by have := room_dep hr hu; omega) ⟨.bl _, H, I, rfl, q _ _ (.refl H) (.bl _)⟩
      · cases hb
    · split at hb
      · rename_i hk
        cases hb
        cases re with
        | dct h1 h2 h3 =>
          cases ry
          exact dc_notIn (room_dep hr (n := 1) (by decide)) I h2 h3 hk rd rx fun s' I' => ⟨.bl _, H, I', rfl, q _ _ (.refl H) (.bl _)⟩
      · cases hb
    · split at hb
      · cases hb
        cases rd
        cases re
        exact op_notin_str pins s σ H _ _ _ _ Q I rx ry ⟨_, _, rfl, rfl, q _ _ (.refl H) (.bl _)⟩
      · cases hb
    · cases hb
  · cases hf
/-- an operator of comparison -/
class CmpP (op : CmpOp) (F : outParam (PyData → PyData → Option PyData)) : Prop where
  rule : ∀ (X : Cx) (k : Nat), Room k X.A → OpR X (compareOp op) (rOp X.K F)
  bool : ∀ d e r, F d e = some r → ∃ b, r = .bool b
instance : CmpP .Eq eqP := ⟨fun _ _ hr => op_eqP hr, fun d e r h => by unfold eqP at h; split at h <;> cases h; exact ⟨_, rfl⟩⟩
instance : CmpP .NotEq neP := ⟨fun _ _ hr => op_neP hr, fun d e r h => by unfold neP at h; split at h <;> cases h; exact ⟨_, rfl⟩⟩
instance : CmpP .Lt ltP := ⟨fun _ _ hr => op_ltP hr, fun d e r h => by unfold ltP at h; split at h <;> cases h; exact ⟨_, rfl⟩⟩
instance : CmpP .LtE leP := ⟨fun _ _ hr => op_leP hr, fun d e r h => by unfold leP at h; split at h <;> cases h; exact ⟨_, rfl⟩⟩
instance : CmpP .Gt gtP := ⟨fun _ _ hr => op_gtP hr, fun d e r h => by unfold gtP at h; split at h <;> cases h; exact ⟨_, rfl⟩⟩
instance : CmpP .GtE geP := ⟨fun _ _ hr => op_geP hr, fun d e r h => by unfold geP at h; split at h <;> cases h; exact ⟨_, rfl⟩⟩
instance : CmpP .In inP := ⟨fun _ _ hr => op_inP hr, fun d e r h => by unfold inP at h; split at h <;> cases h; exact ⟨_, rfl⟩⟩
instance : CmpP .NotIn ninP := ⟨fun _ _ hr => op_ninP hr, fun d e r h => by unfold ninP at h; split at h <;> cases h; exact ⟨_, rfl⟩⟩
def notSet : Expr → Bool
  | .Set .. => false
  | _ => true
theorem marks_of {op : CmpOp} {e : Expr} (h : notSet e = true) : behindInMarks op e = false := by
  cases e <;> first | rfl | cases h
def toB : Option PyData → Option Bool
  | some (.bool b) => some b
  | _ => none
theorem toB_some {o : Option PyData} {b : Bool} (h : toB o = some b) : o = some (.bool b) := by
  unfold toB at h; split at h <;> cases h; rfl
instance (priority := low) purCmp {op : CmpOp} {F : PyData → PyData → Option PyData} [hC : CmpP op F] [h1 : PurE S nm T a ms f ca] [h2 : PurE S nm T b ns g cb] : PurE S nm T (.Compare a [op] [b] p) [] (fun env => bind2 F (f env) (g env)) (ca && cb && notSet b) where
  run hc TB k X G := by
    simp only [Bool.and_eq_true] at hc
    obtain ⟨ta, ha, qa⟩ := h1.run hc.1.1 TB k X G
    obtain ⟨tb, hb, qb⟩ := h2.run hc.1.2 TB k X G
    exact ⟨_, pe_cmpR (hC.rule X k G.room) ha hb (marks_of hc.2), fun A H0 H σ env d Q E hf q => op_rule qa qb E hf fun x H' g r => q x H' g (r.flat (by
      obtain ⟨_, _, _, _, e⟩ := bind2_some hf
      obtain ⟨b, rfl⟩ := hC.bool _ _ _ e
      rfl))⟩
instance (priority := low) purCmpT {op : CmpOp} {F : PyData → PyData → Option PyData} [hC : CmpP op F] [h1 : PurE S nm T a ms f ca] [h2 : PurE S nm T b ns g cb] : PurT S nm T (.Compare a [op] [b] p) (fun env => toB (bind2 F (f env) (g env))) (ca && cb && notSet b) where
  run hc TB k X G := by
    simp only [Bool.and_eq_true] at hc
    obtain ⟨ta, ha, qa⟩ := h1.run hc.1.1 TB k X G
    obtain ⟨tb, hb, qb⟩ := h2.run hc.1.2 TB k X G
    refine ⟨_, pt_cmpR (hC.rule X k G.room) ha hb (marks_of hc.2), fun A H0 H σ env d Q E hf q => ?_⟩
    refine op_rule qa qb E (toB_some hf) fun x H' g r => ?_
    cases r
    exact ⟨d, rfl, q H' g⟩
/-- is None, is not None -/
def isNoneP : PyData → Option PyData
  | .none => some (.bool true)
  | _ => some (.bool false)
def isNone : PyData → Bool
  | .none => true
  | _ => false
theorem isNone_rep {K : PySem.W.Frag} {H : Hp} {A : Addr → Prop} {d : PyData} {x : V} (r : Rep K H A d x) : decide (x = .non) = isNone d := by
  cases r <;> simp [isNone]
instance purIsN {j : Nat} {p' : Pos} [h1 : PurE S nm T a ms f ca] : PurE S nm T (.Compare a [.Is] [.Constant .none j p'] p) [] (fun env => bind1 (fun d => some (.bool (isNone d))) (f env)) ca where
  run hc TB k X G := by
    obtain ⟨ta, ha, qa⟩ := h1.run hc TB k X G
    refine ⟨_, pe_cmpR op_isN ha pe_non (nomark _), fun A H0 H σ env d Q E hf q => ?_⟩
    obtain ⟨x, e1, e2⟩ := bind1_some hf
    refine qa A H0 H σ env x _ E e1 fun u H1 g1 r1 => ⟨rfl, ?_⟩
    cases e2
    rw [isNone_rep r1]
    exact q _ _ g1 (.bl _)
instance purIsNT {j : Nat} {p' : Pos} [h1 : PurE S nm T a ms f ca] : PurT S nm T (.Compare a [.Is] [.Constant .none j p'] p) (fun env => match f env with | some d => some (isNone d) | none => none) ca where
  run hc TB k X G := by
    obtain ⟨ta, ha, qa⟩ := h1.run hc TB k X G
    refine ⟨_, pt_cmpR op_isN ha pe_non (nomark _), fun A H0 H σ env d Q E hf q => ?_⟩
    dsimp only at hf
    split at hf
    · rename_i x e1
      cases hf
      refine qa A H0 H σ env x _ E e1 fun u H1 g1 r1 => ⟨rfl, ?_⟩
      rw [isNone_rep r1]
      exact ⟨_, rfl, q _ g1⟩
    · cases hf
instance purNotN {j : Nat} {p' : Pos} [h1 : PurE S nm T a ms f ca] : PurE S nm T (.Compare a [.IsNot] [.Constant .none j p'] p) [] (fun env => bind1 (fun d => some (.bool (!isNone d))) (f env)) ca where
  run hc TB k X G := by
    obtain ⟨ta, ha, qa⟩ := h1.run hc TB k X G
    refine ⟨_, pe_cmpR op_notN ha pe_non (nomark _), fun A H0 H σ env d Q E hf q => ?_⟩
    obtain ⟨x, e1, e2⟩ := bind1_some hf
    refine qa A H0 H σ env x _ E e1 fun u H1 g1 r1 => ⟨rfl, ?_⟩
    cases e2
    rw [isNone_rep r1]
    exact q _ _ g1 (.bl _)
instance purNotNT {j : Nat} {p' : Pos} [h1 : PurE S nm T a ms f ca] : PurT S nm T (.Compare a [.IsNot] [.Constant .none j p'] p) (fun env => match f env with | some d => some (!isNone d) | none => none) ca where
  run hc TB k X G := by
    obtain ⟨ta, ha, qa⟩ := h1.run hc TB k X G
    refine ⟨_, pt_cmpR op_notN ha pe_non (nomark _), fun A H0 H σ env d Q E hf q => ?_⟩
    dsimp only at hf
    split at hf
    · rename_i x e1
      cases hf
      refine qa A H0 H σ env x _ E e1 fun u H1 g1 r1 => ⟨rfl, ?_⟩
      rw [isNone_rep r1]
      exact ⟨_, rfl, q _ g1⟩
    · cases hf
/-- a op b op' c -/
def chainP (F F' : PyData → PyData → Option PyData) (a b c : Option PyData) : Option PyData := match a with
  | some x => (match b with
    | some y => (match F x y with
      | some (.bool true) => (match c with | some z => F' y z | none => none)
      | some (.bool false) => some (.bool false)
      | _ => none)
    | none => none)
  | none => none
variable {c : Expr} {ls : List Nat} {h : Sls → Option PyData} {cc : Bool}
theorem chain_rule {F F' : PyData → PyData → Option PyData} {ta tb tc : TE} (hF : ∀ d e r, F' d e = some r → ∃ b, r = .bool b) (qa : ESp X TB ms f ta) (qb : ESp X TB ns g tb) (qc : ESp X TB ls h tc)
    {A : Addr → Prop} {H0 H : Hp} {σ : L2.St} {env : Sls} {d : PyData} {Q : VK} (E : EnvRep X.K TB A H0 H σ env) (hf : chainP F F' (f env) (g env) (h env) = some d)
    (q : ∀ x H', Grow H H' → Rep X.K H' (fun _ => True) d x → Q x H') : tChain (rOp X.K F) (rOp X.K F') ta tb tc σ H Q := by
  unfold chainP at hf
  split at hf
  · rename_i x e1
    split at hf
    · rename_i y e2
      refine qa A H0 H σ env x _ E e1 fun u H1 g1 r1 => ?_
      refine qb A H0 H1 σ env y _ (E.up g1) e2 fun v H2 g2 r2 => ?_
      have E2 := E.up (g1.trans g2)
      split at hf
      · rename_i e3
        split at hf
        · rename_i z e4
          refine ⟨sel (ms ++ ns) A env σ, x, y, _, E2.selfree _, (r1.up g2).wide fun a z => z.l, r2.wide fun a z => z.r, e3, fun w H3 g3 r3 => ?_⟩
          cases r3
          refine ⟨true, rfl, ?_⟩
          rw [if_pos rfl]
          refine qc A H0 H3 σ env z _ (E2.up g3) e4 fun w4 H4 g4 r4 => ?_
          exact ⟨fun _ => True, y, z, d, fun _ _ => trivial, ((r2.up g3).up g4).wide fun _ _ => trivial, r4.wide fun _ _ => trivial, hf, fun w5 H5 g5 r5 => q _ _ ((((g1.trans g2).trans g3).trans g4).trans g5) r5⟩
        · cases hf
      · rename_i e3
        cases hf
        refine ⟨sel (ms ++ ns) A env σ, x, y, _, E2.selfree _, (r1.up g2).wide fun a z => z.l, r2.wide fun a z => z.r, e3, fun w H3 g3 r3 => ?_⟩
        cases r3
        refine ⟨false, rfl, ?_⟩
        rw [if_neg Bool.false_ne_true]
        exact q _ _ ((g1.trans g2).trans g3) (.bl _)
      · cases hf
    · cases hf
  · cases hf
theorem chain_bool {F F' : PyData → PyData → Option PyData} (hF : ∀ d e r, F' d e = some r → ∃ b, r = .bool b) {a b c : Option PyData} {d : PyData} (h : chainP F F' a b c = some d) : ∃ k, d = .bool k := by
  unfold chainP at h
  split at h
  · split at h
    · split at h
      · split at h
        · exact hF _ _ _ h
        · cases h
      · cases h; exact ⟨_, rfl⟩
      · cases h
    · cases h
  · cases h
instance purChain {op op' : CmpOp} {F F' : PyData → PyData → Option PyData} [hC : CmpP op F] [hC' : CmpP op' F'] [h1 : PurE S nm T a ms f ca] [h2 : PurE S nm T b ns g cb] [h3 : PurE S nm T c ls h cc] :
    PurE S nm T (.Compare a [op, op'] [b, c] p) [] (fun env => chainP F F' (f env) (g env) (h env)) (ca && cb && cc && notSet c) where
  run hc TB k X G := by
    simp only [Bool.and_eq_true] at hc
    obtain ⟨ta, ha, qa⟩ := h1.run hc.1.1.1 TB k X G
    obtain ⟨tb, hb, qb⟩ := h2.run hc.1.1.2 TB k X G
    obtain ⟨tc, hcc, qc⟩ := h3.run hc.1.2 TB k X G
    refine ⟨_, pe_chain (hC.rule X k G.room) (hC'.rule X k G.room) ha hb hcc (marks_of hc.2), fun A H0 H σ env d Q E hf q => chain_rule hC'.bool qa qb qc E hf fun x H' g r => q x H' g (r.flat ?_)⟩
    obtain ⟨k, rfl⟩ := chain_bool hC'.bool hf
    rfl
instance purChainT {op op' : CmpOp} {F F' : PyData → PyData → Option PyData} [hC : CmpP op F] [hC' : CmpP op' F'] [h1 : PurE S nm T a ms f ca] [h2 : PurE S nm T b ns g cb] [h3 : PurE S nm T c ls h cc] :
    PurT S nm T (.Compare a [op, op'] [b, c] p) (fun env => toB (chainP F F' (f env) (g env) (h env))) (ca && cb && cc && notSet c) where
  run hc TB k X G := by
    simp only [Bool.and_eq_true] at hc
    obtain ⟨ta, ha, qa⟩ := h1.run hc.1.1.1 TB k X G
    obtain ⟨tb, hb, qb⟩ := h2.run hc.1.1.2 TB k X G
    obtain ⟨tc, hcc, qc⟩ := h3.run hc.1.2 TB k X G
    refine ⟨_, pt_chain (hC.rule X k G.room) (hC'.rule X k G.room) ha hb hcc (marks_of hc.2), fun A H0 H σ env d Q E hf q => chain_rule hC'.bool qa qb qc E (toB_some hf) fun x H' g r => ?_⟩
    cases r
    exact ⟨d, rfl, q H' g⟩

/-! ### truth -/
def truD : PyData → Option Bool
  | .none => some false
  | .bool b => some b
  | .int i => some (i != 0)
  | .str x => if x.length ≤ LIM then some ((x.length : Int) != 0) else none
  | .list xs => some (!xs.isEmpty)
  | .tuple xs => some (!xs.isEmpty)
  | .dict _ => none
theorem Reps.isEmpty {K : PySem.W.Frag} {H : Hp} {A : Addr → Prop} {ds : List PyData} {vs : List V} (r : Reps K H A ds vs) : ds.isEmpty = vs.isEmpty := by cases r <;> rfl
theorem tru_rep {K : PySem.W.Frag} {H : Hp} {A : Addr → Prop} {d : PyData} {x : V} {b : Bool} (r : Rep K H A d x) (h : truD d = some b) : TruV K x H b := by
  cases r with
  | non => cases h; rfl
  | bl b => cases h; rfl
  | int i => cases h; rfl
  | str x =>
    change (if x.length ≤ LIM then some ((x.length : Int) != 0) else none) = some b at h
    split at h
    · cases h; exact ⟨by rw [← lim_line]; assumption, rfl⟩
    · cases h
  | tup h1 r => cases h; exact .inr (.inl ⟨_, h1, by rw [r.isEmpty]⟩)
  | lst h1 r => cases h; exact .inl ⟨_, h1.sql, by rw [r.isEmpty]⟩
  | dct _ _ _ => cases h
def bindT (a : Option PyData) : Option Bool := match a with | some d => truD d | none => none
theorem bindT_some {a : Option PyData} {b : Bool} (h : bindT a = some b) : ∃ d, a = some d ∧ truD d = some b := by
  unfold bindT at h; split at h
  · exact ⟨_, rfl, h⟩
  · cases h
theorem pur_truth {e : Expr} [h1 : PurE S nm T e ms f ca] (he : ∀ (env : Env) whole, isTrue e env whole = (do let v ← whole; standAt e.pos; holding [v] (truthy v))) : PurT S nm T e (fun env => bindT (f env)) ca where
  run hc TB k X G := by
    obtain ⟨ta, ha, qa⟩ := h1.run hc TB k X G
    refine ⟨_, pt_truth ha (he X.env), fun A H0 H σ env b Q E hf q => ?_⟩
    obtain ⟨d, e1, e2⟩ := bindT_some hf
    exact qa A H0 H σ env d _ E e1 fun x H1 g1 r1 => ⟨b, tru_rep r1 e2, q H1 g1⟩
instance purNameT {x : Str} [PurE S nm T (.Name x p) ms f ca] : PurT S nm T (.Name x p) (fun env => bindT (f env)) ca := pur_truth fun _ _ => by simp [PySem.isTrue]
instance purCallT {e : Expr} {es : List Expr} {kws : List Keyword} [PurE S nm T (.Call e es kws p) ms f ca] : PurT S nm T (.Call e es kws p) (fun env => bindT (f env)) ca := pur_truth fun _ _ => by simp [PySem.isTrue]
instance purSubT {e i : Expr} [PurE S nm T (.Subscript e i p) ms f ca] : PurT S nm T (.Subscript e i p) (fun env => bindT (f env)) ca := pur_truth fun _ _ => by simp [PySem.isTrue]
instance purConstT {v : Const} {j : Nat} [PurE S nm T (.Constant v j p) ms f ca] : PurT S nm T (.Constant v j p) (fun env => bindT (f env)) ca := pur_truth fun _ _ => by simp [PySem.isTrue]
instance purBinT {e e' : Expr} {op : Operator} [PurE S nm T (.BinOp e op e' p) ms f ca] : PurT S nm T (.BinOp e op e' p) (fun env => bindT (f env)) ca := pur_truth fun _ _ => by simp [PySem.isTrue]
/-! ### and, or, not, if else -/
variable {fa fb fc : Sls → Option Bool} {rest : List Expr} {p' : Pos}
def andB (a b : Option Bool) : Option Bool := match a with | some true => b | some false => some false | none => none
def orB (a b : Option Bool) : Option Bool := match a with | some false => b | some true => some true | none => none
def notB (a : Option Bool) : Option Bool := match a with | some b => some (!b) | none => none
instance purNotT [h1 : PurT S nm T a fa ca] : PurT S nm T (.UnaryOp .Not a p) (fun env => notB (fa env)) ca where
  run hc TB k X G := by
    obtain ⟨ta, ha, qa⟩ := h1.run hc TB k X G
    refine ⟨_, pt_not ha, fun A H0 H σ env b Q E hf q => ?_⟩
    unfold notB at hf
    dsimp only at hf
    split at hf
    · rename_i c e
      cases hf
      exact qa A H0 H σ env c _ E e fun H1 g1 => q H1 g1
    · cases hf
instance purAnd1 [h1 : PurT S nm T a fa ca] : PurW S nm T (.BoolOp .And [a] p) fa ca where
  run hc TB k X G := by
    obtain ⟨ta, ha, qa⟩ := h1.run hc TB k X G
    exact ⟨_, pw_and1 ha, qa⟩
instance purOr1 [h1 : PurT S nm T a fa ca] : PurW S nm T (.BoolOp .Or [a] p) fa ca where
  run hc TB k X G := by
    obtain ⟨ta, ha, qa⟩ := h1.run hc TB k X G
    exact ⟨_, pw_or1 ha, qa⟩
instance purAndC [h1 : PurT S nm T a fa ca] [h2 : PurW S nm T (.BoolOp .And (b :: rest) p) fb cb] : PurW S nm T (.BoolOp .And (a :: b :: rest) p) (fun env => andB (fa env) (fb env)) (ca && cb) where
  run hc TB k X G := by
    simp only [Bool.and_eq_true] at hc
    obtain ⟨ta, ha, qa⟩ := h1.run hc.1 TB k X G
    obtain ⟨tb, hb, qb⟩ := h2.run hc.2 TB k X G
    refine ⟨_, pw_and ha hb, fun A H0 H σ env b Q E hf q => ?_⟩
    unfold andB at hf
    dsimp only at hf
    split at hf
    · rename_i e
      refine qa A H0 H σ env true _ E e fun H1 g1 => ?_
      rw [if_pos rfl]
      exact qb A H0 H1 σ env b _ (E.up g1) hf fun H2 g2 => q H2 (g1.trans g2)
    · rename_i e
      cases hf
      refine qa A H0 H σ env false _ E e fun H1 g1 => ?_
      rw [if_neg Bool.false_ne_true]
      exact q H1 g1
    · cases hf
instance purOrC [h1 : PurT S nm T a fa ca] [h2 : PurW S nm T (.BoolOp .Or (b :: rest) p) fb cb] : PurW S nm T (.BoolOp .Or (a :: b :: rest) p) (fun env => orB (fa env) (fb env)) (ca && cb) where
  run hc TB k X G := by
    simp only [Bool.and_eq_true] at hc
    obtain ⟨ta, ha, qa⟩ := h1.run hc.1 TB k X G
    obtain ⟨tb, hb, qb⟩ := h2.run hc.2 TB k X G
    refine ⟨_, pw_or ha hb, fun A H0 H σ env b Q E hf q => ?_⟩
    unfold orB at hf
    dsimp only at hf
    split at hf
    · rename_i e
      refine qa A H0 H σ env false _ E e fun H1 g1 => ?_
      rw [if_neg Bool.false_ne_true]
      exact qb A H0 H1 σ env b _ (E.up g1) hf fun H2 g2 => q H2 (g1.trans g2)
    · rename_i e
      cases hf
      refine qa A H0 H σ env true _ E e fun H1 g1 => ?_
      rw [if_pos rfl]
      exact q H1 g1
    · cases hf
instance purBoolT {op : BoolOp} {es : List Expr} [h1 : PurW S nm T (.BoolOp op es p) fa ca] : PurT S nm T (.BoolOp op es p) fa ca where
  run hc TB k X G := by
    obtain ⟨ta, ha, qa⟩ := h1.run hc TB k X G
    exact ⟨_, ha.pt, qa⟩
/-- .. as values -/
def andV (a b : Option PyData) : Option PyData := match a with
  | some d => (match truD d with | some true => b | some false => some d | none => none)
  | none => none
def orV (a b : Option PyData) : Option PyData := match a with
  | some d => (match truD d with | some true => some d | some false => b | none => none)
  | none => none
instance purOne {op : BoolOp} [h1 : PurE S nm T a ms f ca] : PurE S nm T (.BoolOp op [a] p) ms f ca where
  run hc TB k X G := by
    obtain ⟨ta, ha, qa⟩ := h1.run hc TB k X G
    exact ⟨_, pe_one ha, qa⟩
instance purAndV [h1 : PurE S nm T a ms f ca] [h2 : PurE S nm T (.BoolOp .And (b :: rest) p) ns g cb] : PurE S nm T (.BoolOp .And (a :: b :: rest) p) (ms ++ ns) (fun env => andV (f env) (g env)) (ca && cb) where
  run hc TB k X G := by
    simp only [Bool.and_eq_true] at hc
    obtain ⟨ta, ha, qa⟩ := h1.run hc.1 TB k X G
    obtain ⟨tb, hb, qb⟩ := h2.run hc.2 TB k X G
    refine ⟨_, pe_andT ha hb, fun A H0 H σ env d Q E hf q => ?_⟩
    unfold andV at hf
    dsimp only at hf
    split at hf
    · rename_i x e
      refine qa A H0 H σ env x _ E e fun u H1 g1 r1 => ?_
      split at hf
      · rename_i e2
        refine ⟨true, tru_rep r1 e2, ?_⟩
        rw [if_pos rfl]
        exact qb A H0 H1 σ env d _ (E.up g1) hf fun v H2 g2 r2 => q v H2 (g1.trans g2) (r2.wide fun a z => z.r)
      · rename_i e2
        cases hf
        refine ⟨false, tru_rep r1 e2, ?_⟩
        rw [if_neg Bool.false_ne_true]
        exact q u H1 g1 (r1.wide fun a z => z.l)
      · cases hf
    · cases hf
instance purOrV [h1 : PurE S nm T a ms f ca] [h2 : PurE S nm T (.BoolOp .Or (b :: rest) p) ns g cb] : PurE S nm T (.BoolOp .Or (a :: b :: rest) p) (ms ++ ns) (fun env => orV (f env) (g env)) (ca && cb) where
  run hc TB k X G := by
    simp only [Bool.and_eq_true] at hc
    obtain ⟨ta, ha, qa⟩ := h1.run hc.1 TB k X G
    obtain ⟨tb, hb, qb⟩ := h2.run hc.2 TB k X G
    refine ⟨_, pe_orT ha hb, fun A H0 H σ env d Q E hf q => ?_⟩
    unfold orV at hf
    dsimp only at hf
    split at hf
    · rename_i x e
      refine qa A H0 H σ env x _ E e fun u H1 g1 r1 => ?_
      split at hf
      · rename_i e2
        cases hf
        refine ⟨true, tru_rep r1 e2, ?_⟩
        rw [if_pos rfl]
        exact q u H1 g1 (r1.wide fun a z => z.l)
      · rename_i e2
        refine ⟨false, tru_rep r1 e2, ?_⟩
        rw [if_neg Bool.false_ne_true]
        exact qb A H0 H1 σ env d _ (E.up g1) hf fun v H2 g2 r2 => q v H2 (g1.trans g2) (r2.wide fun a z => z.r)
      · cases hf
    · cases hf
def notV (a : Option PyData) : Option PyData := match a with
  | some d => (match truD d with | some b => some (.bool (!b)) | none => none)
  | none => none
instance purNotV [h1 : PurE S nm T a ms f ca] : PurE S nm T (.UnaryOp .Not a p) [] (fun env => notV (f env)) ca where
  run hc TB k X G := by
    obtain ⟨ta, ha, qa⟩ := h1.run hc TB k X G
    refine ⟨_, pe_notT ha, fun A H0 H σ env d Q E hf q => ?_⟩
    unfold notV at hf
    dsimp only at hf
    split at hf
    · rename_i x e
      split at hf
      · rename_i b e2
        cases hf
        exact qa A H0 H σ env x _ E e fun u H1 g1 r1 => ⟨b, tru_rep r1 e2, q _ H1 g1 (.bl _)⟩
      · cases hf
    · cases hf
def iteV (c : Option Bool) (a b : Option PyData) : Option PyData := match c with | some true => a | some false => b | none => none
instance purIf [h0 : PurT S nm T c fc cc] [h1 : PurE S nm T a ms f ca] [h2 : PurE S nm T b ns g cb] : PurE S nm T (.IfExp c a b p) (ms ++ ns) (fun env => iteV (fc env) (f env) (g env)) (cc && ca && cb) where
  run hc TB k X G := by
    simp only [Bool.and_eq_true] at hc
    obtain ⟨tc, hcc, qc⟩ := h0.run hc.1.1 TB k X G
    obtain ⟨ta, ha, qa⟩ := h1.run hc.1.2 TB k X G
    obtain ⟨tb, hb, qb⟩ := h2.run hc.2 TB k X G
    refine ⟨_, pe_ifExp hcc ha hb, fun A H0 H σ env d Q E hf q => ?_⟩
    unfold iteV at hf
    dsimp only at hf
    split at hf
    · rename_i e
      refine qc A H0 H σ env true _ E e fun H1 g1 => ?_
      rw [if_pos rfl]
      exact qa A H0 H1 σ env d _ (E.up g1) hf fun v H2 g2 r2 => q v H2 (g1.trans g2) (r2.wide fun a z => z.l)
    · rename_i e
      refine qc A H0 H σ env false _ E e fun H1 g1 => ?_
      rw [if_neg Bool.false_ne_true]
      exact qb A H0 H1 σ env d _ (E.up g1) hf fun v H2 g2 r2 => q v H2 (g1.trans g2) (r2.wide fun a z => z.r)
    · cases hf
end
end Pu

set_option Elab.async false
set_option linter.all false
set_option autoImplicit false
set_option maxRecDepth 100000
set_option maxHeartbeats 4000000
namespace Pu
open PySem PySem.Spec PyProof.Rows L2 GxR
section
variable {S : List (Str × Nat)} {nm : List (Str × NameKind)} {T : Tab} {TB : Addr → Prop} {k : Nat} {X : Cx}
variable {a b : Expr} {p : Pos} {ms ns : List Nat} {f g : Sls → Option PyData} {ca cb : Bool} {es : List Expr} {fs : Sls → Option (List PyData)} {ce : Bool}

/-! ### arguments -/
def notStar : Expr → Bool
  | .Starred .. => false
  | _ => true
theorem star_of {e : Expr} {es : List Expr} {env : Env} (h : notStar e = true) : starEach (e :: es) env = (false, eval e env) :: starEach es env := by
  cases e <;> first | rfl | cases h
theorem stars_of {pos : Pos} {env : Env} : ∀ {es : List Expr}, es.all notStar = true → (backTo pos (starEach es env)).any (·.1) = false
  | [], _ => rfl
  | e :: es, h => by
    simp only [List.all_cons, Bool.and_eq_true] at h
    rw [star_of h.1]
    show (false || (backTo pos (starEach es env)).any (·.1)) = false
    rw [stars_of h.2]; rfl
def consA (a : Option PyData) (b : Option (List PyData)) : Option (List PyData) := match a with
  | some x => (match b with | some xs => some (x :: xs) | none => none)
  | none => none
instance purNil : PurA S nm T [] [] (fun _ => some []) true where
  run _ TB k X G := ⟨_, pa_nil, fun env ds h => by cases h; rfl, fun A H0 H σ env d Q E hf q => by cases hf; exact q _ H (.refl H) .nil⟩
instance purCons [h1 : PurE S nm T a ms f ca] [h2 : PurA S nm T es ns fs ce] : PurA S nm T (a :: es) (ms ++ ns) (fun env => consA (f env) (fs env)) (ca && ce && notStar a) where
  run hc TB k X G := by
    simp only [Bool.and_eq_true] at hc
    obtain ⟨ta, ha, qa⟩ := h1.run hc.1.1 TB k X G
    obtain ⟨tb, hb, lb, qb⟩ := h2.run hc.1.2 TB k X G
    refine ⟨_, pa_cons ha hb (star_of hc.2), fun env ds h => ?_, fun A H0 H σ env d Q E hf q => ?_⟩
    · unfold consA at h
      split at h
      · split at h
        · rename_i e
          cases h
          rw [List.length_cons, List.length_cons, lb _ _ e]
        · cases h
      · cases h
    · unfold consA at hf
      dsimp only at hf
      split at hf
      · rename_i x e1
        split at hf
        · rename_i xs e2
          cases hf
          refine qa A H0 H σ env x _ E e1 fun u H1 g1 r1 => ?_
          refine qb A H0 H1 σ env xs _ (E.up g1) e2 fun v H2 g2 r2 => ?_
          exact q _ H2 (g1.trans g2) (.cons ((r1.up g2).wide fun a z => z.l) (r2.wide fun a z => z.r))
        · cases hf
      · cases hf

/-! ### displays -/
def tupV (a : Option (List PyData)) : Option PyData := match a with | some xs => if xs.length ≤ LIM then some (.tuple xs) else none | none => none
def lstV (a : Option (List PyData)) : Option PyData := match a with | some xs => if xs.length ≤ LIM then some (.list xs) else none | none => none
instance purTup {j : Nat} [h1 : PurA S nm T es ms fs ce] : PurE S nm T (.Tuple es j p) ms (fun env => tupV (fs env)) ce where
  run hc TB k X G := by
    obtain ⟨ta, ha, la, qa⟩ := h1.run hc TB k X G
    refine ⟨_, pe_tup ha, fun A H0 H σ env d Q E hf q => ?_⟩
    unfold tupV at hf
    dsimp only at hf
    split at hf
    · rename_i xs e
      split at hf
      · rename_i hl
        cases hf
        refine qa A H0 H σ env xs _ E e fun vs H1 g1 r1 => ⟨by rw [← lim_line, ← r1.length]; exact hl, fun p np => ?_⟩
        exact q _ _ (g1.trans (.new np)) (.tup (.of upd_same) (r1.up (.new np)))
      · cases hf
    · cases hf
/-- a list that is made here: it stands at an address that was free -/
class PurF (S : List (Str × Nat)) (nm : List (Str × NameKind)) (T : Tab) (e : Expr) (ms : outParam (List Nat)) (f : outParam (Sls → Option (List PyData))) (c : outParam Bool) : Prop where
  run : c = true → ∀ (TB : Addr → Prop) (k : Nat) (X : Cx), Good S nm T TB k X → ∃ t, PE X e t ∧
    ∀ (A : Addr → Prop) (H0 H : Hp) (σ : L2.St) (env : Sls) (ds : List PyData) (Q : VK), EnvRep X.K TB A H0 H σ env → f env = some ds →
    (∀ p ys H', Grow H H' → H p = none → H' p = some (.lst ys) → Reps X.K H' (fun a => sel ms A env σ a ∧ a ≠ p) ds ys → Q (.ref p) H') → t σ H Q
def listV (a : Option (List PyData)) : Option PyData := match a with | some xs => some (.list xs) | none => none
theorem pur_of_fresh {e : Expr} (h : PurF S nm T e ms fs ce) : PurE S nm T e ms (fun env => listV (fs env)) ce where
  run hc TB k X G := by
    obtain ⟨ta, ha, qa⟩ := h.run hc TB k X G
    refine ⟨_, ha, fun A H0 H σ env d Q E hf q => ?_⟩
    unfold listV at hf
    dsimp only at hf
    split at hf
    · rename_i xs e
      cases hf
      refine qa A H0 H σ env xs _ E e fun p ys H1 g1 np hl r1 => ?_
      exact q _ _ g1 (.lst (.inl ⟨E.selfree _ p np, .inl hl⟩) (r1.wide fun a z => z.1))
    · cases hf
def limL (a : Option (List PyData)) : Option (List PyData) := match a with | some xs => if xs.length ≤ LIM then some xs else none | none => none
theorem limL_some {a : Option (List PyData)} {xs : List PyData} (h : limL a = some xs) : a = some xs ∧ xs.length ≤ LIM := by
  unfold limL at h
  split at h
  · split at h
    · cases h; exact ⟨rfl, by assumption⟩
    · cases h
  · cases h
instance purLstF [h1 : PurA S nm T es ms fs ce] : PurF S nm T (.List es p) ms (fun env => limL (fs env)) ce where
  run hc TB k X G := by
    obtain ⟨ta, ha, la, qa⟩ := h1.run hc TB k X G
    refine ⟨_, pe_lst ha, fun A H0 H σ env d Q E hf q => ?_⟩
    obtain ⟨e, hl⟩ := limL_some hf
    refine qa A H0 H σ env d _ E e fun vs H1 g1 r1 => ⟨by rw [← lim_line, ← r1.length]; exact hl, fun p np => ?_⟩
    exact q p vs _ (g1.trans (.new np)) (g1.fresh p np) upd_same ((r1.away np).up (.new np))
instance purLst [PurF S nm T (.List es p) ms fs ce] : PurE S nm T (.List es p) ms (fun env => listV (fs env)) ce := pur_of_fresh inferInstance

/-! ### calls of defs -/
class FnOf (fs : List (Str × Nat × Fn)) (g : Str) (n : outParam Nat) (F : outParam Fn) : Prop where
  mem : (g, n, F) ∈ fs
instance (priority := high) fnHere {g : Str} {n : Nat} {F : Fn} {r : List (Str × Nat × Fn)} : FnOf ((g, n, F) :: r) g n F := ⟨List.mem_cons_self⟩
instance (priority := low) fnThere {g : Str} {n : Nat} {F : Fn} {q : Str × Nat × Fn} {r : List (Str × Nat × Fn)} [h : FnOf r g n F] : FnOf (q :: r) g n F := ⟨List.mem_cons_of_mem _ h.mem⟩
def globC (nm : List (Str × NameKind)) (x : Str) : Bool := decide (nm.lookup x = some .globalImplicit) && !(x == ("__debug__" : Str))
theorem Good.gl (G : Good S nm T TB k X) {x : Str} (h : globC nm x = true) : Gl X x ∧ (x == ("__debug__" : Str)) = false := by
  unfold globC at h
  simp only [Bool.and_eq_true, decide_eq_true_eq, Bool.not_eq_true'] at h
  exact ⟨G.glo x h.1, h.2⟩
def callV (F : Fn) (a : Option (List PyData)) : Option PyData := match a with | some xs => F xs | none => none
instance (priority := low) purCall {gn : Str} {n : Nat} {F : Fn} {pn : Pos} [hF : FnOf T.fs gn n F] [h1 : PurA S nm T (a :: es) ms fs ce] :
    PurE S nm T (.Call (.Name gn pn) (a :: es) [] p) ms (fun env => callV F (fs env)) (ce && globC nm gn && ((a :: es).all notStar) && ((a :: es).length == n)) where
  run hc TB k X G := by
    simp only [Bool.and_eq_true, beq_iff_eq] at hc
    obtain ⟨⟨⟨hc1, hc2⟩, hc3⟩, hc4⟩ := hc
    obtain ⟨ta, ha, la, qa⟩ := h1.run hc1 TB k X G
    obtain ⟨fa, fd, ps, FO, hm, hk, hb⟩ := G.has _ hF.mem
    obtain ⟨g1, g2⟩ := G.gl hc2
    have hc3' : notStar a = true ∧ es.all notStar = true := by simpa using hc3
    refine ⟨_, pe_call FO G.room g1 hm hk hb .nil pass0 ha g2 (star_of hc3'.1) (stars_of hc3'.2), fun A H0 H σ env d Q E hf q => ?_⟩
    unfold callV at hf
    dsimp only at hf
    split at hf
    · rename_i xs e
      refine qa A H0 H σ env xs _ E e fun vs H1 g1 r1 => ?_
      rw [List.append_nil]
      exact ⟨sel ms A env σ, xs, d, (E.up g1).selfree _, (E.up g1).tabs, r1, by rw [la _ _ e, hc4], hf, fun x H' g2 r2 => q x H' (g1.trans g2) r2⟩
    · cases hf
instance (priority := low) purCall0 {gn : Str} {n : Nat} {F : Fn} {pn : Pos} [hF : FnOf T.fs gn n F] :
    PurE S nm T (.Call (.Name gn pn) [] [] p) [] (fun env => F []) (globC nm gn && (0 == n)) where
  run hc TB k X G := by
    simp only [Bool.and_eq_true, beq_iff_eq] at hc
    obtain ⟨hc2, hc4⟩ := hc
    obtain ⟨fa, fd, ps, FO, hm, hk, hb⟩ := G.has _ hF.mem
    obtain ⟨g1, g2⟩ := G.gl hc2
    refine ⟨_, pe_call0 FO G.room g1 hm hk hb .nil pass0 g2, fun A H0 H σ env d Q E hf q => ?_⟩
    exact ⟨sel [] A env σ, [], d, E.selfree _, E.tabs, .nil, hc4, hf, fun x H' g2 r2 => q x H' g2 r2⟩

/-! ### calls of built-ins, by their names -/
abbrev rFn (K : PySem.W.Frag) (F : Fn) : List V → Hp → VK → Prop := fun xs H Q => ∃ (A : Addr → Prop) (ds : List PyData) (res : PyData), (∀ a, H a = none → A a) ∧ Reps K H A ds xs ∧ F ds = some res ∧ ∀ z H', Grow H H' → Rep K H' A res z → Q z H'
class BiP (g : Str) (id : outParam String) (F : outParam Fn) : Prop where
  boot : bootBuiltins g = some (.builtin id)
  rule : ∀ (X : Cx) (k : Nat), X.calm = true → Room k X.A → CallR X (.builtin id) (rFn X.K F)
  dbg : g ≠ "__name__" ∧ (g == ("__debug__" : Str)) = false
class BtP (g : Str) (id : outParam String) (F : outParam Fn) : Prop where
  boot : bootBuiltins g = some (.type id)
  rule : ∀ (X : Cx) (k : Nat), X.calm = true → Room k X.A → CallR X (.type id) (rFn X.K F)
  dbg : g ≠ "__name__" ∧ (g == ("__debug__" : Str)) = false
def bltC (nm : List (Str × NameKind)) (T : Tab) (x : Str) : Bool := decide (nm.lookup x = some .globalImplicit) && decide (x ∈ T.bl)
theorem Good.bl (G : Good S nm T TB k X) {x : Str} (h : bltC nm T x = true) : Gl X x ∧ X.mg x = none := by
  unfold bltC at h
  simp only [Bool.and_eq_true, decide_eq_true_eq] at h
  exact ⟨G.glo x h.1, G.blt x h.2⟩
theorem callV_some {F : Fn} {a : Option (List PyData)} {d : PyData} (h : callV F a = some d) : ∃ xs, a = some xs ∧ F xs = some d := by
  unfold callV at h; split at h
  · exact ⟨_, rfl, h⟩
  · cases h
instance purBi {gn : Str} {id : String} {F : Fn} {pn : Pos} [hB : BiP gn id F] [h1 : PurA S nm T (a :: es) ms fs ce] :
    PurE S nm T (.Call (.Name gn pn) (a :: es) [] p) ms (fun env => callV F (fs env)) (ce && bltC nm T gn && ((a :: es).all notStar)) where
  run hc TB k X G := by
    simp only [Bool.and_eq_true, beq_iff_eq] at hc
    obtain ⟨⟨hc1, hc2⟩, hc3⟩ := hc
    obtain ⟨ta, ha, la, qa⟩ := h1.run hc1 TB k X G
    obtain ⟨g1, g2⟩ := G.bl hc2
    have hc3' : notStar a = true ∧ es.all notStar = true := by simpa using hc3
    refine ⟨_, pe_callB (hB.rule X k G.calm G.room) g1 g2 hB.boot ha hB.dbg.1 hB.dbg.2 (star_of hc3'.1) (stars_of hc3'.2), fun A H0 H σ env d Q E hf q => ?_⟩
    obtain ⟨xs, e, e2⟩ := callV_some hf
    refine qa A H0 H σ env xs _ E e fun vs H1 g1 r1 => ?_
    exact ⟨sel ms A env σ, xs, d, (E.up g1).selfree _, r1, e2, fun x H' g2 r2 => q x H' (g1.trans g2) r2⟩
instance purBt {gn : Str} {id : String} {F : Fn} {pn : Pos} [hB : BtP gn id F] [h1 : PurA S nm T (a :: es) ms fs ce] :
    PurE S nm T (.Call (.Name gn pn) (a :: es) [] p) ms (fun env => callV F (fs env)) (ce && bltC nm T gn && ((a :: es).all notStar)) where
  run hc TB k X G := by
    simp only [Bool.and_eq_true, beq_iff_eq] at hc
    obtain ⟨⟨hc1, hc2⟩, hc3⟩ := hc
    obtain ⟨ta, ha, la, qa⟩ := h1.run hc1 TB k X G
    obtain ⟨g1, g2⟩ := G.bl hc2
    have hc3' : notStar a = true ∧ es.all notStar = true := by simpa using hc3
    refine ⟨_, pe_callTy (hB.rule X k G.calm G.room) g1 g2 hB.boot ha hB.dbg.1 hB.dbg.2 (star_of hc3'.1) (stars_of hc3'.2), fun A H0 H σ env d Q E hf q => ?_⟩
    obtain ⟨xs, e, e2⟩ := callV_some hf
    refine qa A H0 H σ env xs _ E e fun vs H1 g1 r1 => ?_
    exact ⟨sel ms A env σ, xs, d, (E.up g1).selfree _, r1, e2, fun x H' g2 r2 => q x H' (g1.trans g2) r2⟩

def lenF : Fn
  | [.list xs] => some (.int xs.length)
  | [.tuple xs] => some (.int xs.length)
  | [.str x] => if x.length ≤ LIM then some (.int x.length) else none
  | [.dict kvs] => some (.int kvs.length)
  | _ => none
theorem call_lenF : CallR X (.builtin "len") (rFn X.K lenF) := by
  intro pins s σ H xs us Q I r h
  obtain ⟨A, ds, res, hA, rd, hf, q⟩ := h
  unfold lenF at hf
  split at hf
  · cases hf
    cases rd with
    | cons r1 r2 =>
      cases r2
      cases r1 with
      | lst h2 h3 => exact call_len_seq pins s σ H _ us Q I r ⟨_, _, rfl, .inl h2.sql, q _ _ (.refl H) (by rw [h3.length]; exact .int _)⟩
  · cases hf
    cases rd with
    | cons r1 r2 =>
      cases r2
      cases r1 with
      | tup h2 h3 => exact call_len_seq pins s σ H _ us Q I r ⟨_, _, rfl, .inr h2, q _ _ (.refl H) (by rw [h3.length]; exact .int _)⟩
  · split at hf
    · rename_i hl
      cases hf
      cases rd with
      | cons r1 r2 =>
        cases r2
        cases r1 with
        | str x => exact call_len_str pins s σ H _ us Q I r ⟨_, rfl, by rw [← lim_line]; exact hl, q _ _ (.refl H) (.int _)⟩
    · cases hf
  · cases hf
    cases rd with
    | cons r1 r2 =>
      cases r2
      cases r1 with
      | dct h1 h2 h3 =>
        rw [Vals.ref1 r]
        refine dc_len I h2 fun t s' I' => ?_
        rw [List.length_map]
        exact ⟨.int _, H, I', ⟨t, rfl⟩, q _ _ (.refl H) (.int _)⟩
  · cases hf
instance : BiP "len" "len" lenF := ⟨PySem.boot_len, fun _ _ _ _ => call_lenF, by decide⟩
def absF : Fn
  | [.int i] => some (.int (if i < 0 then -i else i))
  | _ => none
theorem call_absF : CallR X (.builtin "abs") (rFn X.K absF) := by
  intro pins s σ H xs us Q I r h
  obtain ⟨A, ds, res, hA, rd, hf, q⟩ := h
  unfold absF at hf
  split at hf
  · cases hf
    cases rd with
    | cons r1 r2 =>
      cases r2
      cases r1 with
      | int i => exact call_abs pins s σ H _ us Q I r ⟨_, rfl, q _ _ (.refl H) (.int _)⟩
  · cases hf
instance : BiP "abs" "abs" absF := ⟨by decide +kernel, fun _ _ _ _ => call_absF, by decide⟩
def intF : Fn
  | [.int i] => some (.int i)
  | [.bool b] => some (.int (if b then 1 else 0))
  | _ => none
theorem call_intF : CallR X (.type "int") (rFn X.K intF) := by
  intro pins s σ H xs us Q I r h
  obtain ⟨A, ds, res, hA, rd, hf, q⟩ := h
  unfold intF at hf
  split at hf
  · cases hf
    cases rd with
    | cons r1 r2 =>
      cases r2
      cases r1 with
      | int i => exact call_int1 pins s σ H _ us Q I r (.inl ⟨_, rfl, q _ _ (.refl H) (.int _)⟩)
  · cases hf
    cases rd with
    | cons r1 r2 =>
      cases r2
      cases r1 with
      | bl i => exact call_int1 pins s σ H _ us Q I r (.inr ⟨_, rfl, q _ _ (.refl H) (.int _)⟩)
  · cases hf
instance : BtP "int" "int" intF := ⟨by decide +kernel, fun _ _ _ _ => call_intF, by decide⟩
def gcdF : Fn
  | [.int a, .int b] => some (.int (Nat.gcd a.natAbs b.natAbs))
  | _ => none
theorem call_gcdF : CallR X (.builtin "math.gcd") (rFn X.K gcdF) := by
  intro pins s σ H xs us Q I r h
  obtain ⟨A, ds, res, hA, rd, hf, q⟩ := h
  unfold gcdF at hf
  split at hf
  · cases hf
    cases rd with
    | cons r1 r2 => cases r1 with
      | int i => cases r2 with
        | cons r1 r2 =>
          cases r2
          cases r1 with
          | int j => exact cr_gcd pins s σ H _ us Q I r ⟨_, _, rfl, q _ _ (.refl H) (.int _)⟩
  · cases hf
/-- a name of the top that is a built-in of a module -/
class MaP (ma : List (Str × String)) (g : Str) (id : outParam String) (F : outParam Fn) : Prop where
  mem : (g, id) ∈ ma
  val : maV id = .builtin id
  rule : ∀ (X : Cx) (k : Nat), X.calm = true → Room k X.A → CallR X (.builtin id) (rFn X.K F)
instance {r : List (Str × String)} : MaP (("gcd", "math.gcd") :: r) "gcd" "math.gcd" gcdF := ⟨List.mem_cons_self, by decide +kernel, fun _ _ _ _ => call_gcdF⟩
instance (priority := low) {q : Str × String} {r : List (Str × String)} {g : Str} {id : String} {F : Fn} [h : MaP r g id F] : MaP (q :: r) g id F := ⟨List.mem_cons_of_mem _ h.mem, h.val, h.rule⟩
instance purMa {gn : Str} {id : String} {F : Fn} {pn : Pos} [hB : MaP T.ma gn id F] [h1 : PurA S nm T (a :: es) ms fs ce] :
    PurE S nm T (.Call (.Name gn pn) (a :: es) [] p) ms (fun env => callV F (fs env)) (ce && globC nm gn && ((a :: es).all notStar)) where
  run hc TB k X G := by
    simp only [Bool.and_eq_true, beq_iff_eq] at hc
    obtain ⟨⟨hc1, hc2⟩, hc3⟩ := hc
    obtain ⟨ta, ha, la, qa⟩ := h1.run hc1 TB k X G
    obtain ⟨g1, g2⟩ := G.gl hc2
    have hc3' : notStar a = true ∧ es.all notStar = true := by simpa using hc3
    refine ⟨_, pe_callBfun (hB.rule X k G.calm G.room) g1 ((G.mat _ hB.mem).trans (congrArg some hB.val)) ha g2 (star_of hc3'.1) (stars_of hc3'.2), fun A H0 H σ env d Q E hf q => ?_⟩
    obtain ⟨xs, e, e2⟩ := callV_some hf
    refine qa A H0 H σ env xs _ E e fun vs H1 g1 r1 => ?_
    exact ⟨sel ms A env σ, xs, d, (E.up g1).selfree _, r1, e2, fun x H' g2 r2 => q x H' (g1.trans g2) r2⟩
end
end Pu

set_option Elab.async false
set_option linter.all false
set_option autoImplicit false
set_option maxRecDepth 100000
set_option maxHeartbeats 4000000
namespace Pu
open PySem PySem.Spec PyProof.Rows L2 GxR
section
variable {S : List (Str × Nat)} {nm : List (Str × NameKind)} {T : Tab} {TB : Addr → Prop} {k : Nat} {X : Cx}
variable {a b : Expr} {p : Pos} {ms ns : List Nat} {f g : Sls → Option PyData} {ca cb : Bool}

/-! ### an item -/
def notSlice : Expr → Bool
  | .Slice .. => false
  | _ => true
theorem plainIx_of {e : Expr} (h : notSlice e = true) : PlainIx e := by
  intro o i
  cases e <;> first | rfl | cases h
noncomputable def itemD (d e : PyData) : Option PyData := match d, e with
  | .dict kvs, k => if okK kvs k = true then lkD kvs k else none
  | .list xs, .int i => atI xs i
  | .tuple xs, .int i => atI xs i
  | .str z, .int i => if z.length ≤ LIM then (match atI z.cps.toList i with | some c => some (.str ⟨#[c]⟩) | none => none) else none
  | _, _ => none
theorem Reps.atI {K : PySem.W.Frag} {H : Hp} {A : Addr → Prop} {ds : List PyData} {vs : List V} {i : Int} {d : PyData} (r : Reps K H A ds vs) (h : atI ds i = some d) : ∃ v, L2.atI vs i = some v ∧ Rep K H A d v := by
  unfold L2.atI at h ⊢
  rw [← r.length]
  cases e : ixN ds.length i with
  | none => rw [e] at h; cases h
  | some j =>
    rw [e] at h
    exact r.get h
theorem ix_itemD (hu : X.A.units + 1 < cLine) : IxR X (rOp X.K itemD) := by
  intro value slice pins s σ H x y v u Q I rx ry h hs
  obtain ⟨A, d, e, res, hA, rd, re, hf, q⟩ := h
  unfold itemD at hf
  split at hf
  · split at hf
    · rename_i hk
      cases rd with
      | dct h1 h2 h3 =>
        cases rx
        rename_i da _
        have hT : s.TypeIs (.ref da) "dict" := (isD_at I (by
          rcases h2 with ⟨kvs', e, _⟩ | ⟨kvs', e, _⟩
          · exact .inl ⟨_, .inl e⟩
          · exact .inr ⟨_, .inl e⟩)).1
        have w : wpAny (model X.prog X.w) X.A (getItem (.ref da) u) (EP X pins σ Q) X.xe s := dc_item hu I h2 h3 hk re ry hf fun z w' s' I' r' rz => ⟨z, H, I', r', q _ _ (.refl H) rz⟩
        unfold subscriptTail
        refine wpAny_bind ?_
        rw [getitemInPython_of_ne hT.not_modules]
        refine wpAny_bind (wpAny_specialOf hT PySem.F.slot_dict_getitem.lookup ?_)
        have fin : wpAny (model X.prog X.w) X.A (subscripted slice false (.ref da) u) (fun r s₃ => wpAny (model X.prog X.w) X.A (letTemporaryGo value (.ref da) r >>= fun _ => pure r) (EP X pins σ Q) X.xe s₃) X.xe s := by
          rw [hs]
          exact wpAny_operating (wpAny_mono w (fun r s₃ h₃ => wpAny_bind (wpAny_letTemporaryGo (wpAny_pure h₃))) fun _ _ x => x)
        first
          | exact wpAny_pure (wpAny_bind fin)
          | exact wpAny_bind fin
    · cases hf
  · cases rd with
    | lst h2 h3 =>
      cases re
      obtain ⟨v, e1, r1⟩ := h3.atI hf
      exact ix_list value slice pins s σ H _ _ _ _ Q I rx ry ⟨_, _, _, _, rfl, rfl, h2.sql, e1, q _ _ (.refl H) r1⟩ hs
  · cases rd with
    | tup h2 h3 =>
      cases re
      obtain ⟨v, e1, r1⟩ := h3.atI hf
      exact ix_tup value slice pins s σ H _ _ _ _ Q I rx ry ⟨_, _, _, _, rfl, rfl, h2, e1, q _ _ (.refl H) r1⟩ hs
  · split at hf
    · rename_i hl
      split at hf
      · rename_i c e1
        cases hf
        cases rd
        cases re
        exact ix_str value slice pins s σ H _ _ _ _ Q I rx ry ⟨_, _, c, rfl, rfl, by rw [← lim_line]; exact hl, e1, q _ _ (.refl H) (.str _)⟩ hs
      · cases hf
    · cases hf
  · cases hf
instance (priority := low) purIx [h1 : PurE S nm T a ms f ca] [h2 : PurE S nm T b ns g cb] : PurE S nm T (.Subscript a b p) (ms ++ ns) (fun env => bind2 itemD (f env) (g env)) (ca && cb && notSlice b) where
  run hc TB k X G := by
    simp only [Bool.and_eq_true] at hc
    obtain ⟨ta, ha, qa⟩ := h1.run hc.1.1 TB k X G
    obtain ⟨tb, hb, qb⟩ := h2.run hc.1.2 TB k X G
    exact ⟨_, pe_ix (ix_itemD (room_dep G.room (n := 1) (by decide))) ha hb (plainIx_of hc.2), fun A H0 H σ env d Q E hf q => op_rule qa qb E hf q⟩

/-! ### slices -/
class PurO (S : List (Str × Nat)) (nm : List (Str × NameKind)) (T : Tab) (e : Option Expr) (f : outParam (Sls → Option (Option Int))) (c : outParam Bool) : Prop where
  run : c = true → ∀ (TB : Addr → Prop) (k : Nat) (X : Cx), Good S nm T TB k X → ∃ t, PO X e t ∧
    ∀ (A : Addr → Prop) (H0 H : Hp) (σ : L2.St) (env : Sls) (o : Option Int) (Q : Option Int → Hp → Prop), EnvRep X.K TB A H0 H σ env → f env = some o → (∀ H', Grow H H' → Q o H') → t σ H Q
def partV (a : Option PyData) : Option (Option Int) := match a with | some (.int i) => some (some i) | _ => none
instance purO0 : PurO S nm T none (fun _ => some none) true where
  run _ TB k X G := ⟨_, po_none, fun A H0 H σ env o Q E hf q => by cases hf; exact q _ (.refl H)⟩
instance purO1 [h1 : PurE S nm T a ms f ca] : PurO S nm T (some a) (fun env => partV (f env)) ca where
  run hc TB k X G := by
    obtain ⟨ta, ha, qa⟩ := h1.run hc TB k X G
    refine ⟨_, po_some ha, fun A H0 H σ env o Q E hf q => ?_⟩
    unfold partV at hf
    try dsimp only at hf
    split at hf
    · rename_i i e
      cases hf
      refine qa A H0 H σ env _ _ E e fun x H1 g1 r1 => ?_
      cases r1
      exact ⟨i, rfl, q _ g1⟩
    · cases hf
/-- xs[lo:hi] -/
def sliceL {α : Type} (xs : List α) (lo hi : Option Int) : List α := (xs.drop (HT.sIx xs.length 0 lo)).take (HT.sIx xs.length xs.length hi - HT.sIx xs.length 0 lo)
theorem sliceL_len {α : Type} (xs : List α) (lo hi : Option Int) : (sliceL xs lo hi).length ≤ xs.length := by
  unfold sliceL; rw [List.length_take, List.length_drop]; omega
theorem sliceL_whole {α : Type} {xs : List α} {lo hi : Option Int} (h : HT.sIx xs.length 0 lo = 0 ∧ HT.sIx xs.length xs.length hi = xs.length) : sliceL xs lo hi = xs := by
  unfold sliceL; rw [h.1, h.2]; simp
def sliceD (lo hi : Option Int) (d : PyData) : Option PyData := match d with
  | .list xs => some (.list (sliceL xs lo hi))
  | .tuple xs => some (.tuple (sliceL xs lo hi))
  | .str z => if z.length ≤ LIM then some (.str ⟨(sliceL z.cps.toList lo hi).toArray⟩) else none
  | _ => none
theorem Reps.slice {K : PySem.W.Frag} {H : Hp} {A : Addr → Prop} {ds : List PyData} {vs : List V} (r : Reps K H A ds vs) (lo hi : Option Int) : Reps K H A (sliceL ds lo hi) (cutV vs lo hi) := by
  unfold sliceL cutV
  rw [r.length]
  exact (r.drop _).take _
abbrev rSlP (K : PySem.W.Frag) : V → Option Int → Option Int → Hp → VK → Prop := fun x lo hi H Q => ∃ (A : Addr → Prop) (d res : PyData), (∀ a, H a = none → A a) ∧ Rep K H A d x ∧ sliceD lo hi d = some res ∧ ∀ z H', Grow H H' → Rep K H' A res z → Q z H'
theorem sl_P : SlR X (rSlP X.K) := by
  intro pins s σ H x v vl vu lo hi sl Q I rx hs pl pu h
  obtain ⟨A, d, res, hA, rd, hf, q⟩ := h
  cases rd with
  | lst h2 h3 =>
    cases hf
    exact sl_list pins s σ H _ v vl vu lo hi sl Q I rx hs pl pu ⟨_, _, rfl, h2.sql, fun p np => q _ _ (.new np) (.lst (.inl ⟨hA p np, .inl upd_same⟩) ((h3.slice lo hi).up (.new np)))⟩
  | tup h2 h3 =>
    cases hf
    refine sl_tupA pins s σ H _ v vl vu lo hi sl Q I rx hs pl pu ⟨_, _, rfl, h2, fun z => ?_, fun _ p np => q _ _ (.new np) (.tup (.of upd_same) ((h3.slice lo hi).up (.new np)))⟩
    rw [← h3.length] at z
    rw [sliceL_whole z] at q
    exact q _ _ (.refl H) (.tup h2 h3)
  | str z =>
    change (if z.length ≤ LIM then some (PyData.str ⟨(sliceL z.cps.toList lo hi).toArray⟩) else none) = some res at hf
    split at hf
    · rename_i hl
      cases hf
      refine sl_str pins s σ H _ v vl vu lo hi sl Q I rx hs pl pu ⟨z, rfl, by rw [← lim_line]; exact hl, ?_⟩
      have e : cutS z lo hi = ⟨(sliceL z.cps.toList lo hi).toArray⟩ := by
        unfold cutS sliceL
        have e2 : z.length = z.cps.toList.length := by simp [Str.length]
        rw [e2]
      rw [e]
      exact q _ _ (.refl H) (.str _)
    · cases hf
  | _ => cases hf
def sliV (a : Option PyData) (lo hi : Option (Option Int)) : Option PyData := match a with
  | some d => (match lo with
    | some l => (match hi with
      | some h => sliceD l h d
      | none => none)
    | none => none)
  | none => none
variable {lo hi : Option Expr} {p2 : Pos} {fl fh : Sls → Option (Option Int)} {cl ch : Bool}
instance purSli [h1 : PurE S nm T a ms f ca] [h2 : PurO S nm T lo fl cl] [h3 : PurO S nm T hi fh ch] : PurE S nm T (.Subscript a (.Slice lo hi none p2) p) ms (fun env => sliV (f env) (fl env) (fh env)) (ca && cl && ch) where
  run hc TB k X G := by
    simp only [Bool.and_eq_true] at hc
    obtain ⟨ta, ha, qa⟩ := h1.run hc.1.1 TB k X G
    obtain ⟨tl, hl, ql⟩ := h2.run hc.1.2 TB k X G
    obtain ⟨th, hh, qh⟩ := h3.run hc.2 TB k X G
    refine ⟨_, pe_slice sl_P ha hl hh, fun A H0 H σ env d Q E hf q => ?_⟩
    unfold sliV at hf
    try dsimp only at hf
    split at hf
    · rename_i x e1
      split at hf
      · rename_i l e2
        split at hf
        · rename_i h e3
          refine qa A H0 H σ env x _ E e1 fun u H1 g1 r1 => ?_
          refine ql A H0 H1 σ env l _ (E.up g1) e2 fun H2 g2 => ?_
          refine qh A H0 H2 σ env h _ ((E.up g1).up g2) e3 fun H3 g3 => ?_
          exact ⟨sel ms A env σ, x, d, (E.up ((g1.trans g2).trans g3)).selfree _, (r1.up g2).up g3, hf, fun z H' g r => q z H' (((g1.trans g2).trans g3).trans g) r⟩
        · cases hf
      · cases hf
    · cases hf
/-- a slice of a list, as a list that is made here -/
def sliF (a : Option PyData) (lo hi : Option (Option Int)) : Option (List PyData) := match sliV a lo hi with
  | some (.list xs) => some xs
  | _ => none
instance purSliF [h1 : PurE S nm T a ms f ca] [h2 : PurO S nm T lo fl cl] [h3 : PurO S nm T hi fh ch] : PurF S nm T (.Subscript a (.Slice lo hi none p2) p) ms (fun env => sliF (f env) (fl env) (fh env)) (ca && cl && ch) where
  run hc TB k X G := by
    simp only [Bool.and_eq_true] at hc
    obtain ⟨ta, ha, qa⟩ := h1.run hc.1.1 TB k X G
    obtain ⟨tl, hl, ql⟩ := h2.run hc.1.2 TB k X G
    obtain ⟨th, hh, qh⟩ := h3.run hc.2 TB k X G
    refine ⟨_, pe_slice sl_list ha hl hh, fun A H0 H σ env d Q E hf q => ?_⟩
    unfold sliF at hf
    try dsimp only at hf
    split at hf
    · rename_i zs e0
      cases hf
      unfold sliV at e0
      try dsimp only at e0
      split at e0
      · rename_i x e1
        split at e0
        · rename_i l e2
          split at e0
          · rename_i h e3
            refine qa A H0 H σ env x _ E e1 fun u H1 g1 r1 => ?_
            refine ql A H0 H1 σ env l _ (E.up g1) e2 fun H2 g2 => ?_
            refine qh A H0 H2 σ env h _ ((E.up g1).up g2) e3 fun H3 g3 => ?_
            have r3 := (r1.up g2).up g3
            cases r3 with
            | lst h2 h3 =>
              cases e0
              refine ⟨_, _, rfl, h2.sql, fun p np => ?_⟩
              exact q p _ _ (((g1.trans g2).trans g3).trans (.new np)) (g1.fresh p (g2.fresh p (g3.fresh p np))) upd_same (((h3.slice l h).away np).up (.new np))
            | str z =>
              unfold sliceD at e0
              try dsimp only at e0
              split at e0 <;> cases e0
            | tup _ _ => cases e0
            | _ => cases e0
          · cases e0
        · cases e0
      · cases e0
    · cases hf
end
end Pu

set_option Elab.async false
set_option linter.all false
set_option autoImplicit false
set_option maxRecDepth 100000
set_option maxHeartbeats 4000000
namespace Pu
open PySem PySem.Spec PyProof.Rows L2 GxR

/-! ### a heap behind some turns of a loop -/
structure Stay (W : Addr → Prop) (H H' : Hp) : Prop where
  stay : ∀ b o, ¬ W b → (∀ ps, o ≠ HO.tbl ps) → H b = some o → H' b = some o
  fresh : ∀ b, H' b = none → H b = none
  tab : ∀ b, TabG H b → TabG H' b
theorem Stay.refl (W : Addr → Prop) (H : Hp) : Stay W H H := ⟨fun _ _ _ _ h => h, fun _ h => h, fun _ h => h⟩
theorem Stay.of {W : Addr → Prop} {H H' : Hp} (g : Grow H H') : Stay W H H' := ⟨fun b o _ nt e => g.same b o nt e, g.fresh, g.tab⟩
theorem Stay.grow {W : Addr → Prop} {H H' H'' : Hp} (a : Stay W H H') (g : Grow H' H'') : Stay W H H'' := ⟨fun b o n nt e => g.same b o nt (a.stay b o n nt e), fun b e => a.fresh b (g.fresh b e), fun b e => g.tab b (a.tab b e)⟩
section
variable {K : PySem.W.Frag} {H H' : Hp} {A : Addr → Prop} {W : Addr → Prop}
theorem Stay.sqT {a : Addr} {ys : List V} (s : Stay W H H') (hW : ∀ b, W b → ∃ o, H b = some o ∧ IsOw o) (h : SqT K H a ys) : SqT K H' a ys := by
  rcases h with (h | ⟨o, h⟩) | h
  · exact .inl (.inl (s.stay _ _ (fun z => by obtain ⟨zs, e, io⟩ := hW _ z; rw [h] at e; cases e; exact io.ntup) (fun _ => HO.noConfusion) h))
  · exact .inl (.inr ⟨o, s.stay _ _ (fun z => by obtain ⟨zs, e, io⟩ := hW _ z; rw [h] at e; cases e; exact io.nfrz) (fun _ => HO.noConfusion) h⟩)
  · exact .inr h
theorem Stay.tpT {a : Addr} {ys : List V} (s : Stay W H H') (hW : ∀ b, W b → ∃ o, H b = some o ∧ IsOw o) (h : TpT H a ys) : TpT H' a ys :=
  s.stay _ _ (fun z => by obtain ⟨zs, e, io⟩ := hW _ z; rw [show H a = _ from h] at e; cases e; exact io.ntup) (fun _ => HO.noConfusion) h
theorem Stay.dc {a : Addr} {ks : List PyData} {vs : List V} (s : Stay W H H') (ha : ¬ W a) (h : DcAt H a ks vs) : DcAt H' a ks vs := h.to fun o e io => s.stay _ _ ha io.nt e
theorem Stay.rdL {a : Addr} {ys : List V} (s : Stay W H H') (ha : ¬ W a) (h : Rd H a (.lst ys)) : Rd H' a (.lst ys) := by
  rcases h with h | ⟨o, h⟩
  · exact .inl (s.stay _ _ ha (fun _ => HO.noConfusion) h)
  · exact .inr ⟨o, s.stay _ _ ha (fun _ => HO.noConfusion) h⟩
theorem Rep.stay {d : PyData} {v : V} (r : Rep K H A d v) (s : Stay W H H') (hW : ∀ b, W b → ∃ o, H b = some o ∧ IsOw o) (hA : ∀ a, A a → ¬ W a) : Rep K H' (fun a => A a ∧ H a ≠ none) d v :=
  r.imp (fun _ _ h => s.tpT hW h) (fun a _ h1 h2 => ⟨⟨h1, fun e => by obtain ⟨o, q⟩ := rd_some h2; rw [e] at q; cases q⟩, s.rdL (hA a h1) h2⟩) fun a _ _ h1 h2 => ⟨⟨h1, fun e => by obtain ⟨o, q, _⟩ := h2.is; rw [e] at q; cases q⟩, s.dc (hA a h1) h2⟩
theorem Reps.stay {d : List PyData} {v : List V} (r : Reps K H A d v) (s : Stay W H H') (hW : ∀ b, W b → ∃ o, H b = some o ∧ IsOw o) (hA : ∀ a, A a → ¬ W a) : Reps K H' (fun a => A a ∧ H a ≠ none) d v :=
  r.imp (fun _ _ h => s.tpT hW h) (fun a _ h1 h2 => ⟨⟨h1, fun e => by obtain ⟨o, q⟩ := rd_some h2; rw [e] at q; cases q⟩, s.rdL (hA a h1) h2⟩) fun a _ _ h1 h2 => ⟨⟨h1, fun e => by obtain ⟨o, q, _⟩ := h2.is; rw [e] at q; cases q⟩, s.dc (hA a h1) h2⟩
end

/-! ### what is walked -/
def ItOk (K : PySem.W.Frag) (W B : Addr → Prop) (H1 : Hp) (J : It) (items : List PyData) : Prop :=
  ∀ i Hi, Stay W H1 Hi → (∀ d, items[i]? = some d → J.go i Hi ∧ ∀ x H2, J.yld i Hi x H2 → Grow Hi H2 ∧ Rep K H2 (fun a => B a ∧ H1 a ≠ none) d x) ∧ (i = items.length → J.stop i Hi)
/-- W: the lists that may change meanwhile, none that the items may be of -/
abbrev ISp (X : Cx) (TB : Addr → Prop) (ms : List Nat) (f : Sls → Option (List PyData)) (wi : TI) : Prop := ∀ (A : Addr → Prop) (H0 H : Hp) (σ : L2.St) (env : Sls) (items : List PyData) (W : Addr → Prop) (R : It → Hp → Prop), EnvRep X.K TB A H0 H σ env → f env = some items →
  (∀ b, W b → ∃ o, H b = some o ∧ IsOw o) → (∀ a, sel ms A env σ a → ¬ W a) → (∀ J H1, Grow H H1 → ItOk X.K W (sel ms A env σ) H1 J items → R J H1) → wi σ H R
theorem lists_up {W : Addr → Prop} {H H1 : Hp} (hW : ∀ b, W b → ∃ o, H b = some o ∧ IsOw o) (g : Grow H H1) : ∀ b, W b → ∃ o, H1 b = some o ∧ IsOw o := fun b z => let ⟨ys, e, io⟩ := hW b z; ⟨ys, g.same _ _ io.nt e, io⟩
class PurI (S : List (Str × Nat)) (nm : List (Str × NameKind)) (T : Tab) (tg iter : Expr) (ms : outParam (List Nat)) (f : outParam (Sls → Option (List PyData))) (c : outParam Bool) : Prop where
  run : c = true → ∀ (TB : Addr → Prop) (k : Nat) (X : Cx), Good S nm T TB k X → ∃ wi, PI X tg iter wi ∧ (∀ env x, foldedSetIterable iter env x = pure x) ∧ ISp X TB ms f wi
theorem pi_or {X : Cx} {tg iter : Expr} {wi wi' : TI} (h : PI X tg iter wi) (h' : PI X tg iter wi') : PI X tg iter (fun σ H R => wi σ H R ∨ wi' σ H R) :=
  ⟨fun pins s σ H R I q => q.elim (h.run pins s σ H R I) (h'.run pins s σ H R I)⟩
theorem fold_of {e : Expr} (h : notSet e = true) (env : Env) (x : Value) : foldedSetIterable e env x = pure x := by
  cases e <;> first | rfl | cases h
section
variable {S : List (Str × Nat)} {nm : List (Str × NameKind)} {T : Tab} {TB : Addr → Prop} {k : Nat} {X : Cx}
variable {a b : Expr} {p : Pos} {ms ns : List Nat} {f g : Sls → Option PyData} {ca cb : Bool} {es : List Expr} {fs : Sls → Option (List PyData)} {ce : Bool} {tg : Expr}

theorem itOk_list {K : PySem.W.Frag} {W B : Addr → Prop} {H1 : Hp} {a : Addr} {ys : List V} {ds : List PyData} (hW : ∀ b, W b → ∃ o, H1 b = some o ∧ IsOw o) (hB : ∀ a, B a → ¬ W a) (h : LsAt K H1 B a ys) (r : Reps K H1 B ds ys) : ItOk K W B H1 (Itl K a) ds := by
  intro i Hi s
  have hL : SqL K Hi a ys := by
    rcases h with ⟨ha, h⟩ | h
    · exact .inl (s.rdL (hB a ha) h)
    · exact LsAt.sql (A := B) (.inr h)
  have r2 := r.stay s hW hB
  refine ⟨fun d hd => ?_, fun e => ⟨ys, hL, by rw [e, r.length]; exact Nat.le_refl _⟩⟩
  obtain ⟨v, e1, e2⟩ := r2.get hd
  refine ⟨⟨ys, v, hL, e1⟩, fun x H2 y => ?_⟩
  obtain ⟨rfl, y⟩ := y
  have e3 := y ys hL
  rw [e1] at e3; cases e3
  exact ⟨.refl _, e2⟩
theorem itOk_tup {K : PySem.W.Frag} {W B : Addr → Prop} {H1 : Hp} {a : Addr} {ys : List V} {ds : List PyData} (hW : ∀ b, W b → ∃ o, H1 b = some o ∧ IsOw o) (hB : ∀ a, B a → ¬ W a) (h : SqT K H1 a ys) (r : Reps K H1 B ds ys) : ItOk K W B H1 (Itt K a) ds := by
  intro i Hi s
  have hL : SqT K Hi a ys := s.sqT hW h
  have r2 := r.stay s hW hB
  refine ⟨fun d hd => ?_, fun e => ⟨ys, hL, by rw [e, r.length]; exact Nat.le_refl _⟩⟩
  obtain ⟨v, e1, e2⟩ := r2.get hd
  refine ⟨⟨ys, v, hL, e1⟩, fun x H2 y => ?_⟩
  obtain ⟨rfl, y⟩ := y
  have e3 := y ys hL
  rw [e1] at e3; cases e3
  exact ⟨.refl _, e2⟩
def chars (z : Str) : List PyData := z.cps.toList.map fun c => .str ⟨#[c]⟩
theorem itOk_str {K : PySem.W.Frag} {W B : Addr → Prop} {H1 : Hp} {z : Str} : ItOk K W B H1 (Its z) (chars z) := by
  intro i Hi s
  refine ⟨fun d hd => ?_, fun e => ?_⟩
  · unfold chars at hd
    rw [List.getElem?_map] at hd
    cases e : z.cps.toList[i]? with
    | none => rw [e] at hd; cases hd
    | some c =>
      rw [e] at hd
      cases hd
      have e2 : z.cps[i]? = some c := by rw [← Array.getElem?_toList]; exact e
      refine ⟨(Array.getElem?_eq_some_iff.mp e2).1, fun x H2 y => ?_⟩
      obtain ⟨rfl, c', h1, rfl⟩ := y
      rw [e2] at h1; cases h1
      exact ⟨.refl _, .str _⟩
  · subst e
    show z.cps.size ≤ _
    simp [chars]
def rangeD (lo : Int) (n : Nat) : List PyData := (List.range n).map fun i => .int (lo + (i : Nat))
theorem itOk_range {K : PySem.W.Frag} {W B : Addr → Prop} {H1 : Hp} {lo : Int} {n : Nat} : ItOk K W B H1 (Itr lo n) (rangeD lo n) := by
  intro i Hi s
  refine ⟨fun d hd => ?_, fun e => ?_⟩
  · unfold rangeD at hd
    rw [List.getElem?_map] at hd
    cases e : (List.range n)[i]? with
    | none => rw [e] at hd; cases hd
    | some j =>
      rw [e] at hd
      cases hd
      obtain ⟨h1, h2⟩ := List.getElem?_eq_some_iff.mp e
      rw [List.getElem_range] at h2
      subst h2
      refine ⟨(by simpa using h1 : i < n), fun x H2 y => ?_⟩
      obtain ⟨rfl, rfl⟩ := y
      exact ⟨.refl _, .int _⟩
  · subst e
    show n ≤ _
    simp [rangeD]
def itemsD (d : PyData) : Option (List PyData) := match d with
  | .list xs => some xs
  | .tuple xs => some xs
  | .str z => some (chars z)
  | _ => none
def itemsV (a : Option PyData) : Option (List PyData) := match a with | some d => itemsD d | none => none
instance (priority := low) purItems [h1 : PurE S nm T a ms f ca] : PurI S nm T tg a ms (fun env => itemsV (f env)) (ca && notSet a) where
  run hc TB k X G := by
    simp only [Bool.and_eq_true] at hc
    obtain ⟨ta, ha, qa⟩ := h1.run hc.1 TB k X G
    refine ⟨_, pi_or (pi_list ha) (pi_or (pi_tup ha) (pi_str ha)), fun env x => fold_of hc.2 env x, fun A H0 H σ env items W R E hf hW hB q => ?_⟩
    unfold itemsV at hf
    try dsimp only at hf
    split at hf
    · rename_i d e
      unfold itemsD at hf
      split at hf
      · cases hf
        refine .inl (qa A H0 H σ env _ _ E e fun x H1 g1 r1 => ?_)
        cases r1 with
        | lst h2 h3 => exact ⟨_, rfl, ⟨_, h2.sql⟩, q _ _ g1 (itOk_list (lists_up hW g1) hB h2 h3)⟩
      · cases hf
        refine .inr (.inl (qa A H0 H σ env _ _ E e fun x H1 g1 r1 => ?_))
        cases r1 with
        | tup h2 h3 => exact ⟨_, rfl, ⟨_, h2.sqt⟩, q _ _ g1 (itOk_tup (lists_up hW g1) hB h2 h3)⟩
      · cases hf
        refine .inr (.inr (qa A H0 H σ env _ _ E e fun x H1 g1 r1 => ?_))
        cases r1 with
        | str z => exact ⟨_, rfl, q _ _ g1 itOk_str⟩
      · cases hf
    · cases hf
def B62 (i : Int) : Prop := -4611686018427387904 ≤ i ∧ i < 4611686018427387904
noncomputable instance (i : Int) : Decidable (B62 i) := Classical.propDecidable _
theorem B62.iff {i : Int} (h : B62 i) : -(2 ^ 62) ≤ i ∧ i < 2 ^ 62 := h
noncomputable def rangeV (a : Option (List PyData)) : Option (List PyData) := match a with
  | some [.int j] => if B62 j then some (rangeD 0 j.toNat) else none
  | some [.int i, .int j] => if B62 i ∧ B62 j then some (rangeD i (j - i).toNat) else none
  | _ => none
theorem starEach1 {a : Expr} {env : Env} (h : notStar a = true) : starEach [a] env = [(false, eval a env)] := star_of h
instance purRange1 {pn : Pos} [h1 : PurA S nm T [a] ms fs ce] : PurI S nm T tg (.Call (.Name "range" pn) [a] [] p) [] (fun env => rangeV (fs env)) (ce && bltC nm T "range" && notStar a) where
  run hc TB k X G := by
    simp only [Bool.and_eq_true] at hc
    obtain ⟨⟨hc1, hc2⟩, hc3⟩ := hc
    obtain ⟨ta, ha, la, qa⟩ := h1.run hc1 TB k X G
    obtain ⟨g1, g2⟩ := G.bl hc2
    refine ⟨_, pi_range1 g1 g2 ha (starEach1 hc3), fun env x => rfl, fun A H0 H σ env items W R E hf hW hB q => ?_⟩
    unfold rangeV at hf
    try dsimp only at hf
    split at hf
    · rename_i j e
      split at hf
      · rename_i hb
        cases hf
        refine qa A H0 H σ env _ _ E e fun vs H1 g1 r1 => ?_
        cases r1 with
        | cons r1 r2 =>
          cases r1
          cases r2
          exact ⟨j, rfl, hb.iff.1, hb.iff.2, q _ _ g1 itOk_range⟩
      · cases hf
    · rename_i e
      have := la _ _ e
      simp at this
    · cases hf
instance purRange2 {pn : Pos} [h1 : PurA S nm T [a, b] ms fs ce] : PurI S nm T tg (.Call (.Name "range" pn) [a, b] [] p) [] (fun env => rangeV (fs env)) (ce && bltC nm T "range" && notStar a && notStar b) where
  run hc TB k X G := by
    simp only [Bool.and_eq_true] at hc
    obtain ⟨⟨⟨hc1, hc2⟩, hc3⟩, hc4⟩ := hc
    obtain ⟨ta, ha, la, qa⟩ := h1.run hc1 TB k X G
    obtain ⟨g1, g2⟩ := G.bl hc2
    refine ⟨_, pi_range2 g1 g2 ha (by rw [star_of hc3, starEach1 hc4]) (starEach1 hc4), fun env x => rfl, fun A H0 H σ env items W R E hf hW hB q => ?_⟩
    unfold rangeV at hf
    try dsimp only at hf
    split at hf
    · rename_i e
      have := la _ _ e
      simp at this
    · rename_i i j e
      split at hf
      · rename_i hb
        cases hf
        refine qa A H0 H σ env _ _ E e fun vs H1 g1 r1 => ?_
        cases r1 with
        | cons r1 r2 => cases r2 with
          | cons r2 r3 =>
            cases r1
            cases r2
            cases r3
            exact ⟨i, j, rfl, ⟨hb.1.iff.1, hb.1.iff.2, hb.2.iff.1, hb.2.iff.2⟩, q _ _ g1 itOk_range⟩
      · cases hf
    · cases hf
/-- range(i, j, c), c a positive number or a negative one -/
def rangeN (i j c : Int) : Nat := if 0 < c then ((j - i + c - 1) / c).toNat else ((i - j + (-c) - 1) / (-c)).toNat
def rangeDC (lo c : Int) (n : Nat) : List PyData := (List.range n).map fun i => .int (lo + (i : Nat) * c)

/-! ### targets -/
abbrev GSp (X : Cx) (TB : Addr → Prop) (g : PyData → Sls → Option Sls) (tl : List Nat) (t : TG) : Prop := ∀ (A : Addr → Prop) (H0 H : Hp) (σ : L2.St) (env env' : Sls) (d : PyData) (x : V) (Q : L2.St → Hp → Prop), EnvRep X.K TB A H0 H σ env → Rep X.K H (sel [] A env σ) d x → g d env = some env' →
  (∀ σ', EnvRep X.K TB A H0 H σ' env' → Evo env σ H env' σ' H → (∀ i, i ∉ tl → σ'[i]? = σ[i]?) → σ'.length = σ.length → Q σ' H) → t x σ H Q
class PurG (S : List (Str × Nat)) (nm : List (Str × NameKind)) (T : Tab) (tg : Expr) (g : outParam (PyData → Sls → Option Sls)) (tl : outParam (List Nat)) (c : outParam Bool) : Prop where
  run : c = true → ∀ (TB : Addr → Prop) (k : Nat) (X : Cx), Good S nm T TB k X → ∃ t, PG X tg t ∧ GSp X TB g tl t
  off : ∀ d env env', g d env = some env' → ∀ (i : Nat), i ∉ tl → env'[i]? = env[i]?
abbrev GsSp (X : Cx) (TB : Addr → Prop) (g : List PyData → Sls → Option Sls) (tl : List Nat) (t : TGs) : Prop := ∀ (A : Addr → Prop) (H0 H : Hp) (σ : L2.St) (env env' : Sls) (d : List PyData) (x : List V) (Q : L2.St → Hp → Prop), EnvRep X.K TB A H0 H σ env → Reps X.K H (sel [] A env σ) d x → g d env = some env' →
  (∀ σ', EnvRep X.K TB A H0 H σ' env' → Evo env σ H env' σ' H → (∀ i, i ∉ tl → σ'[i]? = σ[i]?) → σ'.length = σ.length → Q σ' H) → t x σ H Q
class PurGs (S : List (Str × Nat)) (nm : List (Str × NameKind)) (T : Tab) (tg : List Expr) (g : outParam (List PyData → Sls → Option Sls)) (tl : outParam (List Nat)) (c : outParam Bool) : Prop where
  run : c = true → ∀ (TB : Addr → Prop) (k : Nat) (X : Cx), Good S nm T TB k X → ∃ t, PGs X tg t ∧ GsSp X TB g tl t
  off : ∀ d env env', g d env = some env' → ∀ (i : Nat), i ∉ tl → env'[i]? = env[i]?
def locC (S : List (Str × Nat)) (nm : List (Str × NameKind)) (x : Str) (i : Nat) : Bool :=
  decide ((S.map (·.1))[i]? = some x) && (match nm.lookup x with | some .local => true | some .cell => true | _ => false)
theorem Good.lo (G : Good S nm T TB k X) {x : Str} {i : Nat} (h : locC S nm x i = true) : X.N[i]? = some x ∧ Loc X.env.scope x ∧ (X.fn x = true ∨ X.env.scope.names.lookup x = some .local) := by
  unfold locC at h
  simp only [Bool.and_eq_true, decide_eq_true_eq] at h
  refine ⟨by rw [G.N]; exact h.1, ?_⟩
  have h2 := h.2
  split at h2
  · have z := G.loc x (by assumption)
    exact ⟨.inl z, .inr z⟩
  · have z := G.cell x (by assumption)
    exact ⟨.inr z.1, .inl z.2⟩
  · cases h2
theorem sel_of_evo {A : Addr → Prop} {env env' : Sls} {σ σ' : L2.St} (h : ∀ a, OW env' σ' a → OW env σ a) {a : Addr} (z : sel [] A env σ a) : sel [] A env' σ' a := ⟨z.1, fun q => z.2 (h a q)⟩
def gNm (i : Nat) (d : PyData) (env : Sls) : Option Sls := some (env.set i (.va d))
instance purGName {x : Str} {i : Nat} [SlotOf S x i] : PurG S nm T (.Name x p) (gNm i) [i] (locC S nm x i) where
  run hc TB k X G := by
    obtain ⟨h1, h2, h3⟩ := G.lo hc
    refine ⟨_, pg_name (i := i) G.nd h1 h2 h3, fun A H0 H σ env env' d x Q E r hf q => ?_⟩
    cases hf
    refine q _ (E.setVa i r) ⟨fun _ _ _ _ h => h, fun a h => .inl (owx_set_va h), fun _ h => h, fun _ h => h⟩ (fun j hj => ?_) (by simp)
    rw [List.getElem?_set_ne (fun e => hj (by simp [e]))]
  off d env env' h j hj := by
    cases h
    rw [List.getElem?_set_ne (fun e => hj (by simp [e]))]
def gNils (d : List PyData) (env : Sls) : Option Sls := match d with | [] => some env | _ => none
def gConss (g : PyData → Sls → Option Sls) (gs : List PyData → Sls → Option Sls) (d : List PyData) (env : Sls) : Option Sls := match d with
  | x :: r => (match g x env with | some env1 => gs r env1 | none => none)
  | [] => none
instance purGNil : PurGs S nm T [] gNils [] true where
  off d env env' h j hj := by
    unfold gNils at h
    split at h
    · cases h; rfl
    · cases h
  run _ TB k X G := ⟨_, pgs_nil, fun A H0 H σ env env' d x Q E r hf q => by
    unfold gNils at hf
    split at hf
    · cases hf
      cases r
      exact ⟨rfl, q _ E (.refl _ _ _) (fun _ _ => rfl) rfl⟩
    · cases hf⟩
theorem assEach {e : Expr} {es : List Expr} {env : Env} (h : notStar e = true) : assignEach (e :: es) env = (false, assign e env) :: assignEach es env := by
  cases e <;> first | rfl | cases h
theorem assEach_len {env : Env} : ∀ {es : List Expr}, (assignEach es env).length = es.length
  | [] => rfl
  | e :: es => by
    have ih := assEach_len (env := env) (es := es)
    cases e <;> simp [assignEach, ih]
theorem assEach_star {env : Env} : ∀ {es : List Expr}, es.all notStar = true → (assignEach es env).findIdx? (·.1) = none
  | [], _ => rfl
  | e :: es, h => by
    simp only [List.all_cons, Bool.and_eq_true] at h
    rw [assEach h.1]
    have ih := assEach_star (env := env) h.2
    rw [List.findIdx?_cons]
    simp [ih]
variable {ga : PyData → Sls → Option Sls} {tl tl' : List Nat} {gs : List PyData → Sls → Option Sls} {cg : Bool}
instance purGCons [h1 : PurG S nm T a ga tl ca] [h2 : PurGs S nm T es gs tl' ce] : PurGs S nm T (a :: es) (gConss ga gs) (tl ++ tl') (ca && ce && notStar a) where
  off d env env' h j hj := by
    simp only [List.mem_append, not_or] at hj
    unfold gConss at h
    split at h
    · split at h
      · rename_i env1 e1
        rw [h2.off _ _ _ h j hj.2, h1.off _ _ _ e1 j hj.1]
      · cases h
    · cases h
  run hc TB k X G := by
    simp only [Bool.and_eq_true] at hc
    obtain ⟨ta, ha, qa⟩ := h1.run hc.1.1 TB k X G
    obtain ⟨tb, hb, qb⟩ := h2.run hc.1.2 TB k X G
    refine ⟨_, pgs_cons ha hb (by rw [assEach hc.2]; rfl), fun A H0 H σ env env' d x Q E r hf q => ?_⟩
    unfold gConss at hf
    split at hf
    · rename_i dx dr
      split at hf
      · rename_i env1 e1
        cases r with
        | cons r rs =>
          refine ⟨_, _, rfl, ?_⟩
          refine qa A H0 H σ env env1 dx _ _ E r e1 fun σ1 E1 ev1 ag1 l1 => ?_
          have how : ∀ a, OW env1 σ1 a → OW env σ a := fun a h => (ev1.ow a h).elim id fun z => by
            obtain ⟨ys, ⟨e, _⟩, _⟩ := E1.owl h
            rw [z] at e; cases e
          refine qb A H0 H σ1 env1 env' dr _ _ E1 (rs.wide fun a z => sel_of_evo how z) hf fun σ2 E2 ev2 ag2 l2 => ?_
          exact q σ2 E2 (ev1.trans ev2) (fun i hi => by
            simp only [List.mem_append, not_or] at hi
            rw [ag2 i hi.2, ag1 i hi.1]) (l2.trans l1)
      · cases hf
    · cases hf
def gTupl (n : Nat) (gs : List PyData → Sls → Option Sls) (d : PyData) (env : Sls) : Option Sls := match d with
  | .tuple xs => if xs.length = n then gs xs env else none
  | _ => none
instance purGTup {j : Nat} [h1 : PurGs S nm T es gs tl ce] : PurG S nm T (.Tuple es j p) (gTupl es.length gs) tl (ce && es.all notStar) where
  off d env env' h j hj := by
    unfold gTupl at h
    split at h
    · split at h
      · exact h1.off _ _ _ h j hj
      · cases h
    · cases h
  run hc TB k X G := by
    simp only [Bool.and_eq_true] at hc
    obtain ⟨ta, ha, qa⟩ := h1.run hc.1 TB k X G
    refine ⟨_, pg_tup (n := es.length) G.calm ha assEach_len (assEach_star hc.2), fun A H0 H σ env env' d x Q E r hf q => ?_⟩
    unfold gTupl at hf
    split at hf
    · split at hf
      · rename_i hl
        cases r with
        | tup h2 h3 => exact ⟨_, _, rfl, h2, by rw [← h3.length]; exact hl, qa A H0 H σ env env' _ _ Q E h3 hf q⟩
      · cases hf
    · cases hf
end
end Pu

set_option Elab.async false
set_option linter.all false
set_option autoImplicit false
set_option maxRecDepth 100000
set_option maxHeartbeats 4000000
namespace Pu
open PySem PySem.Spec PyProof.Rows L2 GxR

/-! ### a comprehension's block -/
def wipeE : List Nat → Sls → Sls
  | [], env => env
  | v :: vs, env => (wipeE vs env).set v .un
theorem wipeE_len : ∀ (tl : List Nat) (env : Sls), (wipeE tl env).length = env.length
  | [], _ => rfl
  | v :: vs, env => by unfold wipeE; rw [List.length_set, wipeE_len vs]
theorem wipeE_some {env : Sls} {i : Nat} {z : Sl} (hz : z ≠ .un) : ∀ {tl : List Nat}, (wipeE tl env)[i]? = some z → env[i]? = some z ∧ i ∉ tl
  | [], h => ⟨h, by simp⟩
  | v :: vs, h => by
    unfold wipeE at h
    by_cases hi : v = i
    · subst hi
      by_cases hv : v < (wipeE vs env).length
      · rw [List.getElem?_set_self hv] at h
        exact absurd (Option.some.inj h).symm hz
      · rw [List.getElem?_eq_none (by simpa using hv)] at h; cases h
    · rw [List.getElem?_set_ne hi] at h
      obtain ⟨h1, h2⟩ := wipeE_some hz h
      exact ⟨h1, by simp only [List.mem_cons, not_or]; exact ⟨fun e => hi e.symm, h2⟩⟩
theorem wipeE_out {env : Sls} {i : Nat} : ∀ {tl : List Nat}, i ∉ tl → (wipeE tl env)[i]? = env[i]?
  | [], _ => rfl
  | v :: vs, h => by
    simp only [List.mem_cons, not_or] at h
    unfold wipeE
    rw [List.getElem?_set_ne (Ne.symm h.1), wipeE_out h.2]
theorem wipe_out {σ : L2.St} {i : Nat} : ∀ {tl : List Nat}, i ∉ tl → (wipe σ tl)[i]? = σ[i]?
  | [], _ => rfl
  | v :: vs, h => by
    simp only [List.mem_cons, not_or] at h
    unfold wipe
    rw [List.getElem?_set_ne (Ne.symm h.1), wipe_out h.2]
theorem wipe_in {σ : L2.St} {i : Nat} : ∀ {tl : List Nat}, i ∈ tl → (wipe σ tl)[i]? = if i < σ.length then some none else none
  | v :: vs, h => by
    unfold wipe
    rw [List.getElem?_set]
    by_cases hv : v = i
    · subst hv; simp [wipe_length]
    · rw [if_neg hv]
      exact wipe_in ((List.mem_cons.mp h).resolve_left (Ne.symm hv))
theorem wipe_eq {σ σ' : L2.St} {tl : List Nat} (hl : σ'.length = σ.length) (h : ∀ i, i ∉ tl → σ'[i]? = (wipe σ tl)[i]?) : wipe σ' tl = wipe σ tl := by
  apply List.ext_getElem?
  intro i
  by_cases hi : i ∈ tl
  · rw [wipe_in hi, wipe_in hi, hl]
  · rw [wipe_out hi, h i hi]
def Wi (tl : List Nat) (env : Sls) (σ : L2.St) (a : Addr) : Prop := ∃ (i : Nat) (s : Sl), i ∈ tl ∧ (env[i]? = some s ∧ s.own = true) ∧ σ[i]? = some (some (V.ref a))
section
variable {K : PySem.W.Frag} {TB A : Addr → Prop} {H0 H H1 : Hp} {σ : L2.St} {env : Sls}
theorem own_ne {s : Sl} (h : s.own = true) : s ≠ .un := fun e => by subst e; cases h
theorem OW_wipe {tl ms : List Nat} {a : Addr} (h : OWx ms (wipeE tl env) (wipe σ tl) a) : OWx ms env σ a := by
  obtain ⟨i, ds, ⟨e, hs⟩, n, q⟩ := h
  obtain ⟨e1, e2⟩ := wipeE_some (own_ne hs) e
  rw [wipe_out e2] at q
  exact ⟨i, ds, ⟨e1, hs⟩, n, q⟩
theorem EnvRep.wipe (E : EnvRep K TB A H0 H σ env) (tl : List Nat) : EnvRep K TB (fun a => A a ∧ ¬ Wi tl env σ a) H0 H (L2.wipe σ tl) (wipeE tl env) := by
  have wd : ∀ a, sel [] A env σ a → sel [] (fun a => A a ∧ ¬ Wi tl env σ a) (wipeE tl env) (L2.wipe σ tl) a := fun a h =>
    ⟨⟨h.1, fun ⟨i, ds, _, e, q⟩ => h.2 ⟨i, ds, e, by simp, q⟩⟩, fun z => h.2 (OW_wipe z)⟩
  refine ⟨by rw [wipe_length, wipeE_len]; exact E.len, fun i d e => ?_, fun i s e hs => ?_, fun i j s t a e1 hs e2 ht e3 e4 => ?_, E.grow, fun a e => ⟨E.free a e, fun ⟨i, ds, _, e1, q⟩ => ?_⟩, E.tabs⟩
  · obtain ⟨e1, e2⟩ := wipeE_some (by simp) e
    obtain ⟨x, h1, h2⟩ := E.va i d e1
    exact ⟨x, by rw [wipe_out e2]; exact h1, h2.wide wd⟩
  · obtain ⟨e1, e2⟩ := wipeE_some (own_ne hs) e
    obtain ⟨a, h1, h2, h3, h4⟩ := E.ows i s e1 hs
    refine ⟨a, by rw [wipe_out e2]; exact h1, h2.wide wd, ⟨h3, fun ⟨j, t, hj, ⟨ej, ht⟩, qj⟩ => ?_⟩, h4⟩
    have := E.injs i j s t a e1 hs ej ht h1 qj
    subst this
    exact e2 hj
  · obtain ⟨f1, f2⟩ := wipeE_some (own_ne hs) e1
    obtain ⟨f3, f4⟩ := wipeE_some (own_ne ht) e2
    rw [wipe_out f2] at e3
    rw [wipe_out f4] at e4
    exact E.injs i j s t a f1 hs f3 ht e3 e4
  · obtain ⟨ys, ⟨z, _⟩, _⟩ := E.owl (ms := []) ⟨i, ds, e1, by simp, q⟩
    rw [e] at z; cases z
/-- beside a new list at D -/
theorem EnvRep.beside (E : EnvRep K TB A H0 H1 σ env) {D : Addr} {o : HO} (hD : H1 D = none) : EnvRep K TB (fun a => A a ∧ a ≠ D) H0 (upd H1 D o) σ env := by
  have wd : ∀ a, (sel [] A env σ a ∧ a ≠ D) → sel [] (fun a => A a ∧ a ≠ D) env σ a := fun a h => ⟨⟨h.1.1, h.2⟩, h.1.2⟩
  have g : Grow H1 (upd H1 D o) := .new hD
  refine ⟨E.len, fun i d e => ?_, fun i s e hs => ?_, E.injs, E.grow.trans g, fun a e => ⟨E.free a (g.fresh a e), fun z => by rw [z, upd_same] at e; cases e⟩, fun b e => g.tab b (E.tabs b e)⟩
  · obtain ⟨x, h1, h2⟩ := E.va i d e
    exact ⟨x, h1, ((h2.away hD).up g).wide wd⟩
  · obtain ⟨a, h1, h2, h3, h4⟩ := E.ows i s e hs
    exact ⟨a, h1, ((h2.away hD).up g).wide wd, ⟨h3, fun z => by obtain ⟨o', q, _⟩ := h2.is; rw [z, hD] at q; cases q⟩, h4⟩
/-- a list outside is written -/
theorem EnvRep.aside (E : EnvRep K TB A H0 H σ env) {D : Addr} {xs ys : List V} (hD : H D = some (.lst xs)) (hA : ¬ A D) (h0 : H0 D = none) : EnvRep K TB A H0 (upd H D (.lst ys)) σ env := by
  have W := rep_write (K := K) (A := sel [] A env σ) (o := .lst ys) hD (.inl ⟨_, rfl⟩) fun z => hA z.1
  have tb : ∀ b, TabG H b → TabG (upd H D (.lst ys)) b := fun b ⟨ps, q, t⟩ => by
    have ne : b ≠ D := fun z => by rw [z, hD] at q; cases q
    exact ⟨ps, by rw [upd_ne ne]; exact q, t⟩
  have fr : ∀ b, upd H D (.lst ys) b = none → H b = none := fun b e => by
    by_cases hb : b = D
    · rw [hb, upd_same] at e; cases e
    · rw [upd_ne hb] at e; exact e
  refine ⟨E.len, fun i d e => ?_, fun i s e hs => ?_, E.injs, ⟨fun b o nt e => ?_, fun b e => tb b (E.grow.tab b e), fun b e => E.grow.fresh b (fr b e)⟩, fun a e => E.free a (fr a e), fun b e => tb b (E.tabs b e)⟩
  · obtain ⟨x, h1, h2⟩ := E.va i d e
    exact ⟨x, h1, W.1 h2⟩
  · obtain ⟨a, h1, h2, h3, h4⟩ := E.ows i s e hs
    exact ⟨a, h1, h2.write hD (.inl ⟨_, rfl⟩) (fun z => hA z.1) (fun z : a = D => hA (by rw [← z]; exact h3)), h3, h4⟩
  · rw [upd_ne (fun z => by rw [z, h0] at e; cases e)]
    exact E.grow.same b o nt e
theorem Grow.aside {D : Addr} {xs ys : List V} (g : Grow H1 H) (h1 : H1 D = none) (hD : H D = some (.lst xs)) : Grow H1 (upd H D (.lst ys)) :=
  ⟨fun b o nt e => by rw [upd_ne (ne_of_none e h1)]; exact g.same b o nt e, fun b e => by
    obtain ⟨ps, q, t⟩ := g.tab b e
    have ne : b ≠ D := fun z => by rw [z, hD] at q; cases q
    exact ⟨ps, by rw [upd_ne ne]; exact q, t⟩, fun b e => by
    by_cases hb : b = D
    · rw [hb, upd_same] at e; cases e
    · rw [upd_ne hb] at e; exact g.fresh b e⟩
end

/-! ### list comprehensions -/
def compL (h : PyData → Option (Option PyData)) : List PyData → Option (List PyData)
  | [] => some []
  | d :: r => match h d with
    | none => none
    | some none => compL h r
    | some (some y) => (match compL h r with | some ys => some (y :: ys) | none => none)
class PurTs (S : List (Str × Nat)) (nm : List (Str × NameKind)) (T : Tab) (es : List Expr) (f : outParam (Sls → Option Bool)) (c : outParam Bool) : Prop where
  run : c = true → ∀ (TB : Addr → Prop) (k : Nat) (X : Cx), Good S nm T TB k X → ∃ t, PTs X es t ∧ TSp X TB f t
section
variable {S : List (Str × Nat)} {nm : List (Str × NameKind)} {T : Tab} {TB : Addr → Prop} {k : Nat} {X : Cx}
variable {a b : Expr} {p : Pos} {ms ns : List Nat} {f g : Sls → Option PyData} {ca cb : Bool} {es : List Expr} {fs : Sls → Option (List PyData)} {ce : Bool} {tg : Expr}
instance purTs0 : PurTs S nm T [] (fun _ => some true) true where
  run _ TB k X G := ⟨_, pts_nil, fun A H0 H σ env b Q E hf q => by cases hf; exact q H (.refl H)⟩
instance purTs1 {ft : Sls → Option Bool} [h : PurT S nm T a ft ca] : PurTs S nm T [a] ft ca where
  run hc TB k X G := by
    obtain ⟨ta, ha, qa⟩ := h.run hc TB k X G
    exact ⟨_, pts_one ha, qa⟩
def ownOf (S : List (Str × Nat)) (tl : List Nat) : List (Str × Nat) := tl.filterMap fun i => S[i]?
def scOf (nm : List (Str × NameKind)) : Scope := { kind := .function, names := nm, isGenerator := false, isCoroutine := false }
def blkP (S : List (Str × Nat)) (nm : List (Str × NameKind)) (scope : Scope) (tl : List Nat) : Bool :=
  blkC (S.map (·.1)) (scOf nm) scope (ownOf S tl) && decide ((ownOf S tl).map (·.2) = tl)
theorem Good.blk (G : Good S nm T TB k X) {scope : Scope} {tl : List Nat} (h : blkP S nm scope tl = true) : BlkOk X.N X.env.scope scope (ownOf S tl) ∧ (ownOf S tl).map (·.2) = tl := by
  unfold blkP at h
  simp only [Bool.and_eq_true, decide_eq_true_eq] at h
  have B := blkOk_by h.1
  refine ⟨⟨B.kind, B.uniq, by rw [G.N]; exact B.ix, fun y hy e => ?_, by rw [G.N]; exact B.own⟩, h.2⟩
  rcases B.free y hy e with z | z
  · exact .inl (G.cell _ z).1
  · exact G.fre _ z
theorem lookup_relS_free {sc : Scope} : ∀ {names : List (Str × NameKind)} {x : Str}, names.lookup x = some .free →
    (names.map fun (n, k) => if (k == NameKind.free && sc.kind == .function && sc.names.lookup n == some .cell) then (n, NameKind.cell) else (n, k)).lookup x = some .cell ∨
    (names.map fun (n, k) => if (k == NameKind.free && sc.kind == .function && sc.names.lookup n == some .cell) then (n, NameKind.cell) else (n, k)).lookup x = some .free
  | [], _, h => by simp at h
  | (n, k) :: r, x, h => by
    have ih := @lookup_relS_free sc r x
    rw [List.map_cons]
    dsimp only
    cases hx : x == n with
    | true =>
      simp only [List.lookup_cons, hx] at h
      cases h
      by_cases hc : (NameKind.free == NameKind.free && sc.kind == .function && sc.names.lookup n == some .cell) = true
      · rw [if_pos hc]; left; simp only [List.lookup_cons, hx]
      · rw [if_neg hc]; right; simp only [List.lookup_cons, hx]
    | false =>
      simp only [List.lookup_cons, hx] at h
      by_cases hc : (k == NameKind.free && sc.kind == .function && sc.names.lookup n == some .cell) = true
      · rw [if_pos hc]; simp only [List.lookup_cons, hx]; exact ih h
      · rw [if_neg hc]; simp only [List.lookup_cons, hx]; exact ih h
theorem Good.inBlk (G : Good S nm T TB k X) (scope : Scope) (hk : scope.kind = .function) (s : Shared) (H : Hp) (C : Addr) (cl : List (Str × Addr)) (fp : List Addr) : Good S scope.names T TB k (X.blk s H scope (compEnvC scope cl C X.env) fp) where
  N := G.N
  nd := G.nd
  calm := G.calm
  xe := rfl
  kind := hk
  loc x h := lookup_relS_keep (sc := X.env.scope) (by simp) h
  cell x h := ⟨lookup_relS_keep (sc := X.env.scope) (by simp) h, by show (scope.names.lookup x == some .cell) = true; rw [h]; rfl⟩
  fre x h := lookup_relS_free (sc := X.env.scope) h
  glo x h := lookup_relS_keep (sc := X.env.scope) (by simp) h
  blt := G.blt
  mat := G.mat
  has := G.has
  room := G.room
  gen := G.gen

/-- the step of a comprehension -/
def lcStep (gt : PyData → Sls → Option Sls) (ft : Sls → Option Bool) (fe : Sls → Option PyData) (env : Sls) (d : PyData) : Option (Option PyData) :=
  match gt d env with
  | none => none
  | some env1 => match ft env1 with
    | none => none
    | some false => some none
    | some true => (match fe env1 with | some y => some (some y) | none => none)
def lcV (items : Option (List PyData)) (mi tl : List Nat) (gt : PyData → Sls → Option Sls) (ft : Sls → Option Bool) (fe : Sls → Option PyData) (env : Sls) : Option (List PyData) :=
  match items with
  | none => none
  | some xs => if xs.length ≤ LIM then compL (lcStep gt ft fe (wipeE tl (freeze mi env))) xs else none
theorem lc_read {wi : TI} {gT : TG} {tt : TT} {te : TE} {mi me tl : List Nat} {fi : Sls → Option (List PyData)} {gt : PyData → Sls → Option Sls} {ft : Sls → Option Bool} {fe : Sls → Option PyData}
    (qi : ISp X TB mi fi wi) (qg : GSp X TB gt tl gT) (off : ∀ d env env', gt d env = some env' → ∀ (i : Nat), i ∉ tl → env'[i]? = env[i]?) (qt : TSp X TB ft tt) (qe : ESp X TB me fe te)
    {A : Addr → Prop} {H0 H : Hp} {σ : L2.St} {env : Sls} {ds : List PyData} {Q : VK} (E : EnvRep X.K TB A H0 H σ env) (hf : lcV (fi env) mi tl gt ft fe env = some ds)
    (q : ∀ p ys H', Grow H H' → H p = none → H' p = some (.lst ys) → Reps X.K H' (fun a => sel (me ++ mi) A env σ a ∧ a ≠ p) ds ys → Q (.ref p) H') : tLc wi gT tt te tl σ H Q := by
  unfold lcV at hf
  split at hf
  · cases hf
  · rename_i items e0
    split at hf
    · rename_i hlen
      refine qi A H0 H σ env items (OWx mi env σ) _ E e0 (fun b z => let ⟨ys, e, _⟩ := E.owl z; ⟨ys, e⟩) (fun a z => z.2) fun J H1 g1 IT D hD => ?_
      have E1 := E.up g1
      generalize henvb : wipeE tl (freeze mi env) = envb at hf
      generalize hσb : wipe σ tl = σb
      -- the addresses within the block
      let A' : Addr → Prop := fun a => (A a ∧ a ≠ D) ∧ ¬ Wi tl (freeze mi env) σ a
      have E2 : EnvRep X.K TB A' H0 (upd H1 D (.lst [])) σb envb := by
        have z := ((E1.freeze mi).beside (o := .lst []) hD).wipe tl
        rw [henvb, hσb] at z
        exact z
      have H0D : H0 D = none := E1.grow.fresh D hD
      have nA : ¬ A' D := fun z => z.1.2 rfl
      refine ⟨fun i m Hi => m = items.length - i ∧ i ≤ items.length ∧ ∃ (accd : List PyData) (acc : List V) (rest : List PyData), compL (lcStep gt ft fe envb) (items.drop i) = some rest ∧ accd ++ rest = ds ∧ acc.length ≤ i ∧ Hi D = some (.lst acc) ∧
        Reps X.K Hi (sel me A' envb σb) accd acc ∧ EnvRep X.K TB A' H0 Hi σb envb ∧ Grow H1 Hi, ⟨items.length, rfl, Nat.zero_le _, [], [], ds, hf, rfl, Nat.le_refl _, upd_same, .nil, E2, .new hD⟩, ?_⟩
      rintro i m Hi ⟨rfl, hi, accd, acc, rest, hc, hd, hal, hiD, hr, Ei, gi⟩
      obtain ⟨it1, it2⟩ := IT i Hi (.of gi)
      by_cases hlt : i < items.length
      · -- a turn
        have ei : items[i]? = some items[i] := List.getElem?_eq_getElem hlt
        obtain ⟨go, yl⟩ := it1 _ ei
        have edrop : items.drop i = items[i] :: items.drop (i + 1) := (List.drop_eq_getElem_cons hlt)
        rw [edrop, compL] at hc
        refine .inr ⟨go, fun H' => ∃ (accd : List PyData) (acc : List V) (rest : List PyData), compL (lcStep gt ft fe envb) (items.drop (i + 1)) = some rest ∧ accd ++ rest = ds ∧ acc.length ≤ i + 1 ∧ H' D = some (.lst acc) ∧
          Reps X.K H' (sel me A' envb σb) accd acc ∧ EnvRep X.K TB A' H0 H' σb envb ∧ Grow H1 H', fun H' h => ⟨items.length - (i + 1), by omega, rfl, hlt, h⟩, fun x H2 y => ?_⟩
        obtain ⟨g2, rx⟩ := yl x H2 y
        have Ej := Ei.up g2
        have rx2 : Rep X.K H2 (sel [] A' envb σb) items[i] x := rx.wide fun a ⟨h1, h2⟩ => by
          have n1 : ¬ OWx mi env σ a := h1.2
          refine ⟨⟨⟨h1.1, fun z => h2 (z ▸ hD)⟩, fun ⟨j, es, _, e1, e2⟩ => n1 (OW_freeze.mp ⟨j, es, e1, by simp, e2⟩)⟩, fun z => ?_⟩
          rw [← henvb, ← hσb] at z
          exact n1 (OW_freeze.mp (OW_wipe z))
        cases hst : lcStep gt ft fe envb items[i] with
        | none => rw [hst] at hc; cases hc
        | some r =>
          rw [hst] at hc
          unfold lcStep at hst
          split at hst
          · cases hst
          · rename_i env1 eg
            refine qg A' H0 H2 σb envb env1 _ x _ Ej rx2 eg fun σ2 E3 ev ag ln => ⟨?_, ?_⟩
            · have hl2 : σ2.length = σ.length := by rw [ln, ← hσb, wipe_length]
              rw [← hσb] at ag
              rw [← hσb]
              exact wipe_eq hl2 fun j hj => ag j hj
            · have how : ∀ a, OW env1 σ2 a → OW envb σb a := fun a h => (ev.ow a h).elim id fun z => by
                obtain ⟨ys, ⟨e, _⟩, _⟩ := E3.owl h
                rw [z] at e; cases e
              split at hst
              · cases hst
              · rename_i et
                cases hst
                refine qt A' H0 H2 σ2 env1 false _ E3 et fun H3 g3 => ?_
                rw [if_neg Bool.false_ne_true]
                exact ⟨accd, acc, rest, hc, hd, by omega, g3.same _ _ (fun _ => HO.noConfusion) (g2.same _ _ (fun _ => HO.noConfusion) hiD), (hr.up g2).up g3, Ej.up g3, (gi.trans g2).trans g3⟩
              · rename_i et
                split at hst
                · rename_i y ey
                  cases hst
                  dsimp only at hc
                  split at hc
                  · rename_i ys eys
                    cases hc
                    refine qt A' H0 H2 σ2 env1 true _ E3 et fun H3 g3 => ?_
                    rw [if_pos rfl]
                    refine qe A' H0 H3 σ2 env1 y _ (E3.up g3) ey fun v H4 g4 r4 => ?_
                    have g24 := (g2.trans g3).trans g4
                    have d4 : H4 D = some (.lst acc) := g24.same _ _ (fun _ => HO.noConfusion) hiD
                    refine ⟨acc, d4, by rw [← lim_line]; omega, ?_⟩
                    have r5 : Rep X.K H4 (sel me A' envb σb) y v := r4.wide fun a z => ⟨z.1, fun w => z.2 (by
                      -- an own list of the block stays one behind the target's store
                      obtain ⟨j, es, e1, e2, e3⟩ := w
                      have nj : j ∉ tl := (wipeE_some (z := es) (env := freeze mi env) (own_ne e1.2) (by rw [henvb]; exact e1.1)).2
                      exact ⟨j, es, by rw [off _ _ _ eg j nj]; exact e1, e2, by rw [ag j nj]; exact e3⟩)⟩
                    have r6 := (hr.up g24).append (.cons r5 .nil)
                    have nB : ¬ sel me A' envb σb D := fun z => nA z.1
                    exact ⟨accd ++ [y], acc ++ [v], ys, eys, by rw [List.append_assoc]; exact hd, by rw [List.length_append]; simp; omega, upd_same, (rep_write d4 (.inl ⟨_, rfl⟩) nB).2 r6, (Ej.up (g3.trans g4)).aside d4 nA H0D, (gi.trans g24).aside hD d4⟩
                  · cases hc
                · cases hst
      · have ee : i = items.length := by omega
        refine .inl ⟨it2 ee, ?_⟩
        rw [ee, List.drop_length, compL] at hc
        cases hc
        rw [List.append_nil] at hd
        subst hd
        refine q D acc Hi (g1.trans gi) (g1.fresh D hD) hiD (hr.wide fun a z => ⟨⟨z.1.1.1, fun w => ?_⟩, z.1.1.2⟩)
        obtain ⟨j, es, e1, e2, e3⟩ := w
        simp only [List.mem_append, not_or] at e2
        have f1 : (freeze mi env)[j]? = some es ∧ es.own = true := ⟨(freeze_ownI e1.2).mpr ⟨e1.1, e2.2⟩, e1.2⟩
        by_cases hj : j ∈ tl
        · exact z.1.2 ⟨j, es, hj, f1, e3⟩
        · exact z.2 ⟨j, es, by rw [← henvb, wipeE_out hj]; exact f1, e2.1, by rw [← hσb, wipe_out hj]; exact e3⟩
    · cases hf
/-! one reading for every block -/
def canE (K : PySem.W.Frag) (TB : Addr → Prop) (ms : List Nat) (f : Sls → Option PyData) : TE := fun σ H Q => ∃ (A : Addr → Prop) (H0 : Hp) (env : Sls) (d : PyData), EnvRep K TB A H0 H σ env ∧ f env = some d ∧ ∀ x H', Grow H H' → Rep K H' (sel ms A env σ) d x → Q x H'
def canT (K : PySem.W.Frag) (TB : Addr → Prop) (f : Sls → Option Bool) : TT := fun σ H Q => ∃ (A : Addr → Prop) (H0 : Hp) (env : Sls) (b : Bool), EnvRep K TB A H0 H σ env ∧ f env = some b ∧ ∀ H', Grow H H' → Q b H'
def canG (K : PySem.W.Frag) (TB : Addr → Prop) (g : PyData → Sls → Option Sls) (tl : List Nat) : TG := fun x σ H Q => ∃ (A : Addr → Prop) (H0 : Hp) (env env' : Sls) (d : PyData), EnvRep K TB A H0 H σ env ∧ Rep K H (sel [] A env σ) d x ∧ g d env = some env' ∧
  ∀ σ', EnvRep K TB A H0 H σ' env' → Evo env σ H env' σ' H → (∀ i, i ∉ tl → σ'[i]? = σ[i]?) → σ'.length = σ.length → Q σ' H
theorem PE.imp {X : Cx} {e : Expr} {t t' : TE} (h : PE X e t) (i : ∀ σ H Q, t' σ H Q → t σ H Q) : PE X e t' := ⟨fun pins s σ H Q I q => h.run pins s σ H Q I (i _ _ _ q)⟩
theorem canE_of {X : Cx} {TB : Addr → Prop} {ms : List Nat} {f : Sls → Option PyData} {e : Expr} (h : ∃ t, PE X e t ∧ ESp X TB ms f t) : PE X e (canE X.K TB ms f) := by
  obtain ⟨t, h1, h2⟩ := h
  exact ⟨fun pins s σ H Q I ⟨A, H0, env, d, E, e, q⟩ => h1.run pins s σ H Q I (h2 A H0 H σ env d Q E e q)⟩
theorem canT_of {X : Cx} {TB : Addr → Prop} {f : Sls → Option Bool} {e : Expr} (h : ∃ t, PT X e t ∧ TSp X TB f t) : PT X e (canT X.K TB f) := by
  obtain ⟨t, h1, h2⟩ := h
  exact ⟨fun pins s σ H Q I ⟨A, H0, env, d, E, e, q⟩ => h1.run pins s σ H Q I (h2 A H0 H σ env d Q E e q)⟩
theorem canTs_of {X : Cx} {TB : Addr → Prop} {f : Sls → Option Bool} {es : List Expr} (h : ∃ t, PTs X es t ∧ TSp X TB f t) : PTs X es (canT X.K TB f) := by
  obtain ⟨t, h1, h2⟩ := h
  exact ⟨fun pins s σ H Q I ⟨A, H0, env, d, E, e, q⟩ => h1.run pins s σ H Q I (h2 A H0 H σ env d Q E e q)⟩
theorem canG_of {X : Cx} {TB : Addr → Prop} {g : PyData → Sls → Option Sls} {tl : List Nat} {e : Expr} (h : ∃ t, PG X e t ∧ GSp X TB g tl t) : PG X e (canG X.K TB g tl) := by
  obtain ⟨t, h1, h2⟩ := h
  exact ⟨fun pins s σ H v u Q I r ⟨A, H0, env, env', d, E, rd, e, q⟩ => h1.run pins s σ H v u Q I r (h2 A H0 H σ env env' d v Q E rd e q)⟩
theorem canE_sp {X : Cx} {TB : Addr → Prop} {ms : List Nat} {f : Sls → Option PyData} : ESp X TB ms f (canE X.K TB ms f) := fun A H0 H σ env d Q E e q => ⟨A, H0, env, d, E, e, q⟩
theorem canT_sp {X : Cx} {TB : Addr → Prop} {f : Sls → Option Bool} : TSp X TB f (canT X.K TB f) := fun A H0 H σ env d Q E e q => ⟨A, H0, env, d, E, e, q⟩
theorem canG_sp {X : Cx} {TB : Addr → Prop} {g : PyData → Sls → Option Sls} {tl : List Nat} : GSp X TB g tl (canG X.K TB g tl) := fun A H0 H σ env env' d x Q E r e q => ⟨A, H0, env, env', d, E, r, e, q⟩
variable {elt iter : Expr} {ifs : List Expr} {scope : Scope} {mi me tl : List Nat} {fi : Sls → Option (List PyData)} {gt : PyData → Sls → Option Sls} {ft : Sls → Option Bool} {fe : Sls → Option PyData} {ci cg ct : Bool}
theorem lc_parts [h1 : PurI S nm T tg iter mi fi ci] [h2 : PurG S scope.names T tg gt tl cg] [h3 : PurTs S scope.names T ifs ft ct] [h4 : PurE S scope.names T elt me fe ce] (hc : (ci && cg && ct && ce && blkP S nm scope tl) = true) (G : Good S nm T TB k X) :
    ∃ wi, PI X tg iter wi ∧ (∀ env x, foldedSetIterable iter env x = pure x) ∧ ISp X TB mi fi wi ∧ BlkOk X.N X.env.scope scope (ownOf S tl) ∧ (ownOf S tl).map (·.2) = tl ∧
      (∀ (s : Shared) (H : Hp) (C : Addr) (cl : List (Str × Addr)) (fp : List Addr), PG (X.blk s H scope (compEnvC scope cl C X.env) fp) tg (canG X.K TB gt tl)) ∧
      (∀ (s : Shared) (H : Hp) (C : Addr) (cl : List (Str × Addr)) (fp : List Addr), PTs (X.blk s H scope (compEnvC scope cl C X.env) fp) ifs (canT X.K TB ft)) ∧
      (∀ (s : Shared) (H : Hp) (C : Addr) (cl : List (Str × Addr)) (fp : List Addr), PE (X.blk s H scope (compEnvC scope cl C X.env) fp) elt (canE X.K TB me fe)) ∧
      (∀ d env env', gt d env = some env' → ∀ (i : Nat), i ∉ tl → env'[i]? = env[i]?) := by
  simp only [Bool.and_eq_true] at hc
  obtain ⟨⟨⟨⟨hc1, hc2⟩, hc3⟩, hc4⟩, hc5⟩ := hc
  obtain ⟨wi, hi, hs, qi⟩ := h1.run hc1 TB k X G
  obtain ⟨bo, eo⟩ := G.blk hc5
  exact ⟨wi, hi, hs, qi, bo, eo, fun s H C cl fp => canG_of (h2.run hc2 TB k _ (G.inBlk scope bo.kind s H C cl fp)), fun s H C cl fp => canTs_of (h3.run hc3 TB k _ (G.inBlk scope bo.kind s H C cl fp)), fun s H C cl fp => canE_of (h4.run hc4 TB k _ (G.inBlk scope bo.kind s H C cl fp)), h2.off⟩
instance purLcF [h1 : PurI S nm T tg iter mi fi ci] [h2 : PurG S scope.names T tg gt tl cg] [h3 : PurTs S scope.names T ifs ft ct] [h4 : PurE S scope.names T elt me fe ce] :
    PurF S nm T (.ListComp elt [⟨tg, iter, ifs, 0⟩] scope p) (me ++ mi) (fun env => lcV (fi env) mi tl gt ft fe env) (ci && cg && ct && ce && blkP S nm scope tl) where
  run hc TB k X G := by
    obtain ⟨wi, hi, hs, qi, bo, eo, hg, ht, he, off⟩ := lc_parts (tg := tg) (iter := iter) (ifs := ifs) (elt := elt) hc G
    refine ⟨_, pe_lc G.calm G.nd hi bo hg ht he (hs _), fun A H0 H σ env ds Q E hf q => ?_⟩
    rw [eo]
    exact lc_read qi canG_sp off canT_sp canE_sp E hf q
instance purLc [PurF S nm T (.ListComp elt [⟨tg, iter, ifs, 0⟩] scope p) ms fs ce] : PurE S nm T (.ListComp elt [⟨tg, iter, ifs, 0⟩] scope p) ms (fun env => listV (fs env)) ce := pur_of_fresh inferInstance
end
end Pu

set_option Elab.async false
set_option linter.all false
set_option autoImplicit false
set_option maxRecDepth 100000
set_option maxHeartbeats 4000000
namespace Pu
open PySem PySem.Spec PyProof.Rows L2 GxR

/-! ### statements -/
inductive Out where
  | nx (env : Sls)
  | rt (d : PyData)
  | bk (env : Sls)
  | ct (env : Sls)
def OutOk (X : Cx) (TB A : Addr → Prop) (env : Sls) (σ : L2.St) (H : Hp) (D : Ends) : Out → Prop
  | .nx env' => ∀ σ' H', EnvRep X.K TB A X.H_0 H' σ' env' → Evo env σ H env' σ' H' → D.nx σ' H'
  | .rt d => ∀ x H', Grow X.H_0 H' → Rep X.K H' A d x → D.rt x H'
  | .bk env' => ∀ σ' H', EnvRep X.K TB A X.H_0 H' σ' env' → Evo env σ H env' σ' H' → D.bk σ' H'
  | .ct env' => ∀ σ' H', EnvRep X.K TB A X.H_0 H' σ' env' → Evo env σ H env' σ' H' → D.ct σ' H'
abbrev SSp (X : Cx) (TB : Addr → Prop) (g : Sls → Option Out) (t : TS) : Prop := ∀ (A : Addr → Prop) (H : Hp) (σ : L2.St) (env : Sls) (o : Out) (D : Ends), EnvRep X.K TB A X.H_0 H σ env → g env = some o → OutOk X TB A env σ H D o → t D σ H
class PurS (S : List (Str × Nat)) (nm : List (Str × NameKind)) (T : Tab) (st : Stmt) (g : outParam (Sls → Option Out)) (c : outParam Bool) : Prop where
  run : c = true → ∀ (TB : Addr → Prop) (k : Nat) (X : Cx), Good S nm T TB k X → ∃ t, PS X st t ∧ SSp X TB g t
class PurSs (S : List (Str × Nat)) (nm : List (Str × NameKind)) (T : Tab) (st : List Stmt) (g : outParam (Sls → Option Out)) (c : outParam Bool) : Prop where
  run : c = true → ∀ (TB : Addr → Prop) (k : Nat) (X : Cx), Good S nm T TB k X → ∃ t, PSs X st t ∧ SSp X TB g t
theorem OutOk.pre {X : Cx} {TB A : Addr → Prop} {env env1 : Sls} {σ σ1 : L2.St} {H H1 : Hp} {D : Ends} {o : Out} (h : OutOk X TB A env σ H D o) (ev : Evo env σ H env1 σ1 H1) : OutOk X TB A env1 σ1 H1 D o := by
  cases o with
  | nx e => exact fun σ' H' E' ev' => h σ' H' E' (ev.trans ev')
  | rt d => exact h
  | bk e => exact fun σ' H' E' ev' => h σ' H' E' (ev.trans ev')
  | ct e => exact fun σ' H' E' ev' => h σ' H' E' (ev.trans ev')
section
variable {S : List (Str × Nat)} {nm : List (Str × NameKind)} {T : Tab} {TB : Addr → Prop} {k : Nat} {X : Cx}
variable {a b : Expr} {p : Pos} {ms ns : List Nat} {f g : Sls → Option PyData} {ca cb : Bool} {es : List Expr} {fs : Sls → Option (List PyData)} {ce : Bool} {tg : Expr}
variable {st : Stmt} {sts : List Stmt} {gs gt : Sls → Option Out} {cs ct : Bool}
def seqO (a : Option Out) (k : Sls → Option Out) : Option Out := match a with
  | some (.nx env) => k env
  | some o => some o
  | none => none
instance purSNil : PurSs S nm T [] (fun env => some (.nx env)) true where
  run _ TB k X G := ⟨_, pss_nil, fun A H σ env o D E h q => by cases h; exact q σ H E (.refl _ _ _)⟩
instance (priority := low) purSCons [h1 : PurS S nm T st gs cs] [h2 : PurSs S nm T sts gt ct] : PurSs S nm T (st :: sts) (fun env => seqO (gs env) gt) (cs && ct) where
  run hc TB k X G := by
    simp only [Bool.and_eq_true] at hc
    obtain ⟨t1, p1, q1⟩ := h1.run hc.1 TB k X G
    obtain ⟨t2, p2, q2⟩ := h2.run hc.2 TB k X G
    refine ⟨_, pss_cons p1 p2, fun A H σ env o D E h q => ?_⟩
    unfold seqO at h
    try dsimp only at h
    split at h
    · rename_i env1 e1
      exact q1 A H σ env (.nx env1) _ E e1 fun σ' H' E' ev => q2 A H' σ' env1 o D E' h (q.pre ev)
    · rename_i o' hne e1
      cases h
      refine q1 A H σ env o _ E e1 ?_
      cases o with
      | nx e => exact (hne e rfl).elim
      | rt d => exact q
      | bk e => exact q
      | ct e => exact q
    · cases h
instance purSOne [h1 : PurS S nm T st gs cs] : PurSs S nm T [st] gs cs where
  run hc TB k X G := by
    obtain ⟨t1, p1, q1⟩ := h1.run hc TB k X G
    exact ⟨_, pss_one p1, q1⟩
instance purPass : PurS S nm T (.Pass p) (fun env => some (.nx env)) true where
  run _ TB k X G := ⟨_, ps_pass, fun A H σ env o D E h q => by cases h; exact q σ H E (.refl _ _ _)⟩
instance purBreak : PurS S nm T (.Break p) (fun env => some (.bk env)) true where
  run _ TB k X G := ⟨_, ps_break, fun A H σ env o D E h q => by cases h; exact q σ H E (.refl _ _ _)⟩
instance purCont : PurS S nm T (.Continue p) (fun env => some (.ct env)) true where
  run _ TB k X G := ⟨_, ps_continue, fun A H σ env o D E h q => by cases h; exact q σ H E (.refl _ _ _)⟩
instance purDoc {x : Str} {j : Nat} {p' : Pos} : PurS S nm T (.Expr (.Constant (.str x) j p) p') (fun env => some (.nx env)) true where
  run _ TB k X G := ⟨_, ps_doc, fun A H σ env o D E h q => by cases h; exact q σ H E (.refl _ _ _)⟩
def retO (a : Option PyData) : Option Out := match a with | some d => some (.rt d) | none => none
instance purRet [h1 : PurE S nm T a ms f ca] : PurS S nm T (.Return (some a) p) (fun env => retO (f env)) ca where
  run hc TB k X G := by
    obtain ⟨ta, ha, qa⟩ := h1.run hc TB k X G
    refine ⟨_, ps_ret ha, fun A H σ env o D E h q => ?_⟩
    unfold retO at h
    try dsimp only at h
    split at h
    · rename_i d e
      cases h
      exact qa A X.H_0 H σ env d _ E e fun x H1 g1 r1 => q x H1 (E.grow.trans g1) (r1.wide fun a z => z.1)
    · cases h
instance purRetN : PurS S nm T (.Return none p) (fun _ => some (.rt .none)) true where
  run _ TB k X G := ⟨_, ps_retN, fun A H σ env o D E h q => by cases h; exact q .non H E.grow .non⟩
def ifO (c : Option Bool) (a b : Option Out) : Option Out := match c with | some true => a | some false => b | none => none
variable {fc : Sls → Option Bool} {c : Expr} {cc : Bool}
instance purIfS {th el : List Stmt} [h0 : PurT S nm T c fc cc] [h1 : PurSs S nm T th gs cs] [h2 : PurSs S nm T el gt ct] : PurS S nm T (.If c th el p) (fun env => ifO (fc env) (gs env) (gt env)) (cc && cs && ct) where
  run hc TB k X G := by
    simp only [Bool.and_eq_true] at hc
    obtain ⟨tc, pc, qc⟩ := h0.run hc.1.1 TB k X G
    obtain ⟨t1, p1, q1⟩ := h1.run hc.1.2 TB k X G
    obtain ⟨t2, p2, q2⟩ := h2.run hc.2 TB k X G
    refine ⟨_, ps_if pc p1 p2, fun A H σ env o D E h q => ?_⟩
    unfold ifO at h
    try dsimp only at h
    split at h
    · rename_i e
      refine qc A X.H_0 H σ env true _ E e fun H1 g1 => ?_
      rw [if_pos rfl]
      exact q1 A H1 σ env o D (E.up g1) h (q.pre (.grow g1 fun a z => .inl z))
    · rename_i e
      refine qc A X.H_0 H σ env false _ E e fun H1 g1 => ?_
      rw [if_neg Bool.false_ne_true]
      exact q2 A H1 σ env o D (E.up g1) h (q.pre (.grow g1 fun a z => .inl z))
    · cases h

/-! ### assignments -/
def notComp : Expr → Bool
  | .ListComp .. => false
  | .SetComp .. => false
  | .DictComp .. => false
  | _ => true
theorem swaps_of {e : Expr} (h : notComp e = true) (t : Option Expr) (l : Nat) (env : Env) : swapsWith e t l env = pure false := by
  cases e <;> first | rfl | cases h
def setO (i : Nat) (ms : List Nat) (a : Option PyData) (env : Sls) : Option Out := match a with
  | some d => some (.nx ((settle ms d env).set i (.va d)))
  | none => none
theorem set_read {te : TE} {i : Nat} (qa : ESp X TB ms f te) {A : Addr → Prop} {H : Hp} {σ : L2.St} {env : Sls} {o : Out} {D : Ends} (E : EnvRep X.K TB A X.H_0 H σ env) (h : setO i ms (f env) env = some o) (q : OutOk X TB A env σ H D o) : tAsg te (gName i) D σ H := by
  unfold setO at h
  split at h
  · rename_i d e
    cases h
    refine qa A X.H_0 H σ env d _ E e fun x H1 g1 r1 => ?_
    obtain ⟨E2, r2⟩ := (E.up g1).settle r1
    exact q _ H1 (E2.setVa i r2) (.grow g1 fun a z => .inl (OW_settle (owx_set_va z)))
  · cases h
instance (priority := low) purSet {x : Str} {i : Nat} {p' : Pos} [SlotOf S x i] [h1 : PurE S nm T a ms f ca] : PurS S nm T (.Assign [.Name x p'] a p) (fun env => setO i ms (f env) env) (ca && locC S nm x i && notComp a) where
  run hc TB k X G := by
    simp only [Bool.and_eq_true] at hc
    obtain ⟨ta, ha, qa⟩ := h1.run hc.1.1 TB k X G
    obtain ⟨l1, l2, l3⟩ := G.lo hc.1.2
    exact ⟨_, ps_set (i := i) G.nd l1 l2 ha (swaps_of hc.2 _ _ _) l3, fun A H σ env o D E h q => set_read qa E h q⟩
/-- a list made here becomes one's own -/
def settleL (ms : List Nat) (ds : List PyData) (env : Sls) : Sls := if noLs ds = true then env else freeze ms env
def setF (i : Nat) (ms : List Nat) (a : Option (List PyData)) (env : Sls) : Option Out := match a with
  | some ds => some (.nx ((settleL ms ds env).set i (.ow ds)))
  | none => none
abbrev FSp (X : Cx) (TB : Addr → Prop) (ms : List Nat) (fs : Sls → Option (List PyData)) (t : TE) : Prop := ∀ (A : Addr → Prop) (H0 H : Hp) (σ : L2.St) (env : Sls) (ds : List PyData) (Q : VK), EnvRep X.K TB A H0 H σ env → fs env = some ds →
    (∀ p ys H', Grow H H' → H p = none → H' p = some (.lst ys) → Reps X.K H' (fun a => sel ms A env σ a ∧ a ≠ p) ds ys → Q (.ref p) H') → t σ H Q
theorem setF_read {te : TE} {i : Nat} (qa : FSp X TB ms fs te) {A : Addr → Prop} {H : Hp} {σ : L2.St} {env : Sls} {o : Out} {D : Ends} (E : EnvRep X.K TB A X.H_0 H σ env) (h : setF i ms (fs env) env = some o) (q : OutOk X TB A env σ H D o) : tAsg te (gName i) D σ H := by
  unfold setF at h
  split at h
  · rename_i ds e
    cases h
    refine qa A X.H_0 H σ env ds _ E e fun p ys H1 g1 np hl r1 => ?_
    have key : EnvRep X.K TB A X.H_0 H σ (settleL ms ds env) ∧ Reps X.K H1 (fun a => sel [] A (settleL ms ds env) σ a ∧ a ≠ p) ds ys ∧ ∀ a, OW (settleL ms ds env) σ a → OW env σ a := by
      unfold settleL
      split
      · rename_i hn
        exact ⟨E, r1.flat hn, fun a z => z⟩
      · exact ⟨E.freeze ms, r1.wide fun a z => ⟨sel_freeze.mpr z.1, z.2⟩, fun a z => (OW_freeze.mp z).sub (by simp)⟩
    obtain ⟨E2, r2, how⟩ := key
    exact q _ H1 (E2.setOw i np g1 hl r2) (.grow g1 fun a z => (owx_set_ow z).elim (fun z => .inl (how a z)) fun z => .inr (z ▸ np))
  · cases h
instance purSetF {x : Str} {i : Nat} {p' : Pos} [SlotOf S x i] [h1 : PurF S nm T a ms fs ca] : PurS S nm T (.Assign [.Name x p'] a p) (fun env => setF i ms (fs env) env) (ca && locC S nm x i && notComp a) where
  run hc TB k X G := by
    simp only [Bool.and_eq_true] at hc
    obtain ⟨ta, ha, qa⟩ := h1.run hc.1.1 TB k X G
    obtain ⟨l1, l2, l3⟩ := G.lo hc.1.2
    exact ⟨_, ps_set (i := i) G.nd l1 l2 ha (swaps_of hc.2 _ _ _) l3, fun A H σ env o D E h q => setF_read qa E h q⟩
variable {elt iter : Expr} {ifs : List Expr} {scope : Scope} {mi me tl : List Nat} {fi : Sls → Option (List PyData)} {ft : Sls → Option Bool} {fe : Sls → Option PyData} {ci cg : Bool} {gT : PyData → Sls → Option Sls}
instance (priority := high) purSetLc {x : Str} {i : Nat} {p' lp : Pos} [SlotOf S x i] [h1 : PurI S nm T tg iter mi fi ci] [h2 : PurG S scope.names T tg gT tl cg] [h3 : PurTs S scope.names T ifs ft ct] [h4 : PurE S scope.names T elt me fe ce] :
    PurS S nm T (.Assign [.Name x p'] (.ListComp elt [⟨tg, iter, ifs, 0⟩] scope lp) p) (fun env => setF i (me ++ mi) (lcV (fi env) mi tl gT ft fe env) env) ((ci && cg && ct && ce && blkP S nm scope tl) && locC S nm x i) where
  run hc TB k X G := by
    simp only [Bool.and_eq_true] at hc
    obtain ⟨hc1, hc2⟩ := hc
    obtain ⟨l1, l2, l3⟩ := G.lo hc2
    obtain ⟨wi, hi, hs, qi, bo, eo, hg, ht, he, off⟩ := lc_parts (tg := tg) (iter := iter) (ifs := ifs) (elt := elt) (by simpa only [Bool.and_eq_true] using hc1) G
    have rd : FSp X TB (me ++ mi) (fun env => lcV (fi env) mi tl gT ft fe env) (tLc wi (canG X.K TB gT tl) (canT X.K TB ft) (canE X.K TB me fe) ((ownOf S tl).map (·.2))) := fun A H0 H σ env ds Q E hf q => by
      rw [eo]
      exact lc_read qi canG_sp off canT_sp canE_sp E hf q
    have sw : ∃ bb : Bool, swapsWith (.ListComp elt [⟨tg, iter, ifs, 0⟩] scope lp) (some (.Name x p')) p.line X.env = pure bb ∧ (bb = true → X.env.scope.names.lookup x = some .local) := by
      refine ⟨_, rfl, fun h => ?_⟩
      simp only [Bool.and_eq_true, beq_iff_eq] at h
      exact h.1.1.2
    obtain ⟨bb, sw, hl⟩ := sw
    cases bb with
    | true => exact ⟨_, ps_setLc (i := i) G.calm G.nd l1 (hl rfl) sw hi bo hg ht he (hs _), fun A H σ env o D E h q => setF_read rd E h q⟩
    | false => exact ⟨_, ps_set (i := i) G.nd l1 l2 (pe_lc G.calm G.nd hi bo hg ht he (hs _)) sw l3, fun A H σ env o D E h q => setF_read rd E h q⟩

/-! ### loops -/
def forL (gt : PyData → Sls → Option Sls) (body : Sls → Option Out) : List PyData → Sls → Option Out
  | [], env => some (.nx env)
  | d :: r, env => match gt d env with
    | none => none
    | some env1 => match body env1 with
      | some (.nx e) => forL gt body r e
      | some (.ct e) => forL gt body r e
      | some (.bk e) => some (.nx e)
      | some (.rt v) => some (.rt v)
      | none => none
def forO (items : Option (List PyData)) (mi : List Nat) (gt : PyData → Sls → Option Sls) (body : Sls → Option Out) (env : Sls) : Option Out := match items with
  | some xs => forL gt body xs (freeze mi env)
  | none => none
theorem for_read {wi : TI} {tG : TG} {tb : TS} {body : Sls → Option Out} (qi : ISp X TB mi fi wi) (qg : GSp X TB gT tl tG) (qb : SSp X TB body tb)
    {A : Addr → Prop} {H : Hp} {σ : L2.St} {env : Sls} {o : Out} {D : Ends} (E : EnvRep X.K TB A X.H_0 H σ env) (h : forO (fi env) mi gT body env = some o) (q : OutOk X TB A env σ H D o) : tFor wi tG tb D σ H := by
  unfold forO at h
  split at h
  · rename_i items e0
    refine qi A X.H_0 H σ env items (OWx mi env σ) _ E e0 (fun b z => let ⟨ys, e, _⟩ := E.owl z; ⟨ys, e⟩) (fun a z => z.2) fun J H1 g1 IT => ?_
    have E1 := (E.up g1).freeze mi
    have ev1 : Evo env σ H (freeze mi env) σ H1 := .grow g1 fun a z => .inl ((OW_freeze.mp z).sub (by simp))
    have q1 := q.pre ev1
    generalize he : freeze mi env = env0 at h E1 ev1 q1
    refine ⟨fun i m σi Hi => m = items.length - i ∧ i ≤ items.length ∧ ∃ envi, EnvRep X.K TB A X.H_0 Hi σi envi ∧ Evo env0 σ H1 envi σi Hi ∧ forL gT body (items.drop i) envi = some o,
      ⟨items.length, rfl, Nat.zero_le _, env0, E1, .refl _ _ _, h⟩, ?_⟩
    rintro i m σi Hi ⟨rfl, hi, envi, Ei, evi, hl⟩
    have st : Stay (OWx mi env σ) H1 Hi := ⟨fun b o' n nt e => evi.stay b o' (fun z => n (by rw [← he] at z; exact OW_freeze.mp z)) nt e, evi.fresh, evi.tab⟩
    obtain ⟨it1, it2⟩ := IT i Hi st
    by_cases hlt : i < items.length
    · have ei : items[i]? = some items[i] := List.getElem?_eq_getElem hlt
      obtain ⟨go, yl⟩ := it1 _ ei
      rw [List.drop_eq_getElem_cons hlt, forL] at hl
      refine .inr ⟨go, fun σ' H' => ∃ envi, EnvRep X.K TB A X.H_0 H' σ' envi ∧ Evo env0 σ H1 envi σ' H' ∧ forL gT body (items.drop (i + 1)) envi = some o, fun σ' H' z => ⟨items.length - (i + 1), by omega, rfl, hlt, z⟩, fun x H2 y => ?_⟩
      obtain ⟨g2, rx⟩ := yl x H2 y
      have Ej := Ei.up g2
      have rx2 : Rep X.K H2 (sel [] A envi σi) items[i] x := rx.wide fun a z => ⟨z.1.1, fun w => by
        rcases evi.ow a w with w | w
        · rw [← he] at w
          exact z.1.2 (OW_freeze.mp w)
        · exact z.2 w⟩
      split at hl
      · cases hl
      · rename_i env1 eg
        refine qg A X.H_0 H2 σi envi env1 _ x _ Ej rx2 eg fun σ2 E3 ev3 ag ln => ?_
        have ev2 : Evo env0 σ H1 envi σi H2 := evi.trans (.grow g2 fun a z => .inl z)
        split at hl
        · rename_i e' eb
          exact qb A H2 σ2 env1 _ _ E3 eb fun σ' H' E' ev' => ⟨e', E', (ev2.trans ev3).trans ev', hl⟩
        · rename_i e' eb
          exact qb A H2 σ2 env1 _ _ E3 eb fun σ' H' E' ev' => ⟨e', E', (ev2.trans ev3).trans ev', hl⟩
        · rename_i e' eb
          cases hl
          exact qb A H2 σ2 env1 _ _ E3 eb fun σ' H' E' ev' => q1 σ' H' E' ((ev2.trans ev3).trans ev')
        · rename_i v eb
          cases hl
          exact qb A H2 σ2 env1 _ _ E3 eb fun x' H' g' r' => q1 x' H' g' r'
        · cases hl
    · have ee : i = items.length := by omega
      rw [ee, List.drop_length, forL] at hl
      cases hl
      exact .inl ⟨it2 ee, q1 σi Hi Ei evi⟩
  · cases h
instance purFor {body : List Stmt} [h1 : PurI S nm T tg iter mi fi ci] [h2 : PurG S nm T tg gT tl cg] [h3 : PurSs S nm T body gs cs] : PurS S nm T (.For tg iter body [] p) (fun env => forO (fi env) mi gT gs env) (ci && cg && cs) where
  run hc TB k X G := by
    simp only [Bool.and_eq_true] at hc
    obtain ⟨wi, pi, hs, qi⟩ := h1.run hc.1.1 TB k X G
    obtain ⟨tG, pg, qg⟩ := h2.run hc.1.2 TB k X G
    obtain ⟨tb, pb, qb⟩ := h3.run hc.2 TB k X G
    exact ⟨_, ps_for (by rw [G.xe]; exact PassesOwn.never) G.calm pi pg pb (hs _), fun A H σ env o D E h q => for_read qi qg qb E h q⟩
def whileN (c : Sls → Option Bool) (body : Sls → Option Out) : Nat → Sls → Option Out
  | 0, _ => none
  | n + 1, env => match c env with
    | none => none
    | some false => some (.nx env)
    | some true => match body env with
      | some (.nx e) => whileN c body n e
      | some (.ct e) => whileN c body n e
      | some (.bk e) => some (.nx e)
      | some (.rt v) => some (.rt v)
      | none => none
def FUEL : Nat := 1000000
theorem while_read {tc : TT} {tb : TS} {body : Sls → Option Out} {n : Nat} (qc : TSp X TB fc tc) (qb : SSp X TB body tb)
    {A : Addr → Prop} {H : Hp} {σ : L2.St} {env : Sls} {o : Out} {D : Ends} (E : EnvRep X.K TB A X.H_0 H σ env) (h : whileN fc body n env = some o) (q : OutOk X TB A env σ H D o) : tWhile tc tb D σ H := by
  refine ⟨fun m σi Hi => ∃ envi, EnvRep X.K TB A X.H_0 Hi σi envi ∧ Evo env σ H envi σi Hi ∧ whileN fc body m envi = some o, ⟨n, env, E, .refl _ _ _, h⟩, ?_⟩
  rintro m σi Hi ⟨envi, Ei, evi, hl⟩
  cases m with
  | zero => cases hl
  | succ m =>
    rw [whileN] at hl
    split at hl
    · cases hl
    · rename_i ec
      cases hl
      refine qc A X.H_0 Hi σi envi false _ Ei ec fun H1 g1 => ?_
      rw [if_neg Bool.false_ne_true]
      exact q σi H1 (Ei.up g1) (evi.trans (.grow g1 fun a z => .inl z))
    · rename_i ec
      refine qc A X.H_0 Hi σi envi true _ Ei ec fun H1 g1 => ?_
      rw [if_pos rfl]
      have ev1 : Evo env σ H envi σi H1 := evi.trans (.grow g1 fun a z => .inl z)
      refine ⟨fun σ' H' => ∃ envi, EnvRep X.K TB A X.H_0 H' σ' envi ∧ Evo env σ H envi σ' H' ∧ whileN fc body m envi = some o, fun σ' H' z => ⟨m, Nat.lt_succ_self m, z⟩, ?_⟩
      split at hl
      · rename_i e' eb
        exact qb A H1 σi envi _ _ (Ei.up g1) eb fun σ' H' E' ev' => ⟨e', E', ev1.trans ev', hl⟩
      · rename_i e' eb
        exact qb A H1 σi envi _ _ (Ei.up g1) eb fun σ' H' E' ev' => ⟨e', E', ev1.trans ev', hl⟩
      · rename_i e' eb
        cases hl
        exact qb A H1 σi envi _ _ (Ei.up g1) eb fun σ' H' E' ev' => q σ' H' E' (ev1.trans ev')
      · rename_i v eb
        cases hl
        exact qb A H1 σi envi _ _ (Ei.up g1) eb fun x' H' g' r' => q x' H' g' r'
      · cases hl
instance purWhile {body : List Stmt} [h1 : PurT S nm T c fc cc] [h3 : PurSs S nm T body gs cs] : PurS S nm T (.While c body [] p) (whileN fc gs FUEL) (cc && cs) where
  run hc TB k X G := by
    simp only [Bool.and_eq_true] at hc
    obtain ⟨tc, pc, qc⟩ := h1.run hc.1 TB k X G
    obtain ⟨tb, pb, qb⟩ := h3.run hc.2 TB k X G
    exact ⟨_, ps_while (by rw [G.xe]; exact PassesOwn.never) pc pb, fun A H σ env o D E h q => while_read qc qb E h q⟩
end
end Pu

set_option Elab.async false
set_option linter.all false
set_option autoImplicit false
set_option maxRecDepth 100000
set_option maxHeartbeats 4000000
namespace Pu
open PySem PySem.Spec PyProof.Rows L2 GxR
section
variable {S : List (Str × Nat)} {nm : List (Str × NameKind)} {T : Tab} {TB : Addr → Prop} {k : Nat} {X : Cx}
variable {a b : Expr} {p : Pos} {ms ns : List Nat} {f g : Sls → Option PyData} {ca cb : Bool} {es : List Expr} {fs : Sls → Option (List PyData)} {ce : Bool} {tg : Expr}
variable {gT : PyData → Sls → Option Sls} {tl : List Nat} {cg : Bool}

/-! ### targets of any form -/
def notTup : Expr → Bool
  | .Tuple .. => false
  | .List .. => false
  | _ => true
def gAsg (g : PyData → Sls → Option Sls) (ms : List Nat) (a : Option PyData) (env : Sls) : Option Out := match a with
  | some d => (match g d (settle ms d env) with | some env' => some (.nx env') | none => none)
  | none => none
theorem asg_read {te : TE} {tG : TG} (qa : ESp X TB ms f te) (qg : GSp X TB gT tl tG) {A : Addr → Prop} {H : Hp} {σ : L2.St} {env : Sls} {o : Out} {D : Ends} (E : EnvRep X.K TB A X.H_0 H σ env) (h : gAsg gT ms (f env) env = some o) (q : OutOk X TB A env σ H D o) : tAsg te tG D σ H := by
  unfold gAsg at h
  split at h
  · rename_i d e
    split at h
    · rename_i env' e'
      cases h
      refine qa A X.H_0 H σ env d _ E e fun x H1 g1 r1 => ?_
      obtain ⟨E2, r2⟩ := (E.up g1).settle r1
      exact qg A X.H_0 H1 σ _ env' d x _ E2 r2 e' fun σ' E' ev' _ _ => q σ' H1 E' ((Evo.grow g1 fun a z => .inl (OW_settle z)).trans ev')
    · cases h
  · cases h
/-- a, b = e, where e is no display -/
instance purAsgT {es : List Expr} {j : Nat} {p' : Pos} [h2 : PurG S nm T (.Tuple es j p') gT tl cg] [h1 : PurE S nm T a ms f ca] : PurS S nm T (.Assign [.Tuple es j p'] a p) (fun env => gAsg gT ms (f env) env) (ca && cg && notTup a) where
  run hc TB k X G := by
    simp only [Bool.and_eq_true] at hc
    obtain ⟨ta, ha, qa⟩ := h1.run hc.1.1 TB k X G
    obtain ⟨tG, hg, qg⟩ := h2.run hc.1.2 TB k X G
    have n1 := hc.2
    refine ⟨_, ps_asg ha hg ?_ ?_ rfl, fun A H σ env o D E h q => asg_read qa qg E h q⟩
    · show swapsWith a (some (.Tuple es j p')) p.line X.env = pure false
      cases a <;> first | rfl | cases n1
    · cases a <;> first | rfl | cases n1
abbrev kdOf (nm : List (Str × NameKind)) : Str → Option NameKind := fun z => nm.lookup z
def nameLoc (kd : Str → Option NameKind) (line : Nat) : Expr → Option Str
  | .Name id pos => if kd id == some .local && pos.line == line then some id else none
  | _ => none
def isStar : Expr → Bool
  | .Starred .. => true
  | _ => false
/-- what swappedStores answers in a def; none: it has no answer -/
def swpV (ts vs : List Expr) (kd : Str → Option NameKind) : Option (Option (List Str)) :=
  if !(ts.length == 2 || ts.length == 3) || vs.length != ts.length then some none
  else if vs.any isStar then some none
  else
    let names := ts.filterMap (nameLoc kd ((ts.head?.map (·.pos.line)).getD 0))
    if names.length != ts.length || names.eraseDups.length != names.length then some none
    else if vs.all (foldedForSure 8) then some none
    else if vs.all (constantsAlone 8) then none
    else some (some names)
theorem swpV_ok {ts vs : List Expr} {kt k2 : Nat} {pt pt2 : Pos} {env : Env} {r : Option (List Str)} (hk : env.scope.kind = .function) (h : swpV ts vs env.kindOf = some r) :
    swappedStores [.Tuple ts kt pt] (.Tuple vs k2 pt2) env = pure r := by
  have hbk : env.blockKind = .function := by unfold Env.blockKind; rw [hk]; rfl
  unfold swappedStores
  simp only [hbk]
  change (if (!(ts.length == 2 || ts.length == 3) || vs.length != ts.length || (ScopeKind.function != ScopeKind.function)) = true then pure none
    else if vs.any isStar = true then pure none else
      if ((ts.filterMap (nameLoc env.kindOf ((ts.head?.map (·.pos.line)).getD 0))).length != ts.length || (ts.filterMap (nameLoc env.kindOf ((ts.head?.map (·.pos.line)).getD 0))).eraseDups.length != (ts.filterMap (nameLoc env.kindOf ((ts.head?.map (·.pos.line)).getD 0))).length) = true then pure none
      else if vs.all (foldedForSure 8) = true then pure none
      else if vs.all (constantsAlone 8) = true then unsupported "assign.tuple-of-constant-expressions:order-of-the-stores" >>= fun _ => pure (some (ts.filterMap (nameLoc env.kindOf ((ts.head?.map (·.pos.line)).getD 0))))
      else pure (some (ts.filterMap (nameLoc env.kindOf ((ts.head?.map (·.pos.line)).getD 0))))) = _
  unfold swpV at h
  split at h
  · rename_i c
    cases h
    simp only [Bool.or_eq_true] at c ⊢
    rw [if_pos (.inl c)]
  · rename_i c
    have c' : ¬ ((!(ts.length == 2 || ts.length == 3) || vs.length != ts.length || (ScopeKind.function != ScopeKind.function)) = true) := by simpa using c
    rw [if_neg c']
    split at h
    · rename_i c2
      cases h
      rw [if_pos c2]
    · rename_i c2
      rw [if_neg c2]
      dsimp only at h
      split at h
      · rename_i c3
        cases h
        rw [if_pos c3]
      · rename_i c3
        rw [if_neg c3]
        split at h
        · rename_i c4
          cases h
          rw [if_pos c4]
        · rename_i c4
          rw [if_neg c4]
          split at h
          · cases h
          · rename_i c5
            cases h
            rw [if_neg c5]
variable {x y : Str} {i j : Nat}
instance purAsg2 {px py pt pt2 : Pos} {kt k2 : Nat} [SlotOf S x i] [SlotOf S y j] [h1 : PurA S nm T [a, b] ms fs ce] :
    PurS S nm T (.Assign [.Tuple [.Name x px, .Name y py] kt pt] (.Tuple [a, b] k2 pt2) p) (fun env => gAsg (gTupl 2 (gConss (gNm i) (gConss (gNm j) gNils))) ms (tupV (fs env)) env)
      (ce && locC S nm x i && locC S nm y j && (swpV [.Name x px, .Name y py] [a, b] (kdOf nm)).isSome && decide (i ≠ j)) where
  run hc TB k X G := by
    simp only [Bool.and_eq_true, decide_eq_true_eq] at hc
    obtain ⟨⟨⟨⟨hc1, hc2⟩, hc3⟩, hc4⟩, hc5⟩ := hc
    obtain ⟨ta, ha, la, qa⟩ := h1.run hc1 TB k X G
    obtain ⟨x1, x2, x3⟩ := G.lo hc2
    obtain ⟨y1, y2, y3⟩ := G.lo hc3
    have kx : ∀ (z : Str) (q : Nat), locC S nm z q = true → (X.env.kindOf z == some .local) = (nm.lookup z == some .local) := fun z q h => by
      unfold locC at h
      simp only [Bool.and_eq_true, decide_eq_true_eq] at h
      have h2 := h.2
      split at h2
      · rename_i e
        have z1 : X.env.kindOf z = some .local := G.loc z e
        rw [z1, e]
      · rename_i e
        have z1 : X.env.kindOf z = some .cell := (G.cell z e).1
        rw [z1, e]
      · cases h2
    have en : ∀ line, ([Expr.Name x px, .Name y py] : List Expr).filterMap (nameLoc X.env.kindOf line) = [Expr.Name x px, .Name y py].filterMap (nameLoc (kdOf nm) line) := fun line => by
      simp only [List.filterMap_cons, List.filterMap_nil, nameLoc, kdOf, kx x i hc2, kx y j hc3]
    have es : swpV [.Name x px, .Name y py] [a, b] X.env.kindOf = swpV [.Name x px, .Name y py] [a, b] (kdOf nm) := by
      unfold swpV
      rw [en]
    obtain ⟨r, er⟩ := Option.isSome_iff_exists.mp hc4
    have sw := swpV_ok (kt := kt) (k2 := k2) (pt := pt) (pt2 := pt2) G.kind (es.trans er)
    cases r with
    | none =>
      have HA := (purTup (p := pt2) (j := k2) (h1 := h1)).run hc1 TB k X G
      obtain ⟨ta', ha', qa'⟩ := HA
      have HG := (purGTup (S := S) (nm := nm) (T := T) (p := pt) (j := kt) (es := [.Name x px, .Name y py]) (h1 := purGCons (h1 := purGName) (h2 := purGCons (h1 := purGName) (h2 := purGNil)))).run (by simp [hc2, hc3, notStar]) TB k X G
      obtain ⟨tG, hg, qg⟩ := HG
      exact ⟨_, ps_asg ha' hg rfl sw rfl, fun A H σ env o D E h q => asg_read qa' qg E h q⟩
    | some names =>
      have nm2 : names = [x, y] ∧ (nm.lookup x == some NameKind.local) = true ∧ (nm.lookup y == some NameKind.local) = true := by
        unfold swpV at er
        split at er
        · cases er
        · split at er
          · cases er
          · dsimp only at er
            split at er
            · cases er
            · rename_i c3
              split at er
              · cases er
              · split at er
                · cases er
                · cases er
                  simp only [Bool.or_eq_true, not_or, bne_iff_ne, ne_eq, Decidable.not_not] at c3
                  have c4 := c3.1
                  simp only [List.filterMap_cons, List.filterMap_nil, nameLoc] at c4 ⊢
                  by_cases hx : (nm.lookup x == some NameKind.local && px.line == (Option.map (fun x => x.pos.line) [Expr.Name x px, Expr.Name y py].head?).getD 0) = true
                  · by_cases hy : (nm.lookup y == some NameKind.local && py.line == (Option.map (fun x => x.pos.line) [Expr.Name x px, Expr.Name y py].head?).getD 0) = true
                    · rw [if_pos hx, if_pos hy]
                      simp only [Bool.and_eq_true] at hx hy
                      exact ⟨rfl, hx.1, hy.1⟩
                    · rw [if_pos hx, if_neg hy] at c4
                      simp at c4
                  · by_cases hy : (nm.lookup y == some NameKind.local && py.line == (Option.map (fun x => x.pos.line) [Expr.Name x px, Expr.Name y py].head?).getD 0) = true
                    · rw [if_neg hx, if_pos hy] at c4
                      simp at c4
                    · rw [if_neg hx, if_neg hy] at c4
                      simp at c4
      obtain ⟨rfl, kx2, ky2⟩ := nm2
      refine ⟨_, ps_par (i := i) (j := j) G.calm G.nd x1 y1 hc5 (G.loc x (by simpa using kx2)) (G.loc y (by simpa using ky2)) ha sw, fun A H σ env o D E h q => ?_⟩
      unfold gAsg at h
      try dsimp only at h
      split at h
      · rename_i d e
        unfold tupV at e
        try dsimp only at e
        split at e
        · rename_i ds eds
          split at e
          · cases e
            split at h
            · rename_i env' e'
              cases h
              have ld := la _ _ eds
              match ds, ld with
              | [d1, d2], _ =>
                refine qa A X.H_0 H σ env _ _ E eds fun vs H1 g1 r1 => ?_
                cases r1 with
                | cons r1 r2 => cases r2 with
                  | cons r2 r3 =>
                    cases r3
                    rename_i v1 v2
                    refine ⟨v1, v2, rfl, ?_⟩
                    simp only [gTupl, gConss, gNm, gNils, List.length_cons, List.length_nil, Nat.reduceAdd, if_pos, Option.some.injEq] at e'
                    subst e'
                    have key : EnvRep X.K TB A X.H_0 H1 σ (settle ms (.tuple [d1, d2]) env) ∧ Rep X.K H1 (sel [] A (settle ms (.tuple [d1, d2]) env) σ) d1 v1 ∧ Rep X.K H1 (sel [] A (settle ms (.tuple [d1, d2]) env) σ) d2 v2 := by
                      unfold settle
                      split
                      · rename_i hn
                        simp only [noL, noLs, Bool.and_eq_true, Bool.and_true] at hn
                        exact ⟨E.up g1, r1.flat hn.1, r2.flat hn.2⟩
                      · exact ⟨(E.up g1).freeze ms, r1.wide fun a z => sel_freeze.mpr z, r2.wide fun a z => sel_freeze.mpr z⟩
                    obtain ⟨E2, s1, s2⟩ := key
                    have E3 := E2.setVa i s1
                    have s3 := s2.wide (A' := sel [] A ((settle ms (.tuple [d1, d2]) env).set i (.va d1)) (σ.set i (some v1))) fun a z => ⟨z.1, fun w => z.2 (owx_set_va w)⟩
                    exact q _ H1 (E3.setVa j s3) (.grow g1 fun a z => .inl (OW_settle (owx_set_va (owx_set_va z))))
            · cases h
          · cases e
        · cases e
      · cases h
/-- displays of another number -/
instance (priority := low) purAsgN {ts vs : List Expr} {pt pt2 : Pos} {kt k2 : Nat} [h2 : PurG S nm T (.Tuple ts kt pt) gT tl cg] [h1 : PurA S nm T vs ms fs ce] :
    PurS S nm T (.Assign [.Tuple ts kt pt] (.Tuple vs k2 pt2) p) (fun env => gAsg gT ms (tupV (fs env)) env) (ce && cg && !(ts.length == 2 || ts.length == 3)) where
  run hc TB k X G := by
    simp only [Bool.and_eq_true] at hc
    obtain ⟨ta', ha', qa'⟩ := (purTup (p := pt2) (j := k2) (h1 := h1)).run hc.1.1 TB k X G
    obtain ⟨tG, hg, qg⟩ := h2.run hc.1.2 TB k X G
    have sw : swpV ts vs X.env.kindOf = some none := by
      unfold swpV
      rw [if_pos (by rw [hc.2]; rfl)]
    exact ⟨_, ps_asg ha' hg rfl (swpV_ok G.kind sw) rfl, fun A H σ env o D E h q => asg_read qa' qg E h q⟩
end
end Pu

set_option Elab.async false
set_option linter.all false
set_option autoImplicit false
set_option maxRecDepth 100000
set_option maxHeartbeats 4000000
namespace Pu
open PySem PySem.Spec PyProof.Rows L2 GxR
section
variable {S : List (Str × Nat)} {nm : List (Str × NameKind)} {T : Tab} {TB : Addr → Prop} {k : Nat} {X : Cx}
variable {a b : Expr} {p : Pos} {ms ns : List Nat} {f g : Sls → Option PyData} {ca cb : Bool} {es : List Expr} {fs : Sls → Option (List PyData)} {ce : Bool} {tg : Expr}
variable {x : Str} {i : Nat}

/-! ### a list of one's own changed -/
def appO (i : Nat) (ms : List Nat) (a : Option PyData) (env : Sls) : Option Out := match a with
  | some d => (match (settle ms d env)[i]? with
    | some (.ow ds) => if ds.length < LIM then some (.nx ((settle ms d env).set i (.ow (ds ++ [d])))) else none
    | _ => none)
  | none => none
theorem settle_ow {ms : List Nat} {d : PyData} {env : Sls} {i : Nat} {ds : List PyData} (h : (settle ms d env)[i]? = some (.ow ds)) : env[i]? = some (.ow ds) := by
  unfold settle at h
  split at h
  · exact h
  · exact (freeze_ow.mp h).1
theorem few1 {e : Expr} {env : Env} {cpos : Pos} (h : notStar e = true) : ((backTo cpos (starEach [e] env)).all (fun x => !x.1) && (backToKw cpos (keywordEach [] env)).all (fun x => x.1.isSome)
      && decide (([e] : List Expr).length + ([] : List Keyword).length + (if ([] : List Keyword).isEmpty then 0 else 1) < 30)) = true := by
  rw [star_of h]; rfl
theorem evo_settle {X : Cx} {A : Addr → Prop} {H H1 : Hp} {σ : L2.St} {env : Sls} {ms : List Nat} {d : PyData} (g : Grow H H1) : Evo env σ H (settle ms d env) σ H1 := .grow g fun a z => .inl (OW_settle z)
instance purAppend {px apos cpos : Pos} [SlotOf S x i] [h1 : PurE S nm T a ms f ca] : PurS S nm T (.Expr (.Call (.Attribute (.Name x px) "append" apos) [a] [] cpos) p) (fun env => appO i ms (f env) env)
    (ca && nameC S nm x i && notStar a && (apos.endLine == cpos.line)) where
  run hc TB k X G := by
    simp only [Bool.and_eq_true] at hc
    obtain ⟨⟨⟨hc1, hc2⟩, hc3⟩, hc4⟩ := hc
    obtain ⟨ta, ha, qa⟩ := h1.run hc1 TB k X G
    unfold nameC at hc2
    simp only [Bool.and_eq_true, decide_eq_true_eq, Bool.not_eq_true'] at hc2
    obtain ⟨⟨⟨n1, n2⟩, n3⟩, n4⟩ := hc2
    have px' : PE X (.Name x px) (tVar i) := pe_var (i := i) (by rw [G.N]; exact n1) (G.vis n2) n3 n4
    refine ⟨_, ps_expr (pe_bm PySem.F.plainAttrs_list PySem.F.slot_list_append PySem.F.type_list_append mt_append px' (pa_cons ha pa_nil (star_of hc3)) rfl (few1 hc3) hc4 (star_of hc3) rfl) rfl, fun A H σ env o D E h q => ?_⟩
    unfold appO at h
    try dsimp only at h
    split at h
    · rename_i d e
      split at h
      · rename_i ds eo
        split at h
        · rename_i hl
          cases h
          obtain ⟨a0, ys0, s1, s2, _⟩ := E.ow i ds (settle_ow eo)
          refine ⟨.ref a0, s1, .inl ⟨rfl, _, .inl (.inl s2)⟩, ?_⟩
          refine qa A X.H_0 H σ env d _ E e fun y H1 g1 r1 => ?_
          obtain ⟨E2, r2⟩ := (E.up g1).settle r1
          obtain ⟨a1, ys, t1, t2, _, _, t5⟩ := E2.ow i ds eo
          rw [s1] at t1; cases t1
          have W := E2.write eo s1 t2 (t5.append (.cons r2 .nil))
          exact ⟨a0, ys, y, rfl, rfl, t2, by rw [← lim_line, ← t5.length]; exact hl, q _ _ W.1 ((evo_settle (X := X) (A := A) g1).trans W.2)⟩
        · cases h
      · cases h
    · cases h
/-- x[i] = e, of a list or a dict -/
noncomputable def setK (k d : PyData) : Sl → Option Sl
  | .ow ds => (match k with
    | .int j => (match ixN ds.length j with | some n => some (.ow (ds.set n d)) | none => none)
    | _ => none)
  | .od kvs => if okK kvs k = true ∧ kvs.length < LIM then some (.od (putD kvs k d)) else none
  | _ => none
noncomputable def setI (i : Nat) (ms : List Nat) (a b : Option PyData) (env : Sls) : Option Out := match a with
  | some d => (match b with
    | some k => (match (settle ms d env)[i]? with
      | some s => (match setK k d s with
        | some s' => some (.nx ((settle ms d env).set i s'))
        | none => none)
      | none => none)
    | none => none)
  | none => none
theorem settle_own {ms : List Nat} {d : PyData} {env : Sls} {i : Nat} {s : Sl} (hs : s.own = true) (h : (settle ms d env)[i]? = some s) : env[i]? = some s := by
  unfold settle at h
  split at h
  · exact h
  · exact ((freeze_ownI hs).mp h).1
def rSetD (K : PySem.W.Frag) : V → V → V → Hp → (Hp → Prop) → Prop := fun o i v H Q => ∃ (a : Addr) (kvs : List (PyData × PyData)) (vs : List V) (A A' : Addr → Prop) (k d : PyData), o = .ref a ∧ DcAt H a (kvs.map (·.1)) vs ∧ Reps K H A (kvs.map (·.2)) vs ∧
  (okK kvs k = true ∧ kvs.length < LIM) ∧ Rep K H A' k i ∧ Rep K H A d v ∧ ∀ o' vs', DcAt (upd H a o') a ((putD kvs k d).map (·.1)) vs' → Reps K H A ((putD kvs k d).map (·.2)) vs' → Q (upd H a o')
theorem set_dict (hu : X.A.units + 1 < cLine) : PSet X (rSetD X.K) := by
  intro pins s σ H o i v ov iv u Q I ro ri rv h
  obtain ⟨a, kvs, vs, A, A', k, d, rfl, h1, h2, ⟨h3, h4⟩, h5, h6, q⟩ := h
  cases ro
  exact dc_put hu I h1 h2 h3 h4 h5 ri h6 rv fun o' vs' s' I' c1 c2 => ⟨_, I', q o' vs' c1 c2⟩
theorem pset_or {t t' : TSet} (h : PSet X t) (h' : PSet X t') : PSet X (fun o i v H Q => t o i v H Q ∨ t' o i v H Q) := by
  intro pins s σ H o i v ov iv u Q I ro ri rv q
  rcases q with q | q
  · exact h pins s σ H o i v ov iv u Q I ro ri rv q
  · exact h' pins s σ H o i v ov iv u Q I ro ri rv q
theorem assign_sub {o e : Expr} {tp : Pos} {env : Env} (h : notSlice e = true) (v : Value) : assign (.Subscript o e tp) env v = (do
      let ov ← holding [v] (eval o env)
      let iv ← holding [v, ov] (eval e env)
      standAt tp
      holding [v, ov, iv] (setItem ov iv v)
      release [v, ov, iv] []) := by
  cases e <;> first | rfl | cases h
theorem swapped_sub {o e a : Expr} {tp : Pos} {env : Env} : swappedStores [.Subscript o e tp] a env = pure none := by
  cases a <;> rfl
instance purSetI {px tp : Pos} [SlotOf S x i] [h1 : PurE S nm T a ms f ca] [h2 : PurE S nm T b ns g cb] : PurS S nm T (.Assign [.Subscript (.Name x px) b tp] a p) (fun env => setI i ms (f env) (g env) env)
    (ca && cb && nameC S nm x i && notSlice b && notComp a) where
  run hc TB k X G := by
    simp only [Bool.and_eq_true] at hc
    obtain ⟨⟨⟨⟨hc1, hc2⟩, hc3⟩, hc4⟩, hc5⟩ := hc
    obtain ⟨ta, ha, qa⟩ := h1.run hc1 TB k X G
    obtain ⟨tb, hb, qb⟩ := h2.run hc2 TB k X G
    unfold nameC at hc3
    simp only [Bool.and_eq_true, decide_eq_true_eq, Bool.not_eq_true'] at hc3
    obtain ⟨⟨⟨n1, n2⟩, n3⟩, n4⟩ := hc3
    have px' : PE X (.Name x px) (tVar i) := pe_var (i := i) (by rw [G.N]; exact n1) (G.vis n2) n3 n4
    refine ⟨_, ps_asg ha (pg_sub px' hb (pset_or set_list (set_dict (room_dep G.room (n := 1) (by decide)))) (assign_sub hc4)) (show swapsWith a (some (.Subscript (.Name x px) b tp)) p.line X.env = pure false from swaps_of hc5 _ _ _) swapped_sub rfl, fun A H σ env o D E h q => ?_⟩
    unfold setI at h
    try dsimp only at h
    split at h
    · rename_i d e
      split at h
      · rename_i k ek
        split at h
        · rename_i sl eo
          split at h
          · rename_i sl' es
            cases h
            unfold setK at es
            split at es
            · rename_i ds
              split at es
              · rename_i j
                split at es
                · rename_i n en
                  cases es
                  obtain ⟨a0, ys0, s1, s2, _⟩ := E.ow i ds (settle_own rfl eo)
                  refine qa A X.H_0 H σ env d _ E e fun y H1 g1 r1 => ?_
                  refine ⟨.ref a0, s1, ?_⟩
                  refine qb A X.H_0 H1 σ env _ _ (E.up g1) ek fun z H2 g2 r3 => ?_
                  cases r3
                  obtain ⟨E2, r2⟩ := ((E.up g1).up g2).settle (r1.up g2)
                  obtain ⟨a1, ys, t1, t2, _, _, t5⟩ := E2.ow i ds eo
                  rw [s1] at t1; cases t1
                  have W := E2.write eo s1 t2 (t5.set n r2)
                  exact .inl ⟨a0, ys, j, n, rfl, rfl, t2, by rw [← t5.length]; exact en, q _ _ W.1 ((evo_settle (X := X) (A := A) (g1.trans g2)).trans W.2)⟩
                · cases es
              · cases es
            · rename_i kvs
              split at es
              · rename_i hk
                cases es
                obtain ⟨a0, ys0, s1, s2, _⟩ := E.od i kvs (settle_own rfl eo)
                refine qa A X.H_0 H σ env d _ E e fun y H1 g1 r1 => ?_
                refine ⟨.ref a0, s1, ?_⟩
                refine qb A X.H_0 H1 σ env _ _ (E.up g1) ek fun z H2 g2 r3 => ?_
                obtain ⟨E2, r2⟩ := ((E.up g1).up g2).settle (r1.up g2)
                obtain ⟨a1, ys, t1, t2, _, _, t5⟩ := E2.od i kvs eo
                rw [s1] at t1; cases t1
                refine .inr ⟨a0, kvs, ys, _, _, k, d, rfl, t2, t5, hk, r3, r2, fun o' vs' c1 c2 => ?_⟩
                obtain ⟨ob, hob, iob⟩ := t2.is
                have W := E2.writes (o := o') (s' := .od (putD kvs k d)) eo rfl rfl s1 ⟨vs', c1, (rep_write hob iob (fun z => z.2 ⟨i, _, ⟨eo, rfl⟩, by simp, s1⟩)).2 c2⟩
                exact q _ _ W.1 ((evo_settle (X := X) (A := A) (g1.trans g2)).trans W.2)
              · cases es
            · cases es
          · cases h
        · cases h
      · cases h
    · cases h
/-! ### x op= e, x a name -/
class AugP (op : Operator) (F : outParam (PyData → PyData → Option PyData)) : Prop where
  rule : ∀ (X : Cx), PIp X op (rOp X.K F)
def iaddP : PyData → PyData → Option PyData
  | .int a, .int b => some (.int (a + b))
  | .str a, .str b => if a.length + b.length ≤ LIM then some (.str (a ++ b)) else none
  | _, _ => none
theorem ip_addP : PIp X .Add (rOp X.K iaddP) := by
  intro pins s σ H x y v u Q I rx ry h
  obtain ⟨A, d, e, res, hA, rd, re, hf, q⟩ := h
  cases rd with
  | int a => cases re with
    | int b => cases hf; exact iop_add pins s σ H _ _ _ _ Q I rx ry ⟨_, _, rfl, rfl, q _ _ (.refl H) (.int _)⟩
    | _ => cases hf
  | str a => cases re with
    | str b =>
      change (if a.length + b.length ≤ LIM then some (PyData.str (a ++ b)) else none) = some res at hf
      split at hf
      · cases hf
        exact iop_add_str pins s σ H _ _ _ _ Q I rx ry ⟨_, _, rfl, rfl, by rw [← lim_line]; assumption, q _ _ (.refl H) (.str _)⟩
      · cases hf
    | _ => cases hf
  | _ => cases hf
theorem ip_subP : PIp X .Sub (rOp X.K subP) := by
  intro pins s σ H x y v u Q I rx ry h
  obtain ⟨A, d, e, res, hA, rd, re, hf, q⟩ := h
  cases rd with
  | int a => cases re with
    | int b => cases hf; exact iop_sub pins s σ H _ _ _ _ Q I rx ry ⟨_, _, rfl, rfl, q _ _ (.refl H) (.int _)⟩
    | _ => cases hf
  | _ => cases hf
theorem ip_mulI : PIp X .Mult (rOp X.K mulI) := by
  intro pins s σ H x y v u Q I rx ry h
  obtain ⟨A, d, e, res, hA, rd, re, hf, q⟩ := h
  cases rd with
  | int a => cases re with
    | int b =>
      change (if MulC a b then some (PyData.int (a * b)) else none) = some res at hf
      split at hf
      · cases hf; exact iop_mul pins s σ H _ _ _ _ Q I rx ry ⟨_, _, rfl, rfl, by assumption, q _ _ (.refl H) (.int _)⟩
      · cases hf
    | _ => cases hf
  | _ => cases hf
instance : AugP .Add iaddP := ⟨fun _ => ip_addP⟩
instance : AugP .Sub subP := ⟨fun _ => ip_subP⟩
instance : AugP .Mult mulI := ⟨fun _ => ip_mulI⟩
def augO (F : PyData → PyData → Option PyData) (i : Nat) (ms : List Nat) (a : Option PyData) (env : Sls) : Option Out := match env[i]? with
  | some (.va d) => (match a with
    | some e => (match F d e with
      | some r => some (.nx ((settle ms r env).set i (.va r)))
      | none => none)
    | none => none)
  | _ => none
instance purAug {op : Operator} {F : PyData → PyData → Option PyData} {px : Pos} [SlotOf S x i] [hA : AugP op F] [h1 : PurE S nm T a ms f ca] : PurS S nm T (.AugAssign (.Name x px) op a p) (fun env => augO F i ms (f env) env) (ca && locC S nm x i) where
  run hc TB k X G := by
    simp only [Bool.and_eq_true] at hc
    obtain ⟨ta, ha, qa⟩ := h1.run hc.1 TB k X G
    obtain ⟨l1, l2, l3⟩ := G.lo hc.2
    refine ⟨_, ps_aug (i := i) G.nd l1 l2 ha (hA.rule X) l3, fun A H σ env o D E h q => ?_⟩
    unfold augO at h
    try dsimp only at h
    split at h
    · rename_i d ed
      split at h
      · rename_i e ee
        split at h
        · rename_i r er
          cases h
          obtain ⟨v, v1, v2⟩ := E.va i d ed
          refine ⟨v, v1, ?_⟩
          refine qa A X.H_0 H σ env e _ E ee fun y H1 g1 r1 => ?_
          refine ⟨sel ms A env σ, d, e, r, (E.up g1).selfree _, (v2.up g1).wide fun a z => z.sub (by simp), r1, er, fun z H2 g2 r2 => ?_⟩
          obtain ⟨E2, r3⟩ := (E.up (g1.trans g2)).settle r2
          exact q _ H2 (E2.setVa i r3) (.grow (g1.trans g2) fun a z => .inl (OW_settle (owx_set_va z)))
        · cases h
      · cases h
    · cases h
end

/-! ### a def -/
def startE (n : Nat) (ds : List PyData) : Sls := ds.map .va ++ List.replicate (n - ds.length) .un
def outV : Option Out → Option PyData
  | some (.rt d) => some d
  | some (.nx _) => some .none
  | _ => none
theorem start_rep {K : PySem.W.Frag} {TB A : Addr → Prop} {H : Hp} {N : List Str} {ds : List PyData} {vs : List V} (hA : ∀ a, H a = none → A a) (hT : ∀ b, TB b → TabG H b) (r : Reps K H A ds vs) (hl : ds.length ≤ N.length) : EnvRep K TB A H H (L2.start N vs) (startE N.length ds) := by
  have lv := r.length
  have noow : ∀ (i : Nat) (es : Sl), (startE N.length ds)[i]? = some es → es.own = true → False := fun i es h hs => by
    unfold startE at h
    rw [List.getElem?_append] at h
    split at h
    · rw [List.getElem?_map] at h
      cases e : ds[i]? with
      | none => rw [e] at h; cases h
      | some d => rw [e] at h; cases h; cases hs
    · rw [List.getElem?_replicate] at h
      split at h <;> cases h
      cases hs
  refine ⟨by unfold L2.start startE; simp; omega, fun i d h => ?_, fun i es h hs => (noow i es h hs).elim, fun i j es fs a h hs => (noow i es h hs).elim, .refl H, hA, hT⟩
  unfold startE at h
  rw [List.getElem?_append] at h
  split at h
  · rw [List.getElem?_map] at h
    cases e : ds[i]? with
    | none => rw [e] at h; cases h
    | some d' =>
      rw [e] at h
      cases h
      obtain ⟨v, e1, r1⟩ := r.get e
      refine ⟨v, ?_, r1.wide fun a z => ⟨z, fun ⟨j, es, ej, _⟩ => noow j es ej.1 ej.2⟩⟩
      unfold L2.start
      rw [List.getElem?_append_left (by simp; have := (List.getElem?_eq_some_iff.mp e1).1; omega), List.getElem?_map, e1]
      rfl
  · rw [List.getElem?_replicate] at h
    split at h <;> cases h
/-- the module's facts that every def of the text uses -/
structure World (P : Program) (w : PySem.World) (K : PySem.W.Frag) (mg : Str → Option Value) (base : Heap) (TB : Addr → Prop) (T : Tab) (k : Nat) : Prop where
  blt : ∀ x ∈ T.bl, mg x = none
  mat : ∀ p ∈ T.ma, mg p.1 = some (maV p.2)
  has : ∀ q ∈ T.fs, ∃ (f : Addr) (fd : FuncData) (ps : List Str), FnOk P w K mg base CX0 k f fd ps (spF K TB q.2.1 q.2.2) ∧ mg q.1 = some (.ref f) ∧ PySem.W.keepIn K (.ref f) = true ∧ Binds K fd ps []
def defC (S : List (Str × Nat)) (ps : List Str) (sc : Scope) : Bool :=
  decide (sc.kind = .function) && !sc.isCoroutine && !sc.isGenerator && decide ((S.map (·.1)).Nodup) && decide ((S.map (·.1)).take ps.length = ps) &&
    ps.all (fun x => (match sc.names.lookup x with | some .local => true | some .cell => true | _ => false)) && sc.names.all (fun y => match y.2 with | .free => false | _ => true) && decide (ps.length ≤ S.length)
theorem fnScope_of {S : List (Str × Nat)} {ps : List Str} {sc : Scope} (h : defC S ps sc = true) : FnScope (S.map (·.1)) ps sc ∧ ps.length ≤ S.length := by
  unfold defC at h
  simp only [Bool.and_eq_true, decide_eq_true_eq, Bool.not_eq_true', List.all_eq_true] at h
  obtain ⟨⟨⟨⟨⟨⟨⟨h1, h2⟩, h3⟩, h4⟩, h5⟩, h6⟩, h7⟩, h8⟩ := h
  refine ⟨⟨h1, h2, h3, h4, h5, fun x hx => ?_, fun y hy e => ?_⟩, h8⟩
  · have := h6 x hx
    split at this
    · exact .inl (by assumption)
    · exact .inr (by assumption)
    · cases this
  · have := h7 y hy
    rw [e] at this
    cases this
/-- THE RULE: a def of the text, by its body's meaning -/
theorem fn_ok {P : Program} {w : PySem.World} {K : PySem.W.Frag} {mg : Str → Option Value} {base : Heap} {TB : Addr → Prop} {T : Tab} {k : Nat} {x qual : Str} {st : Stmt} {f : Addr} {fd : FuncData}
    (Wd : World P w K mg base TB T k) (Fu : Fun K x qual st f fd) (S : List (Str × Nat)) (ps : List Str) (F : Fn) {s0 : Stmt} {rest : List Stmt} {g : Sls → Option Out} {c : Bool}
    (hb : defBody st = s0 :: rest) (hS : PurSs S (defScope st).names T (s0 :: rest) g c) (hc : c = true) (hd : defC S ps (defScope st) = true) (hge : T.ge = false)
    (hF : ∀ ds d, ds.length = ps.length → F ds = some d → outV (g (startE S.length ds)) = some d) : FnOk P w K mg base CX0 (k + 1) f fd ps (spF K TB ps.length F) := by
  obtain ⟨sc, hlen⟩ := fnScope_of hd
  refine Fu.ok sc (fun vs H Q E h => ?_) (fun cdv A outer s H vs Q E hr h => ?_)
  · obtain ⟨A, ds, d, _, _, r, hl, _⟩ := h
    rw [← r.length, hl]
  · obtain ⟨A', ds, d, hA, hT, r, hl, hf, q⟩ := h
    have G : Good S (defScope st).names T TB k (cxOf CX0 P w K mg base (S.map (·.1)) qual (defScope st) f cdv A outer s H E).nox :=
      { N := rfl, nd := sc.nd, calm := rfl, xe := rfl, kind := sc.kind, loc := fun _ h => h, cell := fun _ h => ⟨h, rfl⟩, fre := fun _ h => .inr h, glo := fun _ h => h,
        blt := Wd.blt, mat := Wd.mat, has := Wd.has, room := hr, gen := fun z => by rw [hge] at z; cases z }
    obtain ⟨t, ht, sp⟩ := hS.run hc TB k _ G
    rw [hb]
    refine ⟨t, ht, ?_⟩
    have E0 := start_rep (N := S.map (·.1)) hA hT r (by rw [List.length_map, hl]; exact hlen)
    rw [List.length_map] at E0
    have ho := hF ds d hl hf
    cases e : g (startE S.length ds) with
    | none => rw [e] at ho; cases ho
    | some o =>
      rw [e] at ho
      refine sp A' H _ _ o _ E0 e ?_
      cases o with
      | nx env => cases ho; exact fun σ' H' E' ev => q .non H' E'.grow .non
      | rt v => cases ho; exact fun x H' g' r' => q x H' g' r'
      | bk env => cases ho
      | ct env => cases ho
end Pu

set_option Elab.async false
set_option linter.all false
set_option autoImplicit false
set_option maxRecDepth 100000
set_option maxHeartbeats 4000000
namespace Pu
open PySem PySem.Spec PyProof.Rows L2 GxR
section
variable {S : List (Str × Nat)} {nm : List (Str × NameKind)} {T : Tab} {TB : Addr → Prop} {k : Nat} {X : Cx}
variable {a b : Expr} {p : Pos} {ms ns : List Nat} {f g : Sls → Option PyData} {ca cb : Bool} {es : List Expr} {fs : Sls → Option (List PyData)} {ce : Bool} {tg : Expr}

/-! ### isinstance -/
def tyNm : PyData → String
  | .none => "NoneType"
  | .bool _ => "bool"
  | .int _ => "int"
  | .str _ => "str"
  | .list _ => "list"
  | .tuple _ => "tuple"
  | .dict _ => "dict"
theorem Rep.ty {K : PySem.W.Frag} {H : Hp} {A : Addr → Prop} {d : PyData} {x : V} (r : Rep K H A d x) : TyX K H x (.type (tyNm d)) := by
  cases r with
  | non => exact .base .non
  | bl b => exact .base (.bl b)
  | int i => exact .base (.int i)
  | str x => exact .base (.str x)
  | tup h r => exact .base (.tup h)
  | lst h r =>
    rcases h.sql with (h | ⟨o, h⟩) | ⟨o, its, n, h, h2, _⟩
    · exact .base (.lst h)
    · exact .base (.frz h)
    · exact .kList h h2
  | dct h1 h2 h3 =>
    rcases h2 with ⟨_, e, _⟩ | ⟨_, e, _⟩
    · exact .base (.dK e)
    · exact .base (.dT e)
/-- is data of the kind of n an instance of the type m -/
def isaN (n m : String) : Bool := n == m || (n == "bool" && m == "int")
class TyP (g : Str) (m : outParam String) : Prop where
  boot : bootBuiltins g = some (.type m)
  kit : ∀ d : PyData, kitB (tyNm d) m = some (isaN (tyNm d) m)
  dbg : g ≠ "__name__" ∧ (g == ("__debug__" : Str)) = false
theorem kit_all {m : String} (h0 : kitB "NoneType" m = some (isaN "NoneType" m)) (h1 : kitB "bool" m = some (isaN "bool" m)) (h2 : kitB "int" m = some (isaN "int" m)) (h3 : kitB "str" m = some (isaN "str" m))
    (h4 : kitB "list" m = some (isaN "list" m)) (h5 : kitB "tuple" m = some (isaN "tuple" m)) (h6 : kitB "dict" m = some (isaN "dict" m)) (d : PyData) : kitB (tyNm d) m = some (isaN (tyNm d) m) := by
  cases d <;> assumption
instance : TyP "int" "int" := ⟨by decide +kernel, kit_all (by decide +kernel) (by decide +kernel) (by decide +kernel) (by decide +kernel) (by decide +kernel) (by decide +kernel) (by decide +kernel), by decide⟩
instance : TyP "bool" "bool" := ⟨by decide +kernel, kit_all (by decide +kernel) (by decide +kernel) (by decide +kernel) (by decide +kernel) (by decide +kernel) (by decide +kernel) (by decide +kernel), by decide⟩
instance : TyP "str" "str" := ⟨by decide +kernel, kit_all (by decide +kernel) (by decide +kernel) (by decide +kernel) (by decide +kernel) (by decide +kernel) (by decide +kernel) (by decide +kernel), by decide⟩
instance : TyP "tuple" "tuple" := ⟨by decide +kernel, kit_all (by decide +kernel) (by decide +kernel) (by decide +kernel) (by decide +kernel) (by decide +kernel) (by decide +kernel) (by decide +kernel), by decide⟩
instance : TyP "list" "list" := ⟨by decide +kernel, kit_all (by decide +kernel) (by decide +kernel) (by decide +kernel) (by decide +kernel) (by decide +kernel) (by decide +kernel) (by decide +kernel), by decide⟩
def isaV (m : String) (a : Option PyData) : Option PyData := match a with | some d => some (.bool (isaN (tyNm d) m)) | none => none
theorem boot_isi : bootBuiltins "isinstance" = some (.builtin "isinstance") := by decide +kernel
instance (priority := high) purIsi {t : Str} {m : String} {pn pt : Pos} [hT : TyP t m] [h1 : PurE S nm T a ms f ca] : PurE S nm T (.Call (.Name "isinstance" pn) [a, .Name t pt] [] p) [] (fun env => isaV m (f env))
    (ca && bltC nm T "isinstance" && bltC nm T t && notStar a) where
  run hc TB k X G := by
    simp only [Bool.and_eq_true] at hc
    obtain ⟨⟨⟨hc1, hc2⟩, hc3⟩, hc4⟩ := hc
    obtain ⟨ta, ha, qa⟩ := h1.run hc1 TB k X G
    obtain ⟨g1, g2⟩ := G.bl hc2
    obtain ⟨g3, g4⟩ := G.bl hc3
    have hty : PE X (.Name t pt) (tC (.ty m)) := pe_bltn g3 g4 hT.boot rfl hT.dbg.1 hT.dbg.2
    refine ⟨_, pe_callB call_isi g1 g2 boot_isi (pa_cons ha (pa_cons hty pa_nil rfl) (star_of hc4)) (by decide) (by decide) (star_of hc4) rfl, fun A H0 H σ env d Q E hf q => ?_⟩
    unfold isaV at hf
    try dsimp only at hf
    split at hf
    · rename_i e ee
      cases hf
      refine qa A H0 H σ env e _ E ee fun x H1 g1 r1 => ?_
      exact ⟨x, .ty m, _, _, _, rfl, .ty m, r1.ty, kit_ty (hT.kit e), q _ _ g1 (.bl _)⟩
    · cases hf

/-! ### all, any, tuple, list, sum -/
def asBools : List PyData → Option (List Bool)
  | [] => some []
  | .bool b :: r => (match asBools r with | some bs => some (b :: bs) | none => none)
  | _ :: _ => none
theorem asBools_eq : ∀ {xs : List PyData} {bs : List Bool}, asBools xs = some bs → xs = bs.map .bool
  | [], bs, h => by cases h; rfl
  | x :: r, bs, h => by
    unfold asBools at h
    split at h
    · cases h; rename_i e; cases e
    · rename_i b r' e
      cases e
      split at h
      · rename_i cs ec
        cases h
        rw [asBools_eq ec]; rfl
      · cases h
    · cases h
theorem asBools_map (bs : List Bool) : asBools (bs.map .bool) = some bs := by
  induction bs with
  | nil => rfl
  | cons b r ih => rw [List.map_cons, asBools, ih]
def asInts : List PyData → Option (List Int)
  | [] => some []
  | .int b :: r => (match asInts r with | some bs => some (b :: bs) | none => none)
  | _ :: _ => none
theorem asInts_eq : ∀ {xs : List PyData} {bs : List Int}, asInts xs = some bs → xs = bs.map .int
  | [], bs, h => by cases h; rfl
  | x :: r, bs, h => by
    unfold asInts at h
    split at h
    · cases h; rename_i e; cases e
    · rename_i b r' e
      cases e
      split at h
      · rename_i cs ec
        cases h
        rw [asInts_eq ec]; rfl
      · cases h
    · cases h
theorem asInts_map (bs : List Int) : asInts (bs.map .int) = some bs := by
  induction bs with
  | nil => rfl
  | cons b r ih => rw [List.map_cons, asInts, ih]
def allF : Fn
  | [.list xs] => (match asBools xs with | some bs => some (.bool (bs.all id)) | none => none)
  | _ => none
def anyF : Fn
  | [.list xs] => (match asBools xs with | some bs => some (.bool (bs.any id)) | none => none)
  | _ => none
theorem call_allF (hc : X.calm = true) : CallR X (.builtin "all") (rFn X.K allF) := by
  intro pins s σ H xs us Q I r h
  obtain ⟨A, ds, res, hA, rd, hf, q⟩ := h
  unfold allF at hf
  split at hf
  · split at hf
    · rename_i bs eb
      cases hf
      cases rd with
      | cons r1 r2 =>
        cases r2
        cases r1 with
        | lst h2 h3 =>
          rw [asBools_eq eb] at h3
          have := h3.of_bls
          subst this
          exact cr_all hc pins s σ H _ us Q I r ⟨_, bs, rfl, h2.sql, q _ _ (.refl H) (.bl _)⟩
    · cases hf
  · cases hf
theorem call_anyF (hc : X.calm = true) : CallR X (.builtin "any") (rFn X.K anyF) := by
  intro pins s σ H xs us Q I r h
  obtain ⟨A, ds, res, hA, rd, hf, q⟩ := h
  unfold anyF at hf
  split at hf
  · split at hf
    · rename_i bs eb
      cases hf
      cases rd with
      | cons r1 r2 =>
        cases r2
        cases r1 with
        | lst h2 h3 =>
          rw [asBools_eq eb] at h3
          have := h3.of_bls
          subst this
          exact cr_any hc pins s σ H _ us Q I r ⟨_, bs, rfl, h2.sql, q _ _ (.refl H) (.bl _)⟩
    · cases hf
  · cases hf
instance : BiP "all" "all" allF := ⟨by decide +kernel, fun _ _ hc _ => call_allF hc, by decide⟩
instance : BiP "any" "any" anyF := ⟨by decide +kernel, fun _ _ hc _ => call_anyF hc, by decide⟩
def sumF : Fn
  | [.list xs] => (match asInts xs with | some bs => some (.int bs.sum) | none => none)
  | [.tuple xs] => (match asInts xs with | some bs => some (.int bs.sum) | none => none)
  | _ => none
theorem sum_tup {s : Shared} {a : Addr} {its : List Value} {ns : List Int} {prog : Program} {w : PySem.World} {A : Around} {E : Value → Shared → Prop} {Q : Value → Shared → Prop} (hh : A.handled = none) (ht : s.heap.IsTuple a its.toArray) (hi : IntsAre its ns)
    (h : ∀ h' tk t', (∀ b o, s.heap.get? b = some o → h'.get? b = some o) → Q (.int ns.sum t') { s with heap := h', toks := tk }) : wpAny (model prog w) A (call (.builtin "sum") [.ref a]) Q E s := by
  obtain ⟨xs, e⟩ := hi.allInts.items
  have hn : numsOf (intItems xs).toList = ns := by rw [← e]; exact hi.numsOf
  rw [nums_intItems] at hn
  rw [e] at ht
  refine PySem.W.ktm_sumG hh ht fun h' tk t' hk => ?_
  have := h h' tk t' hk
  rw [preSum_eq, List.take_of_length_le (by simp), hn]
  exact this
theorem call_sumF (hc : X.calm = true) : CallR X (.builtin "sum") (rFn X.K sumF) := by
  intro pins s σ H xs us Q I r h
  obtain ⟨A, ds, res, hA, rd, hf, q⟩ := h
  unfold sumF at hf
  split at hf
  · split at hf
    · rename_i bs eb
      cases hf
      cases rd with
      | cons r1 r2 =>
        cases r2
        cases r1 with
        | lst h2 h3 =>
          rw [asInts_eq eb] at h3
          have := h3.of_ints
          subst this
          exact cr_sum hc pins s σ H _ us Q I r ⟨_, bs, rfl, h2.sql, q _ _ (.refl H) (.int _)⟩
    · cases hf
  · split at hf
    · rename_i bs eb
      cases hf
      cases rd with
      | cons r1 r2 =>
        cases r2
        cases r1 with
        | tup h2 h3 =>
          rw [asInts_eq eb] at h3
          have := h3.of_ints
          subst this
          obtain ⟨its, rv, ht, hz⟩ := I.tuple h2.sqt
          rw [Vals.ref1 r]
          exact sum_tup (I.ok.hd hc) ht rv.ints fun h' tk t' hk => ⟨.int _, H, I.kept hk, ⟨_, rfl⟩, q _ _ (.refl H) (.int _)⟩
    · cases hf
  · cases hf
instance : BiP "sum" "sum" sumF := ⟨by decide +kernel, fun _ _ hc _ => call_sumF hc, by decide⟩
def tupleF : Fn
  | [.list xs] => some (.tuple xs)
  | [.tuple xs] => some (.tuple xs)
  | _ => none
theorem call_tupleF : CallR X (.type "tuple") (rFn X.K tupleF) := by
  intro pins s σ H xs us Q I r h
  obtain ⟨A, ds, res, hA, rd, hf, q⟩ := h
  unfold tupleF at hf
  split at hf
  · cases hf
    cases rd with
    | cons r1 r2 =>
      cases r2
      cases r1 with
      | lst h2 h3 => exact call_tuple_of pins s σ H _ us Q I r ⟨_, _, rfl, .inl ⟨h2.sql, fun l nl => q _ _ (.new nl) (.tup (.of upd_same) (h3.up (.new nl)))⟩⟩
  · cases hf
    cases rd with
    | cons r1 r2 =>
      cases r2
      cases r1 with
      | tup h2 h3 => exact call_tuple_of pins s σ H _ us Q I r ⟨_, _, rfl, .inr ⟨h2.sqt, q _ _ (.refl H) (.tup h2 h3)⟩⟩
  · cases hf
instance : BtP "tuple" "tuple" tupleF := ⟨by decide +kernel, fun _ _ _ _ => call_tupleF, by decide⟩
theorem boot_list' : bootBuiltins "list" = some (.type "list") := by decide +kernel
def listF (a : Option PyData) : Option (List PyData) := match a with
  | some (.list xs) => some xs
  | some (.tuple xs) => some xs
  | some (.dict kvs) => some (kvs.map (·.1))
  | _ => none
def rListD : List V → Hp → VK → Prop := fun xs H Q => ∃ (a : Addr) (ks : List PyData) (vs : List V), xs = [.ref a] ∧ DcAt H a ks vs ∧ ∀ (kv : List V) (l : Addr), (∀ (K : PySem.W.Frag) (A : Addr → Prop), Reps K H A ks kv) → H l = none → Q (.ref l) (upd H l (.lst kv))
theorem call_listD (hc : X.calm = true) : CallR X (.type "list") rListD := by
  intro pins s σ H xs us Q I r h
  obtain ⟨a, ks, vs, rfl, hd, q⟩ := h
  rw [Vals.ref1 r]
  exact dc_list hc I hd q
theorem callR_or {c : Value} {r r' : List V → Hp → VK → Prop} (h : CallR X c r) (h' : CallR X c r') : CallR X c (fun xs H Q => r xs H Q ∨ r' xs H Q) := by
  intro pins s σ H xs us Q I rv q
  exact q.elim (h pins s σ H xs us Q I rv) (h' pins s σ H xs us Q I rv)
instance (priority := low) purListF {pn : Pos} [h1 : PurE S nm T a ms f ca] : PurF S nm T (.Call (.Name "list" pn) [a] [] p) ms (fun env => listF (f env)) (ca && bltC nm T "list" && notStar a) where
  run hc TB k X G := by
    simp only [Bool.and_eq_true] at hc
    obtain ⟨⟨hc1, hc2⟩, hc3⟩ := hc
    obtain ⟨ta, ha, qa⟩ := h1.run hc1 TB k X G
    obtain ⟨g1, g2⟩ := G.bl hc2
    refine ⟨_, pe_callTy (callR_or call_list_of (call_listD G.calm)) g1 g2 boot_list' (pa_cons ha pa_nil (star_of hc3)) (by decide) (by decide) (star_of hc3) rfl, fun A H0 H σ env d Q E hf q => ?_⟩
    unfold listF at hf
    try dsimp only at hf
    split at hf
    · rename_i xs e
      cases hf
      refine qa A H0 H σ env _ _ E e fun x H1 g1 r1 => ?_
      cases r1 with
      | lst h2 h3 => exact .inl ⟨_, _, rfl, .inl h2.sql, fun l nl => q l _ _ (g1.trans (.new nl)) (g1.fresh l nl) upd_same ((h3.away nl).up (.new nl))⟩
    · rename_i xs e
      cases hf
      refine qa A H0 H σ env _ _ E e fun x H1 g1 r1 => ?_
      cases r1 with
      | tup h2 h3 => exact .inl ⟨_, _, rfl, .inr h2.sqt, fun l nl => q l _ _ (g1.trans (.new nl)) (g1.fresh l nl) upd_same ((h3.away nl).up (.new nl))⟩
    · rename_i kvs e
      cases hf
      refine qa A H0 H σ env _ _ E e fun x H1 g1 r1 => ?_
      cases r1 with
      | dct h1 h2 h3 => exact .inr ⟨_, _, _, rfl, h2, fun kv l hk nl => q l _ _ (g1.trans (.new nl)) (g1.fresh l nl) upd_same (((hk X.K _).away nl).up (.new nl))⟩
    · cases hf
instance purList {pn : Pos} [PurF S nm T (.Call (.Name "list" pn) es [] p) ms fs ce] : PurE S nm T (.Call (.Name "list" pn) es [] p) ms (fun env => listV (fs env)) ce := pur_of_fresh inferInstance
def RgB (a b : Int) : Prop := 0 ≤ a ∧ a ≤ 16777216 ∧ 0 ≤ b ∧ b ≤ 16777216
noncomputable instance (a b : Int) : Decidable (RgB a b) := Classical.propDecidable _
theorem reps_rg {K : PySem.W.Frag} {H : Hp} {A : Addr → Prop} (a b : Int) : Reps K H A (rangeD a (b - a).toNat) (rgV a b) := by
  have : ∀ l : List Nat, Reps K H A (l.map fun i => PyData.int (a + (i : Nat))) (l.map fun i => V.int (a + (i : Nat))) := fun l => by
    induction l with
    | nil => exact .nil
    | cons x r ih => exact .cons (.int _) ih
  exact this _
noncomputable def rgL (a b : Option PyData) : Option (List PyData) := match a with
  | some (.int i) => (match b with
    | some (.int j) => if RgB i j then some (rangeD i (j - i).toNat) else none
    | _ => none)
  | _ => none
instance purListRg1 {pn pr p' : Pos} [h1 : PurE S nm T a ms f ca] : PurF S nm T (.Call (.Name "list" pn) [.Call (.Name "range" pr) [a] [] p'] [] p) [] (fun env => rgL (some (.int 0)) (f env)) (ca && bltC nm T "list" && bltC nm T "range" && notStar a) where
  run hc TB k X G := by
    simp only [Bool.and_eq_true] at hc
    obtain ⟨⟨⟨hc1, hc2⟩, hc3⟩, hc4⟩ := hc
    obtain ⟨ta, ha, qa⟩ := h1.run hc1 TB k X G
    obtain ⟨g1, g2⟩ := G.bl hc2
    obtain ⟨g3, g4⟩ := G.bl hc3
    refine ⟨_, pe_listRg G.calm g1 g2 (prg_1 g3 g4 ha (star_of hc4)) rfl, fun A H0 H σ env d Q E hf q => ?_⟩
    unfold rgL at hf
    try dsimp only at hf
    split at hf
    · rename_i j e
      split at hf
      · rename_i hb
        cases hf
        refine qa A H0 H σ env _ _ E e fun x H1 g1 r1 => ?_
        cases r1
        exact ⟨j, rfl, .of_le hb.1 hb.2.2.2 hb.2.1 hb.2.2.1, fun l nl => q l _ _ (g1.trans (.new nl)) (g1.fresh l nl) upd_same (reps_rg 0 j)⟩
      · cases hf
    · cases hf
instance purListRg2 {pn pr p' : Pos} [h1 : PurE S nm T a ms f ca] [h2 : PurE S nm T b ns g cb] : PurF S nm T (.Call (.Name "list" pn) [.Call (.Name "range" pr) [a, b] [] p'] [] p) [] (fun env => rgL (f env) (g env)) (ca && cb && bltC nm T "list" && bltC nm T "range" && notStar a && notStar b) where
  run hc TB k X G := by
    simp only [Bool.and_eq_true] at hc
    obtain ⟨⟨⟨⟨⟨hc1, hc0⟩, hc2⟩, hc3⟩, hc4⟩, hc5⟩ := hc
    obtain ⟨ta, ha, qa⟩ := h1.run hc1 TB k X G
    obtain ⟨tb, hb, qb⟩ := h2.run hc0 TB k X G
    obtain ⟨g1, g2⟩ := G.bl hc2
    obtain ⟨g3, g4⟩ := G.bl hc3
    refine ⟨_, pe_listRg G.calm g1 g2 (prg_2 g3 g4 ha hb (star_of hc4) (star_of hc5) (stars_of (es := [b]) (by simp [hc5]))) rfl, fun A H0 H σ env d Q E hf q => ?_⟩
    unfold rgL at hf
    try dsimp only at hf
    split at hf
    · rename_i i ei
      split at hf
      · rename_i j e
        split at hf
        · rename_i hb
          cases hf
          refine qa A H0 H σ env _ _ E ei fun x H1 g1 r1 => ?_
          refine qb A H0 H1 σ env _ _ (E.up g1) e fun y H2 g2 r2 => ?_
          cases r1
          cases r2
          exact ⟨i, j, rfl, rfl, .of_le hb.1 hb.2.2.2 hb.2.1 hb.2.2.1, fun l nl => q l _ _ ((g1.trans g2).trans (.new nl)) (g1.fresh l (g2.fresh l nl)) upd_same (reps_rg i j)⟩
        · cases hf
      · cases hf
    · cases hf
instance (priority := high) purTupRg1 {pn pr p' : Pos} [h1 : PurE S nm T a ms f ca] : PurE S nm T (.Call (.Name "tuple" pn) [.Call (.Name "range" pr) [a] [] p'] [] p) [] (fun env => match rgL (some (.int 0)) (f env) with | some xs => some (.tuple xs) | none => none) (ca && bltC nm T "tuple" && bltC nm T "range" && notStar a) where
  run hc TB k X G := by
    simp only [Bool.and_eq_true] at hc
    obtain ⟨⟨⟨hc1, hc2⟩, hc3⟩, hc4⟩ := hc
    obtain ⟨ta, ha, qa⟩ := h1.run hc1 TB k X G
    obtain ⟨g1, g2⟩ := G.bl hc2
    obtain ⟨g3, g4⟩ := G.bl hc3
    refine ⟨_, pe_tupRg G.calm g1 g2 (prg_1 g3 g4 ha (star_of hc4)) rfl, fun A H0 H σ env d Q E hf q => ?_⟩
    dsimp only at hf
    split at hf
    · rename_i xs ex
      cases hf
      unfold rgL at ex
      try dsimp only at ex
      split at ex
      · rename_i j e
        split at ex
        · rename_i hb
          cases ex
          refine qa A H0 H σ env _ _ E e fun x H1 g1 r1 => ?_
          cases r1
          exact ⟨j, rfl, .of_le hb.1 hb.2.2.2 hb.2.1 hb.2.2.1, fun l nl => q _ _ (g1.trans (.new nl)) (.tup (.of upd_same) (reps_rg 0 j))⟩
        · cases ex
      · cases ex
    · cases hf
/-! ### max, min of two ints -/
def maxF : Fn
  | [.int a, .int b] => some (.int (if b > a then b else a))
  | _ => none
def minF : Fn
  | [.int a, .int b] => some (.int (if b < a then b else a))
  | _ => none
end
end Pu

set_option Elab.async false
set_option linter.all false
set_option autoImplicit false
set_option maxRecDepth 100000
set_option maxHeartbeats 4000000
namespace Pu
open PySem PySem.Spec PyProof.Rows L2 GxR

/-! ### slots worked out -/
@[simp] theorem startE_0 : startE 0 [] = [] := id rfl
@[simp] theorem startE_un (n : Nat) : startE (n + 1) [] = .un :: startE n [] := id rfl
@[simp] theorem startE_va (n : Nat) (d : PyData) (ds : List PyData) : startE (n + 1) (d :: ds) = .va d :: startE n ds := by
  unfold startE; rw [List.length_cons, Nat.add_sub_add_right]; rfl
@[simp] theorem getV_va (d : PyData) (r : Sls) : getV 0 (.va d :: r) = some d := id rfl
@[simp] theorem getV_ow (ds : List PyData) (r : Sls) : getV 0 (.ow ds :: r) = some (.list ds) := id rfl
@[simp] theorem getV_od (ds : List (PyData × PyData)) (r : Sls) : getV 0 (.od ds :: r) = some (.dict ds) := id rfl
@[simp] theorem freeze1_od (ds : List (PyData × PyData)) (r : Sls) : freeze1 0 (.od ds :: r) = .va (.dict ds) :: r := id rfl
@[simp] theorem getV_s (n : Nat) (x : Sl) (r : Sls) : getV (n + 1) (x :: r) = getV n r := by unfold getV; rw [List.getElem?_cons_succ]
@[simp] theorem freeze_nil (env : Sls) : freeze [] env = env := id rfl
@[simp] theorem freeze_cons (i : Nat) (is : List Nat) (env : Sls) : freeze (i :: is) env = freeze is (freeze1 i env) := id rfl
@[simp] theorem freeze1_va (d : PyData) (r : Sls) : freeze1 0 (.va d :: r) = .va d :: r := id rfl
@[simp] theorem freeze1_un (r : Sls) : freeze1 0 (.un :: r) = .un :: r := id rfl
@[simp] theorem freeze1_own (ds : List PyData) (r : Sls) : freeze1 0 (.ow ds :: r) = .va (.list ds) :: r := id rfl
@[simp] theorem freeze1_s (n : Nat) (x : Sl) (r : Sls) : freeze1 (n + 1) (x :: r) = x :: freeze1 n r := by
  unfold freeze1
  rw [List.getElem?_cons_succ]
  cases e : r[n]? with
  | none => rfl
  | some z => cases z <;> rfl
@[simp] theorem wipeE_nil (env : Sls) : wipeE [] env = env := id rfl
@[simp] theorem wipeE_cons (i : Nat) (is : List Nat) (env : Sls) : wipeE (i :: is) env = (wipeE is env).set i .un := id rfl
@[simp] theorem noL_none : noL .none = true := id rfl
@[simp] theorem noL_int (i : Int) : noL (.int i) = true := id rfl
@[simp] theorem noL_bool (i : Bool) : noL (.bool i) = true := id rfl
@[simp] theorem noL_str (i : Str) : noL (.str i) = true := id rfl
@[simp] theorem noL_tuple (xs : List PyData) : noL (.tuple xs) = noLs xs := id rfl
@[simp] theorem noL_list (xs : List PyData) : noL (.list xs) = false := id rfl
@[simp] theorem noLs_nil : noLs [] = true := id rfl
@[simp] theorem noLs_cons (x : PyData) (xs : List PyData) : noLs (x :: xs) = (noL x && noLs xs) := id rfl
theorem noLs_iff {xs : List PyData} : noLs xs = true ↔ ∀ x ∈ xs, noL x = true := by
  induction xs with
  | nil => simp
  | cons x r ih => simp [ih]
@[simp] theorem noLs_append (a b : List PyData) : noLs (a ++ b) = (noLs a && noLs b) := by
  induction a with
  | nil => rfl
  | cons x r ih => simp [ih, Bool.and_assoc]
@[simp] theorem noLs_map {α : Type} {f : α → PyData} {xs : List α} (h : ∀ x, noL (f x) = true) : noLs (xs.map f) = true := noLs_iff.mpr fun y hy => by
  obtain ⟨x, _, rfl⟩ := List.mem_map.mp hy
  exact h x
@[simp] theorem settle_nil (d : PyData) (env : Sls) : settle [] d env = env := by unfold settle; split <;> rfl
@[simp] theorem settle_flat {ms : List Nat} {d : PyData} {env : Sls} (h : noL d = true) : settle ms d env = env := if_pos h
@[simp] theorem settle_list {ms : List Nat} {ds : List PyData} {env : Sls} : settle ms (.list ds) env = freeze ms env := id rfl
@[simp] theorem settleL_nil (ds : List PyData) (env : Sls) : settleL [] ds env = env := by unfold settleL; split <;> rfl
@[simp] theorem settleL_flat {ms : List Nat} {ds : List PyData} {env : Sls} (h : noLs ds = true) : settleL ms ds env = env := if_pos h
@[simp] theorem setO_some (i : Nat) (ms : List Nat) (d : PyData) (env : Sls) : setO i ms (some d) env = some (.nx ((settle ms d env).set i (.va d))) := id rfl
@[simp] theorem setF_some (i : Nat) (ms : List Nat) (d : List PyData) (env : Sls) : setF i ms (some d) env = some (.nx ((settleL ms d env).set i (.ow d))) := id rfl
@[simp] theorem retO_some (d : PyData) : retO (some d) = some (.rt d) := id rfl
@[simp] theorem seqO_nx (env : Sls) (k : Sls → Option Out) : seqO (some (.nx env)) k = k env := id rfl
@[simp] theorem seqO_rt (d : PyData) (k : Sls → Option Out) : seqO (some (.rt d)) k = some (.rt d) := id rfl
@[simp] theorem seqO_bk (d : Sls) (k : Sls → Option Out) : seqO (some (.bk d)) k = some (.bk d) := id rfl
@[simp] theorem seqO_ct (d : Sls) (k : Sls → Option Out) : seqO (some (.ct d)) k = some (.ct d) := id rfl
@[simp] theorem ifO_some (b : Bool) (x y : Option Out) : ifO (some b) x y = if b = true then x else y := by cases b <;> rfl
@[simp high] theorem ifO_nx (b : Bool) (x y : Sls) : ifO (some b) (some (.nx x)) (some (.nx y)) = some (.nx (if b = true then x else y)) := by cases b <;> rfl
@[simp] theorem ite_slots (p : Prop) [Decidable p] (x y : Sl) (r s : Sls) : (if p then x :: r else y :: s) = (if p then x else y) :: (if p then r else s) := by by_cases h : p <;> simp [h]
@[simp] theorem ite_va (p : Prop) [Decidable p] (x y : PyData) : (if p then Sl.va x else Sl.va y) = .va (if p then x else y) := by by_cases h : p <;> simp [h]
@[simp] theorem ite_ow (p : Prop) [Decidable p] (x y : List PyData) : (if p then Sl.ow x else Sl.ow y) = .ow (if p then x else y) := by by_cases h : p <;> simp [h]
@[simp] theorem ite_dint (p : Prop) [Decidable p] (x y : Int) : (if p then PyData.int x else PyData.int y) = .int (if p then x else y) := by by_cases h : p <;> simp [h]
@[simp] theorem ite_dstr (p : Prop) [Decidable p] (x y : Str) : (if p then PyData.str x else PyData.str y) = .str (if p then x else y) := by by_cases h : p <;> simp [h]
@[simp] theorem ite_dbool (p : Prop) [Decidable p] (x y : Bool) : (if p then PyData.bool x else PyData.bool y) = .bool (if p then x else y) := by by_cases h : p <;> simp [h]
@[simp] theorem ite_oo (p : Prop) [Decidable p] (x y : Option PyData) : (if p then some x else some y) = some (if p then x else y) := by by_cases h : p <;> simp [h]
@[simp] theorem iteV_some (b : Bool) (x y : Option PyData) : iteV (some b) x y = if b = true then x else y := by cases b <;> rfl
@[simp] theorem seqO_ite_rt (p : Prop) [Decidable p] (d : PyData) (b : Option Out) (k : Sls → Option Out) : seqO (if p then some (.rt d) else b) k = if p then some (.rt d) else seqO b k := by by_cases h : p <;> simp [h]
@[simp] theorem seqO_ite_rt' (p : Prop) [Decidable p] (d : PyData) (b : Option Out) (k : Sls → Option Out) : seqO (if p then b else some (.rt d)) k = if p then seqO b k else some (.rt d) := by by_cases h : p <;> simp [h]
@[simp] theorem outV_ite (p : Prop) [Decidable p] (a b : Option Out) : outV (if p then a else b) = if p then outV a else outV b := by by_cases h : p <;> simp [h]
@[simp] theorem ite_int (p : Prop) [Decidable p] (a b : Int) : (if p then some (PyData.int a) else some (PyData.int b)) = some (.int (if p then a else b)) := by by_cases h : p <;> simp [h]
@[simp] theorem ite_str (p : Prop) [Decidable p] (a b : Str) : (if p then some (PyData.str a) else some (PyData.str b)) = some (.str (if p then a else b)) := by by_cases h : p <;> simp [h]
@[simp] theorem ite_bool (p : Prop) [Decidable p] (a b : Bool) : (if p then some (PyData.bool a) else some (PyData.bool b)) = some (.bool (if p then a else b)) := by by_cases h : p <;> simp [h]
@[simp] theorem outV_rt (d : PyData) : outV (some (.rt d)) = some d := id rfl
@[simp] theorem outV_nx (d : Sls) : outV (some (.nx d)) = some .none := id rfl
@[simp] theorem bind1_some' (f : PyData → Option PyData) (d : PyData) : bind1 f (some d) = f d := id rfl
@[simp] theorem bind2_some' (f : PyData → PyData → Option PyData) (d e : PyData) : bind2 f (some d) (some e) = f d e := id rfl
@[simp] theorem callV_some' (F : Fn) (ds : List PyData) : callV F (some ds) = F ds := id rfl
@[simp] theorem consA_some (d : PyData) (ds : List PyData) : consA (some d) (some ds) = some (d :: ds) := id rfl
@[simp] theorem listV_some (d : List PyData) : listV (some d) = some (.list d) := id rfl
@[simp] theorem tupV_some {d : List PyData} (h : d.length ≤ LIM) : tupV (some d) = some (.tuple d) := if_pos h
@[simp] theorem limL_some' {d : List PyData} (h : d.length ≤ LIM) : limL (some d) = some d := if_pos h
theorem LIM_eq : LIM = 16777216 := rfl
@[simp] theorem toB_some' (b : Bool) : toB (some (.bool b)) = some b := id rfl
@[simp] theorem bindT_some' (d : PyData) : bindT (some d) = truD d := id rfl
@[simp] theorem truD_bool (b : Bool) : truD (.bool b) = some b := id rfl
@[simp] theorem andB_some (a b : Bool) : andB (some a) (some b) = some (a && b) := by cases a <;> rfl
@[simp] theorem andB_false (b : Option Bool) : andB (some false) b = some false := id rfl
@[simp] theorem andB_true (b : Option Bool) : andB (some true) b = b := id rfl
@[simp] theorem orB_some (a b : Bool) : orB (some a) (some b) = some (a || b) := by cases a <;> rfl
@[simp] theorem orB_false (b : Option Bool) : orB (some false) b = b := id rfl
@[simp] theorem orB_true (b : Option Bool) : orB (some true) b = some true := id rfl
@[simp] theorem notB_some (a : Bool) : notB (some a) = some (!a) := id rfl
@[simp] theorem andV_bool (a : Bool) (b : Option PyData) : andV (some (.bool a)) b = if a = true then b else some (.bool false) := by cases a <;> rfl
@[simp] theorem orV_bool (a : Bool) (b : Option PyData) : orV (some (.bool a)) b = if a = true then some (.bool true) else b := by cases a <;> rfl
@[simp] theorem notV_bool (a : Bool) : notV (some (.bool a)) = some (.bool (!a)) := id rfl
@[simp] theorem gNm_eq (i : Nat) (d : PyData) (env : Sls) : gNm i d env = some (env.set i (.va d)) := id rfl
@[simp] theorem gNils_nil (env : Sls) : gNils [] env = some env := id rfl

/-! ### numbers -/
@[simp] theorem addP_int (a b : Int) : addP (.int a) (.int b) = some (.int (a + b)) := id rfl
@[simp] theorem subP_int (a b : Int) : subP (.int a) (.int b) = some (.int (a - b)) := id rfl
@[simp] theorem iaddP_int (a b : Int) : iaddP (.int a) (.int b) = some (.int (a + b)) := id rfl
@[simp] theorem negP_int (a : Int) : negP (.int a) = some (.int (-a)) := id rfl
abbrev S64 (a : Int) : Prop := -18446744073709551616 < a ∧ a < 18446744073709551616
@[simp] theorem mulP_l {a b : Int} (h : S64 a) : mulP (.int a) (.int b) = some (.int (a * b)) := if_pos (.inl h)
@[simp] theorem mulP_r {a b : Int} (h : S64 b) : mulP (.int a) (.int b) = some (.int (a * b)) := if_pos (.inr h)
@[simp] theorem mulI_l {a b : Int} (h : S64 a) : mulI (.int a) (.int b) = some (.int (a * b)) := if_pos (.inl h)
@[simp] theorem mulI_r {a b : Int} (h : S64 b) : mulI (.int a) (.int b) = some (.int (a * b)) := if_pos (.inr h)
@[simp] theorem modP_int {a b : Int} (h : 0 < b) : modP (.int a) (.int b) = some (.int (a % b)) := by
  unfold modP
  try dsimp only
  rw [if_pos (by omega), Int.fmod_eq_emod_of_nonneg _ (by omega)]
@[simp] theorem fdivP_int {a b : Int} (h : 0 < b) (h2 : b < 1073741824) : fdivP (.int a) (.int b) = some (.int (a / b)) := by
  unfold fdivP
  try dsimp only
  rw [if_pos (by unfold FdC; omega), Int.fdiv_eq_ediv_of_nonneg _ (by omega)]
@[simp] theorem powP_int {a b : Int} (h : 0 ≤ b) (h2 : b ≤ 1000000) (h3 : S64 a) : powP (.int a) (.int b) = some (.int (a ^ b.toNat)) := if_pos ⟨h, h2, by unfold S64 at h3; omega⟩
@[simp] theorem absF_int (a : Int) : absF [.int a] = some (.int (if a < 0 then -a else a)) := id rfl
@[simp] theorem intF_int (a : Int) : intF [.int a] = some (.int a) := id rfl
@[simp] theorem intF_bool (a : Bool) : intF [.bool a] = some (.int (if a = true then 1 else 0)) := id rfl
@[simp] theorem gcdF_int (a b : Int) : gcdF [.int a, .int b] = some (.int (Int.gcd a b)) := id rfl
@[simp] theorem maxF_int (a b : Int) : maxF [.int a, .int b] = some (.int (if b > a then b else a)) := id rfl
@[simp] theorem minF_int (a b : Int) : minF [.int a, .int b] = some (.int (if b < a then b else a)) := id rfl
@[simp] theorem lenF_list (xs : List PyData) : lenF [.list xs] = some (.int xs.length) := id rfl
@[simp] theorem lenF_tuple (xs : List PyData) : lenF [.tuple xs] = some (.int xs.length) := id rfl
@[simp] theorem tupleF_list (xs : List PyData) : tupleF [.list xs] = some (.tuple xs) := id rfl
@[simp] theorem tupleF_tuple (xs : List PyData) : tupleF [.tuple xs] = some (.tuple xs) := id rfl
@[simp] theorem listF_list (xs : List PyData) : listF (some (.list xs)) = some xs := id rfl
@[simp] theorem listF_tuple (xs : List PyData) : listF (some (.tuple xs)) = some xs := id rfl
@[simp] theorem allF_map {α : Type} (f : α → Bool) (xs : List α) : allF [.list (xs.map fun x => .bool (f x))] = some (.bool (xs.all f)) := by
  have : (xs.map fun x => PyData.bool (f x)) = (xs.map f).map .bool := by rw [List.map_map]; rfl
  rw [this]
  unfold allF
  try dsimp only
  rw [asBools_map]
  simp [List.all_map]
@[simp] theorem anyF_map {α : Type} (f : α → Bool) (xs : List α) : anyF [.list (xs.map fun x => .bool (f x))] = some (.bool (xs.any f)) := by
  have : (xs.map fun x => PyData.bool (f x)) = (xs.map f).map .bool := by rw [List.map_map]; rfl
  rw [this]
  unfold anyF
  try dsimp only
  rw [asBools_map]
  simp [List.any_map]
@[simp] theorem sumF_map {α : Type} (f : α → Int) (xs : List α) : sumF [.list (xs.map fun x => .int (f x))] = some (.int (xs.map f).sum) := by
  have : (xs.map fun x => PyData.int (f x)) = (xs.map f).map .int := by rw [List.map_map]; rfl
  rw [this]
  unfold sumF
  try dsimp only
  rw [asInts_map]
@[simp] theorem sumF_ints (xs : List Int) : sumF [.list (xs.map .int)] = some (.int xs.sum) := by
  unfold sumF
  try dsimp only
  rw [asInts_map]

/-! ### comparisons -/
@[simp] theorem ltP_int (a b : Int) : ltP (.int a) (.int b) = some (.bool (decide (a < b))) := id rfl
@[simp] theorem gtP_int (a b : Int) : gtP (.int a) (.int b) = some (.bool (decide (b < a))) := id rfl
@[simp] theorem leP_int (a b : Int) : leP (.int a) (.int b) = some (.bool (decide (a ≤ b))) := by
  show some (PyData.bool (!decide (b < a))) = _
  rw [← decide_not]; simp
@[simp] theorem geP_int (a b : Int) : geP (.int a) (.int b) = some (.bool (decide (b ≤ a))) := by
  show some (PyData.bool (!decide (a < b))) = _
  rw [← decide_not]; simp
@[simp] theorem eqP_int (a b : Int) : eqP (.int a) (.int b) = some (.bool (decide (a = b))) := by
  unfold eqP
  rw [if_pos (by simp [dpX, PyData.plain, PyData.depth])]
  simp [PyData.eqv]
  rfl
@[simp] theorem neP_int (a b : Int) : neP (.int a) (.int b) = some (.bool (!decide (a = b))) := by
  unfold neP
  rw [if_pos (by simp [dpX, PyData.plain, PyData.depth])]
  simp [PyData.eqv]
  rfl
@[simp] theorem eqP_str (a b : Str) : eqP (.str a) (.str b) = some (.bool (decide (a = b))) := by
  unfold eqP
  rw [if_pos (by simp [dpX, PyData.plain, PyData.depth])]
  simp [PyData.eqv]
  rfl
@[simp] theorem neP_str (a b : Str) : neP (.str a) (.str b) = some (.bool (!decide (a = b))) := by
  unfold neP
  rw [if_pos (by simp [dpX, PyData.plain, PyData.depth])]
  simp [PyData.eqv]
  rfl
@[simp] theorem eqP_bool (a b : Bool) : eqP (.bool a) (.bool b) = some (.bool (decide (a = b))) := by
  unfold eqP
  rw [if_pos (by simp [dpX, PyData.plain, PyData.depth])]
  simp [PyData.eqv]
  cases a <;> cases b <;> rfl
@[simp] theorem neP_bool (a b : Bool) : neP (.bool a) (.bool b) = some (.bool (!decide (a = b))) := by
  unfold neP
  rw [if_pos (by simp [dpX, PyData.plain, PyData.depth])]
  simp [PyData.eqv]
  cases a <;> cases b <;> rfl
@[simp] theorem isNoneP_none : isNoneP .none = some (.bool true) := id rfl
end Pu

set_option Elab.async false
set_option linter.all false
set_option autoImplicit false
set_option maxRecDepth 100000
set_option maxHeartbeats 4000000
namespace Pu
open PySem PySem.Spec PyProof.Rows L2 GxR

/-! ### small data: no truth values, no dicts, of depth n at most; equal is the same -/
mutual
def nbD : PyData → Bool
  | .bool _ => false
  | .dict _ => false
  | .list xs => nbAll xs
  | .tuple xs => nbAll xs
  | _ => true
def nbAll : List PyData → Bool
  | [] => true
  | x :: xs => nbD x && nbAll xs
end
mutual
theorem eqv_nb : ∀ (d e : PyData), nbD d = true → nbD e = true → (PyData.eqv d e = true ↔ d = e)
  | .none, e, _, he => by cases e <;> simp [PyData.eqv, nbD] at he ⊢
  | .bool b, _, h, _ => by simp [nbD] at h
  | .dict b, _, h, _ => by simp [nbD] at h
  | .int i, e, _, he => by cases e <;> simp [PyData.eqv, nbD] at he ⊢
  | .str i, e, _, he => by cases e <;> simp [PyData.eqv, nbD] at he ⊢
  | .list xs, e, h, he => by
    cases e with
    | list ys =>
      rw [nbD] at h he
      rw [PyData.eqv, eqvAll_nb xs ys h he]; simp
    | _ => simp [PyData.eqv, nbD] at he ⊢
  | .tuple xs, e, h, he => by
    cases e with
    | tuple ys =>
      rw [nbD] at h he
      rw [PyData.eqv, eqvAll_nb xs ys h he]; simp
    | _ => simp [PyData.eqv, nbD] at he ⊢
theorem eqvAll_nb : ∀ (xs ys : List PyData), nbAll xs = true → nbAll ys = true → (PyData.eqvAll xs ys = true ↔ xs = ys)
  | [], [], _, _ => by simp [PyData.eqvAll]
  | [], _ :: _, _, _ => by simp [PyData.eqvAll]
  | _ :: _, [], _, _ => by simp [PyData.eqvAll]
  | x :: xs, y :: ys, h, he => by
    simp only [nbAll, Bool.and_eq_true] at h he
    rw [PyData.eqvAll, Bool.and_eq_true, eqv_nb x y h.1 he.1, eqvAll_nb xs ys h.2 he.2]; simp
end
theorem depthAll_le {n : Nat} : ∀ {xs : List PyData}, (∀ x ∈ xs, x.depth ≤ n) → PyData.depthAll xs ≤ n
  | [], _ => by simp [PyData.depthAll]
  | x :: xs, h => by
    rw [PyData.depthAll]
    have h1 := h x (by simp)
    have h2 := depthAll_le (n := n) (xs := xs) fun y hy => h y (by simp [hy])
    omega
theorem depthAll_mem {xs : List PyData} {x : PyData} (h : x ∈ xs) : x.depth ≤ PyData.depthAll xs := by
  induction xs with
  | nil => simp at h
  | cons y r ih =>
    rw [PyData.depthAll]
    rcases List.mem_cons.mp h with rfl | h
    · omega
    · have := ih h; omega
theorem nbAll_iff {xs : List PyData} : nbAll xs = true ↔ ∀ x ∈ xs, nbD x = true := by
  induction xs with
  | nil => simp [nbAll]
  | cons x r ih => simp [nbAll, ih]
class Sm (n : Nat) (d : PyData) : Prop where
  nb : nbD d = true
  dep : d.depth ≤ n
class SmL (n : Nat) (ds : List PyData) : Prop where
  all : ∀ d ∈ ds, Sm n d
mutual
theorem nb_plain : ∀ d : PyData, nbD d = true → d.plain = true
  | .none, _ => rfl
  | .bool _, _ => rfl
  | .int _, _ => rfl
  | .str _, _ => rfl
  | .dict _, h => by simp [nbD] at h
  | .list xs, h => by rw [PyData.plain]; exact nb_plainAll xs (by simpa [nbD] using h)
  | .tuple xs, h => by rw [PyData.plain]; exact nb_plainAll xs (by simpa [nbD] using h)
theorem nb_plainAll : ∀ d : List PyData, nbAll d = true → PyData.plainAll d = true
  | [], _ => rfl
  | x :: xs, h => by
    simp only [nbAll, Bool.and_eq_true] at h
    rw [PyData.plainAll, nb_plain x h.1, nb_plainAll xs h.2]; rfl
end
theorem dpX_sm {d e : PyData} {n : Nat} (h1 : Sm n d) (h2 : Sm n e) (hn : n ≤ 150) : dpX d e ≤ DEP := by
  unfold dpX
  rw [if_pos ⟨nb_plain d h1.nb, nb_plain e h2.nb⟩]
  have := h1.dep
  have : DEP = 150 := rfl
  omega
theorem dpL_sm {xs : List PyData} {d : PyData} {n : Nat} (h1 : Sm n d) (h2 : ∀ x ∈ xs, nbD x = true) (hn : n ≤ 149) : dpL xs d ≤ DEP := by
  unfold dpL
  rw [if_pos ⟨nb_plainAll xs (nbAll_iff.mpr h2), nb_plain d h1.nb⟩]
  have := h1.dep
  have : DEP = 150 := rfl
  omega
instance {n : Nat} {i : Int} : Sm n (.int i) := ⟨rfl, by simp [PyData.depth]⟩
instance {n : Nat} {i : Str} : Sm n (.str i) := ⟨rfl, by simp [PyData.depth]⟩
instance {n : Nat} : Sm n .none := ⟨rfl, by simp [PyData.depth]⟩
instance {n : Nat} {xs : List PyData} [h : SmL n xs] : Sm (n + 1) (.tuple xs) := ⟨nbAll_iff.mpr fun x hx => (h.all x hx).nb, by
  rw [PyData.depth]
  have := depthAll_le (n := n) (xs := xs) fun x hx => (h.all x hx).dep
  omega⟩
instance {n : Nat} {xs : List PyData} [h : SmL n xs] : Sm (n + 1) (.list xs) := ⟨nbAll_iff.mpr fun x hx => (h.all x hx).nb, by
  rw [PyData.depth]
  have := depthAll_le (n := n) (xs := xs) fun x hx => (h.all x hx).dep
  omega⟩
instance {n : Nat} : SmL n [] := ⟨by simp⟩
instance {n : Nat} {x : PyData} {xs : List PyData} [h1 : Sm n x] [h2 : SmL n xs] : SmL n (x :: xs) := ⟨fun d hd => (List.mem_cons.mp hd).elim (fun e => e ▸ h1) (h2.all d)⟩
instance {n : Nat} {xs ys : List PyData} [h1 : SmL n xs] [h2 : SmL n ys] : SmL n (xs ++ ys) := ⟨fun d hd => (List.mem_append.mp hd).elim (h1.all d) (h2.all d)⟩
instance {n : Nat} {α : Type} {f : α → PyData} {xs : List α} [h : ∀ x, Sm n (f x)] : SmL n (xs.map f) := ⟨fun d hd => by
  obtain ⟨x, _, rfl⟩ := List.mem_map.mp hd
  exact h x⟩
open Classical in
@[simp low] theorem eqv_sm {d e : PyData} [h1 : Sm 20 d] [h2 : Sm 20 e] : PyData.eqv d e = decide (d = e) := by
  have := eqv_nb d e h1.nb h2.nb
  cases h : PyData.eqv d e
  · rw [h] at this; simp at this; simp [this]
  · rw [h] at this; simp at this; simp [this]
open Classical in
@[simp low] theorem eqP_sm {d e : PyData} [h1 : Sm 20 d] [h2 : Sm 20 e] : eqP d e = some (.bool (decide (d = e))) := by
  unfold eqP
  rw [if_pos (dpX_sm h1 h2 (by decide)), eqv_sm]
open Classical in
@[simp low] theorem neP_sm {d e : PyData} [h1 : Sm 20 d] [h2 : Sm 20 e] : neP d e = some (.bool (!decide (d = e))) := by
  unfold neP
  rw [if_pos (dpX_sm h1 h2 (by decide)), eqv_sm]
open Classical in
theorem any_sm {d : PyData} {xs : List PyData} (h1 : Sm 20 d) (h2 : SmL 19 xs) : (xs.any fun y => PyData.eqv y d) = decide (d ∈ xs) := by
  rw [Bool.eq_iff_iff]
  simp only [List.any_eq_true, decide_eq_true_eq]
  constructor
  · rintro ⟨y, hy, e⟩
    have := (eqv_nb y d (h2.all y hy).nb h1.nb).mp e
    exact this ▸ hy
  · intro h
    exact ⟨d, h, (eqv_nb d d h1.nb h1.nb).mpr rfl⟩
open Classical in
@[simp low] theorem inP_sm_tuple {d : PyData} {xs : List PyData} [h1 : Sm 20 d] [h2 : SmL 19 xs] : inP d (.tuple xs) = some (.bool (decide (d ∈ xs))) := by
  unfold inP inD
  try dsimp only
  rw [if_pos (dpL_sm h1 (fun x hx => (h2.all x hx).nb) (by decide)), any_sm h1 h2]
open Classical in
@[simp low] theorem inP_sm_list {d : PyData} {xs : List PyData} [h1 : Sm 20 d] [h2 : SmL 19 xs] : inP d (.list xs) = some (.bool (decide (d ∈ xs))) := by
  unfold inP inD
  try dsimp only
  rw [if_pos (dpL_sm h1 (fun x hx => (h2.all x hx).nb) (by decide)), any_sm h1 h2]
open Classical in
@[simp low] theorem ninP_sm_tuple {d : PyData} {xs : List PyData} [h1 : Sm 20 d] [h2 : SmL 19 xs] : ninP d (.tuple xs) = some (.bool (!decide (d ∈ xs))) := by
  unfold ninP inD
  try dsimp only
  rw [if_pos (dpL_sm h1 (fun x hx => (h2.all x hx).nb) (by decide)), any_sm h1 h2]
open Classical in
@[simp low] theorem ninP_sm_list {d : PyData} {xs : List PyData} [h1 : Sm 20 d] [h2 : SmL 19 xs] : ninP d (.list xs) = some (.bool (!decide (d ∈ xs))) := by
  unfold ninP inD
  try dsimp only
  rw [if_pos (dpL_sm h1 (fun x hx => (h2.all x hx).nb) (by decide)), any_sm h1 h2]
@[simp] theorem mem_map_int {a : Int} {xs : List Int} : PyData.int a ∈ xs.map PyData.int ↔ a ∈ xs := by simp
@[simp] theorem map_int_inj {xs ys : List Int} : xs.map PyData.int = ys.map PyData.int ↔ xs = ys := ⟨fun h => by
  induction xs generalizing ys with
  | nil => cases ys with
    | nil => rfl
    | cons y r => simp at h
  | cons x s ih => cases ys with
    | nil => simp at h
    | cons y r => simp at h; rw [h.1, ih h.2], fun h => h ▸ rfl⟩
@[simp] theorem isNone_none : isNone .none = true := id rfl
@[simp] theorem isNone_int (i : Int) : isNone (.int i) = false := id rfl
@[simp] theorem isNone_bool (i : Bool) : isNone (.bool i) = false := id rfl
@[simp] theorem isNone_str (i : Str) : isNone (.str i) = false := id rfl
@[simp] theorem isNone_tuple (i : List PyData) : isNone (.tuple i) = false := id rfl
@[simp] theorem isNone_list (i : List PyData) : isNone (.list i) = false := id rfl
/-- a op b op' c, both of numbers -/
theorem chainP_eq {F F' : PyData → PyData → Option PyData} {x y : PyData} {c : Option PyData} {b : Bool} (h : F x y = some (.bool b)) : chainP F F' (some x) (some y) c = if b = true then (match c with | some z => F' y z | none => none) else some (.bool false) := by
  unfold chainP
  try dsimp only
  rw [h]
  cases b <;> rfl
@[simp] theorem chainP_ltlt (a b c : Int) : chainP ltP ltP (some (.int a)) (some (.int b)) (some (.int c)) = some (.bool (decide (a < b ∧ b < c))) := by
  rw [chainP_eq (ltP_int a b)]; simp; try (split <;> simp_all <;> intros <;> omega)
@[simp] theorem chainP_ltle (a b c : Int) : chainP ltP leP (some (.int a)) (some (.int b)) (some (.int c)) = some (.bool (decide (a < b ∧ b ≤ c))) := by
  rw [chainP_eq (ltP_int a b)]; simp; try (split <;> simp_all <;> intros <;> omega)
@[simp] theorem chainP_lelt (a b c : Int) : chainP leP ltP (some (.int a)) (some (.int b)) (some (.int c)) = some (.bool (decide (a ≤ b ∧ b < c))) := by
  rw [chainP_eq (leP_int a b)]; simp; try (split <;> simp_all <;> intros <;> omega)
@[simp] theorem chainP_lele (a b c : Int) : chainP leP leP (some (.int a)) (some (.int b)) (some (.int c)) = some (.bool (decide (a ≤ b ∧ b ≤ c))) := by
  rw [chainP_eq (leP_int a b)]; simp; try (split <;> simp_all <;> intros <;> omega)

/-! ### kinds -/
@[simp] theorem isaV_some (m : String) (d : PyData) : isaV m (some d) = some (.bool (isaN (tyNm d) m)) := id rfl
@[simp] theorem tyNm_none : tyNm .none = "NoneType" := id rfl
@[simp] theorem tyNm_int (i : Int) : tyNm (.int i) = "int" := id rfl
@[simp] theorem tyNm_bool (i : Bool) : tyNm (.bool i) = "bool" := id rfl
@[simp] theorem tyNm_str (i : Str) : tyNm (.str i) = "str" := id rfl
@[simp] theorem tyNm_tuple (i : List PyData) : tyNm (.tuple i) = "tuple" := id rfl
@[simp] theorem tyNm_list (i : List PyData) : tyNm (.list i) = "list" := id rfl

@[simp] theorem tyNm_dict (i : List (PyData × PyData)) : tyNm (.dict i) = "dict" := id rfl
@[simp] theorem isNone_dict (i : List (PyData × PyData)) : isNone (.dict i) = false := id rfl
@[simp] theorem isaN_eq (n m : String) : isaN n m = (n == m || (n == "bool" && m == "int")) := id rfl
instance : Inhabited PyData := ⟨.none⟩

/-! ### items and walks -/
def rg (a b : Int) : List Int := (List.range (b - a).toNat).map fun i => a + (i : Nat)
@[simp] theorem mem_rg {a b x : Int} : x ∈ rg a b ↔ a ≤ x ∧ x < b := by
  unfold rg
  simp only [List.mem_map, List.mem_range]
  constructor
  · rintro ⟨i, h, rfl⟩; omega
  · rintro ⟨h1, h2⟩; exact ⟨(x - a).toNat, by omega, by omega⟩
@[simp] theorem rg_length (a b : Int) : (rg a b).length = (b - a).toNat := by simp [rg]
theorem rg_eq_nil {a b : Int} (h : b ≤ a) : rg a b = [] := by unfold rg; rw [Int.toNat_of_nonpos (by omega)]; rfl
theorem rg_cons {a b : Int} (h : a < b) : rg a b = a :: rg (a + 1) b := by
  unfold rg
  rw [show (b - a).toNat = (b - (a + 1)).toNat + 1 by omega, List.range_succ_eq_map, List.map_cons, List.map_map]
  congr 1
  · simp
  · apply List.map_congr_left; intro i _; simp; omega
theorem rg_snoc {a b : Int} (h : a ≤ b) : rg a (b + 1) = rg a b ++ [b] := by
  unfold rg
  rw [show (b + 1 - a).toNat = (b - a).toNat + 1 by omega, List.range_succ, List.map_append]
  congr 1
  simp; omega
theorem rangeD_eq (a b : Int) : rangeD a (b - a).toNat = (rg a b).map .int := by unfold rangeD rg; rw [List.map_map]; rfl
theorem rangeD0_eq (b : Int) : rangeD 0 b.toNat = (rg 0 b).map .int := by rw [← rangeD_eq]; simp
@[simp] theorem rangeV1 {j : Int} (h : B62 j) : rangeV (some [.int j]) = some ((rg 0 j).map .int) := by
  unfold rangeV
  try dsimp only
  rw [if_pos h, rangeD0_eq]
@[simp] theorem rangeV2 {i j : Int} (h : B62 i) (h2 : B62 j) : rangeV (some [.int i, .int j]) = some ((rg i j).map .int) := by
  unfold rangeV
  try dsimp only
  rw [if_pos ⟨h, h2⟩, rangeD_eq]
@[simp] theorem itemsV_list (xs : List PyData) : itemsV (some (.list xs)) = some xs := id rfl
@[simp] theorem itemsV_tuple (xs : List PyData) : itemsV (some (.tuple xs)) = some xs := id rfl
@[simp] theorem itemsV_str (z : Str) : itemsV (some (.str z)) = some (chars z) := id rfl
theorem atI_pos {α : Type} {xs : List α} {i : Int} (h : 0 ≤ i) : atI xs i = xs[i.toNat]? := by
  unfold L2.atI ixN
  rw [if_pos h]
  split
  · rfl
  · rename_i h2
    rw [List.getElem?_eq_none (by omega)]; rfl
theorem atI_neg {α : Type} {xs : List α} {i : Int} (h : i < 0) (h2 : -(xs.length : Int) ≤ i) : atI xs i = xs[(i + xs.length).toNat]? := by
  unfold L2.atI ixN
  rw [if_neg (by omega), if_pos h2]; rfl
/-- the i-th item, i from 0 on -/
def nth {α : Type} [Inhabited α] (xs : List α) (i : Int) : α := xs[i.toNat]?.getD default
theorem nth_eq {α : Type} [Inhabited α] {xs : List α} {i : Int} (h : 0 ≤ i) (h2 : i < xs.length) : xs[i.toNat]? = some (nth xs i) := by
  unfold nth
  rw [List.getElem?_eq_getElem (by omega)]; rfl
theorem nth_mem {α : Type} [Inhabited α] {xs : List α} {i : Int} (h : 0 ≤ i) (h2 : i < xs.length) : nth xs i ∈ xs := List.mem_of_getElem? (nth_eq h h2)
@[simp] theorem nth_map {α β : Type} [Inhabited α] [Inhabited β] {xs : List α} {f : α → β} {i : Int} (h : 0 ≤ i) (h2 : i < xs.length) : nth (xs.map f) i = f (nth xs i) := by
  have e := nth_eq h h2
  unfold nth at e ⊢
  rw [List.getElem?_map, e]; rfl
@[simp] theorem itemD_map {α : Type} [Inhabited α] {f : α → PyData} {xs : List α} {i : Int} (h : 0 ≤ i) (h2 : i < xs.length) : itemD (.list (xs.map f)) (.int i) = some (f (nth xs i)) := by
  show atI _ _ = _
  rw [atI_pos h, List.getElem?_map, nth_eq h h2]; rfl
@[simp] theorem itemD_mapT {α : Type} [Inhabited α] {f : α → PyData} {xs : List α} {i : Int} (h : 0 ≤ i) (h2 : i < xs.length) : itemD (.tuple (xs.map f)) (.int i) = some (f (nth xs i)) := by
  show atI _ _ = _
  rw [atI_pos h, List.getElem?_map, nth_eq h h2]; rfl
@[simp low] theorem itemD_list {xs : List PyData} {i : Int} (h : 0 ≤ i) (h2 : i < xs.length) : itemD (.list xs) (.int i) = some (nth xs i) := by
  show atI _ _ = _
  rw [atI_pos h, nth_eq h h2]
@[simp low] theorem itemD_tuple {xs : List PyData} {i : Int} (h : 0 ≤ i) (h2 : i < xs.length) : itemD (.tuple xs) (.int i) = some (nth xs i) := by
  show atI _ _ = _
  rw [atI_pos h, nth_eq h h2]
theorem ext_nth {α : Type} [Inhabited α] {xs ys : List α} (hl : xs.length = ys.length) (h : ∀ i : Int, 0 ≤ i → i < xs.length → nth xs i = nth ys i) : xs = ys := by
  apply List.ext_getElem? 
  intro i
  by_cases hi : i < xs.length
  · have e1 := nth_eq (xs := xs) (i := (i : Int)) (by omega) (by omega)
    have e2 := nth_eq (xs := ys) (i := (i : Int)) (by omega) (by omega)
    rw [Int.toNat_natCast] at e1 e2
    rw [e1, e2, h i (by omega) (by omega)]
  · rw [List.getElem?_eq_none (by omega), List.getElem?_eq_none (by omega)]
/-- of displays, by a number that stands there -/
@[simp] theorem itemD_0 (x : PyData) (xs : List PyData) : itemD (.tuple (x :: xs)) (.int 0) = some x := by show atI _ _ = _; rw [atI_pos (by omega)]; rfl
@[simp] theorem itemD_1 (x y : PyData) (xs : List PyData) : itemD (.tuple (x :: y :: xs)) (.int 1) = some y := by show atI _ _ = _; rw [atI_pos (by omega)]; rfl
@[simp] theorem itemD_2 (x y z : PyData) (xs : List PyData) : itemD (.tuple (x :: y :: z :: xs)) (.int 2) = some z := by show atI _ _ = _; rw [atI_pos (by omega)]; rfl
@[simp] theorem itemD_3 (x y z w : PyData) (xs : List PyData) : itemD (.tuple (x :: y :: z :: w :: xs)) (.int 3) = some w := by show atI _ _ = _; rw [atI_pos (by omega)]; rfl
@[simp] theorem itemD_0L (x : PyData) (xs : List PyData) : itemD (.list (x :: xs)) (.int 0) = some x := by show atI _ _ = _; rw [atI_pos (by omega)]; rfl
@[simp] theorem itemD_1L (x y : PyData) (xs : List PyData) : itemD (.list (x :: y :: xs)) (.int 1) = some y := by show atI _ _ = _; rw [atI_pos (by omega)]; rfl
@[simp] theorem gConss_cons (g : PyData → Sls → Option Sls) (gs : List PyData → Sls → Option Sls) (x : PyData) (r : List PyData) (env : Sls) : gConss g gs (x :: r) env = (g x env).bind (gs r) := by
  unfold gConss
  dsimp only
  cases g x env <;> rfl
@[simp] theorem gTupl_eq (n : Nat) (gs : List PyData → Sls → Option Sls) (xs : List PyData) (env : Sls) : gTupl n gs (.tuple xs) env = if xs.length = n then gs xs env else none := id rfl
@[simp] theorem gAsg_eq (g : PyData → Sls → Option Sls) (ms : List Nat) (d : PyData) (env : Sls) : gAsg g ms (some d) env = (g d (settle ms d env)).bind fun e => some (.nx e) := by
  unfold gAsg
  dsimp only
  cases g d (settle ms d env) <;> rfl

/-! ### comprehensions -/
theorem compL_map {α : Type} {h : PyData → Option (Option PyData)} (f : α → PyData) (o : α → Option PyData) : ∀ (xs : List α), (∀ x ∈ xs, h (f x) = some (o x)) → compL h (xs.map f) = some (xs.filterMap o)
  | [], _ => rfl
  | x :: r, hx => by
    rw [List.map_cons, compL, hx x (by simp), compL_map f o r fun y hy => hx y (by simp [hy])]
    cases e : o x with
    | none => rw [List.filterMap_cons_none e]
    | some z => rw [List.filterMap_cons_some e]
theorem lcV_if {xs : List PyData} {mi tl : List Nat} {gt : PyData → Sls → Option Sls} {ft : Sls → Option Bool} {fe : Sls → Option PyData} {env : Sls} (h : xs.length ≤ LIM) : lcV (some xs) mi tl gt ft fe env = compL (lcStep gt ft fe (wipeE tl (freeze mi env))) xs := if_pos h
/-- [f x for x in xs if p x] -/
theorem lcV_map {α : Type} {mi tl : List Nat} {gt : PyData → Sls → Option Sls} {ft : Sls → Option Bool} {fe : Sls → Option PyData} {env : Sls} {f : α → PyData} {xs : List α} (p : α → Bool) (g : α → PyData) (hl : xs.length ≤ LIM)
    (h : ∀ x ∈ xs, lcStep gt ft fe (wipeE tl (freeze mi env)) (f x) = some (if p x = true then some (g x) else none)) : lcV (some (xs.map f)) mi tl gt ft fe env = some ((xs.filter p).map g) := by
  rw [lcV_if (by simpa using hl), compL_map f (fun x => if p x = true then some (g x) else none) xs h]
  congr 1
  clear h hl
  induction xs with
  | nil => rfl
  | cons x r ih => by_cases hp : p x = true <;> simp [List.filterMap_cons, List.filter_cons, hp, ih]
theorem lcV_all {α : Type} {mi tl : List Nat} {gt : PyData → Sls → Option Sls} {ft : Sls → Option Bool} {fe : Sls → Option PyData} {env : Sls} {f : α → PyData} {xs : List α} (g : α → PyData) (hl : xs.length ≤ LIM)
    (h : ∀ x ∈ xs, lcStep gt ft fe (wipeE tl (freeze mi env)) (f x) = some (some (g x))) : lcV (some (xs.map f)) mi tl gt ft fe env = some (xs.map g) := by
  rw [lcV_map (fun _ => true) g hl (by simpa using h)]
  congr 2
  exact List.filter_eq_self.mpr fun _ _ => rfl
@[simp] theorem lcStep_def (gt : PyData → Sls → Option Sls) (ft : Sls → Option Bool) (fe : Sls → Option PyData) (env : Sls) (d : PyData) :
    lcStep gt ft fe env d = (gt d env).bind fun env1 => (ft env1).bind fun b => if b = true then (fe env1).bind fun y => some (some y) else some none := by
  unfold lcStep
  cases gt d env with
  | none => rfl
  | some env1 =>
    dsimp only [Option.bind]
    cases ft env1 with
    | none => rfl
    | some b => cases b <;> cases fe env1 <;> rfl

/-! ### statements: what they reach -/
def Wp (o : Option Out) (Q : Out → Prop) : Prop := ∃ x, o = some x ∧ Q x
def seqQ (k : Sls → Option Out) (Q : Out → Prop) : Out → Prop
  | .nx e => Wp (k e) Q
  | o => Q o
def bodyQ (I : Sls → Prop) (Q : Out → Prop) : Out → Prop
  | .nx e => I e
  | .ct e => I e
  | .bk e => Q (.nx e)
  | .rt d => Q (.rt d)
@[simp] theorem Wp_some (o : Out) (Q : Out → Prop) : Wp (some o) Q ↔ Q o := ⟨fun ⟨x, e, q⟩ => by cases e; exact q, fun q => ⟨_, rfl, q⟩⟩
@[simp] theorem Wp_seq (a : Option Out) (k : Sls → Option Out) (Q : Out → Prop) : Wp (seqO a k) Q ↔ Wp a (seqQ k Q) := by
  constructor
  · rintro ⟨x, e, q⟩
    unfold seqO at e
    split at e
    · exact ⟨_, rfl, ⟨x, e, q⟩⟩
    · cases e
      rename_i hne
      refine ⟨_, rfl, ?_⟩
      cases x with
      | nx e => exact absurd rfl (hne e)
      | _ => exact q
    · cases e
  · rintro ⟨x, rfl, q⟩
    cases x with
    | nx e => exact q
    | rt d => exact ⟨_, rfl, q⟩
    | bk d => exact ⟨_, rfl, q⟩
    | ct d => exact ⟨_, rfl, q⟩
@[simp] theorem seqQ_nx (k : Sls → Option Out) (Q : Out → Prop) (e : Sls) : seqQ k Q (.nx e) ↔ Wp (k e) Q := Iff.rfl
@[simp] theorem seqQ_rt (k : Sls → Option Out) (Q : Out → Prop) (e : PyData) : seqQ k Q (.rt e) ↔ Q (.rt e) := Iff.rfl
@[simp] theorem seqQ_bk (k : Sls → Option Out) (Q : Out → Prop) (e : Sls) : seqQ k Q (.bk e) ↔ Q (.bk e) := Iff.rfl
@[simp] theorem seqQ_ct (k : Sls → Option Out) (Q : Out → Prop) (e : Sls) : seqQ k Q (.ct e) ↔ Q (.ct e) := Iff.rfl
@[simp] theorem bodyQ_nx (I : Sls → Prop) (Q : Out → Prop) (e : Sls) : bodyQ I Q (.nx e) ↔ I e := Iff.rfl
@[simp] theorem bodyQ_ct (I : Sls → Prop) (Q : Out → Prop) (e : Sls) : bodyQ I Q (.ct e) ↔ I e := Iff.rfl
@[simp] theorem bodyQ_bk (I : Sls → Prop) (Q : Out → Prop) (e : Sls) : bodyQ I Q (.bk e) ↔ Q (.nx e) := Iff.rfl
@[simp] theorem bodyQ_rt (I : Sls → Prop) (Q : Out → Prop) (e : PyData) : bodyQ I Q (.rt e) ↔ Q (.rt e) := Iff.rfl
def retQ (d : PyData) (o : Out) : Prop := outV (some o) = some d
@[simp] theorem retQ_rt (d e : PyData) : retQ d (.rt e) ↔ e = d := by simp [retQ]
@[simp] theorem retQ_nx (d : PyData) (e : Sls) : retQ d (.nx e) ↔ .none = d := by simp [retQ]
theorem out_of {o : Option Out} {d : PyData} (h : Wp o (retQ d)) : outV o = some d := by
  obtain ⟨x, rfl, q⟩ := h; exact q
/-- a result of a kind: R of what is given -/
def giveQ (R : PyData → Prop) (o : Out) : Prop := ∃ d, outV (some o) = some d ∧ R d
@[simp] theorem giveQ_rt (R : PyData → Prop) (e : PyData) : giveQ R (.rt e) ↔ R e := by simp [giveQ]
theorem give_of {o : Option Out} {R : PyData → Prop} (h : Wp o (giveQ R)) : ∃ d, outV o = some d ∧ R d := by
  obtain ⟨x, rfl, q⟩ := h; exact q
@[simp] theorem Wp_ite (p : Prop) [Decidable p] (a b : Option Out) (Q : Out → Prop) : Wp (if p then a else b) Q ↔ (p → Wp a Q) ∧ (¬ p → Wp b Q) := by
  by_cases h : p <;> simp [h]
theorem wp_for {gt : PyData → Sls → Option Sls} {body : Sls → Option Out} {Q : Out → Prop} (I : List PyData → Sls → Prop) : ∀ {xs : List PyData} {env : Sls}, I xs env →
    (∀ x r e, I (x :: r) e → ∃ e1, gt x e = some e1 ∧ Wp (body e1) (bodyQ (I r) Q)) → (∀ e, I [] e → Q (.nx e)) → Wp (forL gt body xs env) Q
  | [], env, h0, _, hq => ⟨_, rfl, hq env h0⟩
  | x :: r, env, h0, hs, hq => by
    obtain ⟨e1, eg, o, eo, q⟩ := hs x r env h0
    rw [forL, eg]
    dsimp only
    rw [eo]
    cases o with
    | nx e => exact wp_for I q hs hq
    | ct e => exact wp_for I q hs hq
    | bk e => exact ⟨_, rfl, q⟩
    | rt d => exact ⟨_, rfl, q⟩
theorem Wp_forL_nil (gt : PyData → Sls → Option Sls) (body : Sls → Option Out) (env : Sls) (Q : Out → Prop) : Wp (forL gt body [] env) Q ↔ Q (.nx env) := by rw [forL]; simp
theorem Wp_forL_cons (gt : PyData → Sls → Option Sls) (body : Sls → Option Out) (x : PyData) (r : List PyData) (env : Sls) (Q : Out → Prop) :
    Wp (forL gt body (x :: r) env) Q ↔ Wp ((gt x env).bind body) (bodyQ (fun e => Wp (forL gt body r e) Q) Q) := by
  rw [forL]
  cases gt x env with
  | none => simp [Wp]
  | some e1 =>
    show Wp (match body e1 with | some (.nx e) => forL gt body r e | some (.ct e) => forL gt body r e | some (.bk e) => some (.nx e) | some (.rt v) => some (.rt v) | none => none) Q ↔ Wp (body e1) _
    cases body e1 with
    | none => simp [Wp]
    | some o => cases o <;> simp
/-- over f x for x in xs; I of what is done and what is left -/
theorem wp_map {α : Type} {f : α → PyData} {xs : List α} {env : Sls} {gt : PyData → Sls → Option Sls} {body : Sls → Option Out} {Q : Out → Prop} (I : List α → List α → Sls → Prop) (h0 : I [] xs env)
    (hs : ∀ dn x r e, xs = dn ++ x :: r → I dn (x :: r) e → ∃ e1, gt (f x) e = some e1 ∧ Wp (body e1) (bodyQ (I (dn ++ [x]) r) Q)) (hq : ∀ e, I xs [] e → Q (.nx e)) : Wp (forL gt body (xs.map f) env) Q := by
  refine wp_for (fun l e => ∃ dn r, xs = dn ++ r ∧ l = r.map f ∧ I dn r e) ⟨[], xs, rfl, rfl, h0⟩ ?_ ?_
  · rintro x r e ⟨dn, r', hx, hl, hI⟩
    cases r' with
    | nil => cases hl
    | cons y r' =>
      simp only [List.map_cons, List.cons.injEq] at hl
      obtain ⟨rfl, rfl⟩ := hl
      obtain ⟨e1, eg, o, eo, q⟩ := hs dn y r' e hx hI
      refine ⟨e1, eg, o, eo, ?_⟩
      cases o with
      | nx e => exact ⟨dn ++ [y], r', by simp [hx], rfl, q⟩
      | ct e => exact ⟨dn ++ [y], r', by simp [hx], rfl, q⟩
      | bk e => exact q
      | rt d => exact q
  · rintro e ⟨dn, r', hx, hl, hI⟩
    cases r' with
    | nil => rw [List.append_nil] at hx; subst hx; exact hq e hI
    | cons y r' => cases hl
/-- over range(a, b) -/
theorem wp_range {a b : Int} {env : Sls} {gt : PyData → Sls → Option Sls} {body : Sls → Option Out} {Q : Out → Prop} (I : Int → Sls → Prop) (h0 : I a env)
    (hs : ∀ i e, a ≤ i → i < b → I i e → ∃ e1, gt (.int i) e = some e1 ∧ Wp (body e1) (bodyQ (I (i + 1)) Q)) (hq : ∀ e, I (max a b) e → Q (.nx e)) : Wp (forL gt body ((rg a b).map .int) env) Q := by
  refine wp_for (fun l e => ∃ i, a ≤ i ∧ i ≤ max a b ∧ l = (rg i b).map .int ∧ I i e) ⟨a, by omega, by omega, rfl, h0⟩ ?_ ?_
  · rintro x r e ⟨i, h1, h2, hl, hI⟩
    by_cases hb : i < b
    · rw [rg_cons hb, List.map_cons] at hl
      simp only [List.cons.injEq] at hl
      obtain ⟨rfl, rfl⟩ := hl
      obtain ⟨e1, eg, o, eo, q⟩ := hs i e h1 hb hI
      refine ⟨e1, eg, o, eo, ?_⟩
      cases o with
      | nx e => exact ⟨i + 1, by omega, by omega, rfl, q⟩
      | ct e => exact ⟨i + 1, by omega, by omega, rfl, q⟩
      | bk e => exact q
      | rt d => exact q
    · rw [rg_eq_nil (by omega)] at hl; cases hl
  · rintro e ⟨i, h1, h2, hl, hI⟩
    by_cases hb : i < b
    · rw [rg_cons hb] at hl; cases hl
    · have : i = max a b := by omega
      exact hq e (this ▸ hI)
@[simp] theorem forO_some (xs : List PyData) (mi : List Nat) (gt : PyData → Sls → Option Sls) (body : Sls → Option Out) (env : Sls) : forO (some xs) mi gt body env = forL gt body xs (freeze mi env) := id rfl
theorem wp_while {c : Sls → Option Bool} {body : Sls → Option Out} {Q : Out → Prop} (I : Nat → Sls → Prop)
    (hs : ∀ n e, I n e → ∃ b, c e = some b ∧ (b = true → Wp (body e) (bodyQ (fun e' => ∃ m, m < n ∧ I m e') Q)) ∧ (b = false → Q (.nx e))) : ∀ {N n : Nat} {env : Sls}, I n env → n < N → Wp (whileN c body N env) Q
  | 0, _, _, _, h => absurd h (by omega)
  | N + 1, n, env, hI, hn => by
    obtain ⟨b, ec, ht, hf⟩ := hs n env hI
    rw [whileN, ec]
    cases b with
    | false => exact ⟨_, rfl, hf rfl⟩
    | true =>
      dsimp only
      obtain ⟨o, eo, q⟩ := ht rfl
      rw [eo]
      cases o with
      | nx e => obtain ⟨m, hm, hI'⟩ := q; exact wp_while I hs hI' (by omega)
      | ct e => obtain ⟨m, hm, hI'⟩ := q; exact wp_while I hs hI' (by omega)
      | bk e => exact ⟨_, rfl, q⟩
      | rt d => exact ⟨_, rfl, q⟩
theorem FUEL_eq : FUEL = 1000000 := rfl
/-- the slot i changed by f -/
def atE (f : Sl → Option Sl) : Nat → Sls → Option Sls
  | 0, x :: r => (match f x with | some y => some (y :: r) | none => none)
  | n + 1, x :: r => (match atE f n r with | some r' => some (x :: r') | none => none)
  | _, [] => none
theorem atE_eq {f : Sl → Option Sl} : ∀ {i : Nat} {env : Sls}, atE f i env = match env[i]? with | some x => (match f x with | some y => some (env.set i y) | none => none) | none => none
  | 0, [] => rfl
  | 0, x :: r => by
    rw [atE, List.getElem?_cons_zero]
    dsimp only
    cases f x <;> rfl
  | n + 1, [] => rfl
  | n + 1, x :: r => by
    rw [atE, atE_eq, List.getElem?_cons_succ]
    cases r[n]? with
    | none => rfl
    | some y =>
      dsimp only
      cases f y <;> rfl
@[simp] theorem atE_0 {f : Sl → Option Sl} {x : Sl} {r : Sls} : atE f 0 (x :: r) = match f x with | some y => some (y :: r) | none => none := id rfl
@[simp] theorem atE_s {f : Sl → Option Sl} {n : Nat} {x : Sl} {r : Sls} : atE f (n + 1) (x :: r) = match atE f n r with | some r' => some (x :: r') | none => none := id rfl
def nxO : Option Sls → Option Out
  | some e => some (.nx e)
  | none => none
@[simp] theorem nxO_some (e : Sls) : nxO (some e) = some (.nx e) := id rfl
def appS (d : PyData) : Sl → Option Sl
  | .ow ds => if ds.length < LIM then some (.ow (ds ++ [d])) else none
  | _ => none
@[simp] theorem appS_ow {d : PyData} {ds : List PyData} (h : ds.length < LIM) : appS d (.ow ds) = some (.ow (ds ++ [d])) := if_pos h
@[simp] theorem appO_some (i : Nat) (ms : List Nat) (d : PyData) (env : Sls) : appO i ms (some d) env = nxO (atE (appS d) i (settle ms d env)) := by
  rw [atE_eq]
  unfold appO
  dsimp only
  cases (settle ms d env)[i]? with
  | none => rfl
  | some x =>
    cases x with
    | ow ds =>
      dsimp only [appS]
      split <;> rfl
    | _ => rfl
noncomputable def setS (j : Int) (d : PyData) : Sl → Option Sl := setK (.int j) d
@[simp] theorem setS_ow {j : Int} {d : PyData} {ds : List PyData} (h : 0 ≤ j) (h2 : j < ds.length) : setS j d (.ow ds) = some (.ow (ds.set j.toNat d)) := by
  unfold setS setK ixN
  dsimp only
  rw [if_pos h, if_pos h2]
theorem setI_all (i : Nat) (ms : List Nat) (d k : PyData) (env : Sls) : setI i ms (some d) (some k) env = nxO (atE (setK k d) i (settle ms d env)) := by
  rw [atE_eq]
  unfold setI
  dsimp only
  cases (settle ms d env)[i]? with
  | none => rfl
  | some x =>
    dsimp only
    cases setK k d x <;> rfl
@[simp] theorem setI_some (i : Nat) (ms : List Nat) (d : PyData) (j : Int) (env : Sls) : setI i ms (some d) (some (.int j)) env = nxO (atE (setS j d) i (settle ms d env)) := setI_all i ms d _ env
@[simp] theorem setI_str (i : Nat) (ms : List Nat) (d : PyData) (j : Str) (env : Sls) : setI i ms (some d) (some (.str j)) env = nxO (atE (setK (.str j) d) i (settle ms d env)) := setI_all i ms d _ env
@[simp] theorem setI_tup (i : Nat) (ms : List Nat) (d : PyData) (j : List PyData) (env : Sls) : setI i ms (some d) (some (.tuple j)) env = nxO (atE (setK (.tuple j) d) i (settle ms d env)) := setI_all i ms d _ env
@[simp] theorem setS_od {j : Int} {d : PyData} {kvs : List (PyData × PyData)} (h : okK kvs (.int j) = true) (h2 : kvs.length < LIM) : setS j d (.od kvs) = some (.od (putD kvs (.int j) d)) := if_pos ⟨h, h2⟩
@[simp] theorem setK_od {k : PyData} {d : PyData} {kvs : List (PyData × PyData)} (h : okK kvs k = true) (h2 : kvs.length < LIM) : setK k d (.od kvs) = some (.od (putD kvs k d)) := if_pos ⟨h, h2⟩
def vaAt (i : Nat) (env : Sls) : Option PyData := match env[i]? with
  | some (.va d) => some d
  | _ => none
@[simp] theorem vaAt_0 (d : PyData) (r : Sls) : vaAt 0 (.va d :: r) = some d := id rfl
@[simp] theorem vaAt_s (n : Nat) (x : Sl) (r : Sls) : vaAt (n + 1) (x :: r) = vaAt n r := by unfold vaAt; rw [List.getElem?_cons_succ]
@[simp] theorem augO_some (F : PyData → PyData → Option PyData) (i : Nat) (ms : List Nat) (e : PyData) (env : Sls) : augO F i ms (some e) env = setO i ms (bind1 (fun d => F d e) (vaAt i env)) env := by
  unfold augO vaAt
  cases env[i]? with
  | none => rfl
  | some x =>
    cases x with
    | va d =>
      dsimp only [bind1]
      cases F d e <;> rfl
    | _ => rfl
/-- a def's meaning, by its text -/
def fnV {S : List (Str × Nat)} {nm : List (Str × NameKind)} {T : Tab} {s0 : Stmt} {rest : List Stmt} {g : Sls → Option Out} {c : Bool} (st : Stmt) (_ : defBody st = s0 :: rest) (_ : PurSs S nm T (s0 :: rest) g c) : Fn := fun ds => outV (g (startE S.length ds))
end Pu

set_option Elab.async false
set_option linter.all false
set_option autoImplicit false
set_option maxRecDepth 100000
set_option maxHeartbeats 4000000
namespace Pu
open PySem PySem.Spec PyProof.Rows L2 GxR

/-! ### a text's defs, one behind the other -/
/-- what the top has written of a def -/
def DefAt (K : PySem.W.Frag) (x : Str) (st : Stmt) : Prop :=
  ∃ (f : Addr) (od an : Option Addr) (osl : Array (Option Value)) (oc kV doc pm cdv ct : Value), PySem.W.nsIn K mainGlobals x = some (some (.ref f)) ∧
    K.lookup f = some ⟨oc, od, .func (PySem.W.fnOf x x (defArgs st) (defBody st) (defScope st) .none kV doc pm an cdv ct), osl⟩ ∧ PySem.W.codeIn K cdv x = true ∧ PySem.W.keepIn K (.ref f) = true
theorem defAt_mk {K : PySem.W.Frag} {x : Str} {st : Stmt} {f : Addr} {od an : Option Addr} {osl : Array (Option Value)} {oc kV doc pm cdv ct : Value} (a : PySem.W.nsIn K mainGlobals x = some (some (.ref f)))
    (l : K.lookup f = some ⟨oc, od, .func (PySem.W.fnOf x x (defArgs st) (defBody st) (defScope st) .none kV doc pm an cdv ct), osl⟩) (c : PySem.W.codeIn K cdv x = true) (k : PySem.W.keepIn K (.ref f) = true) : DefAt K x st :=
  ⟨f, od, an, osl, oc, kV, doc, pm, cdv, ct, a, l, c, k⟩
def BindOk (x : Str) (st : Stmt) (ps : List Str) : Prop := ∀ (kV doc pm : Value) (an : Option Addr) (cdv ct : Value) (us : List Value), us.length = ps.length →
  bindArgs (PySem.W.fnOf x x (defArgs st) (defBody st) (defScope st) .none kV doc pm an cdv ct) ⟨us, []⟩ = pure (ps.zip us)
structure LinkD (K : PySem.W.Frag) (mg : Str → Option Value) (x : Str) (st : Stmt) (ps : List Str) : Prop where
  ex : ∃ (f : Addr) (fd : FuncData), Fun K x x st f fd ∧ mg x = some (.ref f) ∧ PySem.W.keepIn K (.ref f) = true ∧ Binds K fd ps []
theorem DefAt.link {K : PySem.W.Frag} {mg : Str → Option Value} {x : Str} {st : Stmt} {ps : List Str} {h : Heap} (D : DefAt K x st) (X : K.In h) (G : h.Ns mainGlobals mg) (hb : BindOk x st ps) : LinkD K mg x st ps := by
  obtain ⟨f, od, an, osl, oc, kV, doc, pm, cdv, ct, a, l, c, k⟩ := D
  have F := fun_mk (st := st) l c k
  exact ⟨f, _, F, PySem.W.mg_of X G a, k, F.binds hb⟩
def OkD (P : Program) (w : PySem.World) (K : PySem.W.Frag) (mg : Str → Option Value) (base : Heap) (TB : Addr → Prop) (k : Nat) (x : Str) (n : Nat) (F : Fn) : Prop :=
  ∃ (f : Addr) (fd : FuncData) (ps : List Str), FnOk P w K mg base CX0 k f fd ps (spF K TB n F) ∧ mg x = some (.ref f) ∧ PySem.W.keepIn K (.ref f) = true ∧ Binds K fd ps []
section
variable {P : Program} {w : PySem.World} {K : PySem.W.Frag} {mg : Str → Option Value} {base : Heap} {TB : Addr → Prop} {T : Tab} {k : Nat} {x : Str} {st : Stmt} {ps : List Str} {s0 : Stmt} {rest : List Stmt} {g : Sls → Option Out} {c : Bool} {S : List (Str × Nat)}
theorem OkD.mono {j : Nat} {n : Nat} {F : Fn} (h : OkD P w K mg base TB j x n F) (hj : j ≤ k) : OkD P w K mg base TB k x n F := by
  obtain ⟨f, fd, ps, h1, h2⟩ := h
  exact ⟨f, fd, ps, h1.mono hj, h2⟩
theorem World.up {j : Nat} (Wd : World P w K mg base TB T j) (hj : j ≤ k) : World P w K mg base TB T k := ⟨Wd.blt, Wd.mat, fun q hq => OkD.mono (Wd.has q hq) hj⟩
def Tab.put (T : Tab) (e : Str × Nat × Fn) : Tab := { T with fs := e :: T.fs }
theorem okD_of (L : LinkD K mg x st ps) (Wd : World P w K mg base TB T k) (hb : defBody st = s0 :: rest) (hS : PurSs S (defScope st).names T (s0 :: rest) g c) (hc : c = true) (hd : defC S ps (defScope st) = true) (hge : T.ge = false := by rfl) :
    OkD P w K mg base TB (k + 1) x ps.length (fnV st hb hS) := by
  obtain ⟨f, fd, Fu, h1, h2, h3⟩ := L.ex
  exact ⟨f, fd, ps, fn_ok Wd Fu S ps (fnV st hb hS) hb hS hc hd hge fun ds d _ h => h, h1, h2, h3⟩
theorem World.step (Wd : World P w K mg base TB T k) {n : Nat} {F : Fn} {fs : List (Str × Nat × Fn)} {bl : List Str} {ma : List (Str × String)} {ge : Bool} (ht : T = ⟨fs, bl, ma, ge⟩) (h : OkD P w K mg base TB (k + 1) x n F) : World P w K mg base TB ⟨(x, n, F) :: fs, bl, ma, ge⟩ (k + 1) := by
  subst ht
  have W2 := World.up Wd (Nat.le_succ k)
  refine ⟨W2.blt, W2.mat, fun q hq => ?_⟩
  rcases List.mem_cons.mp hq with rfl | hq
  · exact h
  · exact W2.has q hq
/-- a def that calls itself: F n, of the n-th depth -/
def recV (G : Fn → Fn) : Nat → Fn
  | 0 => fun _ => none
  | n + 1 => G (recV G n)
theorem recV_succ (G : Fn → Fn) (n : Nat) : recV G (n + 1) = G (recV G n) := rfl
theorem okD_zero (L : LinkD K mg x st ps) : OkD P w K mg base TB k x ps.length (fun _ => none) := by
  obtain ⟨f, fd, Fu, h1, h2, h3⟩ := L.ex
  refine ⟨f, fd, ps, ⟨fun vs H Q E h => ?_, fun A outer s H args us vs Q E hr he hb hv hs => ?_⟩, h1, h2, h3⟩
  · obtain ⟨A, ds, d, _, _, _, _, h, _⟩ := h; cases h
  · obtain ⟨A, ds, d, _, _, _, _, h, _⟩ := hs; cases h
theorem okD_rec {fs : List (Str × Nat × Fn)} {bl : List Str} {ma : List (Str × String)} (L : LinkD K mg x st ps) (Wd : World P w K mg base TB ⟨fs, bl, ma, false⟩ k) (hb : defBody st = s0 :: rest) {G : Fn → Sls → Option Out}
    (hS : ∀ R : Fn, PurSs S (defScope st).names ⟨(x, ps.length, R) :: fs, bl, ma, false⟩ (s0 :: rest) (G R) c) (hc : c = true) (hd : defC S ps (defScope st) = true) :
    ∀ n : Nat, OkD P w K mg base TB (k + n) x ps.length (recV (fun R => fnV st hb (hS R)) n)
  | 0 => okD_zero L
  | n + 1 => by
    have ih := okD_rec (Wd := Wd) (L := L) hb hS hc hd n
    have W2 : World P w K mg base TB ⟨(x, ps.length, recV (fun R => fnV st hb (hS R)) n) :: fs, bl, ma, false⟩ (k + n) := by
      have W3 := World.up Wd (Nat.le_add_right k n)
      refine ⟨W3.blt, W3.mat, fun q hq => ?_⟩
      rcases List.mem_cons.mp hq with rfl | hq
      · exact ih
      · exact W3.has q hq
    exact okD_of L W2 hb (hS _) hc hd
theorem World.stepN {j : Nat} {n : Nat} {F : Fn} {fs : List (Str × Nat × Fn)} {bl : List Str} {ma : List (Str × String)} {ge : Bool} (Wd : World P w K mg base TB ⟨fs, bl, ma, ge⟩ k) (h : OkD P w K mg base TB j x n F) (hj : k ≤ j) : World P w K mg base TB ⟨(x, n, F) :: fs, bl, ma, ge⟩ j := by
  have W2 := World.up Wd hj
  refine ⟨W2.blt, W2.mat, fun q hq => ?_⟩
  rcases List.mem_cons.mp hq with rfl | hq
  · exact h
  · exact W2.has q hq
end
/-- the law's own def: its object once, then its promise over every base -/
theorem law_end {P : Program} {w : PySem.World} {K : PySem.W.Frag} {h : Heap} {mg : Str → Option Value} {fa : Addr} {st : Stmt} {k : Nat} {T : Tab} {s0 : Stmt} {rest : List Stmt} {g : Sls → Option Out} {c : Bool} {S : List (Str × Nat)} (hfa : mg "law" = some (.ref fa)) (D : DefAt K "law" st) (X : K.In h) (G : h.Ns mainGlobals mg)
    (hbt : ∀ (kV doc pm : Value) (an : Option Addr) (cdv ct : Value) (s : Shared) (u : Value), BindsTo s (PySem.W.fnOf "law" "law" (defArgs st) (defBody st) (defScope st) .none kV doc pm an cdv ct) ⟨[u], []⟩ [("script", u)])
    (hb : defBody st = s0 :: rest) (hS : PurSs S (defScope st).names T (s0 :: rest) g c) (hc : c = true) (hd : defC S ["script"] (defScope st) = true) (Wd : ∀ base : Heap, World P w K mg base (fun _ => False) T k) (hge : T.ge = false := by rfl) :
    ∃ fd : FuncData, (∀ (s : Shared) (u : Value), BindsTo s fd ⟨[u], []⟩ [("script", u)]) ∧ ∀ base : Heap, K.In base → base.Ns mainGlobals mg → FnOk P w K mg base CX0 (k + 1) fa fd ["script"] (spF K (fun _ => False) 1 (fnV st hb hS)) := by
  obtain ⟨f, od, an, osl, oc, kV, doc, pm, cdv, ct, a, l, e, kp⟩ := D
  have e2 := hfa.symm.trans (PySem.W.mg_of X G a)
  cases e2
  exact ⟨_, fun s u => hbt kV doc pm an cdv ct s u, fun base _ _ => fn_ok (Wd base) (fun_mk l e kp) S ["script"] (fnV st hb hS) hb hS hc hd hge fun ds d _ h => h⟩
/-- a text's own instance, by its letters -/
def mkB {S : List (Str × Nat)} {nm : List (Str × NameKind)} {T : Tab} {s0 : Stmt} {rest : List Stmt} {g : Sls → Option Out} {c : Bool} (st : Stmt) (_ : defBody st = s0 :: rest) [h : PurSs S nm T (s0 :: rest) g c] : PurSs S nm T (s0 :: rest) g c := h
/-- the law's def at the script -/
theorem script_rep {K : PySem.W.Frag} {H : Hp} {a : Addr} {ns : List Int} (hO : Only H) (h : SqL K H a (ns.map V.int)) : Reps K H (fun _ => True) [.list (ns.map .int)] [.ref a] := by
  refine .cons (.lst ?_ (Reps.ints ns)) .nil
  rcases h with h | h
  · exact .inl ⟨trivial, h⟩
  · exact .inr (.inr h)
theorem script_end {K : PySem.W.Frag} {F : Fn} {H : Hp} {a : Addr} {ns : List Int} (hO : Only H) (h : SqL K H a (ns.map V.int)) (hF : F [.list (ns.map .int)] = some (.bool true)) :
    spF K (fun _ => False) 1 F [.ref a] H (fun v _ => v = .bl true) fun _ _ _ => False := by
  refine ⟨fun _ => True, [.list (ns.map .int)], .bool true, fun _ _ => trivial, fun _ h => h.elim, script_rep hO h, rfl, hF, fun x H' _ r => ?_⟩
  cases r
  rfl
end Pu

set_option Elab.async false
set_option linter.all false
set_option autoImplicit false
set_option maxRecDepth 100000
set_option maxHeartbeats 4000000
namespace Pu
open PySem PySem.Spec PyProof.Rows L2 GxR

/-! ### plain lemmas: ranges -/
theorem rg_append {a m b : Int} (h : a ≤ m) (h2 : m ≤ b) : rg a b = rg a m ++ rg m b := by
  generalize hk : (m - a).toNat = k
  induction k generalizing a with
  | zero =>
    have : a = m := by omega
    subst this
    rw [rg_eq_nil (Int.le_refl a)]; rfl
  | succ k ih =>
    rw [rg_cons (show a < b by omega), rg_cons (show a < m by omega), ih (a := a + 1) (by omega) (by omega)]; rfl
theorem rg_filter_first {a b q : Int} {p : Int → Bool} (h : a ≤ q) (h2 : q < b) (hq : p q = true) (hn : ∀ u, a ≤ u → u < q → p u = false) : (rg a b).filter p = q :: (rg (q + 1) b).filter p := by
  rw [rg_append h (Int.le_of_lt h2), List.filter_append, List.filter_eq_nil_iff.mpr (fun u hu => by
    rw [mem_rg] at hu
    rw [hn u hu.1 hu.2]; decide), rg_cons h2, List.filter_cons, hq]
  rfl
theorem rg_filter_one {a b q : Int} {p : Int → Bool} (h : a ≤ q) (h2 : q < b) (hq : p q = true) (hn : ∀ u, a ≤ u → u < b → p u = true → u = q) : (rg a b).filter p = [q] := by
  rw [rg_filter_first h h2 hq, List.filter_eq_nil_iff.mpr (fun u hu => ?_)]
  · rw [mem_rg] at hu
    intro z
    have := hn u (by omega) hu.2 z
    omega
  · intro u h3 h4
    cases e : p u with
    | false => rfl
    | true =>
      have := hn u h3 (by omega) e
      omega
@[simp] theorem nth_zero {α : Type} [Inhabited α] (x : α) (xs : List α) : nth (x :: xs) 0 = x := rfl
theorem nth_cons {α : Type} [Inhabited α] {x : α} {xs : List α} {i : Int} (h : 0 < i) : nth (x :: xs) i = nth xs (i - 1) := by
  unfold nth
  rw [show i.toNat = (i - 1).toNat + 1 by omega]; simp
theorem nth_rg {a b i : Int} (h : 0 ≤ i) (h2 : i < b - a) : nth (rg a b) i = a + i := by
  unfold nth rg
  rw [List.getElem?_map, List.getElem?_range (by omega)]
  simp; omega
theorem emod_iff {x s : Int} : x % s = 0 ↔ s ∣ x := Int.dvd_iff_emod_eq_zero.symm
@[simp] theorem filter_map_int (p : Int → Bool) (f : PyData → PyData) (xs : List Int) : True := trivial
end Pu

set_option Elab.async false
set_option linter.all false
set_option autoImplicit false
set_option maxRecDepth 100000
set_option maxHeartbeats 4000000
namespace Pu
open PySem PySem.Spec PyProof.Rows L2 GxR
section
variable {S : List (Str × Nat)} {nm : List (Str × NameKind)} {T : Tab} {TB : Addr → Prop} {k : Nat} {X : Cx}
variable {a b : Expr} {p : Pos} {ms ns : List Nat} {f g : Sls → Option PyData} {ca cb : Bool} {es : List Expr} {fs : Sls → Option (List PyData)} {ce : Bool} {tg : Expr}

/-! min of four -/
section
variable {A : Around} {E : Value → Shared → Prop} {s : Shared}
theorem argsMin4 (v1 v2 v3 v4 : Value) : argsOk "min" ⟨[v1, v2, v3, v4], []⟩ := by (unfold argsOk) <;> kernel_rfl
theorem callMin4 {prog : Program} {w : PySem.World} {v1 v2 v3 v4 : Value} {Q : Value → Shared → Prop}
    (h : wpAny (model prog w) A.in1 (pyIter (.ref s.heap.objs.size)) (fun it s2 => ∃ I0 fq wq m PP SS bq, it = .ref I0 ∧ Walks prog w A.in1 I0 fq wq m PP SS ∧ SS 0 s2.heap ∧ (∀ z ∈ fq, z < s2.heap.objs.size) ∧ 0 < m ∧ CmpOf prog w A.in1 .Lt PP bq ∧
      ∀ v g tk, PP (argBest bq (m - 1)) v → (∀ z o, z ∉ wq → s2.heap.get? z = some o → g.get? z = some o) → Q v { s2 with heap := g, toks := tk }) E
      { s with heap := s.heap.push { cls := .type "tuple", data := .seq #[v1, v2, v3, v4] } }) :
    wpAny (model prog w) A (call (.builtin "min") [v1, v2, v3, v4]) Q E s := by
  have nmq : (toString "min" ++ toString ".loop" : String) = "min.loop" := id (by decide)
  refine call_function_tree F.kind_min F.plain_min F.entry_min (argsMin4 v1 v2 v3 v4) ?_
  show wpAny _ A.in1 (Builtin.Builtins.bindParams "min" ["key", "default"] 0 ⟨[], []⟩ >>= fun _ => _) _ _ s
  refine wpAny_bind (wpAny_of_eq (show Builtin.Builtins.bindParams "min" ["key", "default"] 0 ⟨[], []⟩ = pure [Option.none, Option.none] from rfl) ?_)
  show wpAny _ A.in1 (newTuple [v1, v2, v3, v4] >>= fun _ => _) _ _ s
  refine wpAny_bind (wpAny_newObj_type (wpAny_bind (wpAny_mono h (fun it s2 h2 => ?_) fun _ _ e => e)))
  obtain ⟨I0, fq, wq, m, PP, SS, bq, rfl, WW, hst, hfq, hm, hcm, hQ⟩ := h2
  refine wpAny_bind (wpAny_newObj_type ?_); rw [nmq]
  have nfq : s2.heap.objs.size ∉ fq := fun z => Nat.lt_irrefl _ (hfq _ z)
  refine wpAny_pure ⟨plainId_quiet F.plain_min_loop _, codeAny_min_loop_first WW bq hcm s2.heap.objs.size nfq hm (WW.frame _ _ _ hst fun z _ o e => Heap.get?_push_of_some _ e) (Heap.get?_push_size _ rfl) fun v g tk hP hk => ?_⟩
  exact hQ v g tk hP fun z o hz e => hk z o hz (Nat.ne_of_lt (Heap.lt_size e)) (Heap.get?_push_of_some _ e)
def min4 (a b c d : Int) : Int := min (min (min a b) c) d
theorem callMin4I {prog : Program} {w : PySem.World} {a b c d : Int} {t1 t2 t3 t4 : Tok} {Q : Value → Shared → Prop} (hh : A.handled = none)
    (h : ∀ g tk u, (∀ z o, s.heap.get? z = some o → g.get? z = some o) → Q (.int (min4 a b c d) u) { s with heap := g, toks := tk }) :
    wpAny (model prog w) A (call (.builtin "min") [.int a t1, .int b t2, .int c t3, .int d t4]) Q E s := by
  let L : Array (Int × Tok) := #[(a, t1), (b, t2), (c, t3), (d, t4)]
  have hT : (s.heap.push { cls := .type "tuple", data := .seq #[.int a t1, .int b t2, .int c t3, .int d t4] }).IsTuple s.heap.objs.size (intItems L) := ⟨_, Heap.get?_push_size _ rfl, rfl, 0, by simp [intItems, L]⟩
  have hz1 : (s.heap.push { cls := .type "tuple", data := .seq #[.int a t1, .int b t2, .int c t3, .int d t4] }).objs.size = s.heap.objs.size + 1 := Heap.size_push ..
  refine callMin4 (wpAny_pyIter_tuple hT ⟨_, [_, s.heap.objs.size], [_], _, _, _, _, rfl, Walks.tuple (A := A.in1) hh _ s.heap.objs.size (by rw [hz1]; exact Nat.ne_of_lt (Nat.lt_add_one _)) (intItems L),
    ⟨⟨_, Heap.get?_push_size _ rfl, rfl, rfl⟩, hT.push _⟩, fun z hz => ?_, by simp [intItems, L], CmpOf.ints_lt (numAt L) (fun _ _ => intItems_at), fun v g tk hP hk => ?_⟩)
  · show z < ((s.heap.push _).push _).objs.size
    rw [Heap.size_push, hz1]
    simp only [List.mem_cons, List.mem_nil_iff, or_false] at hz
    rcases hz with e | e
    · rw [e, hz1]; exact Nat.lt_add_one _
    · rw [e]; exact Nat.lt_trans (Nat.lt_add_one _) (Nat.lt_add_one _)
  · have old : ∀ z o, s.heap.get? z = some o → g.get? z = some o := fun z o e => by
      have hl := Heap.lt_size e
      refine hk z o (fun hm => ?_) (Heap.get?_push_of_some _ (Heap.get?_push_of_some _ e))
      simp only [List.mem_cons, List.mem_nil_iff, or_false] at hm
      rw [hm, hz1] at hl
      exact absurd (Nat.lt_trans (Nat.lt_add_one _) hl) (Nat.lt_irrefl _)
    have hn : (intItems L).size - 1 = 3 := by simp [intItems, L]
    have hP2 : (intItems L)[argBest (fun i j => decide (numAt L i < numAt L j)) 3]? = some v := by rw [← hn]; exact hP
    have e : ∃ u, v = Value.int (min4 a b c d) u := by
      by_cases q1 : b < a
      · by_cases q2 : c < b
        · by_cases q3 : d < c
          · simp [argBest, numAt, intItems, L, q1, q2, q3] at hP2
            exact ⟨t4, by rw [← hP2, show min4 a b c d = d by unfold min4; omega]⟩
          · simp [argBest, numAt, intItems, L, q1, q2, q3] at hP2
            exact ⟨t3, by rw [← hP2, show min4 a b c d = c by unfold min4; omega]⟩
        · by_cases q3 : d < b
          · simp [argBest, numAt, intItems, L, q1, q2, q3] at hP2
            exact ⟨t4, by rw [← hP2, show min4 a b c d = d by unfold min4; omega]⟩
          · simp [argBest, numAt, intItems, L, q1, q2, q3] at hP2
            exact ⟨t2, by rw [← hP2, show min4 a b c d = b by unfold min4; omega]⟩
      · by_cases q2 : c < a
        · by_cases q3 : d < c
          · simp [argBest, numAt, intItems, L, q1, q2, q3] at hP2
            exact ⟨t4, by rw [← hP2, show min4 a b c d = d by unfold min4; omega]⟩
          · simp [argBest, numAt, intItems, L, q1, q2, q3] at hP2
            exact ⟨t3, by rw [← hP2, show min4 a b c d = c by unfold min4; omega]⟩
        · by_cases q3 : d < a
          · simp [argBest, numAt, intItems, L, q1, q2, q3] at hP2
            exact ⟨t4, by rw [← hP2, show min4 a b c d = d by unfold min4; omega]⟩
          · simp [argBest, numAt, intItems, L, q1, q2, q3] at hP2
            exact ⟨t1, by rw [← hP2, show min4 a b c d = a by unfold min4; omega]⟩
    obtain ⟨u, rfl⟩ := e
    exact h g tk u old
end
theorem call_min4 (hc : X.calm = true) : CallR X (.builtin "min") (fun xs H Q => ∃ a b c d, xs = [.int a, .int b, .int c, .int d] ∧ Q (.int (min4 a b c d)) H) := by
  intro pins s σ H xs us Q I r h
  obtain ⟨a, b, c, d, rfl, q⟩ := h
  obtain ⟨u1, u2, rfl, ⟨t1, rfl⟩, r5⟩ : ∃ u1 u2, us = u1 :: u2 ∧ RelV (.int a) u1 ∧ Vals [.int b, .int c, .int d] u2 := by cases r with | cons r1 r2 => exact ⟨_, _, rfl, r1, r2⟩
  obtain ⟨u3, u4, rfl, ⟨t2, rfl⟩, r6⟩ : ∃ u1 u3, u2 = u1 :: u3 ∧ RelV (.int b) u1 ∧ Vals [.int c, .int d] u3 := by cases r5 with | cons r1 r2 => exact ⟨_, _, rfl, r1, r2⟩
  obtain ⟨u5, u6, rfl, ⟨t3, rfl⟩, ⟨t4, rfl⟩⟩ := vals2 r6
  exact callMin4I (I.ok.hd hc) fun h' tk u k => ⟨.int (min4 a b c d), H, I.kept k, ⟨u, rfl⟩, q⟩

mutual
theorem plain_alike : ∀ d : PyData, PySem.W.alike d d = true → d.plain = true
  | .none, _ => rfl
  | .bool _, _ => rfl
  | .int _, _ => rfl
  | .str _, _ => rfl
  | .dict _, h => by simp [PySem.W.alike] at h
  | .list xs, h => by rw [PyData.plain]; exact plain_alikeAll xs (by simpa [PySem.W.alike] using h)
  | .tuple xs, h => by rw [PyData.plain]; exact plain_alikeAll xs (by simpa [PySem.W.alike] using h)
theorem plain_alikeAll : ∀ d : List PyData, PySem.W.alikeAll d d = true → PyData.plainAll d = true
  | [], _ => rfl
  | x :: xs, h => by
    simp only [PySem.W.alikeAll, Bool.and_eq_true] at h
    rw [PyData.plainAll, plain_alike x h.1, plain_alikeAll xs h.2]; rfl
end
theorem plainAll_of : ∀ {xs : List PyData}, (∀ x ∈ xs, x.plain = true) → PyData.plainAll xs = true
  | [], _ => rfl
  | x :: xs, h => by rw [PyData.plainAll, h x (by simp), plainAll_of fun y hy => h y (by simp [hy])]; rfl
theorem plainAll_mem : ∀ {xs : List PyData}, PyData.plainAll xs = true → ∀ x ∈ xs, x.plain = true
  | y :: xs, h, x, hx => by
    simp only [PyData.plainAll, Bool.and_eq_true] at h
    rcases List.mem_cons.mp hx with rfl | hx
    · exact h.1
    · exact plainAll_mem h.2 x hx
theorem plainAll_al {xs : List PyData} (h : ∀ x ∈ xs, ∀ y ∈ xs, PySem.W.alike x y = true) : PyData.plainAll xs = true := plainAll_of fun x hx => plain_alike x (h x hx x hx)
/-! ### max, min -/
def MmC (xs : List PyData) : Prop := PySem.W.AlikeAll xs ∧ PyData.depthAll xs ≤ DEP
noncomputable instance (xs : List PyData) : Decidable (MmC xs) := Classical.propDecidable _
noncomputable def maxV : Fn
  | [.int a, .int b] => some (.int (if b > a then b else a))
  | [.list (x :: xs)] => if MmC (x :: xs) then some (PySem.W.maxD x xs) else none
  | [.tuple (x :: xs)] => if MmC (x :: xs) then some (PySem.W.maxD x xs) else none
  | _ => none
noncomputable def minV : Fn
  | [.int a, .int b] => some (.int (if b < a then b else a))
  | [.int a, .int b, .int c, .int d] => some (.int (min4 a b c d))
  | [.list (x :: xs)] => if MmC (x :: xs) then some (PySem.W.minD x xs) else none
  | [.tuple (x :: xs)] => if MmC (x :: xs) then some (PySem.W.minD x xs) else none
  | _ => none
/-- the item that is the best -/
theorem best_rep {K : PySem.W.Frag} {H : Hp} {A : Addr → Prop} {s : Shared} {h' : Heap} {ds : List PyData} {ys : List V} {us : List Value} {as bs : List Addr} {i : Nat} {v : Value} {d : PyData}
    (r : Reps K H A ds ys) (rv : Vals ys us) (hr : ReadsAll s.heap us ds as) (hv : us.toArray[i]? = some v) (hd : Reads h' v d bs) (hk : ∀ b o, s.heap.get? b = some o → h'.get? b = some o) (hp : PyData.plainAll ds = true) :
    ∃ y, RelV y v ∧ Rep K H A d y := by
  have hv2 : us[i]? = some v := by simpa using hv
  obtain ⟨y, e1, e2⟩ : ∃ y, ys[i]? = some y ∧ RelV y v := by
    have hl := rv.length
    have hi : i < us.length := (List.getElem?_eq_some_iff.mp hv2).1
    have e : ys[i]? = some ys[i] := List.getElem?_eq_getElem (by omega)
    obtain ⟨u, hu, ru⟩ := rv.get e
    rw [hv2] at hu; cases hu
    exact ⟨_, e, ru⟩
  obtain ⟨d', e3, e4⟩ := r.get' e1
  obtain ⟨bs', q1, q2, q3, _⟩ := PySem.W.readsAll_at hr i v hv2
  have e5 : ds.getD i .none = d' := by rw [List.getD_eq_getElem?_getD, e3]; rfl
  rw [e5] at q1
  have e6 := PySem.SeqAt.plain_unique d' d v bs' bs (by
    exact plainAll_mem hp _ (List.mem_of_getElem? e3)) (PySem.W.reads_keeps hk q1) hd
  subst e6
  exact ⟨y, e2, e4⟩
theorem call_maxV (hc : X.calm = true) (hr : Room k X.A) : CallR X (.builtin "max") (rFn X.K maxV) := by
  intro pins s σ H xs us Q I r h
  obtain ⟨A, ds, res, hA, rd, hf, q⟩ := h
  have hun := hr.un
  unfold maxV at hf
  split at hf
  · cases hf
    cases rd with
    | cons r1 r2 => cases r1 with
      | int i => cases r2 with
        | cons r1 r2 =>
          cases r2
          cases r1 with
          | int j => exact call_max2 hc pins s σ H _ us Q I r ⟨_, _, rfl, q _ _ (.refl H) (.int _)⟩
  · split at hf
    · rename_i hm
      cases hf
      cases rd with
      | cons r1 r2 =>
        cases r2
        cases r1 with
        | lst h2 h3 =>
          obtain ⟨its, rv, p1, _⟩ := I.list h2.sql
          obtain ⟨as, hra⟩ := h3.reads (plainAll_al hm.1.1) I rv
          rw [Vals.ref1 r]
          refine PySem.W.max_list_data (I.ok.hd hc) p1.isList (by simpa using hra) hm.1 (by have := hm.2; unfold DEP at this; omega) fun i v h' tk bs hv hd hk => ?_
          obtain ⟨y, e1, e2⟩ := best_rep h3 rv hra hv hd hk (plainAll_al hm.1.1)
          exact ⟨y, H, I.kept hk, e1, q _ _ (.refl H) e2⟩
    · cases hf
  · split at hf
    · rename_i hm
      cases hf
      cases rd with
      | cons r1 r2 =>
        cases r2
        cases r1 with
        | tup h2 h3 =>
          obtain ⟨its, rv, p1, _⟩ := I.tuple h2.sqt
          obtain ⟨as, hra⟩ := h3.reads (plainAll_al hm.1.1) I rv
          rw [Vals.ref1 r]
          refine PySem.W.max_tuple_data (I.ok.hd hc) p1 (by simpa using hra) hm.1 (by have := hm.2; unfold DEP at this; omega) fun i v h' tk bs hv hd hk => ?_
          obtain ⟨y, e1, e2⟩ := best_rep h3 rv hra hv hd hk (plainAll_al hm.1.1)
          exact ⟨y, H, I.kept hk, e1, q _ _ (.refl H) e2⟩
    · cases hf
  · cases hf
instance : BiP "max" "max" maxV := ⟨by decide +kernel, fun _ _ hc hr => call_maxV hc hr, by decide⟩
theorem call_minV (hc : X.calm = true) (hr : Room k X.A) : CallR X (.builtin "min") (rFn X.K minV) := by
  intro pins s σ H xs us Q I r h
  obtain ⟨A, ds, res, hA, rd, hf, q⟩ := h
  have hun := hr.un
  unfold minV at hf
  split at hf
  · cases hf
    cases rd with
    | cons r1 r2 => cases r1 with
      | int i => cases r2 with
        | cons r1 r2 =>
          cases r2
          cases r1 with
          | int j => exact call_min2 hc pins s σ H _ us Q I r ⟨_, _, rfl, q _ _ (.refl H) (.int _)⟩
  · cases hf
    cases rd with
    | cons r1 rd => cases r1 with
      | int i => cases rd with
        | cons r1 rd => cases r1 with
          | int j => cases rd with
            | cons r1 rd => cases r1 with
              | int k => cases rd with
                | cons r1 rd => cases r1 with
                  | int l =>
                    cases rd
                    exact call_min4 hc pins s σ H _ us Q I r ⟨_, _, _, _, rfl, q _ _ (.refl H) (.int _)⟩
  · split at hf
    · rename_i hm
      cases hf
      cases rd with
      | cons r1 r2 =>
        cases r2
        cases r1 with
        | lst h2 h3 =>
          obtain ⟨its, rv, p1, _⟩ := I.list h2.sql
          obtain ⟨as, hra⟩ := h3.reads (plainAll_al hm.1.1) I rv
          rw [Vals.ref1 r]
          refine PySem.W.min_list_data (I.ok.hd hc) p1.isList (by simpa using hra) hm.1 (by have := hm.2; unfold DEP at this; omega) fun i v h' tk bs hv hd hk => ?_
          obtain ⟨y, e1, e2⟩ := best_rep h3 rv hra hv hd hk (plainAll_al hm.1.1)
          exact ⟨y, H, I.kept hk, e1, q _ _ (.refl H) e2⟩
    · cases hf
  · split at hf
    · rename_i hm
      cases hf
      cases rd with
      | cons r1 r2 =>
        cases r2
        cases r1 with
        | tup h2 h3 =>
          obtain ⟨its, rv, p1, _⟩ := I.tuple h2.sqt
          obtain ⟨as, hra⟩ := h3.reads (plainAll_al hm.1.1) I rv
          rw [Vals.ref1 r]
          refine PySem.W.min_tuple_data (I.ok.hd hc) p1 (by simpa using hra) hm.1 (by have := hm.2; unfold DEP at this; omega) fun i v h' tk bs hv hd hk => ?_
          obtain ⟨y, e1, e2⟩ := best_rep h3 rv hra hv hd hk (plainAll_al hm.1.1)
          exact ⟨y, H, I.kept hk, e1, q _ _ (.refl H) e2⟩
    · cases hf
  · cases hf
instance : BiP "min" "min" minV := ⟨by decide +kernel, fun _ _ hc hr => call_minV hc hr, by decide⟩
end
/-! evaluated, of ints -/
theorem alike_ints (ns : List Int) : PySem.W.AlikeAll (ns.map .int) := ⟨fun x hx y hy => by
  obtain ⟨i, _, rfl⟩ := List.mem_map.mp hx
  obtain ⟨j, _, rfl⟩ := List.mem_map.mp hy
  rfl, fun x hx => by
  obtain ⟨i, _, rfl⟩ := List.mem_map.mp hx
  simp⟩
theorem mmC_ints (ns : List Int) : MmC (ns.map .int) := ⟨alike_ints ns, depthAll_le fun x hx => by
  obtain ⟨i, _, rfl⟩ := List.mem_map.mp hx
  simp [PyData.depth]⟩
def maxI : List Int → Int
  | [] => 0
  | x :: xs => xs.foldl max x
def minI : List Int → Int
  | [] => 0
  | x :: xs => xs.foldl min x
theorem foldl_max_spec : ∀ (xs : List Int) (x : Int), (xs.foldl max x = x ∨ xs.foldl max x ∈ xs) ∧ x ≤ xs.foldl max x ∧ ∀ y ∈ xs, y ≤ xs.foldl max x
  | [], x => by simp
  | y :: r, x => by
    obtain ⟨h1, h2, h3⟩ := foldl_max_spec r (max x y)
    rw [List.foldl_cons]
    refine ⟨?_, by omega, fun z hz => ?_⟩
    · rcases h1 with h1 | h1
      · rw [h1]
        by_cases h : x ≤ y
        · right; rw [show max x y = y by omega]; simp
        · left; omega
      · right; simp [h1]
    · rcases List.mem_cons.mp hz with rfl | hz
      · omega
      · exact h3 z hz
theorem foldl_min_spec : ∀ (xs : List Int) (x : Int), (xs.foldl min x = x ∨ xs.foldl min x ∈ xs) ∧ xs.foldl min x ≤ x ∧ ∀ y ∈ xs, xs.foldl min x ≤ y
  | [], x => by simp
  | y :: r, x => by
    obtain ⟨h1, h2, h3⟩ := foldl_min_spec r (min x y)
    rw [List.foldl_cons]
    refine ⟨?_, by omega, fun z hz => ?_⟩
    · rcases h1 with h1 | h1
      · rw [h1]
        by_cases h : y ≤ x
        · right; rw [show min x y = y by omega]; simp
        · left; omega
      · right; simp [h1]
    · rcases List.mem_cons.mp hz with rfl | hz
      · omega
      · exact h3 z hz
theorem maxI_spec {ns : List Int} (h : ns ≠ []) : maxI ns ∈ ns ∧ ∀ y ∈ ns, y ≤ maxI ns := by
  cases ns with
  | nil => exact absurd rfl h
  | cons x r =>
    obtain ⟨h1, h2, h3⟩ := foldl_max_spec r x
    refine ⟨?_, fun y hy => ?_⟩
    · rcases h1 with h1 | h1
      · show r.foldl max x ∈ x :: r
        rw [h1]; simp
      · exact List.mem_cons_of_mem _ h1
    · rcases List.mem_cons.mp hy with rfl | hy
      · exact h2
      · exact h3 y hy
theorem minI_spec {ns : List Int} (h : ns ≠ []) : minI ns ∈ ns ∧ ∀ y ∈ ns, minI ns ≤ y := by
  cases ns with
  | nil => exact absurd rfl h
  | cons x r =>
    obtain ⟨h1, h2, h3⟩ := foldl_min_spec r x
    refine ⟨?_, fun y hy => ?_⟩
    · rcases h1 with h1 | h1
      · show r.foldl min x ∈ x :: r
        rw [h1]; simp
      · exact List.mem_cons_of_mem _ h1
    · rcases List.mem_cons.mp hy with rfl | hy
      · exact h2
      · exact h3 y hy
@[simp] theorem maxV_int (a b : Int) : maxV [.int a, .int b] = some (.int (if b > a then b else a)) := id rfl
@[simp] theorem minV_int4 (a b c d : Int) : minV [.int a, .int b, .int c, .int d] = some (.int (min4 a b c d)) := id rfl
@[simp] theorem minV_int (a b : Int) : minV [.int a, .int b] = some (.int (if b < a then b else a)) := id rfl
@[simp] theorem maxV_ints {ns : List Int} (h : ns ≠ []) : maxV [.list (ns.map .int)] = some (.int (maxI ns)) := by
  cases ns with
  | nil => exact absurd rfl h
  | cons x r =>
    show (if MmC (PyData.int x :: r.map .int) then some (PySem.W.maxD (.int x) (r.map .int)) else none) = _
    exact (if_pos (mmC_ints (x :: r))).trans (by rw [PySem.W.maxD_ints]; rfl)
@[simp] theorem minV_ints {ns : List Int} (h : ns ≠ []) : minV [.list (ns.map .int)] = some (.int (minI ns)) := by
  cases ns with
  | nil => exact absurd rfl h
  | cons x r =>
    show (if MmC (PyData.int x :: r.map .int) then some (PySem.W.minD (.int x) (r.map .int)) else none) = _
    exact (if_pos (mmC_ints (x :: r))).trans (by rw [PySem.W.minD_ints]; rfl)
end Pu

set_option Elab.async false
set_option linter.all false
set_option autoImplicit false
set_option maxRecDepth 100000
set_option maxHeartbeats 4000000
namespace Pu
open PySem PySem.Spec PyProof.Rows L2 GxR
section
variable {S : List (Str × Nat)} {nm : List (Str × NameKind)} {T : Tab} {TB : Addr → Prop} {k : Nat} {X : Cx}
variable {a b : Expr} {p : Pos} {ms ns : List Nat} {f g : Sls → Option PyData} {ca cb : Bool} {es : List Expr} {fs : Sls → Option (List PyData)} {ce : Bool} {tg : Expr}

/-! ### methods of texts, one argument -/
def notSuper : Expr → Bool
  | .Call (.Name _ _) [] [] _ => false
  | _ => true
theorem base_of {o : Expr} (h : notSuper o = true) (attr : Str) (env : Env) (whole : Sem Value) : attributeBase o attr env whole = whole := by
  unfold attributeBase
  split
  · cases h
  · rfl
def asStrs : List PyData → Option (List Str)
  | [] => some []
  | .str b :: r => (match asStrs r with | some bs => some (b :: bs) | none => none)
  | _ :: _ => none
theorem asStrs_eq : ∀ {xs : List PyData} {bs : List Str}, asStrs xs = some bs → xs = bs.map .str
  | [], bs, h => by cases h; rfl
  | x :: r, bs, h => by
    unfold asStrs at h
    split at h
    · cases h; rename_i e; cases e
    · rename_i b r' e
      cases e
      split at h
      · rename_i cs ec
        cases h
        rw [asStrs_eq ec]; rfl
      · cases h
    · cases h
theorem asStrs_map (bs : List Str) : asStrs (bs.map .str) = some bs := by
  induction bs with
  | nil => rfl
  | cons b r ih => rw [List.map_cons, asStrs, ih]
def JoC (a : Str) (ys : List Str) : Prop := (ys.map (·.length)).sum + ys.length * a.length ≤ 16777216
noncomputable instance (a : Str) (ys : List Str) : Decidable (JoC a ys) := Classical.propDecidable _
noncomputable def joinF : PyData → PyData → Option PyData
  | .str a, .list xs => (match asStrs xs with | some ys => if JoC a ys then some (.str (Txt.join a ys)) else none | none => none)
  | .str a, .tuple xs => (match asStrs xs with | some ys => if JoC a ys then some (.str (Txt.join a ys)) else none | none => none)
  | _, _ => none
/-- a method of one argument: its name, its meaning -/
class MtP (name : Str) (id : outParam String) (F : outParam (PyData → PyData → Option PyData)) : Prop where
  slot : Slot "str" name id
  ty : typeOf (.builtin id) = pure (.type "method_descriptor")
  str : ∀ d e r, F d e = some r → ∃ z, d = .str z
  rule : ∀ (X : Cx), MtR X id (fun x xs H Q => ∃ (y : V) (A : Addr → Prop) (d e res : PyData), xs = [y] ∧ (∀ a, H a = none → A a) ∧ Rep X.K H A d x ∧ Rep X.K H A e y ∧ F d e = some res ∧ ∀ z H', Grow H H' → Rep X.K H' A res z → Q z H')
instance (priority := low) purMt {name : Str} {id : String} {F : PyData → PyData → Option PyData} {apos pos : Pos} [hM : MtP name id F] [h1 : PurE S nm T a ms f ca] [h2 : PurE S nm T b ns g cb] : PurE S nm T (.Call (.Attribute a name apos) [b] [] pos) (ms ++ ns) (fun env => bind2 F (f env) (g env))
    (ca && cb && notSuper a && notStar b && (apos.endLine == pos.line)) where
  run hc TB k X G := by
    simp only [Bool.and_eq_true] at hc
    obtain ⟨⟨⟨⟨hc1, hc2⟩, hc3⟩, hc4⟩, hc5⟩ := hc
    obtain ⟨ta, ha, qa⟩ := h1.run hc1 TB k X G
    obtain ⟨tb, hb, qb⟩ := h2.run hc2 TB k X G
    refine ⟨_, pe_m1 hM.slot hM.ty (hM.rule X) ha hb (star_of hc4) (base_of hc3 _ _ _) hc5, fun A H0 H σ env d Q E hf q => ?_⟩
    obtain ⟨x, y, e1, e2, e3⟩ := bind2_some hf
    obtain ⟨z, rfl⟩ := hM.str _ _ _ e3
    refine qa A H0 H σ env _ _ E e1 fun u H1 g1 r1 => ⟨by cases r1; exact ⟨_, rfl⟩, ?_⟩
    refine qb A H0 H1 σ env y _ (E.up g1) e2 fun v H2 g2 r2 => ?_
    exact ⟨v, sel (ms ++ ns) A env σ, _, y, d, rfl, (E.up (g1.trans g2)).selfree _, (r1.up g2).wide fun a z => z.l, r2.wide fun a z => z.r, e3, fun z H' g r => q z H' ((g1.trans g2).trans g) r⟩
instance : MtP "join" "str.join" joinF where
  slot := F.slot_str_join
  ty := F.type_str_join
  str d e r h := by
    unfold joinF at h
    split at h
    · exact ⟨_, rfl⟩
    · exact ⟨_, rfl⟩
    · cases h
  rule X := by
    intro pins s σ H x xs v us Q I rx rs h
    obtain ⟨y, A, d, e, res, rfl, hA, rd, re, hf, q⟩ := h
    unfold joinF at hf
    split at hf
    · split at hf
      · rename_i ys ey
        split at hf
        · rename_i hj
          cases hf
          cases rd
          cases re with
          | lst h2 h3 =>
            rw [asStrs_eq ey] at h3
            have := h3.of_strs
            subst this
            exact mt_join pins s σ H _ _ v us Q I rx rs ⟨_, _, ys, rfl, rfl, .inl h2.sql, hj, q _ _ (.refl H) (.str _)⟩
        · cases hf
      · cases hf
    · split at hf
      · rename_i ys ey
        split at hf
        · rename_i hj
          cases hf
          cases rd
          cases re with
          | tup h2 h3 =>
            rw [asStrs_eq ey] at h3
            have := h3.of_strs
            subst this
            exact mt_join pins s σ H _ _ v us Q I rx rs ⟨_, _, ys, rfl, rfl, .inr h2, hj, q _ _ (.refl H) (.str _)⟩
        · cases hf
      · cases hf
    · cases hf
def countF : PyData → PyData → Option PyData
  | .str a, .str b => some (.int (Txt.count a b))
  | _, _ => none
instance : MtP "count" "str.count" countF where
  slot := F.slot_str_count
  ty := F.type_str_count
  str d e r h := by
    unfold countF at h
    split at h
    · exact ⟨_, rfl⟩
    · cases h
  rule X := by
    intro pins s σ H x xs v us Q I rx rs h
    obtain ⟨y, A, d, e, res, rfl, hA, rd, re, hf, q⟩ := h
    unfold countF at hf
    split at hf
    · cases hf
      cases rd
      cases re
      exact mt_count pins s σ H _ _ v us Q I rx rs ⟨_, _, rfl, rfl, q _ _ (.refl H) (.int _)⟩
    · cases hf
def startsF : PyData → PyData → Option PyData
  | .str a, .str b => some (.bool (Txt.startswith a b))
  | _, _ => none
instance : MtP "startswith" "str.startswith" startsF where
  slot := F.slot_str_startswith
  ty := F.type_str_startswith
  str d e r h := by
    unfold startsF at h
    split at h
    · exact ⟨_, rfl⟩
    · cases h
  rule X := by
    intro pins s σ H x xs v us Q I rx rs h
    obtain ⟨y, A, d, e, res, rfl, hA, rd, re, hf, q⟩ := h
    unfold startsF at hf
    split at hf
    · cases hf
      cases rd
      cases re
      exact mt_startswith pins s σ H _ _ v us Q I rx rs ⟨_, _, rfl, rfl, q _ _ (.refl H) (.bl _)⟩
    · cases hf

end
end Pu

set_option Elab.async false
set_option linter.all false
set_option autoImplicit false
set_option maxRecDepth 100000
set_option maxHeartbeats 4000000
namespace Pu
open PySem PySem.Spec PyProof.Rows L2 GxR

/-! ### x[a:b:c], c another than 1 -/
def ixL (lo hi : Option Int) (c : Int) (n : Nat) : List Nat := sliceRange (sliceBounds lo hi (some c) n).1 (sliceBounds lo hi (some c) n).2.1 c
def ixT (lo hi : Option Int) (c : Int) (n : Nat) : List Nat := (List.range (Builtin.Slice.slicePlaces (Builtin.Slice.sliceAdjust lo hi c n).1 (Builtin.Slice.sliceAdjust lo hi c n).2 c)).map fun k => ((Builtin.Slice.sliceAdjust lo hi c n).1 + ((k : Nat) : Int) * c).toNat
def ixS (lo hi : Option Int) (c : Int) (n : Nat) : List Nat := Builtin.Str.strSliceIndices lo hi c n
def pickL {α : Type} (is : List Nat) (xs : List α) : List α := is.filterMap (xs[·]?)
theorem Vals.pickL {xs : List V} {us : List Value} (r : Vals xs us) : ∀ is : List Nat, Vals (Pu.pickL is xs) (Pu.pickL is us)
  | [] => .nil
  | i :: is => by
    unfold Pu.pickL
    rw [List.filterMap_cons, List.filterMap_cons]
    cases e : xs[i]? with
    | none =>
      have h : us[i]? = none := List.getElem?_eq_none (by rw [← r.length]; exact List.getElem?_eq_none_iff.mp e)
      rw [h]
      exact Vals.pickL r is
    | some x =>
      obtain ⟨u, e2, e3⟩ := r.get e
      rw [e2]
      exact .cons e3 (Vals.pickL r is)
theorem Reps.pickL {K : PySem.W.Frag} {H : Hp} {A : Addr → Prop} {ds : List PyData} {xs : List V} (r : Reps K H A ds xs) : ∀ is : List Nat, Reps K H A (Pu.pickL is ds) (Pu.pickL is xs)
  | [] => .nil
  | i :: is => by
    unfold Pu.pickL
    rw [List.filterMap_cons, List.filterMap_cons]
    cases e : ds[i]? with
    | none =>
      have h : xs[i]? = none := List.getElem?_eq_none (by rw [← r.length]; exact List.getElem?_eq_none_iff.mp e)
      rw [h]
      exact Reps.pickL r is
    | some x =>
      obtain ⟨u, e2, e3⟩ := r.get e
      rw [e2]
      exact .cons e3 (Reps.pickL r is)
theorem pickL_arr (is : List Nat) (us : List Value) : is.filterMap (us.toArray[·]?) = pickL is us := by
  unfold pickL
  congr 1
  funext i
  simp
theorem slicePick_is (us : List Value) (lo hi : Option Int) (c : Int) : slicePick us.toArray lo hi (some c) = (pickL (ixL lo hi c us.length) us).toArray := by
  unfold slicePick ixL
  rw [List.size_toArray, ← pickL_arr]
  rfl
def C3 (lo hi : Option Int) (c : Int) (n m : Nat) : Prop := c ≠ 0 ∧ (c = 1 → lo = none ∧ hi = none) ∧ n ≤ LIM ∧ m ≤ LIM
noncomputable instance (lo hi : Option Int) (c : Int) (n m : Nat) : Decidable (C3 lo hi c n m) := Classical.propDecidable _
theorem places_one (n : Nat) : Builtin.Slice.slicePlaces 0 (n : Int) 1 = n := by
  unfold Builtin.Slice.slicePlaces
  rw [if_pos (by decide)]
  split
  · rw [Int.ediv_one]; omega
  · omega
theorem ixT_one (n : Nat) : ixT none none 1 n = List.range n := by
  unfold ixT
  have e1 : Builtin.Slice.sliceAdjust none none 1 (n : Int) = (0, (n : Int)) := rfl
  rw [e1, places_one]
  refine (List.map_congr_left fun k hk => ?_).trans (List.map_id _)
  show (0 + (k : Int) * 1).toNat = k
  omega
theorem range_one (n : Nat) : sliceRange 0 (n : Int) 1 = List.range n := by
  unfold sliceRange
  have h1 : ((1 : Int) > 0) := by decide
  have e : (if (0 : Int) < n then ((n : Int) - 0 + 1 - 1) / 1 else 0) = n := by
    split
    · rw [Int.ediv_one]; omega
    · omega
  simp only [h1, if_true, e, Int.toNat_natCast]
  refine (List.map_congr_left fun k hk => ?_).trans (List.map_id _)
  show (0 + 1 * (k : Int)).toNat = k
  omega
theorem ixS_one (n : Nat) : ixS none none 1 n = List.range n := range_one n
theorem pick_all {α : Type} (xs : List α) : pickL (List.range xs.length) xs = xs := by
  unfold pickL
  have := PySem.W.krv_all xs.toArray
  simp only [List.size_toArray, List.getElem?_toArray] at this
  exact this
noncomputable def slice3 (lo hi : Option Int) (c : Int) (d : PyData) : Option PyData := match d with
  | .list xs => if C3 lo hi c xs.length (pickL (ixL lo hi c xs.length) xs).length then some (.list (pickL (ixL lo hi c xs.length) xs)) else none
  | .tuple xs => if C3 lo hi c xs.length (pickL (ixT lo hi c xs.length) xs).length then some (.tuple (pickL (ixT lo hi c xs.length) xs)) else none
  | .str z => if C3 lo hi c z.length (pickL (ixS lo hi c z.length) z.cps.toList).length then some (.str ⟨(pickL (ixS lo hi c z.length) z.cps.toList).toArray⟩) else none
  | _ => none
section
variable {prog : Program} {w : PySem.World} {A : Around} {E : Value → Shared → Prop} {s : Shared}
theorem applied3 {sl : Addr} {vl vu vs : Value} {lo hi : Option Int} {c : Int} {n : Nat} {Q : Int × Int × Nat → Shared → Prop} (hs : s.heap.IsSliceOf sl vl vu vs) (pl : IsPart vl lo) (pu : IsPart vu hi) (pc : IsPart vs (some c)) (h0 : c ≠ 0)
    (h : Q ((Builtin.Slice.sliceAdjust lo hi c n).1, c, Builtin.Slice.slicePlaces (Builtin.Slice.sliceAdjust lo hi c n).1 (Builtin.Slice.sliceAdjust lo hi c n).2 c) s) :
    wpAny (model prog w) A (Builtin.Slice.sliceApplied (.ref sl) (pure (n : Int))) Q E s := by
  obtain ⟨ob, g1, g2, g3⟩ := id hs
  unfold Builtin.Slice.sliceApplied Builtin.Slice.sliceFields
  have part : ∀ {R : Value × Value × Value → Shared → Prop}, R (vl, vu, vs) s → wpAny (model prog w) A (do let a ← field (.ref sl) 0; let b ← field (.ref sl) 1; let d ← field (.ref sl) 2; return (a, b, d)) R E s := fun q =>
    wpAny_bind (wpAny_field g1 g3 (x := vl) rfl (wpAny_bind (wpAny_field g1 g3 (x := vu) rfl (wpAny_bind (wpAny_field g1 g3 (x := vs) rfl (wpAny_pure q))))))
  refine wpAny_bind (part ?_)
  refine wpAny_bind (HT.slicePart_ pc ?_)
  show wpAny _ _ (if (c == 0) = true then _ else _) _ _ s
  rw [if_neg (by simpa using h0)]
  exact wpAny_bind (HT.slicePart_ pl (wpAny_bind (HT.slicePart_ pu (wpAny_bind (wpAny_pure (wpAny_pure h))))))
theorem getItem_tup3 {t sl : Addr} {items : Array Value} {vl vu vs : Value} {lo hi : Option Int} {c : Int} {Q : Value → Shared → Prop} (ht : IsTup s.heap t items) (hs : s.heap.IsSliceOf sl vl vu vs) (pl : IsPart vl lo) (pu : IsPart vu hi) (pc : IsPart vs (some c)) (h0 : c ≠ 0) (h1 : c ≠ 1)
    (hz : (pickL (ixT lo hi c items.size) items.toList).length ≤ sizeLine)
    (h : Q (.ref s.heap.objs.size) { s with heap := s.heap.push { cls := .type "tuple", data := .seq (pickL (ixT lo hi c items.size) items.toList).toArray } }) : wpAny (model prog w) A (getItem (.ref t) (.ref sl)) Q E s := by
  have hTs : s.TypeIs (.ref sl) "slice" := let ⟨ob, g1, g2, _⟩ := hs; ⟨ob, g1, g2⟩
  have fits : sizeOk (.seq (pickL (ixT lo hi c items.size) items.toList).toArray) := by
    show (pickL (ixT lo hi c items.size) items.toList).toArray.size ≤ sizeLine
    rw [List.size_toArray]; exact hz
  unfold getItem
  (try with_reducible refine wpAny_holding ?_); (first | refine wpAny_bind (wpAny_pure ?_) | skip); refine wpAny_bind (wpAny_sequenceKey ht.typeIs (by decide) ?_)
  refine wpAny_bind (wpAny_callSpecial?_slot (name := Str.ofString "__getitem__") ht.typeIs PyProof.Rows.slot_tuple_getitem (wpAny_call_entry PyProof.Rows.slot_tuple_getitem ht.typeIs entry_tuple_getitem ?_ (args_tuple_getitem _ _)))
  show wpAny _ _ (Builtin.Tuple.tupleItemsOf (.ref t) >>= _) _ _ s
  refine wpAny_bind (tupleItemsOf_ ht (wpAny_bind (wpAny_typeOf hTs ?_)))
  rw [if_pos (by decide)]
  refine wpAny_bind (applied3 (n := items.size) hs pl pu pc h0 ?_)
  have no1 : ¬ (((Builtin.Slice.sliceAdjust lo hi c (items.size : Int)).1 == 0 && c == 1 && Builtin.Slice.slicePlaces (Builtin.Slice.sliceAdjust lo hi c (items.size : Int)).1 (Builtin.Slice.sliceAdjust lo hi c (items.size : Int)).2 c == items.size) = true) := fun z => by
    simp only [Bool.and_eq_true, beq_iff_eq] at z
    exact h1 z.1.2
  have ep : (List.range (Builtin.Slice.slicePlaces (Builtin.Slice.sliceAdjust lo hi c (items.size : Int)).1 (Builtin.Slice.sliceAdjust lo hi c (items.size : Int)).2 c)).filterMap (fun (k : Nat) => items[((Builtin.Slice.sliceAdjust lo hi c (items.size : Int)).1 + (k : Int) * c).toNat]?) = pickL (ixT lo hi c items.size) items.toList := by
    unfold pickL ixT
    rw [List.filterMap_map]
    congr 1
    funext k
    simp
  show wpAny _ _ (if ((Builtin.Slice.sliceAdjust lo hi c (items.size : Int)).1 == 0 && c == 1 && Builtin.Slice.slicePlaces (Builtin.Slice.sliceAdjust lo hi c (items.size : Int)).1 (Builtin.Slice.sliceAdjust lo hi c (items.size : Int)).2 c == items.size) = true then _ else _) _ _ s
  rw [if_neg no1, ep]
  first
    | (refine wpAny_bind (m := Builtin.Tuple.tupleExact _) (wpAny_newObj_type ?_ fits); first | exact wpAny_pure ⟨_, rfl, wpAny_pure h⟩ | exact wpAny_bind (wpAny_pure (wpAny_pure ⟨_, rfl, wpAny_pure h⟩)))
    | (refine wpAny_bind (wpAny_bind (m := Builtin.Tuple.tupleExact _) (wpAny_newObj_type ?_ fits)); first | exact wpAny_pure (wpAny_pure ⟨_, rfl, wpAny_pure h⟩) | exact wpAny_pure ⟨_, rfl, wpAny_pure h⟩)
theorem getItem_tup3w {t sl : Addr} {items : Array Value} {vl vu vs : Value} {Q : Value → Shared → Prop} (ht : IsTup s.heap t items) (hs : s.heap.IsSliceOf sl vl vu vs) (pl : IsPart vl none) (pu : IsPart vu none) (pc : IsPart vs (some 1))
    (h : Q (.ref t) s) : wpAny (model prog w) A (getItem (.ref t) (.ref sl)) Q E s := by
  have hTs : s.TypeIs (.ref sl) "slice" := let ⟨ob, g1, g2, _⟩ := hs; ⟨ob, g1, g2⟩
  unfold getItem
  (try with_reducible refine wpAny_holding ?_); (first | refine wpAny_bind (wpAny_pure ?_) | skip); refine wpAny_bind (wpAny_sequenceKey ht.typeIs (by decide) ?_)
  refine wpAny_bind (wpAny_callSpecial?_slot (name := Str.ofString "__getitem__") ht.typeIs PyProof.Rows.slot_tuple_getitem (wpAny_call_entry PyProof.Rows.slot_tuple_getitem ht.typeIs entry_tuple_getitem ?_ (args_tuple_getitem _ _)))
  show wpAny _ _ (Builtin.Tuple.tupleItemsOf (.ref t) >>= _) _ _ s
  refine wpAny_bind (tupleItemsOf_ ht (wpAny_bind (wpAny_typeOf hTs ?_)))
  rw [if_pos (by decide)]
  refine wpAny_bind (applied3 (n := items.size) hs pl pu pc (by decide) ?_)
  have e1 : Builtin.Slice.sliceAdjust none none 1 (items.size : Int) = (0, (items.size : Int)) := rfl
  have hyes : ((Builtin.Slice.sliceAdjust none none 1 (items.size : Int)).1 == 0 && (1 : Int) == 1 && Builtin.Slice.slicePlaces (Builtin.Slice.sliceAdjust none none 1 (items.size : Int)).1 (Builtin.Slice.sliceAdjust none none 1 (items.size : Int)).2 1 == items.size) = true := by
    rw [e1]
    show ((0 : Int) == 0 && (1 : Int) == 1 && Builtin.Slice.slicePlaces 0 (items.size : Int) 1 == items.size) = true
    rw [places_one]
    simp
  show wpAny _ _ (if ((Builtin.Slice.sliceAdjust none none 1 (items.size : Int)).1 == 0 && (1 : Int) == 1 && Builtin.Slice.slicePlaces (Builtin.Slice.sliceAdjust none none 1 (items.size : Int)).1 (Builtin.Slice.sliceAdjust none none 1 (items.size : Int)).2 1 == items.size) = true then _ else _) _ _ s
  rw [if_pos hyes]
  refine wpAny_bind ?_
  show wpAny _ _ (typeOf (.ref t) >>= fun T => pure (T == .type "tuple")) _ _ s
  refine wpAny_bind (wpAny_typeOf ht.typeIs (wpAny_pure ?_))
  first
    | rw [if_pos (by decide)]
    | simp only [beq_self_eq_true, if_true]
  first
    | exact wpAny_bind (wpAny_rule (wpAny_pure ⟨_, rfl, wpAny_pure h⟩))
    | exact wpAny_bind (wpAny_rule (wpAny_bind (wpAny_pure (wpAny_pure ⟨_, rfl, wpAny_pure h⟩))))
end
section
variable {S : List (Str × Nat)} {nm : List (Str × NameKind)} {T : Tab} {TB : Addr → Prop} {k : Nat} {X : Cx}
variable {a b : Expr} {p : Pos} {ms ns : List Nat} {f g : Sls → Option PyData} {ca cb : Bool} {es : List Expr} {fs : Sls → Option (List PyData)} {ce : Bool} {tg : Expr}
theorem sl3_rep {pins : List (Addr × Obj)} {s : Shared} {σ : L2.St} {H : Hp} {x : V} {v vl vu vs : Value} {lo hi : Option Int} {c : Int} {sl : Addr} {Q : VK} {A : Addr → Prop} {d res : PyData} (I : Inv X pins σ H s) (rx : RelV x v) (hs : s.heap.IsSliceOf sl vl vu vs) (pl : IsPart vl lo) (pu : IsPart vu hi) (pc : IsPart vs (some c))
    (hA : ∀ a, H a = none → A a) (rd : Rep X.K H A d x) (hf : slice3 lo hi c d = some res) (q : ∀ z H', Grow H H' → Rep X.K H' A res z → Q z H') :
    ∃ T id, typeLookup (.type T) "__getitem__" = pure (some (.builtin id)) ∧ s.TypeIs v T ∧ wpAny (model X.prog X.w) X.A (getItem v (.ref sl)) (EP X pins σ Q) X.xe s := by
  unfold slice3 at hf
  split at hf
  · split at hf
    · rename_i hc
      cases hf
      cases rd with
      | lst h2 h3 =>
        cases rx
        obtain ⟨its, r, ht, hz⟩ := I.list h2.sql
        have hn := r.length
        have hn2 := h3.length
        have hl : its.length = ‹List PyData›.length := by omega
        refine ⟨"list", _, slot_list_getitem.lookup, ht.isList.typeIs, wpAny_getItem_list_slice ht.isList hs pl pu pc (by simpa using hc.1) ?_ (by rw [List.size_toArray]; omega)⟩
        rw [slicePick_is, hl]
        have np := I.hok.fresh (Nat.le_refl s.heap.objs.size)
        have r3 := h3.pickL (ixL lo hi c ‹List PyData›.length)
        refine ⟨.ref _, _, I.laid (t' := s.toks) (o := .lst (pickL (ixL lo hi c ‹List PyData›.length) ‹List V›)) (fun b ob q => Heap.get?_push_of_some _ q) (Nat.le_refl _) ?_, rfl, q _ _ (.new np) (.lst (.inl ⟨hA _ np, .inl upd_same⟩) (r3.up (.new np)))⟩
        exact ⟨by rw [← r3.length, ← lim_line]; exact hc.2.2.2, _, 0, Vals.pickL r _, Heap.get?_push_size _ rfl⟩
    · cases hf
  · split at hf
    · rename_i hc
      cases hf
      cases rd with
      | tup h2 h3 =>
        cases rx
        obtain ⟨its, r, ht, hz⟩ := I.tuple h2.sqt
        have hn := r.length
        have hn2 := h3.length
        have hl : its.length = ‹List PyData›.length := by omega
        have r3 := h3.pickL (ixT lo hi c ‹List PyData›.length)
        have r4 := Vals.pickL r (ixT lo hi c ‹List PyData›.length)
        have hz3 : (pickL (ixT lo hi c ‹List PyData›.length) its).length ≤ sizeLine := by rw [← r4.length, ← r3.length, ← lim_line]; exact hc.2.2.2
        by_cases h1 : c = 1
        · obtain ⟨rfl, rfl⟩ := hc.2.1 h1
          subst h1
          rw [ixT_one, pick_all] at q
          exact ⟨"tuple", _, PyProof.Rows.slot_tuple_getitem.lookup, ht.typeIs, getItem_tup3w ht hs pl pu pc ⟨.ref _, H, I, rfl, q _ _ (.refl H) (.tup h2 h3)⟩⟩
        refine ⟨"tuple", _, PyProof.Rows.slot_tuple_getitem.lookup, ht.typeIs, getItem_tup3 ht hs pl pu pc hc.1 h1 ?_ ?_⟩
        · rw [List.size_toArray, hl]; exact hz3
        · simp only [List.size_toArray, hl]
          have np := I.hok.fresh (Nat.le_refl s.heap.objs.size)
          refine ⟨.ref _, _, I.laid (t' := s.toks) (o := .tup (pickL (ixT lo hi c ‹List PyData›.length) ‹List V›)) (fun b ob q => Heap.get?_push_of_some _ q) (Nat.le_refl _) ?_, rfl, q _ _ (.new np) (.tup (.of upd_same) (r3.up (.new np)))⟩
          exact ⟨by rw [r4.length]; exact hz3, _, r4, IsTup.new _ _⟩
    · cases hf
  · split at hf
    · rename_i hc
      cases hf
      cases rd
      obtain ⟨t, rfl⟩ := rx
      obtain ⟨os, hos, hcs, hds⟩ := hs
      obtain ⟨l, rfl, rfl⟩ := IsPart.raw pl
      obtain ⟨u, rfl, rfl⟩ := IsPart.raw pu
      obtain ⟨st, rfl, hst⟩ := IsPart.raw pc
      have hst2 : (st.map (·.1)).getD 1 = c := by rw [hst]; rfl
      refine ⟨"str", _, F.slot_str_getitem.lookup, typeIs_str _ _ _, wpAny_getItem_str_slice (l := l) (u := u) (st := st) ⟨os, hos, hcs, hds⟩ (by rw [hst2]; simpa using hc.1) ?_⟩
      by_cases h1 : c = 1
      · obtain ⟨k1, k2⟩ := hc.2.1 h1
        subst h1
        have e0 : slicePicked ‹Str› l u st = List.range (‹Str› : Str).length := by
          unfold slicePicked
          rw [hst2, k1, k2]
          exact ixS_one _
        have y1 : (((st.map (·.1)).getD 1 == 1 && (slicePicked ‹Str› l u st).length == (‹Str› : Str).length) = true) := by
          rw [hst2, e0]
          simp
        have e2 : pickL (ixS (l.map (·.1)) (u.map (·.1)) 1 (‹Str› : Str).length) (‹Str› : Str).cps.toList = (‹Str› : Str).cps.toList := by
          rw [k1, k2, ixS_one]
          have := pick_all (‹Str› : Str).cps.toList
          rw [Array.length_toList] at this
          exact this
        unfold sliceMade
        rw [if_pos y1]
        rw [e2] at q
        exact ⟨.str _, H, I, ⟨t, rfl⟩, q _ _ (.refl H) (.str _)⟩
      have n1 : ¬ (((st.map (·.1)).getD 1 == 1 && (slicePicked ‹Str› l u st).length == (‹Str› : Str).length) = true) := fun z => by
        rw [hst2] at z
        simp only [Bool.and_eq_true, beq_iff_eq] at z
        exact h1 z.1
      have e1 : ((slicePicked ‹Str› l u st).filterMap ((‹Str› : Str).cps[·]?)) = pickL (ixS (l.map (·.1)) (u.map (·.1)) c (‹Str› : Str).length) (‹Str› : Str).cps.toList := by
        unfold slicePicked ixS pickL
        rw [hst2]
        congr 1
        funext i
        simp
      unfold sliceMade
      rw [if_neg n1, e1]
      exact ⟨by rw [← lim_line]; simpa [Str.length] using hc.2.2.2, .str _, H, I.tok _, ⟨_, rfl⟩, q _ _ (.refl H) (.str _)⟩
    · cases hf
  · cases hf
noncomputable def sli3V (a : Option PyData) (lo hi : Option (Option Int)) (st : Option PyData) : Option PyData := match a with
  | some d => (match lo with
    | some l => (match hi with
      | some h => (match st with
        | some (.int c) => slice3 l h c d
        | _ => none)
      | none => none)
    | none => none)
  | none => none
instance (priority := low) purSl3 {lo hi : Option Expr} {ss : Expr} {fl fh : Sls → Option (Option Int)} {cl ch : Bool} {p2 pos : Pos} [h1 : PurE S nm T a ms f ca] [h2 : PurO S nm T lo fl cl] [h3 : PurO S nm T hi fh ch] [h4 : PurE S nm T ss ns g cb] :
    PurE S nm T (.Subscript a (.Slice lo hi (some ss) p2) pos) ms (fun env => sli3V (f env) (fl env) (fh env) (g env)) (ca && cl && ch && cb) where
  run hc TB k X G := by
    simp only [Bool.and_eq_true] at hc
    obtain ⟨ta, ha, qa⟩ := h1.run hc.1.1.1 TB k X G
    obtain ⟨tl, hl, ql⟩ := h2.run hc.1.1.2 TB k X G
    obtain ⟨th, hh, qh⟩ := h3.run hc.1.2 TB k X G
    obtain ⟨ts, hs, qs⟩ := h4.run hc.2 TB k X G
    have hso := po_some hs
    refine ⟨fun σ H Q => ta σ H fun x H1 => tl σ H1 fun l H2 => th σ H2 fun h H3 => tPart ts σ H3 fun o H4 => ∃ (c : Int) (A : Addr → Prop) (d res : PyData), o = some c ∧ (∀ a, H4 a = none → A a) ∧ Rep X.K H4 A d x ∧ slice3 l h c d = some res ∧ ∀ z H', Grow H4 H' → Rep X.K H' A res z → Q z H', ⟨fun pins s σ H Q I h => ?_⟩, fun A H0 H σ env d Q E hf q => ?_⟩
    · refine Subscript_ (thn (ha.run pins s σ H _ I h) fun v s1 ⟨x, H1, I1, r1, q1⟩ => ?_)
      refine wpAny_Slice (thn (hl.run pins s1 σ H1 _ I1 q1) fun vl s2 ⟨l, H2, I2, pl, q2⟩ => thn (hh.run pins s2 σ H2 _ I2 q2) fun vu s3 ⟨u, H3, I3, pu, q3⟩ => thn (hso.run pins s3 σ H3 _ I3 q3) fun vs s4 ⟨o, H4, I4, pc, q4⟩ => ?_)
      obtain ⟨c, A, d, res, rfl, hA, rd, hf, q⟩ := q4
      have I5 : Inv X pins σ H4 { s4 with heap := s4.heap.push { cls := .type "slice", data := .fields #[vl, vu, vs] } } := I4.kept (t' := s4.toks) fun b ob q => Heap.get?_push_of_some _ q
      obtain ⟨T1, id1, y1, y2, y3⟩ := sl3_rep I5 r1 (Heap.IsSliceOf.new ..) pl pu pc hA rd hf q
      show wpAny (model X.prog X.w) X.A (subscriptTail a (.Slice lo hi (some ss) p2) v (.ref s4.heap.objs.size)) (EP X pins σ Q) X.xe { s4 with heap := s4.heap.push { cls := .type "slice", data := .fields #[vl, vu, vs] } }
      exact tail_any (ops := [v, .ref s4.heap.objs.size]) y2 y1 y3 (by with_unfolding_all rfl)
    · unfold sli3V at hf
      try dsimp only at hf
      split at hf
      · rename_i x e1
        split at hf
        · rename_i l e2
          split at hf
          · rename_i h e3
            split at hf
            · rename_i c e4
              refine qa A H0 H σ env x _ E e1 fun u H1 g1 r1 => ?_
              refine ql A H0 H1 σ env l _ (E.up g1) e2 fun H2 g2 => ?_
              refine qh A H0 H2 σ env h _ ((E.up g1).up g2) e3 fun H3 g3 => ?_
              refine qs A H0 H3 σ env _ _ (((E.up g1).up g2).up g3) e4 fun y H4 g4 r4 => ?_
              cases r4
              have gg := ((g1.trans g2).trans g3).trans g4
              exact ⟨c, rfl, c, sel ms A env σ, x, d, rfl, (E.up gg).selfree _, ((r1.up g2).up g3).up g4, hf, fun z H' g r => q z H' (gg.trans g) r⟩
            · cases hf
          · cases hf
        · cases hf
      · cases hf
end
/-! evaluated -/
@[simp] theorem sli3V_some (d : PyData) (l h : Option Int) (c : Int) : sli3V (some d) (some l) (some h) (some (.int c)) = slice3 l h c d := id rfl
theorem pick_rev {α : Type} (xs : List α) (is : List Nat) (h : is = (List.range xs.length).map fun k => xs.length - 1 - k) : pickL is xs = xs.reverse := by
  unfold pickL
  rw [h, PySem.W.krv_range, List.filterMap_reverse]
  have := PySem.W.krv_all xs.toArray
  simp only [List.size_toArray, List.getElem?_toArray] at this
  rw [this]
theorem ixL_rev (n : Nat) : ixL none none (-1) n = (List.range n).map fun k => n - 1 - k := by
  unfold ixL
  rw [PySem.W.krv_bounds]
  exact PySem.W.krv_sliceRange n
theorem ixS_rev (n : Nat) : ixS none none (-1) n = (List.range n).map fun k => n - 1 - k := PySem.W.krv_sliceRange n
theorem ixT_rev (n : Nat) : ixT none none (-1) n = (List.range n).map fun k => n - 1 - k := by
  unfold ixT
  have e1 : Builtin.Slice.sliceAdjust none none (-1) (n : Int) = ((n : Int) - 1, -1) := rfl
  rw [e1]
  have e2 : Builtin.Slice.slicePlaces ((n : Int) - 1) (-1) (-1) = n := by
    unfold Builtin.Slice.slicePlaces
    rw [if_neg (by decide)]
    split
    · rw [show (-(-1) : Int) = 1 by decide, Int.ediv_one]; omega
    · omega
  rw [e2]
  apply List.map_congr_left
  intro k hk
  have := List.mem_range.mp hk
  omega
theorem C3_rev {n : Nat} (h : n ≤ LIM) : C3 none none (-1) n n := ⟨by decide, by decide, h, h⟩
@[simp] theorem slice3_rev_list {xs : List PyData} (h : xs.length ≤ LIM) : slice3 none none (-1) (.list xs) = some (.list xs.reverse) := by
  unfold slice3
  dsimp only
  rw [pick_rev xs _ (ixL_rev _), if_pos (by rw [List.length_reverse]; exact C3_rev h)]
@[simp] theorem slice3_rev_tuple {xs : List PyData} (h : xs.length ≤ LIM) : slice3 none none (-1) (.tuple xs) = some (.tuple xs.reverse) := by
  unfold slice3
  dsimp only
  rw [pick_rev xs _ (ixT_rev _), if_pos (by rw [List.length_reverse]; exact C3_rev h)]

/-! ### texts by their letters -/
/-- the text of these code points -/
def mkS (l : List Nat) : Str := ⟨l.toArray⟩
theorem mkS_cps (z : Str) : mkS z.cps.toList = z := by cases z; simp [mkS]
@[simp] theorem mkS_list (l : List Nat) : (mkS l).cps.toList = l := by simp [mkS]
@[simp] theorem mkS_length (l : List Nat) : (mkS l).length = l.length := by simp [mkS, Str.length]
@[simp] theorem mkS_inj {l m : List Nat} : mkS l = mkS m ↔ l = m := by simp [mkS]
@[simp] theorem mkS_append (l m : List Nat) : mkS l ++ mkS m = mkS (l ++ m) := by
  show Str.append (mkS l) (mkS m) = _
  simp [Str.append, mkS]
@[simp] theorem slice3_rev_str {l : List Nat} (h : l.length ≤ LIM) : slice3 none none (-1) (.str (mkS l)) = some (.str (mkS l.reverse)) := by
  unfold slice3
  dsimp only
  rw [mkS_list, mkS_length, pick_rev l _ (ixS_rev _), if_pos (by rw [List.length_reverse]; exact C3_rev h)]
  rfl
@[simp] theorem chars_mkS (l : List Nat) : chars (mkS l) = l.map fun c => .str (mkS [c]) := by simp [chars, mkS]
@[simp] theorem lenF_mkS {l : List Nat} (h : l.length ≤ LIM) : lenF [.str (mkS l)] = some (.int l.length) := by
  show (if (mkS l).length ≤ LIM then some (PyData.int (mkS l).length) else none) = _
  rw [mkS_length, if_pos h]
@[simp] theorem addP_mkS {l m : List Nat} (h : l.length + m.length ≤ LIM) : addP (.str (mkS l)) (.str (mkS m)) = some (.str (mkS (l ++ m))) := by
  show (if (mkS l).length + (mkS m).length ≤ LIM then some (PyData.str (mkS l ++ mkS m)) else none) = _
  rw [mkS_length, mkS_length, if_pos h, mkS_append]
@[simp] theorem iaddP_mkS {l m : List Nat} (h : l.length + m.length ≤ LIM) : iaddP (.str (mkS l)) (.str (mkS m)) = some (.str (mkS (l ++ m))) := addP_mkS h
@[simp] theorem addP_list {l m : List PyData} (h : l.length + m.length ≤ LIM) : addP (.list l) (.list m) = some (.list (l ++ m)) := if_pos h
@[simp] theorem addP_tuple {l m : List PyData} (h : l.length + m.length ≤ LIM) : addP (.tuple l) (.tuple m) = some (.tuple (l ++ m)) := if_pos h
@[simp] theorem itemD_mkS {l : List Nat} {i : Int} (hl : l.length ≤ LIM) (h : 0 ≤ i) (h2 : i < l.length) : itemD (.str (mkS l)) (.int i) = some (.str (mkS [nth l i])) := by
  show (if (mkS l).length ≤ LIM then (match atI (mkS l).cps.toList i with | some c => some (PyData.str ⟨#[c]⟩) | none => none) else none) = _
  rw [mkS_length, if_pos hl, mkS_list, atI_pos h, nth_eq h h2]
  rfl
theorem sliceD_mkS {l : List Nat} {lo hi : Option Int} (hl : l.length ≤ LIM) : sliceD lo hi (.str (mkS l)) = some (.str (mkS (sliceL l lo hi))) := by
  show (if (mkS l).length ≤ LIM then some (PyData.str ⟨(sliceL (mkS l).cps.toList lo hi).toArray⟩) else none) = _
  rw [mkS_length, if_pos hl, mkS_list]
  rfl
@[simp] theorem sliV_some (d : PyData) (l h : Option Int) : sliV (some d) (some l) (some h) = sliceD l h d := id rfl
@[simp] theorem partV_int (i : Int) : partV (some (.int i)) = some (some i) := id rfl
theorem sliceL_none {α : Type} {xs : List α} {hi : Int} (h : 0 ≤ hi) : sliceL xs none (some hi) = xs.take hi.toNat := by
  unfold sliceL HT.sIx
  dsimp only
  rw [if_neg (by omega), List.drop_zero, Nat.sub_zero]
  by_cases hx : hi.toNat ≤ xs.length
  · rw [Nat.min_eq_left hx]
  · rw [Nat.min_eq_right (by omega), List.take_of_length_le (Nat.le_refl _), List.take_of_length_le (by omega)]
theorem sliceL_some {α : Type} {xs : List α} {lo : Int} (h : 0 ≤ lo) : sliceL xs (some lo) none = xs.drop lo.toNat := by
  unfold sliceL HT.sIx
  dsimp only
  rw [if_neg (by omega)]
  by_cases hx : lo.toNat ≤ xs.length
  · rw [Nat.min_eq_left hx, List.take_of_length_le (by simp)]
  · rw [Nat.min_eq_right (by omega)]; simp; omega
theorem sliceL_both {α : Type} {xs : List α} {lo hi : Int} (h : 0 ≤ lo) (h2 : 0 ≤ hi) : sliceL xs (some lo) (some hi) = (xs.drop lo.toNat).take (hi.toNat - lo.toNat) := by
  unfold sliceL HT.sIx
  dsimp only
  rw [if_neg (by omega), if_neg (by omega)]
  by_cases hx : lo.toNat ≤ xs.length
  · rw [Nat.min_eq_left hx]
    by_cases hy : hi.toNat ≤ xs.length
    · rw [Nat.min_eq_left hy]
    · rw [Nat.min_eq_right (by omega), List.take_of_length_le (by simp), List.take_of_length_le (by simp; omega)]
  · have e1 : min lo.toNat xs.length = xs.length := Nat.min_eq_right (by omega)
    rw [e1, List.drop_length, List.drop_of_length_le (l := xs) (i := lo.toNat) (by omega)]; simp
/-- ''.join -/
theorem glued_nil (ys : List (List Nat)) : Txt.join (mkS []) (ys.map mkS) = mkS ys.flatten := by
  have h : Txt.join (mkS []) (ys.map mkS) = mkS (TL.joinL [] ys) := by
    rw [TL.join_eq, ← mkS_cps (Str.join (mkS []) (ys.map mkS))]
    have h2 := TL.tl_join (mkS []) (ys.map mkS)
    have h3 : (ys.map mkS).map TL.tl = ys := by rw [List.map_map]; exact (List.map_congr_left fun l _ => mkS_list l).trans (List.map_id ys)
    rw [h3] at h2
    exact congrArg mkS h2
  have e : ∀ l : List (List Nat), TL.joinL [] l = l.flatten := fun l => by
    induction l with
    | nil => rfl
    | cons x r ih => cases r with
      | nil => simp [TL.joinL]
      | cons y r => rw [TL.joinL, ih]; simp
  rw [e] at h
  exact h
theorem joC_nil {ys : List (List Nat)} (h : ys.flatten.length ≤ 16777216) : JoC (mkS []) (ys.map mkS) := by
  unfold JoC
  rw [mkS_length, List.map_map, List.length_nil, Nat.mul_zero, Nat.add_zero]
  have e : (ys.map ((fun s => Str.length s) ∘ mkS)) = ys.map List.length := List.map_congr_left fun l _ => mkS_length l
  rw [show ((fun x => Str.length x) ∘ mkS) = ((fun s => Str.length s) ∘ mkS) from rfl, e, ← List.length_flatten]
  exact h
@[simp] theorem joinF_list {ys : List (List Nat)} (h : ys.flatten.length ≤ 16777216) : joinF (.str (mkS [])) (.list (ys.map fun l => .str (mkS l))) = some (.str (mkS ys.flatten)) := by
  have e : (ys.map fun l => PyData.str (mkS l)) = (ys.map mkS).map .str := by rw [List.map_map]; rfl
  rw [e]
  unfold joinF
  dsimp only
  rw [asStrs_map]
  dsimp only
  rw [if_pos (joC_nil h), glued_nil]
/-- ''.join of one-letter texts -/
@[simp] theorem joinF_chars {α : Type} {ys : List α} {f : α → Nat} (h : ys.length ≤ 16777216) : joinF (.str (mkS [])) (.list (ys.map fun c => .str (mkS [f c]))) = some (.str (mkS (ys.map f))) := by
  have e2 : ∀ l : List α, (l.map fun c => [f c]).flatten = l.map f := fun l => by
    induction l with
    | nil => rfl
    | cons x r ih => simp [ih]
  have := joinF_list (ys := ys.map fun c => [f c]) (by rw [e2]; simpa using h)
  rw [e2, List.map_map] at this
  exact this
theorem lit_empty : ("" : Str) = mkS [] := by decide +kernel
end Pu

set_option Elab.async false
set_option linter.all false
set_option autoImplicit false
set_option maxRecDepth 100000
set_option maxHeartbeats 4000000
namespace Pu
open PySem PySem.Spec PyProof.Rows L2 GxR

/-! ### numbers -/
theorem bezout (a b : Nat) : ∃ x y : Int, (Nat.gcd a b : Int) = a * x + b * y := by
  induction a, b using Nat.gcd.induction with
  | H0 n => exact ⟨0, 1, by simp⟩
  | H1 m n h ih =>
    obtain ⟨x, y, e⟩ := ih
    refine ⟨y - ((n / m : Nat) : Int) * x, x, ?_⟩
    rw [Nat.gcd_rec, e]
    have e2 : ((n % m : Nat) : Int) = n - m * ((n / m : Nat) : Int) := by
      have := Nat.mod_add_div n m
      have h3 : ((n % m + m * (n / m) : Nat) : Int) = n := by rw [this]
      push_cast at h3 ⊢
      omega
    rw [e2, Int.sub_mul, Int.mul_sub, Int.mul_assoc]
    omega
theorem bezoutI (a b : Int) : ∃ x y : Int, (Int.gcd a b : Int) = a * x + b * y := by
  obtain ⟨x, y, e⟩ := bezout a.natAbs b.natAbs
  have ha : ∃ s : Int, (a.natAbs : Int) = a * s := by
    rcases Int.natAbs_eq a with h | h
    · exact ⟨1, by omega⟩
    · exact ⟨-1, by omega⟩
  have hb : ∃ s : Int, (b.natAbs : Int) = b * s := by
    rcases Int.natAbs_eq b with h | h
    · exact ⟨1, by omega⟩
    · exact ⟨-1, by omega⟩
  obtain ⟨s, hs⟩ := ha
  obtain ⟨t, ht⟩ := hb
  refine ⟨s * x, t * y, ?_⟩
  show ((Nat.gcd a.natAbs b.natAbs : Nat) : Int) = _
  rw [e, hs, ht, Int.mul_assoc, Int.mul_assoc]
/-- two congruences at once -/
theorem crt {a b r s : Int} (h : (Int.gcd r s : Int) ∣ b - a) : ∃ t : Int, r ∣ t - a ∧ s ∣ t - b := by
  obtain ⟨x, y, e⟩ := bezoutI r s
  obtain ⟨k, hk⟩ := h
  refine ⟨a + r * (x * k), ⟨x * k, by omega⟩, ⟨-(y * k), ?_⟩⟩
  have e2 : (Int.gcd r s : Int) * k = r * (x * k) + s * (y * k) := by rw [e, Int.add_mul, Int.mul_assoc, Int.mul_assoc]
  rw [Int.mul_neg]
  omega
theorem emod_eq_of_dvd {a b r : Int} (h : r ∣ a - b) : a % r = b % r := (Int.emod_eq_emod_iff_emod_sub_eq_zero).mpr (Int.emod_eq_zero_of_dvd h)
theorem dvd_of_emod_eq {a b r : Int} (h : a % r = b % r) : r ∣ a - b := Int.dvd_of_emod_eq_zero ((Int.emod_eq_emod_iff_emod_sub_eq_zero).mp h)
theorem dvd_sub_emod (a r : Int) : r ∣ a - a % r := ⟨a / r, by have := Int.emod_add_mul_ediv a r; omega⟩

/-! ### drawn numbers -/
structure DR (ds : List Int) (n : Int) : Prop where
  len : (ds.length : Int) = n
  bd : ∀ x ∈ ds, 0 ≤ x ∧ x < 5040
theorem DR.nth {ds : List Int} {n : Int} (h : DR ds n) (i : Int) : 0 ≤ Pu.nth ds i ∧ Pu.nth ds i < 5040 := by
  unfold Pu.nth
  cases e : ds[i.toNat]? with
  | none => exact ⟨Int.le_refl 0, by show (0 : Int) < 5040; decide⟩
  | some x => exact h.bd x (List.mem_of_getElem? e)
theorem mem_sliceL {α : Type} {xs : List α} {lo hi : Option Int} {x : α} (h : x ∈ sliceL xs lo hi) : x ∈ xs := List.mem_of_mem_drop (List.mem_of_mem_take h)
theorem sliceL_map {α β : Type} (f : α → β) (xs : List α) (lo hi : Option Int) : sliceL (xs.map f) lo hi = (sliceL xs lo hi).map f := by
  unfold sliceL
  rw [List.length_map, List.map_take, List.map_drop]
@[simp] theorem sliceD_map {α : Type} (f : α → PyData) (xs : List α) (lo hi : Option Int) : sliceD lo hi (.list (xs.map f)) = some (.list ((sliceL xs lo hi).map f)) := by
  show some (PyData.list (sliceL (xs.map f) lo hi)) = _
  rw [sliceL_map]
@[simp] theorem sliceD_mapT {α : Type} (f : α → PyData) (xs : List α) (lo hi : Option Int) : sliceD lo hi (.tuple (xs.map f)) = some (.tuple ((sliceL xs lo hi).map f)) := by
  show some (PyData.tuple (sliceL (xs.map f) lo hi)) = _
  rw [sliceL_map]
theorem DR.slice {ds : List Int} {n lo hi : Int} (h : DR ds n) (h0 : 0 ≤ lo) (h1 : lo ≤ hi) (h2 : hi ≤ n) : DR (sliceL ds (some lo) (some hi)) (hi - lo) := by
  refine ⟨?_, fun x hx => h.bd x (mem_sliceL hx)⟩
  rw [sliceL_both h0 (by omega)]
  simp
  have := h.len
  omega
theorem filter_ne_nil_of {α : Type} {p : α → Bool} {xs : List α} (h : ∃ x ∈ xs, p x = true) : xs.filter p ≠ [] := by
  obtain ⟨x, hx, hp⟩ := h
  exact List.ne_nil_of_mem (List.mem_filter.mpr ⟨hx, hp⟩)
theorem nth_all {α : Type} [Inhabited α] {xs : List α} {i : Int} {P : α → Prop} (h : ∀ x ∈ xs, P x) (h0 : 0 ≤ i) (h1 : i < xs.length) : P (nth xs i) := h _ (nth_mem h0 h1)
/-- over items that stand there: they are f x for x in xs -/
theorem lcV_mapE {α : Type} {mi tl : List Nat} {gt : PyData → Sls → Option Sls} {ft : Sls → Option Bool} {fe : Sls → Option PyData} {env : Sls} {ds : List PyData} (f : α → PyData) (xs : List α) (p : α → Bool) (g : α → PyData) (hd : ds = xs.map f) (hl : xs.length ≤ LIM)
    (h : ∀ x ∈ xs, lcStep gt ft fe (wipeE tl (freeze mi env)) (f x) = some (if p x = true then some (g x) else none)) : lcV (some ds) mi tl gt ft fe env = some ((xs.filter p).map g) := by
  subst hd
  exact lcV_map p g hl h
theorem lcV_allE {α : Type} {mi tl : List Nat} {gt : PyData → Sls → Option Sls} {ft : Sls → Option Bool} {fe : Sls → Option PyData} {env : Sls} {ds : List PyData} (f : α → PyData) (xs : List α) (g : α → PyData) (hd : ds = xs.map f) (hl : xs.length ≤ LIM)
    (h : ∀ x ∈ xs, lcStep gt ft fe (wipeE tl (freeze mi env)) (f x) = some (some (g x))) : lcV (some ds) mi tl gt ft fe env = some (xs.map g) := by
  subst hd
  exact lcV_all g hl h
end Pu

set_option Elab.async false
set_option linter.all false
set_option autoImplicit false
set_option maxRecDepth 100000
set_option maxHeartbeats 4000000
namespace Pu
open PySem PySem.Spec PyProof.Rows L2 GxR

/-! ### range with a step -/
def stp (i j c : Int) : Nat := (Builtin.Range.rangeSize i j c).toNat
def stepL (i j c : Int) : List Int := (List.range (stp i j c)).map fun k => i + (k : Nat) * c
theorem stp_eq (i j c : Int) : Builtin.Range.rangeSize i j c = ((stp i j c : Nat) : Int) := by
  have h : 0 ≤ Builtin.Range.rangeSize i j c := by
    unfold Builtin.Range.rangeSize
    split
    · split
      · have := Int.ediv_nonneg (a := j - i - 1) (b := c) (by omega) (by omega); omega
      · omega
    · split
      · have := Int.ediv_nonneg (a := i - j - 1) (b := -c) (by omega) (by omega); omega
      · omega
  unfold stp
  omega
theorem itOk_step {K : PySem.W.Frag} {W B : Addr → Prop} {H1 : Hp} {lo c : Int} {n : Nat} : ItOk K W B H1 (Itc lo c n) ((List.range n).map fun k => PyData.int (lo + (k : Nat) * c)) := by
  intro i Hi s
  refine ⟨fun d hd => ?_, fun e => ?_⟩
  · rw [List.getElem?_map] at hd
    cases e : (List.range n)[i]? with
    | none => rw [e] at hd; cases hd
    | some j =>
      rw [e] at hd
      cases hd
      obtain ⟨h1, h2⟩ := List.getElem?_eq_some_iff.mp e
      rw [List.getElem_range] at h2
      subst h2
      refine ⟨(by simpa using h1 : i < n), fun x H2 y => ?_⟩
      obtain ⟨rfl, rfl⟩ := y
      exact ⟨.refl _, .int _⟩
  · subst e
    show n ≤ _
    simp
def StC (i j c : Int) : Prop := c ≠ 0 ∧ c.natAbs < 1073741824 ∧ Builtin.Range.small i j c = true
noncomputable instance (i j c : Int) : Decidable (StC i j c) := Classical.propDecidable _
noncomputable def rangeV3 (a : Option (List PyData)) : Option (List PyData) := match a with
  | some [.int i, .int j, .int c] => if StC i j c then some ((stepL i j c).map .int) else none
  | _ => none
section
variable {S : List (Str × Nat)} {nm : List (Str × NameKind)} {T : Tab} {TB : Addr → Prop} {k : Nat} {X : Cx}
variable {a b c : Expr} {p : Pos} {ms ns : List Nat} {f g : Sls → Option PyData} {ca cb : Bool} {es : List Expr} {fs : Sls → Option (List PyData)} {ce : Bool} {tg : Expr}
instance purRange3 {pn : Pos} [h1 : PurA S nm T [a, b, c] ms fs ce] : PurI S nm T tg (.Call (.Name "range" pn) [a, b, c] [] p) [] (fun env => rangeV3 (fs env)) (ce && bltC nm T "range" && notStar a && notStar b && notStar c) where
  run hc TB k X G := by
    simp only [Bool.and_eq_true] at hc
    obtain ⟨⟨⟨⟨hc1, hc2⟩, hc3⟩, hc4⟩, hc5⟩ := hc
    obtain ⟨ta, ha, la, qa⟩ := h1.run hc1 TB k X G
    obtain ⟨g1, g2⟩ := G.bl hc2
    refine ⟨_, pi_range3 g1 g2 ha (star_of hc3) (stars_of (es := [b, c]) (by simp [hc4, hc5])), fun env x => rfl, fun A H0 H σ env items W R E hf hW hB q => ?_⟩
    unfold rangeV3 at hf
    try dsimp only at hf
    split at hf
    · rename_i i j c e
      split at hf
      · rename_i hb
        cases hf
        refine qa A H0 H σ env _ _ E e fun vs H1 g1 r1 => ?_
        cases r1 with
        | cons r1 r2 => cases r2 with
          | cons r2 r3 => cases r3 with
            | cons r3 r4 =>
              cases r1
              cases r2
              cases r3
              cases r4
              refine ⟨i, j, c, stp i j c, rfl, ⟨hb.1, hb.2.1, hb.2.2, stp_eq i j c⟩, q _ _ g1 ?_⟩
              unfold stepL
              rw [List.map_map]
              exact itOk_step
      · cases hf
    · cases hf

/-! ### enumerate, zip -/
def enumD (xs : List PyData) : List PyData := (xs.zipIdx).map fun p => .tuple [.int (p.2 : Nat), p.1]
def zipD (xs ys : List PyData) : List PyData := (xs.zip ys).map fun p => .tuple [p.1, p.2]
theorem itOk_enum {K : PySem.W.Frag} {W B : Addr → Prop} {H1 : Hp} {a : Addr} {ys : List V} {ds : List PyData} (hW : ∀ b, W b → ∃ o, H1 b = some o ∧ IsOw o) (hB : ∀ a, B a → ¬ W a) (h : LsAt K H1 B a ys) (r : Reps K H1 B ds ys) : ItOk K W B H1 (Ite K a) (enumD ds) := by
  intro i Hi s
  have hL : SqL K Hi a ys := by
    rcases h with ⟨ha, h⟩ | h
    · exact .inl (s.rdL (hB a ha) h)
    · exact LsAt.sql (A := B) (.inr h)
  have r2 := r.stay s hW hB
  have hlen : (enumD ds).length = ds.length := by unfold enumD; simp
  refine ⟨fun d hd => ?_, fun e => ⟨ys, hL, by rw [e, hlen, r.length]; exact Nat.le_refl _⟩⟩
  unfold enumD at hd
  rw [List.getElem?_map] at hd
  cases e : ds.zipIdx[i]? with
  | none => rw [e] at hd; cases hd
  | some q =>
    rw [e] at hd
    cases hd
    rw [List.getElem?_zipIdx] at e
    cases e4 : ds[i]? with
    | none => rw [e4] at e; cases e
    | some d0 =>
      rw [e4] at e
      cases e
      obtain ⟨v, e1, e2⟩ := r2.get e4
      refine ⟨⟨ys, v, hL, e1⟩, fun x H2 y => ?_⟩
      obtain ⟨T, x0, rfl, hT, rfl, y⟩ := y
      have e3 := y ys hL
      rw [e1] at e3; cases e3
      have z : ((0 + i : Nat) : Int) = ((i : Nat) : Int) := by simp
      refine ⟨.new hT, .tup (.of upd_same) (.cons ?_ (.cons (e2.up (.new hT)) .nil))⟩
      show Rep K _ _ (.int ((0 + i : Nat) : Int)) _
      rw [z]
      exact .int _
end
/-! evaluated -/
theorem stC_down {i j : Int} (h : B62 i) (h2 : B62 j) : StC i j (-1) := ⟨by decide, by decide, PySem.W.small_down h.iff.1 h.iff.2 h2.iff.1 h2.iff.2⟩
/-- i, i - 1, .. above j -/
theorem stepL_down (i j : Int) : stepL i j (-1) = (rg (j + 1) (i + 1)).reverse := by
  have e : stp i j (-1) = (i - j).toNat := by unfold stp; rw [PySem.W.rangeSize_downNat]; simp; try omega
  unfold stepL
  rw [e]
  apply List.ext_getElem?
  intro k
  by_cases hk : k < (i - j).toNat
  · rw [List.getElem?_map, List.getElem?_range hk, List.getElem?_reverse (by rw [rg_length]; omega), rg_length]
    unfold rg
    rw [List.getElem?_map, List.getElem?_range (by omega)]
    simp
    omega
  · rw [List.getElem?_eq_none (by simp; omega), List.getElem?_eq_none (by simp; omega)]
@[simp] theorem rangeV3_down {i j : Int} (h : B62 i) (h2 : B62 j) : rangeV3 (some [.int i, .int j, .int (-1)]) = some ((rg (j + 1) (i + 1)).reverse.map .int) := by
  show (if StC i j (-1) then some ((stepL i j (-1)).map PyData.int) else none) = _
  rw [if_pos (stC_down h h2), stepL_down]
theorem stC_up {i j c : Int} (hi : -1000000000000 < i ∧ i < 1000000000000) (hj : -1000000000000 < j ∧ j < 1000000000000) (hc : 0 < c) (hc2 : c < 1000000000) : StC i j c := by
  refine ⟨by omega, by omega, ?_⟩
  have h1 : 0 ≤ (j - i - 1) / c ∨ j ≤ i := by
    by_cases h : i < j
    · exact .inl (Int.ediv_nonneg (by omega) (by omega))
    · exact .inr (by omega)
  have h2 : i < j → (j - i - 1) / c ≤ j - i - 1 := fun h => Int.ediv_le_self _ (by omega)
  unfold Builtin.Range.small Builtin.Range.rangeSize Builtin.Range.rangeFitsLong
  rw [if_pos hc]
  simp only [Bool.and_eq_true, Bool.or_eq_true, decide_eq_true_eq, beq_iff_eq, if_pos hc]
  split <;> omega
@[simp] theorem rangeV3_up {i j c : Int} (hi : -1000000000000 < i ∧ i < 1000000000000) (hj : -1000000000000 < j ∧ j < 1000000000000) (hc : 0 < c) (hc2 : c < 1000000000) : rangeV3 (some [.int i, .int j, .int c]) = some ((stepL i j c).map .int) := if_pos (stC_up hi hj hc hc2)
theorem mem_stepL {i j c x : Int} (hc : 0 < c) : x ∈ stepL i j c ↔ i ≤ x ∧ x < j ∧ c ∣ x - i := by
  have e : (stp i j c : Int) = if i < j then (j - i - 1) / c + 1 else 0 := by
    rw [← stp_eq]
    unfold Builtin.Range.rangeSize
    rw [if_pos hc]
  unfold stepL
  simp only [List.mem_map, List.mem_range]
  constructor
  · rintro ⟨k, hk, rfl⟩
    by_cases h : i < j
    · rw [if_pos h] at e
      have h1 : (k : Int) ≤ (j - i - 1) / c := by omega
      have h2 : (k : Int) * c ≤ j - i - 1 := by
        have := Int.mul_le_mul_of_nonneg_right h1 (show 0 ≤ c by omega)
        have h3 := Int.ediv_mul_le (j - i - 1) (show c ≠ 0 by omega)
        omega
      have h4 : 0 ≤ (k : Int) * c := Int.mul_nonneg (by omega) (by omega)
      exact ⟨by omega, by omega, ⟨k, by rw [Int.mul_comm]; omega⟩⟩
    · rw [if_neg h] at e
      omega
  · rintro ⟨h1, h2, m, hm⟩
    rw [if_pos (by omega)] at e
    have m0 : 0 ≤ m := by
      apply Int.le_of_mul_le_mul_left (a := c) _ hc
      omega
    refine ⟨m.toNat, ?_, ?_⟩
    · have : m ≤ (j - i - 1) / c := by
        rw [Int.le_ediv_iff_mul_le hc, Int.mul_comm]
        omega
      omega
    · rw [Int.toNat_of_nonneg m0, Int.mul_comm]; omega
end Pu

set_option Elab.async false
set_option linter.all false
set_option autoImplicit false
set_option maxRecDepth 100000
set_option maxHeartbeats 4000000
namespace Pu
open PySem PySem.Spec PyProof.Rows L2 GxR

/-! ### enumerate of a tuple, of a text -/
theorem meets_enum1 {v : Value} {o : Obj} {HB : Heap → Prop} (B : Begins v o HB) :
    Meets (Builtin.«enumerate.__new__» ⟨[.type "enumerate", v], []⟩) (fun _ R s => HB s.heap ∧ R (.ok (.ret (.ref (s.heap.push o).objs.size))) { s with heap := (s.heap.push o).push { cls := .type "enumerate", data := .fields #[.none, .bool false, .ref s.heap.objs.size, rawInt 0, .none, .none] } }) :=
  .of_wp fun prog w A R s h => by
    obtain ⟨hp, g, dr, tk, os⟩ := s
    obtain ⟨h1, h⟩ := h
    have sub1 := sub_enumerate
    have it1 : ∀ {A' : Around} {E : Value → Shared → Prop} {Q : Value → Shared → Prop}, Q (.ref hp.objs.size) ⟨hp.push o, g, dr, tk, os⟩ → wpAny (model prog w) A' (pyIter v) Q E ⟨hp, g, dr, tk, os⟩ := fun q => B.iter prog w _ _ ⟨hp, g, dr, tk, os⟩ _ h1 q
    wp_walk using it1
    refine wpAny_stack_any fun st => wpAny_pure ?_
    split
    · rename_i c _ _ _ _ _
      cases (c == Value.type "enumerate") <;> (wp_walk using it1; exact ⟨_, rfl, h⟩)
    · (wp_walk using it1; exact ⟨_, rfl, h⟩)
theorem call_enum1 {prog : Program} {w : PySem.World} {A : Around} {E : Value → Shared → Prop} {s : Shared} {v : Value} {o : Obj} {HB : Heap → Prop} {Q : Value → Shared → Prop} (B : Begins v o HB) (h1 : HB s.heap)
    (h : ∀ h', IsEnum h' (s.heap.objs.size + 1) s.heap.objs.size 0 .none → h'.get? s.heap.objs.size = some o → (∀ b o', s.heap.get? b = some o' → h'.get? b = some o') → Q (.ref (s.heap.objs.size + 1)) { s with heap := h' }) :
    wpAny (model prog w) A (call (.type "enumerate") [v]) Q E s := by
  refine callType_new F.called_enumerate (by decide) (F.typeCall_enumerate_1 _) (F.newCall_enumerate_1 _) (fun obj => F.args_object_init_2 obj _) F.entry_enumerate_new (meets_enum1 B) ⟨h1, ?_⟩
  have sz : (s.heap.push o).objs.size = s.heap.objs.size + 1 := Heap.size_push ..
  have ne : IsEnum ((s.heap.push o).push { cls := .type "enumerate", data := .fields #[.none, .bool false, .ref s.heap.objs.size, rawInt 0, .none, .none] }) (s.heap.objs.size + 1) s.heap.objs.size 0 .none := by
    have := Heap.get?_push_size (s.heap.push o) (o := { cls := .type "enumerate", data := .fields #[.none, .bool false, .ref s.heap.objs.size, rawInt 0, .none, .none] }) rfl
    rwa [sz] at this
  show _ ∧ _
  rw [sz]
  exact ⟨⟨_, ne, rfl⟩, h _ ne (Heap.get?_push_of_some _ (Heap.get?_push_size _ B.free)) fun b o' x => Heap.get?_push_of_some _ (Heap.get?_push_of_some _ x)⟩
/-- the tuple at a, each item in a new pair -/
def IteT (K : PySem.W.Frag) (a : Addr) : It :=
  ⟨fun i H => ∃ (xs : List V) (x : V), SqT K H a xs ∧ xs[i]? = some x, fun i H v H' => ∃ T x, v = .ref T ∧ H T = none ∧ H' = upd H T (.tup [.int (i : Nat), x]) ∧ ∀ xs, SqT K H a xs → xs[i]? = some x, fun i H => ∃ xs : List V, SqT K H a xs ∧ xs.length = i⟩
theorem turn_enumT {P : Program} {w : PySem.World} {K : PySem.W.Frag} {elts : List Expr} {kk : Nat} {tpos : Pos} (a e it : Addr) (ha : a ≠ it ∧ a ≠ e) :
    Turn P w K (.Tuple elts kk tpos) (IteT K a) [e, it] e (fun i h => (∃ old, IsEnum h e it ((i : Nat) : Int) old) ∧ h.IsTupleIter it a i ∧ e ≠ it) where
  mem := by simp
  obj := fun i h st b hb => by
    obtain ⟨⟨old, he⟩, ⟨o, ho, hc, hd⟩, _⟩ := st
    rcases (show b = e ∨ b = it by simpa using hb) with z | z
    · rw [z]; exact ⟨_, he, fun v q => nomatch q⟩
    · rw [z]; exact ⟨o, ho, fun v q => by rw [hd] at q; cases q⟩
  keep := fun i h h' st k => let ⟨⟨old, he⟩, hi, hne⟩ := st; ⟨⟨old, k e (by simp) _ he⟩, hi.at fun o q => k it (by simp) o q, hne⟩
  item := by
    intro X hP hw hK hc i pins s σ H E I hf st hg
    subst hP hw hK
    obtain ⟨⟨old, he⟩, hit, hne⟩ := st
    obtain ⟨xs, x, hq, hx⟩ := hg
    obtain ⟨its, rv, p, hz⟩ := I.tuple hq
    obtain ⟨u, hu, ru⟩ := rv.get hx
    have hel : e < s.heap.objs.size := Heap.lt_size he
    have hil : it < s.heap.objs.size := by obtain ⟨_, q, _⟩ := hit; exact Heap.lt_size q
    have D := Draws.tuple (prog := X.prog) (w := X.w) (A := X.A.in1) (I.ok.hd hc) it a ha.1 its.toArray
    have hlt : i < its.toArray.size := by
      have := (List.getElem?_eq_some_iff.mp hu).1
      simpa using this
    refine wpAny_pyNext_enum_itemC D he ⟨hit, p⟩ hlt hne (by simp [hne, Ne.symm ha.2]) fun y h' tk hP ho hst' hT hsz hk => ?_
    have ey : y = u := by
      have : its[i]? = some y := by simpa using hP
      rw [hu] at this
      exact (Option.some.inj this).symm
    subst ey
    refine ⟨_, rfl, wpAny_letOwnedTupleGo_enum (s := { s with heap := h', toks := tk + 1 }) ho fun h'' he' sb => ?_⟩
    have hT2 := (sb.2 _ (Nat.ne_of_gt hel)).trans hT
    have new : ObjOk X.prog X.w (upd H s.heap.objs.size (.tup [.int (i : Nat), x])) h'' s.heap.objs.size (.tup [.int (i : Nat), x]) := ⟨by show 2 ≤ sizeLine; decide, [.int i tk, y], .cons ⟨_, rfl⟩ (.cons ru .nil), ⟨_, hT2, rfl, _, rfl⟩⟩
    have I1 : Inv X pins σ (upd H s.heap.objs.size (.tup [.int (i : Nat), x])) { s with heap := h'', toks := tk + 1 } :=
      I.turnedNew (ch := [e, it]) (fun b ob hb q => (sb.2 b (fun z => hb (by simp [z]))).trans (hk b ob (fun z => hb (by simp [z])) (fun z => hb (by simp [z])) q)) hf (Nat.le_refl _) new
    refine ⟨.ref s.heap.objs.size, _, I1, rfl, ⟨_, x, rfl, I.hok.fresh (Nat.le_refl _), rfl, fun ys hy => by rw [I.tuple_inj hy hq]; exact hx⟩, ⟨⟨y, ?_⟩, hst'.1.at fun o q => (sb.2 it (Ne.symm hne)).trans q, hne⟩, fun b hb => ?_⟩
    · rw [show ((i + 1 : Nat) : Int) = (i : Int) + 1 by omega]; exact he'
    · have lt : b < s.heap.objs.size := by
        rcases (show b = e ∨ b = it by simpa using hb) with z | z
        · rw [z]; exact hel
        · rw [z]; exact hil
      rw [upd_ne (Nat.ne_of_lt lt)]
      exact (hf b hb).1
  done := by
    intro X hP hw hK hc i pins s σ H E I hf st hg
    subst hP hw hK
    obtain ⟨⟨old, he⟩, hit, hne⟩ := st
    obtain ⟨xs, hq, hx⟩ := hg
    obtain ⟨its, rv, p, hz⟩ := I.tuple hq
    obtain ⟨f0, f1, f2, f3, f4, f5⟩ := hf it (by simp)
    have hl := rv.length
    have D := Draws.tuple (prog := X.prog) (w := X.w) (A := X.A.in1) (I.ok.hd hc) it a ha.1 its.toArray
    have es : its.toArray.size = i := by simp; omega
    refine wpAny_pyNext_enum_endD D he (by rw [es]; exact ⟨hit, p⟩) fun h' eb => ⟨rfl, I.turned (t' := s.toks) (fun b o hb q => eb b o hb q) f0 f1 f3 f4 f5⟩
  self := fun A i s Q E st h => let ⟨⟨_, he⟩, _⟩ := st; wpAny_pyIter_enum he h
/-- the text x, each letter in a new pair -/
def IteS (x : Str) : It :=
  ⟨fun i _ => i < x.cps.size, fun i H v H' => ∃ T c, v = .ref T ∧ H T = none ∧ x.cps[i]? = some c ∧ H' = upd H T (.tup [.int (i : Nat), .str ⟨#[c]⟩]), fun i _ => i = x.cps.size⟩
theorem turn_enumS {P : Program} {w : PySem.World} {K : PySem.W.Frag} {elts : List Expr} {kk : Nat} {tpos : Pos} (x : Str) (t : Tok) (e it : Addr) :
    Turn P w K (.Tuple elts kk tpos) (IteS x) [e, it] e (fun i h => (∃ old, IsEnum h e it ((i : Nat) : Int) old) ∧ h.IsStrIter it (strIterType x) x t i ∧ e ≠ it) where
  mem := by simp
  obj := fun i h st b hb => by
    obtain ⟨⟨old, he⟩, ⟨o, ho, hc, hd⟩, _⟩ := st
    rcases (show b = e ∨ b = it by simpa using hb) with z | z
    · rw [z]; exact ⟨_, he, fun v q => nomatch q⟩
    · rw [z]; exact ⟨o, ho, fun v q => by rw [hd] at q; cases q⟩
  keep := fun i h h' st k => let ⟨⟨old, he⟩, ⟨o, ho, r⟩, hne⟩ := st; ⟨⟨old, k e (by simp) _ he⟩, ⟨o, k it (by simp) o ho, r⟩, hne⟩
  item := by
    intro X hP hw hK hc i pins s σ H E I hf st hg
    subst hP hw hK
    obtain ⟨⟨old, he⟩, hit, hne⟩ := st
    have hel : e < s.heap.objs.size := Heap.lt_size he
    have hil : it < s.heap.objs.size := by obtain ⟨_, q, _⟩ := hit; exact Heap.lt_size q
    have D := Draws.text (prog := X.prog) (w := X.w) (A := X.A.in1) (I.ok.hd hc) it x t
    refine wpAny_pyNext_enum_itemC D he hit hg hne (by simp [hne]) fun y h' tk hP ho hst' hT hsz hk => ?_
    obtain ⟨c, u, ec, ey⟩ := hP
    refine ⟨_, rfl, wpAny_letOwnedTupleGo_enum (s := { s with heap := h', toks := tk + 1 }) ho fun h'' he' sb => ?_⟩
    have hT2 := (sb.2 _ (Nat.ne_of_gt hel)).trans hT
    have new : ObjOk X.prog X.w (upd H s.heap.objs.size (.tup [.int (i : Nat), .str ⟨#[c]⟩])) h'' s.heap.objs.size (.tup [.int (i : Nat), .str ⟨#[c]⟩]) := ⟨by show 2 ≤ sizeLine; decide, [.int i tk, y], .cons ⟨_, rfl⟩ (.cons ⟨u, ey⟩ .nil), ⟨_, hT2, rfl, _, rfl⟩⟩
    have I1 : Inv X pins σ (upd H s.heap.objs.size (.tup [.int (i : Nat), .str ⟨#[c]⟩])) { s with heap := h'', toks := tk + 1 } :=
      I.turnedNew (ch := [e, it]) (fun b ob hb q => (sb.2 b (fun z => hb (by simp [z]))).trans (hk b ob (fun z => hb (by simp [z])) (fun z => hb (by simp [z])) q)) hf (Nat.le_refl _) new
    refine ⟨.ref s.heap.objs.size, _, I1, rfl, ⟨_, c, rfl, I.hok.fresh (Nat.le_refl _), ec, rfl⟩, ⟨⟨y, ?_⟩, (by obtain ⟨o, q, r⟩ := hst'; exact ⟨o, (sb.2 it (Ne.symm hne)).trans q, r⟩), hne⟩, fun b hb => ?_⟩
    · rw [show ((i + 1 : Nat) : Int) = (i : Int) + 1 by omega]; exact he'
    · have lt : b < s.heap.objs.size := by
        rcases (show b = e ∨ b = it by simpa using hb) with z | z
        · rw [z]; exact hel
        · rw [z]; exact hil
      rw [upd_ne (Nat.ne_of_lt lt)]
      exact (hf b hb).1
  done := by
    intro X hP hw hK hc i pins s σ H E I hf st hg
    subst hP hw hK
    obtain ⟨⟨old, he⟩, hit, hne⟩ := st
    obtain ⟨f0, f1, f2, f3, f4, f5⟩ := hf it (by simp)
    have D := Draws.text (prog := X.prog) (w := X.w) (A := X.A.in1) (I.ok.hd hc) it x t
    have hg' : i = x.cps.size := hg
    subst hg'
    exact wpAny_pyNext_enum_endD D he hit fun h' eb => ⟨rfl, I.turned (t' := s.toks) (fun b o hb q => eb b o hb q) f0 f1 f3 f4 f5⟩
  self := fun A i s Q E st h => let ⟨⟨_, he⟩, _⟩ := st; wpAny_pyIter_enum he h
section
variable {S : List (Str × Nat)} {nm : List (Str × NameKind)} {T : Tab} {TB : Addr → Prop} {k : Nat} {X : Cx}
variable {a b c : Expr} {p : Pos} {ms ns : List Nat} {f g : Sls → Option PyData} {ca cb : Bool} {es : List Expr} {fs : Sls → Option (List PyData)} {ce : Bool} {tg : Expr}
theorem pi_enumA {e : Expr} {ta : TA} {p pos tpos : Pos} {elts : List Expr} {kk : Nat} (hg : Gl X "enumerate") (hm : X.mg "enumerate" = none) (ha : PA X [e] ta) (hs : starEach [e] X.env = [(false, eval e X.env)]) :
    PI X (.Tuple elts kk tpos) (.Call (.Name "enumerate" p) [e] [] pos) (fun σ H R => ta σ H fun vs H1 => (∃ a xs, vs = [.ref a] ∧ SqL X.K H1 a xs ∧ R (Ite X.K a) H1) ∨ (∃ a xs, vs = [.ref a] ∧ SqT X.K H1 a xs ∧ R (IteT X.K a) H1) ∨ (∃ x, vs = [.str x] ∧ R (IteS x) H1)) := by
  refine ⟨fun pins s σ H R I h => ?_⟩
  refine Call_ (ld_blt I hg hm boot_enumerate (PyProof.Rows.callWith_type1 (thn (ha.run pos pins s σ H _ I h) fun us s1 ⟨vs, H1, I1, r1, q1⟩ => ?_) hs rfl))
  have two : ∀ {b : Addr}, b ∈ [s1.heap.objs.size + 1, s1.heap.objs.size] → s1.heap.objs.size ≤ b := fun hb => by
    rcases (by simpa using hb : _ ∨ _) with z | z
    · rw [z]; exact Nat.le_add_right _ _
    · rw [z]; exact Nat.le_refl _
  rcases q1 with ⟨a, xs, rfl, hq, q⟩ | ⟨a, xs, rfl, hq, q⟩ | ⟨x, rfl, q⟩
  · cases r1 with
    | cons r rr =>
      cases rr
      cases r
      obtain ⟨its, rv, p', hz⟩ := I1.list hq
      refine call_enumerate_list p'.isList fun h' he hit hsz hk => wpAny_pyIter_enum he ?_
      exact ⟨s1.heap.objs.size + 1, [s1.heap.objs.size + 1, s1.heap.objs.size], _, _, H1, rfl, I1.kept (t' := s1.toks) hk, turn_enum a (s1.heap.objs.size + 1) s1.heap.objs.size, ⟨⟨.none, he⟩, hit, Nat.succ_ne_self _⟩, fun b hb => I1.fpOk (two hb) (I1.hok.fresh (two hb)), q⟩
  · cases r1 with
    | cons r rr =>
      cases rr
      cases r
      obtain ⟨its, rv, p', hz⟩ := I1.tuple hq
      have al : a < s1.heap.objs.size := by obtain ⟨o, z, _⟩ := p'; exact Heap.lt_size z
      refine call_enum1 (begins_tuple a its.toArray) p' fun h' he ho hk => wpAny_pyIter_enum he ?_
      exact ⟨s1.heap.objs.size + 1, [s1.heap.objs.size + 1, s1.heap.objs.size], _, _, H1, rfl, I1.kept (t' := s1.toks) hk, turn_enumT a (s1.heap.objs.size + 1) s1.heap.objs.size ⟨Nat.ne_of_lt al, Nat.ne_of_lt (Nat.lt_succ_of_lt al)⟩, ⟨⟨.none, he⟩, ⟨_, ho, rfl, rfl⟩, Nat.succ_ne_self _⟩, fun b hb => I1.fpOk (two hb) (I1.hok.fresh (two hb)), q⟩
  · cases r1 with
    | cons r rr =>
      cases rr
      obtain ⟨t, rfl⟩ := _root_.id r
      refine call_enum1 (begins_text x t) trivial fun h' he ho hk => wpAny_pyIter_enum he ?_
      exact ⟨s1.heap.objs.size + 1, [s1.heap.objs.size + 1, s1.heap.objs.size], _, _, H1, rfl, I1.kept (t' := s1.toks) hk, turn_enumS x t (s1.heap.objs.size + 1) s1.heap.objs.size, ⟨⟨.none, he⟩, ⟨_, ho, rfl, rfl⟩, Nat.succ_ne_self _⟩, fun b hb => I1.fpOk (two hb) (I1.hok.fresh (two hb)), q⟩
theorem itOk_enumT {K : PySem.W.Frag} {W B : Addr → Prop} {H1 : Hp} {a : Addr} {ys : List V} {ds : List PyData} (hW : ∀ b, W b → ∃ o, H1 b = some o ∧ IsOw o) (hB : ∀ a, B a → ¬ W a) (h : SqT K H1 a ys) (r : Reps K H1 B ds ys) : ItOk K W B H1 (IteT K a) (enumD ds) := by
  intro i Hi s
  have hL : SqT K Hi a ys := s.sqT hW h
  have r2 := r.stay s hW hB
  have hlen : (enumD ds).length = ds.length := by unfold enumD; simp
  refine ⟨fun d hd => ?_, fun e => ⟨ys, hL, by rw [e, hlen, r.length]⟩⟩
  unfold enumD at hd
  rw [List.getElem?_map] at hd
  cases e : ds.zipIdx[i]? with
  | none => rw [e] at hd; cases hd
  | some q =>
    rw [e] at hd
    cases hd
    rw [List.getElem?_zipIdx] at e
    cases e4 : ds[i]? with
    | none => rw [e4] at e; cases e
    | some d0 =>
      rw [e4] at e
      cases e
      obtain ⟨v, e1, e2⟩ := r2.get e4
      refine ⟨⟨ys, v, hL, e1⟩, fun x H2 y => ?_⟩
      obtain ⟨T, x0, rfl, hT, rfl, y⟩ := y
      have e3 := y ys hL
      rw [e1] at e3; cases e3
      have z : ((0 + i : Nat) : Int) = ((i : Nat) : Int) := by simp
      refine ⟨.new hT, .tup (.of upd_same) (.cons ?_ (.cons (e2.up (.new hT)) .nil))⟩
      show Rep K _ _ (.int ((0 + i : Nat) : Int)) _
      rw [z]
      exact .int _
theorem itOk_enumS {K : PySem.W.Frag} {W B : Addr → Prop} {H1 : Hp} {x : Str} : ItOk K W B H1 (IteS x) (enumD (chars x)) := by
  intro i Hi s
  have hlen : (enumD (chars x)).length = x.cps.size := by unfold enumD chars; simp
  refine ⟨fun d hd => ?_, fun e => by show i = _; rw [e, hlen]⟩
  unfold enumD at hd
  rw [List.getElem?_map] at hd
  cases e : (chars x).zipIdx[i]? with
  | none => rw [e] at hd; cases hd
  | some q =>
    rw [e] at hd
    cases hd
    rw [List.getElem?_zipIdx] at e
    unfold chars at e
    rw [List.getElem?_map] at e
    cases e4 : x.cps.toList[i]? with
    | none => rw [e4] at e; cases e
    | some c =>
      rw [e4] at e
      cases e
      have e5 : x.cps[i]? = some c := by simpa using e4
      refine ⟨(Array.getElem?_eq_some_iff.mp e5).1, fun v H2 y => ?_⟩
      obtain ⟨T, c', rfl, hT, e6, rfl⟩ := y
      rw [e5] at e6; cases e6
      have z : ((0 + i : Nat) : Int) = ((i : Nat) : Int) := by simp
      refine ⟨.new hT, .tup (.of upd_same) (.cons ?_ (.cons (.str _) .nil))⟩
      show Rep K _ _ (.int ((0 + i : Nat) : Int)) _
      rw [z]
      exact .int _
def enumV (a : Option (List PyData)) : Option (List PyData) := match a with
  | some [.list xs] => some (enumD xs)
  | some [.tuple xs] => some (enumD xs)
  | some [.str x] => some (enumD (chars x))
  | _ => none
instance purEnum {pn tpos : Pos} {elts : List Expr} {kk : Nat} [h1 : PurA S nm T [a] ms fs ce] : PurI S nm T (.Tuple elts kk tpos) (.Call (.Name "enumerate" pn) [a] [] p) ms (fun env => enumV (fs env)) (ce && bltC nm T "enumerate" && notStar a) where
  run hc TB k X G := by
    simp only [Bool.and_eq_true] at hc
    obtain ⟨⟨hc1, hc2⟩, hc3⟩ := hc
    obtain ⟨ta, ha, la, qa⟩ := h1.run hc1 TB k X G
    obtain ⟨g1, g2⟩ := G.bl hc2
    refine ⟨_, pi_enumA g1 g2 ha (starEach1 hc3), fun env x => rfl, fun A H0 H σ env items W R E hf hW hB q => ?_⟩
    unfold enumV at hf
    try dsimp only at hf
    split at hf
    · rename_i xs e
      cases hf
      refine qa A H0 H σ env _ _ E e fun vs H1 g1 r1 => ?_
      cases r1 with
      | cons r1 r2 =>
        cases r2
        cases r1 with
        | lst h2 h3 => exact .inl ⟨_, _, rfl, h2.sql, q _ _ g1 (itOk_enum (lists_up hW g1) hB h2 h3)⟩
    · rename_i xs e
      cases hf
      refine qa A H0 H σ env _ _ E e fun vs H1 g1 r1 => ?_
      cases r1 with
      | cons r1 r2 =>
        cases r2
        cases r1 with
        | tup h2 h3 => exact .inr (.inl ⟨_, _, rfl, h2.sqt, q _ _ g1 (itOk_enumT (lists_up hW g1) hB h2 h3)⟩)
    · rename_i xs e
      cases hf
      refine qa A H0 H σ env _ _ E e fun vs H1 g1 r1 => ?_
      cases r1 with
      | cons r1 r2 =>
        cases r2
        cases r1
        exact .inr (.inr ⟨_, rfl, q _ _ g1 itOk_enumS⟩)
    · cases hf
end
end Pu

set_option Elab.async false
set_option linter.all false
set_option autoImplicit false
set_option maxRecDepth 100000
set_option maxHeartbeats 4000000
namespace Pu
open PySem PySem.Spec PyProof.Rows L2 GxR

/-! ### sorted(xs) -/
def leD (x y : PyData) : Bool := PySem.W.dataLe false (fun d : PyData => d) x y
def SoC (xs : List PyData) : Prop := PySem.W.AllAlike xs ∧ PySem.W.Sortable xs ∧ ∀ d ∈ xs, d.depth ≤ DEP
noncomputable instance (xs : List PyData) : Decidable (SoC xs) := Classical.propDecidable _
def srtD (xs : List PyData) : List PyData := xs.mergeSort leD
theorem Reps.pairs {K : PySem.W.Frag} {H : Hp} {A : Addr → Prop} {ds : List PyData} {ys : List V} {us : List Value} (r : Reps K H A ds ys) (rv : Vals ys us) : ∃ bs : List (PyData × V), bs.map (·.1) = ds ∧ bs.map (·.2) = ys ∧ PySem.W.EachIs (fun u (b : PyData × V) => RelV b.2 u) us bs ∧ ∀ b ∈ bs, Rep K H A b.1 b.2 := by
  induction r using Reps.rec (motive_1 := fun _ _ _ => True) generalizing us with
  | nil => cases rv; exact ⟨[], rfl, rfl, .nil, by simp⟩
  | cons r rs _ ih =>
    cases rv with
    | cons q qs =>
      obtain ⟨bs, e1, e2, e3, e4⟩ := ih qs
      exact ⟨(_, _) :: bs, by rw [List.map_cons, e1], by rw [List.map_cons, e2], .cons q e3, fun b hb => by
        rcases List.mem_cons.mp hb with rfl | hb
        · exact r
        · exact e4 b hb⟩
  | _ => trivial
theorem each_vals {us : List Value} {bs : List (PyData × V)} (h : PySem.W.EachIs (fun u (b : PyData × V) => RelV b.2 u) us bs) : Vals (bs.map (·.2)) us := by
  induction h with
  | nil => exact .nil
  | cons a _ ih => exact .cons a ih
theorem reps_of_pairs {K : PySem.W.Frag} {H : Hp} {A : Addr → Prop} : ∀ {bs : List (PyData × V)}, (∀ b ∈ bs, Rep K H A b.1 b.2) → Reps K H A (bs.map (·.1)) (bs.map (·.2))
  | [], _ => .nil
  | b :: r, h => .cons (h b (by simp)) (reps_of_pairs fun c hc => h c (by simp [hc]))
/-! ### sorted of a set -/
theorem each_perm {α β : Type} {R : α → β → Prop} {us vs : List α} (p : us.Perm vs) : ∀ {bs : List β}, PySem.W.EachIs R vs bs → ∃ cs, cs.Perm bs ∧ PySem.W.EachIs R us cs := by
  induction p with
  | nil => intro bs e; cases e; exact ⟨[], .refl _, .nil⟩
  | cons x _ ih =>
    intro bs e
    cases e with
    | cons a r =>
      obtain ⟨cs, h1, h2⟩ := ih r
      exact ⟨_ :: cs, h1.cons _, .cons a h2⟩
  | swap x y l =>
    intro bs e
    cases e with
    | cons a r =>
      cases r with
      | cons b r => exact ⟨_ :: _ :: _, List.Perm.swap _ _ _, .cons b (.cons a r)⟩
  | trans _ _ ih1 ih2 =>
    intro bs e
    obtain ⟨cs, h1, h2⟩ := ih2 e
    obtain ⟨ds, h3, h4⟩ := ih1 h2
    exact ⟨ds, h3.trans h1, h4⟩
section
variable {P : Program} {w : PySem.World} {A : Around} {E : Value → Shared → Prop} {s : Shared} {a : Addr}
theorem sorted_coll {Pb : List (PyData × V) → Prop} {Q : Value → Shared → Prop}
    (C : ∀ Q' : List Value → Shared → Prop, (∀ s' out bs, (∀ b o, s.heap.get? b = some o → s'.heap.get? b = some o) → s.heap.objs.size ≤ s'.heap.objs.size → s'.gens = s.gens → s'.os = s.os → Pb bs → PySem.W.EachIs (fun u (b : PyData × V) => RelV b.2 u ∧ ∃ as, Reads s.heap u b.1 as) out bs → Q' out s') → wpAny (model P w) A.in1 (collect (.ref a)) Q' E s)
    (ok : ∀ bs, Pb bs → PySem.W.AllAlike (bs.map (·.1)) ∧ PySem.W.Sortable (bs.map (·.1)) ∧ bs.length ≤ sizeLine ∧ ∀ d ∈ bs.map (·.1), A.units + 2 + d.depth < cLine)
    (hQ : ∀ s' p (out : Array Value) (c : Nat) (bs : List (PyData × V)), (∀ b o, s.heap.get? b = some o → s'.heap.get? b = some o) → s'.gens = s.gens → s'.os = s.os → s.heap.objs.size ≤ p → s'.heap.get? p = some (seqObj "list" out c) →
      Pb bs → Vals ((bs.mergeSort (PySem.W.dataLe false fun b : PyData × V => b.1)).map (·.2)) out.toList → Q (.ref p) s') :
    wpAny (model P w) A (call (.builtin "sorted") [.ref a]) Q E s := by
  refine Calls.call_function_entry kind_sorted plain_sorted entry_sorted (args_sorted1 _) ?_
  unfold Builtin.«sorted»
  refine wpAny_bind (m := checkCount "sorted" 1 1 _) (wpAny_pure (wpAny_bind (C _ fun s1 vs bs k1 hz g1 o1 pb eb => ?_)))
  obtain ⟨hal2, hso2, hL, hu⟩ := ok bs pb
  have el := eb.length
  have hLv : vs.length ≤ sizeLine := by rw [el]; exact hL
  refine wpAny_bind (wpAny_newList ?_ hLv)
  have ho2 : (s1.heap.push (seqObj "list" vs.toArray 0)).get? s1.heap.objs.size = some (seqObj "list" vs.toArray 0) := Heap.get?_push_size _ rfl
  have old : ∀ b o, s.heap.get? b = some o → (PySem.W.sortingHeap (s1.heap.push (seqObj "list" vs.toArray 0)) s1.heap.objs.size vs).get? b = some o := fun b o q => PySem.W.sortingHeap_old (Nat.ne_of_lt (Nat.lt_of_lt_of_le (Heap.lt_size q) hz)) (Heap.get?_push_of_some _ (k1 b o q))
  have er : PySem.W.EachIs (fun u (b : PyData × V) => ∃ as, Reads (PySem.W.sortingHeap (s1.heap.push (seqObj "list" vs.toArray 0)) s1.heap.objs.size vs) u b.1 as) vs bs := eb.mono fun u b ⟨_, as, r⟩ => ⟨as, PyProof.Rows.Reads.keeps old r⟩
  have ee : PySem.W.EachIs (fun u (b : PyData × V) => RelV b.2 u) vs bs := eb.mono fun u b q => q.1
  refine wpAny_bind (wpAny_holding (wpAny_call_entry slot_list_sort ⟨_, ho2, rfl⟩ entry_list_sort (PySem.W.list_sort_vals (κ := PySem.W.dataKind (PySem.W.sortingHeap (s1.heap.push (seqObj "list" vs.toArray 0)) s1.heap.objs.size vs) (bs.map (·.1))) ho2
    (PySem.W.SortsAt.data (s := { s1 with heap := PySem.W.sortingHeap (s1.heap.push (seqObj "list" vs.toArray 0)) s1.heap.objs.size vs }) (PySem.W.each_map (R := fun u d => ∃ as, Reads (PySem.W.sortingHeap (s1.heap.push (seqObj "list" vs.toArray 0)) s1.heap.objs.size vs) u d as) (fun b : PyData × V => b.1) er) hal2 hso2 fun d hd => by
      have := hu d hd
      show A.in1.in1.units + d.depth < cLine
      have e1 : A.in1.in1.units = A.units + 1 + 1 := rfl
      rw [e1]; omega) hLv ⟨_, rfl, ?_⟩) (args_list_sort _)))
  have es := PySem.W.sortVals_data (enc := fun b : PyData × V => b.1) false ee er hal2
  generalize hv : PySem.W.sortVals (PySem.W.dataKind (PySem.W.sortingHeap (s1.heap.push (seqObj "list" vs.toArray 0)) s1.heap.objs.size vs) (bs.map (·.1))) false vs vs = out at es ⊢
  obtain ⟨c, hc⟩ := sortedHeap_at (vs := vs) (out := out.toArray) ho2
  refine wpAny_pure ⟨_, rfl, hQ _ s1.heap.objs.size out.toArray c bs (fun b u q => ?_) g1 o1 hz hc pb (each_vals es)⟩
  have q2 := k1 b u q
  have lt := Heap.lt_size q2
  show (sortedHeap (s1.heap.push (seqObj "list" vs.toArray 0)) s1.heap.objs.size vs out.toArray).get? b = some u
  rw [sortedHeap_old (Nat.ne_of_lt lt) (by rw [size_push']; exact Nat.lt_succ_of_lt lt)]
  exact Heap.get?_push_of_some _ q2
end

/-! the items of a tuple -/
section
variable {P : Program} {w : PySem.World} {A : Around} {E : Value → Shared → Prop} {s : Shared}
theorem collectT {l : Addr} {vs : List Value} {Q : List Value → Shared → Prop} (hl : s.heap.IsTuple l vs.toArray)
    (h : Q vs { s with heap := (s.heap.push (seqObj "list" #[] 0)).update s.heap.objs.size (Obj.mapSeq (· ++ vs.toArray)) }) (hz : vs.length ≤ sizeLine) : wpAny (model P w) A (collect (.ref l)) Q E s := by
  obtain ⟨o, h1, hc, n, hd⟩ := id hl
  unfold collect
  refine wpAny_bind (wpAny_runValue (codeAny_builtin entry_proto_collect' ?_))
  show wpAny _ _ (do (again (.builtin "list.__iadd__" ⟨[← newList [], .ref l], []⟩))) _ _ s
  refine wpAny_bind (wpAny_newList (wpAny_pure ⟨Code.quiet_builtin _ (by decide +kernel), codeAny_builtin entry_list_iadd' ?_⟩))
  show wpAny _ _ ((Builtin.List.listExtendWith (.ref s.heap.objs.size) (.ref l) (.ref s.heap.objs.size))) _ _ { s with heap := s.heap.push (seqObj "list" #[] 0) }
  unfold Builtin.List.listExtendWith
  have h2 : (s.heap.push (seqObj "list" #[] 0)).get? l = some o := Heap.get?_push_of_some _ h1
  refine wpAny_bind (wpAny_typeOf (T := "tuple") ⟨o, h2, hc⟩ ?_)
  have ht : (Value.type "tuple" == Value.type "tuple") = true := by rfl
  rw [if_pos (by rw [ht]; simp)]
  refine wpAny_bind (listItems_at h2 hd (wpAny_bind (listItems_at (xs := #[]) (n := 0) (Heap.get?_push_size _ rfl) rfl ?_)))
  rw [if_neg (by simp)]
  refine wpAny_bind (listUpdate_at (xs := #[]) (n := 0) (Heap.get?_push_size _ rfl) rfl ?_ (Nat.zero_le _) (by show (#[] ++ vs.toArray).size ≤ sizeLine + 1; simp only [Array.size_append, List.size_toArray, List.length_nil]; omega))
  refine wpAny_pure ?_
  show wpAny (model P w) A (do
      let ob ← load s.heap.objs.size
      match ob.data with
      | .seq ys _ => pure ys.toList
      | _ => unsupported "internal:collect") Q E { s with heap := (s.heap.push (seqObj "list" #[] 0)).update s.heap.objs.size (Obj.mapSeq (· ++ vs.toArray)) }
  refine wpAny_bind (wpAny_load (get?_update_seq (Heap.get?_push_size _ rfl) _) ?_)
  show wpAny _ _ (pure (((#[] : Array Value) ++ vs.toArray)).toList) Q E _
  rw [show ((#[] : Array Value) ++ vs.toArray).toList = vs by simp]
  exact wpAny_pure h
end
def sortedV (a : Option PyData) : Option (List PyData) := match a with
  | some (.list xs) => some xs
  | _ => none
noncomputable def sortL (a : Option PyData) : Option (List PyData) := match a with
  | some (.list xs) => if SoC xs then some (srtD xs) else none
  | some (.tuple xs) => if SoC xs then some (srtD xs) else none
  | some (.dict kvs) => if SoC (kvs.map (·.1)) then some (srtD (kvs.map (·.1))) else none
  | _ => none
section
variable {S : List (Str × Nat)} {nm : List (Str × NameKind)} {T : Tab} {TB : Addr → Prop} {k : Nat} {X : Cx}
variable {a b c : Expr} {p : Pos} {ms ns : List Nat} {f g : Sls → Option PyData} {ca cb : Bool} {es : List Expr} {fs : Sls → Option (List PyData)} {ce : Bool} {tg : Expr}
/-- what sorted asks and leaves: a new list -/
abbrev rSrt (K : PySem.W.Frag) : List V → Hp → VK → Prop := fun xs H Q => ∃ (A : Addr → Prop) (v : V) (ds : List PyData), xs = [v] ∧ ((Rep K H A (.list ds) v ∨ ∃ a vs, v = .ref a ∧ DcAt H a ds vs) ∨ Rep K H A (.tuple ds) v) ∧ SoC ds ∧
  ∀ (zs : List V) (l : Addr), H l = none → Reps K H A (srtD ds) zs → Q (.ref l) (upd H l (.lst zs))
theorem call_sorted (hc : X.calm = true) (hr : Room k X.A) : CallR X (.builtin "sorted") (rSrt X.K) := by
  intro pins s σ H xs us Q I r h
  obtain ⟨A, v, ds, rfl, rd, so, q⟩ := h
  rcases rd with rd | rd
  rotate_left
  · cases rd with
    | tup h2 h3 =>
      obtain ⟨its, rv, p1, hz⟩ := I.tuple h2.sqt
      rw [Vals.ref1 r]
      obtain ⟨bs, e1, e2, e3, e4⟩ := h3.pairs rv
      have hzv : its.length ≤ sizeLine := by rw [← rv.length]; exact hz
      have hl : bs.length ≤ sizeLine := by rw [← List.length_map (f := fun b : PyData × V => b.2), e2]; exact hz
      have er : PySem.W.EachIs (fun v b => ∃ as, Reads s.heap v (b : PyData × V).1 as) its bs := PySem.W.EachIs.mono (fun u b hb => (e4 b hb.2).reads (plain_alike _ (so.1 _ (by rw [← e1]; exact List.mem_map.mpr ⟨b, hb.2, rfl⟩) _ (by rw [← e1]; exact List.mem_map.mpr ⟨b, hb.2, rfl⟩))) I hb.1) (PySem.W.each_mem e3)
      have eb : PySem.W.EachIs (fun u (b : PyData × V) => RelV b.2 u ∧ ∃ as, Reads s.heap u b.1 as) its bs := PySem.W.EachIs.mono (fun u b hb => ⟨hb.1, (e4 b hb.2).reads (plain_alike _ (so.1 _ (by rw [← e1]; exact List.mem_map.mpr ⟨b, hb.2, rfl⟩) _ (by rw [← e1]; exact List.mem_map.mpr ⟨b, hb.2, rfl⟩))) I hb.1⟩) (PySem.W.each_mem e3)
      refine sorted_coll (Pb := fun bs' => bs' = bs) (fun Q' hq => collectT p1 (hq _ _ bs (fun b o e => ?_) ?_ rfl rfl rfl eb) hzv) (fun bs' hb => ?_) fun s' p out c bs' k g o hp hg hb vv => ?_
      · rw [Heap.get?_update_ne _ _ _ _ (Nat.ne_of_lt (Heap.lt_size e))]
        exact Heap.get?_push_of_some _ e
      · rw [Heap.size_update, size_push']
        exact Nat.le_succ _
      · subst hb
        rw [e1]
        refine ⟨so.1, so.2.1, hl, fun d hd => ?_⟩
        have := so.2.2 d hd
        have := hr.un
        unfold DEP at *
        omega
      · subst hb
        have hn : H p = none := I.hok.fresh hp
        have e5 : (bs'.mergeSort (PySem.W.dataLe false fun b : PyData × V => b.1)).map (·.1) = srtD ds := by
          rw [← e1]
          exact List.map_mergeSort fun x _ y _ => rfl
        have rr := reps_of_pairs (bs := bs'.mergeSort (PySem.W.dataLe false fun b : PyData × V => b.1)) fun b hb => e4 b (List.mem_mergeSort.mp hb)
        rw [e5] at rr
        have hl2 : ((bs'.mergeSort (PySem.W.dataLe false fun b : PyData × V => b.1)).map (·.2)).length ≤ sizeLine := by rw [List.length_map, List.length_mergeSort]; exact hl
        have J : Inv X pins σ (upd H p (.lst ((bs'.mergeSort (PySem.W.dataLe false fun b : PyData × V => b.1)).map (·.2)))) { s with heap := s'.heap, gens := s'.gens, drawn := s'.drawn, toks := s'.toks } :=
          I.call (ch := []) (Un.laid k hp hn) (I.hok.laid k hp ⟨hl2, out.toList, c, vv, hg⟩) (by rw [g]; exact I.bare) (fun _ z => nomatch z)
        have e : s' = { s with heap := s'.heap, gens := s'.gens, drawn := s'.drawn, toks := s'.toks } := by
          cases s'
          cases s
          cases o
          rfl
        rw [e]
        exact ⟨.ref p, _, J, rfl, q _ _ hn rr⟩
  rcases rd with rd | rd
  rotate_left
  · obtain ⟨a, vs, rfl, hd⟩ := rd
    rw [Vals.ref1 r]
    obtain ⟨kv, hk, hz, C⟩ := dc_collect (A := X.A.in1) (E := X.xe) (I.ok.hd hc) I hd
    have h3 : Reps X.K H A ds kv := hk X.K A
    refine sorted_coll (Pb := fun bs' => bs'.map (·.1) = ds ∧ bs'.map (·.2) = kv) (fun Q' hq => C _ fun h' tk its k z rv => ?_) (fun bs' hb => ?_) fun s' p out c bs' k g o hp hg hb vv => ?_
    · obtain ⟨bs, e1, e2, e3, e4⟩ := h3.pairs rv
      exact hq _ its bs k z rfl rfl ⟨e1, e2⟩ (PySem.W.EachIs.mono (fun u b hb => ⟨hb.1, (e4 b hb.2).reads (plain_alike _ (so.1 _ (by rw [← e1]; exact List.mem_map.mpr ⟨b, hb.2, rfl⟩) _ (by rw [← e1]; exact List.mem_map.mpr ⟨b, hb.2, rfl⟩))) I hb.1⟩) (PySem.W.each_mem e3))
    · obtain ⟨e1, e2⟩ := hb
      rw [e1]
      refine ⟨so.1, so.2.1, by rw [← List.length_map (f := fun b : PyData × V => b.2), e2]; exact hz, fun d hd => ?_⟩
      have := so.2.2 d hd
      have := hr.un
      unfold DEP at *
      omega
    · obtain ⟨e1, e2⟩ := hb
      have e4 : ∀ b ∈ bs', Rep X.K H A b.1 b.2 := fun b hb => by
        obtain ⟨i, hi, rfl⟩ := List.getElem_of_mem hb
        have q1 : ds[i]? = some (bs'[i]).1 := by rw [← e1, List.getElem?_map, List.getElem?_eq_getElem hi]; rfl
        have q2 : kv[i]? = some (bs'[i]).2 := by rw [← e2, List.getElem?_map, List.getElem?_eq_getElem hi]; rfl
        obtain ⟨v, q3, q4⟩ := h3.get q1
        rw [q2] at q3; cases q3
        exact q4
      have hl : bs'.length ≤ sizeLine := by rw [← List.length_map (f := fun b : PyData × V => b.2), e2]; exact hz
      have hn : H p = none := I.hok.fresh hp
      have e5 : (bs'.mergeSort (PySem.W.dataLe false fun b : PyData × V => b.1)).map (·.1) = srtD ds := by
        rw [← e1]
        exact List.map_mergeSort fun x _ y _ => rfl
      have rr := reps_of_pairs (bs := bs'.mergeSort (PySem.W.dataLe false fun b : PyData × V => b.1)) fun b hb => e4 b (List.mem_mergeSort.mp hb)
      rw [e5] at rr
      have hl2 : ((bs'.mergeSort (PySem.W.dataLe false fun b : PyData × V => b.1)).map (·.2)).length ≤ sizeLine := by rw [List.length_map, List.length_mergeSort]; exact hl
      have J : Inv X pins σ (upd H p (.lst ((bs'.mergeSort (PySem.W.dataLe false fun b : PyData × V => b.1)).map (·.2)))) { s with heap := s'.heap, gens := s'.gens, drawn := s'.drawn, toks := s'.toks } :=
        I.call (ch := []) (Un.laid k hp hn) (I.hok.laid k hp ⟨hl2, out.toList, c, vv, hg⟩) (by rw [g]; exact I.bare) (fun _ z => nomatch z)
      have e : s' = { s with heap := s'.heap, gens := s'.gens, drawn := s'.drawn, toks := s'.toks } := by
        cases s'
        cases s
        cases o
        rfl
      rw [e]
      exact ⟨.ref p, _, J, rfl, q _ _ hn rr⟩
  cases rd with
  | lst h2 h3 =>
    obtain ⟨its, rv, p1, hz⟩ := I.list h2.sql
    rw [Vals.ref1 r]
    obtain ⟨bs, e1, e2, e3, e4⟩ := h3.pairs rv
    have hl : bs.length ≤ sizeLine := by rw [← List.length_map (f := fun b : PyData × V => b.2), e2]; exact hz
    have er : PySem.W.EachIs (fun v b => ∃ as, Reads s.heap v (b : PyData × V).1 as) its bs := PySem.W.EachIs.mono (fun u b hb => (e4 b hb.2).reads (plain_alike _ (so.1 _ (by rw [← e1]; exact List.mem_map.mpr ⟨b, hb.2, rfl⟩) _ (by rw [← e1]; exact List.mem_map.mpr ⟨b, hb.2, rfl⟩))) I hb.1) (PySem.W.each_mem e3)
    have hal : PySem.W.AllAlike (bs.map fun b => b.1) := by rw [e1]; exact so.1
    have hso : PySem.W.Sortable (bs.map fun b => b.1) := by rw [e1]; exact so.2.1
    refine PySem.W.sorted_data (enc := fun b : PyData × V => b.1) p1.isList e3 er hal hso hl (fun b hb => ?_) fun out ho eo => ?_
    · have := so.2.2 b.1 (by rw [← e1]; exact List.mem_map.mpr ⟨b, hb, rfl⟩)
      have := hr.un
      unfold DEP at *
      omega
    · have e5 : (bs.mergeSort (PySem.W.dataLe false fun b : PyData × V => b.1)).map (·.1) = srtD ds := by
        rw [← e1]
        exact List.map_mergeSort fun x _ y _ => rfl
      have rr := reps_of_pairs (bs := bs.mergeSort (PySem.W.dataLe false fun b : PyData × V => b.1)) fun b hb => e4 b (List.mem_mergeSort.mp hb)
      rw [e5] at rr
      have vv := each_vals eo
      obtain ⟨ep, he⟩ := PyProof.Rows.sortedAll_at s.heap its out.toArray
      have hl2 : ((bs.mergeSort (PySem.W.dataLe false fun b : PyData × V => b.1)).map (·.2)).length ≤ sizeLine := by rw [List.length_map, List.length_mergeSort]; exact hl
      exact ⟨.ref _, upd H (s.heap.objs.size + 1) (.lst _), I.laid (t' := s.toks) (fun _ _ => PyProof.Rows.sortedAll_old) (Nat.le_succ _) ⟨hl2, out, ep, vv, he⟩, rfl, q _ _ (I.hok.fresh (Nat.le_succ _)) rr⟩
theorem boot_sorted' : bootBuiltins "sorted" = some (.builtin "sorted") := by decide +kernel
instance purSorted {pn : Pos} [h1 : PurE S nm T a ms f ca] : PurF S nm T (.Call (.Name "sorted" pn) [a] [] p) ms (fun env => sortL (f env)) (ca && bltC nm T "sorted" && notStar a) where
  run hc TB k X G := by
    simp only [Bool.and_eq_true] at hc
    obtain ⟨⟨hc1, hc2⟩, hc3⟩ := hc
    obtain ⟨ta, ha, qa⟩ := h1.run hc1 TB k X G
    obtain ⟨g1, g2⟩ := G.bl hc2
    refine ⟨_, pe_callB (call_sorted G.calm G.room) g1 g2 boot_sorted' (pa_cons ha pa_nil (star_of hc3)) (by decide) (by decide) (star_of hc3) rfl, fun A H0 H σ env d Q E hf q => ?_⟩
    unfold sortL at hf
    try dsimp only at hf
    split at hf
    · rename_i xs e
      split at hf
      · rename_i so
        cases hf
        refine qa A H0 H σ env _ _ E e fun x H1 g1 r1 => ?_
        exact ⟨sel ms A env σ, x, xs, rfl, .inl (.inl r1), so, fun zs l nl rr => q l _ _ (g1.trans (.new nl)) (g1.fresh l nl) upd_same ((rr.away nl).up (.new nl))⟩
      · cases hf
    · rename_i xs e
      split at hf
      · rename_i so
        cases hf
        refine qa A H0 H σ env _ _ E e fun x H1 g1 r1 => ?_
        exact ⟨sel ms A env σ, x, xs, rfl, .inr r1, so, fun zs l nl rr => q l _ _ (g1.trans (.new nl)) (g1.fresh l nl) upd_same ((rr.away nl).up (.new nl))⟩
      · cases hf
    · rename_i kvs e
      split at hf
      · rename_i so
        cases hf
        refine qa A H0 H σ env _ _ E e fun x H1 g1 r1 => ?_
        cases r1 with
        | dct h1 h2 h3 => exact ⟨sel ms A env σ, _, _, rfl, .inl (.inr ⟨_, _, rfl, h2⟩), so, fun zs l nl rr => q l _ _ (g1.trans (.new nl)) (g1.fresh l nl) upd_same ((rr.away nl).up (.new nl))⟩
      · cases hf
    · cases hf
instance purSortedE {pn : Pos} [PurF S nm T (.Call (.Name "sorted" pn) es [] p) ms fs ce] : PurE S nm T (.Call (.Name "sorted" pn) es [] p) ms (fun env => listV (fs env)) ce := pur_of_fresh inferInstance
end
/-! evaluated -/
theorem leD_int (a b : Int) : leD (.int a) (.int b) = decide (a ≤ b) := congrFun (congrFun (PySem.W.dataLe_int (fun n : Int => n)) a) b
theorem srtD_ints (ns : List Int) : srtD (ns.map .int) = (ns.mergeSort fun a b => decide (a ≤ b)).map .int := (List.map_mergeSort fun a _ b _ => (leD_int a b).symm).symm
theorem soC_ints (ns : List Int) : SoC (ns.map .int) := ⟨fun x hx y hy => (alike_ints ns).1 x hx y hy, .inr fun d hd => by
  obtain ⟨i, _, rfl⟩ := List.mem_map.mp hd
  exact ⟨by simp, by simp⟩, fun d hd => by
  obtain ⟨i, _, rfl⟩ := List.mem_map.mp hd
  simp [PyData.depth]⟩
@[simp] theorem sortL_intsT (ns : List Int) : sortL (some (.tuple (ns.map .int))) = some ((ns.mergeSort fun a b => decide (a ≤ b)).map .int) := by
  show (if SoC (ns.map PyData.int) then some (srtD (ns.map PyData.int)) else none) = _
  rw [if_pos (soC_ints ns), srtD_ints]
@[simp] theorem sortL_ints (ns : List Int) : sortL (some (.list (ns.map .int))) = some ((ns.mergeSort fun a b => decide (a ≤ b)).map .int) := by
  show (if SoC (ns.map PyData.int) then some (srtD (ns.map PyData.int)) else none) = _
  rw [if_pos (soC_ints ns), srtD_ints]
end Pu

set_option Elab.async false
set_option linter.all false
set_option autoImplicit false
set_option maxRecDepth 100000
set_option maxHeartbeats 4000000
namespace Pu
open PySem PySem.Spec PyProof.Rows L2 GxR

/-! ### two clauses -/
def catL (h : PyData → Option (List PyData)) : List PyData → Option (List PyData)
  | [] => some []
  | d :: r => match h d with
    | none => none
    | some ys => (match catL h r with | some zs => some (ys ++ zs) | none => none)
def lc2Step (gt : PyData → Sls → Option Sls) (ft : Sls → Option Bool) (fi1 : Sls → Option (List PyData)) (mi1 tl1 : List Nat) (gt1 : PyData → Sls → Option Sls) (ft1 : Sls → Option Bool) (fe : Sls → Option PyData) (env : Sls) (d : PyData) : Option (List PyData) :=
  match gt d env with
  | none => none
  | some env1 => match ft env1 with
    | none => none
    | some false => some []
    | some true => match fi1 env1 with
      | none => none
      | some ys => compL (lcStep gt1 ft1 fe (wipeE tl1 (freeze mi1 env1))) ys
def lc2V (items : Option (List PyData)) (mi tl : List Nat) (gt : PyData → Sls → Option Sls) (ft : Sls → Option Bool) (fi1 : Sls → Option (List PyData)) (mi1 tl1 : List Nat) (gt1 : PyData → Sls → Option Sls) (ft1 : Sls → Option Bool) (fe : Sls → Option PyData) (env : Sls) : Option (List PyData) :=
  match items with
  | none => none
  | some xs => match catL (lc2Step gt ft fi1 mi1 tl1 gt1 ft1 fe (wipeE (tl ++ tl1) (freeze mi env))) xs with
    | none => none
    | some ds => if ds.length ≤ LIM then some ds else none
theorem Stay.mono {W W' : Addr → Prop} {H H' : Hp} (s : Stay W H H') (h : ∀ b, W b → W' b) : Stay W' H H' := ⟨fun b o n nt e => s.stay b o (fun z => n (h b z)) nt e, s.fresh, s.tab⟩
theorem Stay.trans {W : Addr → Prop} {H H' H'' : Hp} (a : Stay W H H') (b : Stay W H' H'') : Stay W H H'' := ⟨fun c o n nt e => b.stay c o n nt (a.stay c o n nt e), fun c e => a.fresh c (b.fresh c e), fun c e => b.tab c (a.tab c e)⟩
theorem Stay.put {H : Hp} {D : Addr} {xs ys : List V} (h : H D = some (.lst xs)) : Stay (fun b => b = D) H (upd H D (.lst ys)) := ⟨fun b o n nt e => by rw [upd_ne n]; exact e, fun b e => by
    by_cases hb : b = D
    · rw [hb, upd_same] at e; cases e
    · rw [upd_ne hb] at e; exact e, fun b ⟨ps, q, t⟩ => ⟨ps, by
    have ne : b ≠ D := fun z => by rw [z, h] at q; cases q
    rw [upd_ne ne]; exact q, t⟩⟩
section
variable {S : List (Str × Nat)} {nm : List (Str × NameKind)} {T : Tab} {TB : Addr → Prop} {k : Nat} {X : Cx}
theorem lc2_read {wi wi1 : TI} {gT gT1 : TG} {tt tt1 : TT} {te : TE} {mi mi1 me tl tl1 : List Nat} {fi fi1 : Sls → Option (List PyData)} {gt gt1 : PyData → Sls → Option Sls} {ft ft1 : Sls → Option Bool} {fe : Sls → Option PyData}
    (qi : ISp X TB mi fi wi) (qg : GSp X TB gt tl gT) (off : ∀ d env env', gt d env = some env' → ∀ (i : Nat), i ∉ tl → env'[i]? = env[i]?) (qt : TSp X TB ft tt)
    (qi1 : ISp X TB mi1 fi1 wi1) (qg1 : GSp X TB gt1 tl1 gT1) (off1 : ∀ d env env', gt1 d env = some env' → ∀ (i : Nat), i ∉ tl1 → env'[i]? = env[i]?) (qt1 : TSp X TB ft1 tt1) (qe : ESp X TB me fe te)
    {A : Addr → Prop} {H0 H : Hp} {σ : L2.St} {env : Sls} {ds : List PyData} {Q : VK} (E : EnvRep X.K TB A H0 H σ env) (hf : lc2V (fi env) mi tl gt ft fi1 mi1 tl1 gt1 ft1 fe env = some ds)
    (q : ∀ p ys H', Grow H H' → H p = none → H' p = some (.lst ys) → Reps X.K H' (fun a => sel (me ++ mi1 ++ mi) A env σ a ∧ a ≠ p) ds ys → Q (.ref p) H') : tLc2 wi gT tt wi1 gT1 tt1 te (tl ++ tl1) tl1 σ H Q := by
  unfold lc2V at hf
  split at hf
  · cases hf
  · rename_i items e0
    split at hf
    · cases hf
    · rename_i ds' hcat
      split at hf
      · rename_i hlen
        cases hf
        refine qi A H0 H σ env items (OWx mi env σ) _ E e0 (fun b z => let ⟨ys, e, _⟩ := E.owl z; ⟨ys, e⟩) (fun a z => z.2) fun J H1 g1 IT D hD => ?_
        have E1 := E.up g1
        generalize henvb : wipeE (tl ++ tl1) (freeze mi env) = envb at hcat
        generalize hσb : wipe σ (tl ++ tl1) = σb
        let A' : Addr → Prop := fun a => (A a ∧ a ≠ D) ∧ ¬ Wi (tl ++ tl1) (freeze mi env) σ a
        have E2 : EnvRep X.K TB A' H0 (upd H1 D (.lst [])) σb envb := by
          have z := ((E1.freeze mi).beside (o := .lst []) hD).wipe (tl ++ tl1)
          rw [henvb, hσb] at z
          exact z
        have H0D : H0 D = none := E1.grow.fresh D hD
        have nA : ¬ A' D := fun z => z.1.2 rfl
        -- the whole: what is done, what is left
        let INV (acd : List PyData) (acc : List V) (Hi : Hp) : Prop := Hi D = some (.lst acc) ∧ Reps X.K Hi (sel (me ++ mi1) A' envb σb) acd acc ∧ EnvRep X.K TB A' H0 Hi σb envb ∧ Grow H1 Hi
        refine ⟨fun i m Hi => m = items.length - i ∧ i ≤ items.length ∧ ∃ (acd : List PyData) (acc : List V) (rest : List PyData), catL (lc2Step gt ft fi1 mi1 tl1 gt1 ft1 fe envb) (items.drop i) = some rest ∧ acd ++ rest = ds ∧ INV acd acc Hi,
          ⟨items.length, rfl, Nat.zero_le _, [], [], ds, hcat, rfl, upd_same, .nil, E2, .new hD⟩, ?_⟩
        rintro i m Hi ⟨rfl, hi, acd, acc, rest, hc, hd, hiD, hr, Ei, gi⟩
        obtain ⟨it1, it2⟩ := IT i Hi (.of gi)
        by_cases hlt : i < items.length
        · have ei : items[i]? = some items[i] := List.getElem?_eq_getElem hlt
          obtain ⟨go, yl⟩ := it1 _ ei
          have edrop : items.drop i = items[i] :: items.drop (i + 1) := (List.drop_eq_getElem_cons hlt)
          rw [edrop, catL] at hc
          refine .inr ⟨go, fun H' => ∃ (acd : List PyData) (acc : List V) (rest : List PyData), catL (lc2Step gt ft fi1 mi1 tl1 gt1 ft1 fe envb) (items.drop (i + 1)) = some rest ∧ acd ++ rest = ds ∧ INV acd acc H', fun H' h => ⟨items.length - (i + 1), by omega, rfl, hlt, h⟩, fun x H2 y => ?_⟩
          obtain ⟨g2, rx⟩ := yl x H2 y
          have Ej := Ei.up g2
          have rx2 : Rep X.K H2 (sel [] A' envb σb) items[i] x := rx.wide fun a ⟨h1, h2⟩ => by
            have n1 : ¬ OWx mi env σ a := h1.2
            refine ⟨⟨⟨h1.1, fun z => h2 (z ▸ hD)⟩, fun ⟨j, es, _, e1, e2⟩ => n1 (OW_freeze.mp ⟨j, es, e1, by simp, e2⟩)⟩, fun z => ?_⟩
            rw [← henvb, ← hσb] at z
            exact n1 (OW_freeze.mp (OW_wipe z))
          cases hst : lc2Step gt ft fi1 mi1 tl1 gt1 ft1 fe envb items[i] with
          | none => rw [hst] at hc; cases hc
          | some r =>
            rw [hst] at hc
            dsimp only at hc
            split at hc
            · rename_i zs hzs
              cases hc
              unfold lc2Step at hst
              split at hst
              · cases hst
              · rename_i env1 eg
                refine qg A' H0 H2 σb envb env1 _ x _ Ej rx2 eg fun σ2 E3 ev ag ln => ⟨?_, ?_⟩
                · have hl2 : σ2.length = σ.length := by rw [ln, ← hσb, wipe_length]
                  rw [← hσb] at ag
                  rw [← hσb]
                  exact wipe_eq hl2 fun j hj => ag j fun z => hj (List.mem_append_left _ z)
                · have g12 := gi.trans g2
                  have d2 : H2 D = some (.lst acc) := g2.same _ _ (fun _ => HO.noConfusion) hiD
                  split at hst
                  · cases hst
                  · rename_i et
                    cases hst
                    refine qt A' H0 H2 σ2 env1 false _ E3 et fun H3 g3 => ?_
                    rw [if_neg Bool.false_ne_true]
                    exact ⟨acd, acc, zs, hzs, by simpa using hd, g3.same _ _ (fun _ => HO.noConfusion) d2, (hr.up g2).up g3, Ej.up g3, g12.trans g3⟩
                  · rename_i et
                    split at hst
                    · cases hst
                    · rename_i items1 e1
                      refine qt A' H0 H2 σ2 env1 true _ E3 et fun H3 g3 => ?_
                      rw [if_pos rfl]
                      have E33 := E3.up g3
                      have d3 : H3 D = some (.lst acc) := g3.same _ _ (fun _ => HO.noConfusion) d2
                      refine qi1 A' H0 H3 σ2 env1 items1 (fun b => OWx mi1 env1 σ2 b ∨ b = D) _ E33 e1 (fun b z => z.elim (fun z => let ⟨ys, e, _⟩ := E33.owl z; ⟨ys, e⟩) fun z => ⟨.lst acc, z ▸ d3, .inl ⟨_, rfl⟩⟩) (fun a z w => w.elim z.2 fun w => nA (w ▸ z.1)) fun J1 H4 g4 IT1 => ?_
                      have E4 := E33.up g4
                      have d4 : H4 D = some (.lst acc) := g4.same _ _ (fun _ => HO.noConfusion) d3
                      have g14 := (g12.trans g3).trans g4
                      generalize henvc : wipeE tl1 (freeze mi1 env1) = envc at hst
                      generalize hσc : wipe σ2 tl1 = σc
                      let A2 : Addr → Prop := fun a => A' a ∧ ¬ Wi tl1 (freeze mi1 env1) σ2 a
                      have Ec : EnvRep X.K TB A2 H0 H4 σc envc := by
                        have z := (E4.freeze mi1).wipe tl1
                        rw [henvc, hσc] at z
                        exact z
                      have nA2 : ¬ A2 D := fun z => nA z.1
                      refine ⟨fun j n Hk => n = items1.length - j ∧ j ≤ items1.length ∧ ∃ (acd1 : List PyData) (acc1 : List V) (rest1 : List PyData), compL (lcStep gt1 ft1 fe envc) (items1.drop j) = some rest1 ∧ acd1 ++ rest1 ++ zs = ds ∧ INV acd1 acc1 Hk ∧ EnvRep X.K TB A2 H0 Hk σc envc ∧ Stay (fun b => b = D) H4 Hk,
                        ⟨items1.length, rfl, Nat.zero_le _, acd, acc, r, hst, by rw [List.append_assoc]; exact hd, ⟨d4, ((hr.up g2).up g3).up g4, (Ej.up g3).up g4, g14⟩, Ec, .refl _ _⟩, ?_⟩
                      rintro j n Hk ⟨rfl, hj, acd1, acc1, rest1, hc1, hd1, ⟨kD, kr, kE, kg⟩, kc, ks⟩
                      obtain ⟨jt1, jt2⟩ := IT1 j Hk (ks.mono fun b z => .inr z)
                      by_cases hjl : j < items1.length
                      · have ej : items1[j]? = some items1[j] := List.getElem?_eq_getElem hjl
                        obtain ⟨go1, yl1⟩ := jt1 _ ej
                        have ed1 : items1.drop j = items1[j] :: items1.drop (j + 1) := (List.drop_eq_getElem_cons hjl)
                        rw [ed1, compL] at hc1
                        refine .inr ⟨go1, fun H' => ∃ (acd1 : List PyData) (acc1 : List V) (rest1 : List PyData), compL (lcStep gt1 ft1 fe envc) (items1.drop (j + 1)) = some rest1 ∧ acd1 ++ rest1 ++ zs = ds ∧ INV acd1 acc1 H' ∧ EnvRep X.K TB A2 H0 H' σc envc ∧ Stay (fun b => b = D) H4 H', fun H' h => ⟨items1.length - (j + 1), by omega, rfl, hjl, h⟩, fun x1 H5 y1 => ?_⟩
                        obtain ⟨g5, rx1⟩ := yl1 x1 H5 y1
                        have rx3 : Rep X.K H5 (sel [] A2 envc σc) items1[j] x1 := rx1.wide fun a ⟨h1, h2⟩ => by
                          have n1 : ¬ OWx mi1 env1 σ2 a := h1.2
                          refine ⟨⟨h1.1, fun ⟨j, es, _, e1, e2⟩ => n1 (OW_freeze.mp ⟨j, es, e1, by simp, e2⟩)⟩, fun z => ?_⟩
                          rw [← henvc, ← hσc] at z
                          exact n1 (OW_freeze.mp (OW_wipe z))
                        have d5 : H5 D = some (.lst acc1) := g5.same _ _ (fun _ => HO.noConfusion) kD
                        cases hs1 : lcStep gt1 ft1 fe envc items1[j] with
                        | none => rw [hs1] at hc1; cases hc1
                        | some r1 =>
                          rw [hs1] at hc1
                          unfold lcStep at hs1
                          split at hs1
                          · cases hs1
                          · rename_i env3 eg1
                            refine qg1 A2 H0 H5 σc envc env3 _ x1 _ (kc.up g5) rx3 eg1 fun σ3 E5 ev1 ag1 ln1 => ⟨?_, ?_⟩
                            · have hl3 : σ3.length = σ2.length := by rw [ln1, ← hσc, wipe_length]
                              rw [← hσc] at ag1
                              rw [← hσc]
                              exact wipe_eq hl3 fun j hj => ag1 j hj
                            · split at hs1
                              · cases hs1
                              · rename_i et1
                                cases hs1
                                refine qt1 A2 H0 H5 σ3 env3 false _ E5 et1 fun H6 g6 => ?_
                                rw [if_neg Bool.false_ne_true]
                                exact ⟨acd1, acc1, rest1, hc1, hd1, ⟨g6.same _ _ (fun _ => HO.noConfusion) d5, (kr.up g5).up g6, (kE.up g5).up g6, (kg.trans g5).trans g6⟩, (kc.up g5).up g6, (ks.grow g5).grow g6⟩
                              · rename_i et1
                                split at hs1
                                · rename_i y ey
                                  cases hs1
                                  dsimp only at hc1
                                  split at hc1
                                  · rename_i ys eys
                                    cases hc1
                                    refine qt1 A2 H0 H5 σ3 env3 true _ E5 et1 fun H6 g6 => ?_
                                    rw [if_pos rfl]
                                    refine qe A2 H0 H6 σ3 env3 y _ (E5.up g6) ey fun v H7 g7 r7 => ?_
                                    have g57 := (g5.trans g6).trans g7
                                    have d7 : H7 D = some (.lst acc1) := g57.same _ _ (fun _ => HO.noConfusion) kD
                                    have hlt2 : acc1.length < sizeLine := by
                                      rw [← kr.length, ← lim_line]
                                      have := congrArg List.length hd1
                                      simp at this
                                      omega
                                    refine ⟨acc1, d7, hlt2, ?_⟩
                                    have r8 : Rep X.K H7 (sel (me ++ mi1) A' envb σb) y v := r7.wide fun a z => ⟨z.1.1, fun w => z.2 (by
                                      obtain ⟨j, es, f1, f2, f3⟩ := w
                                      simp only [List.mem_append, not_or] at f2
                                      have nj : j ∉ tl ++ tl1 := (wipeE_some (z := es) (env := freeze mi env) (own_ne f1.2) (by rw [henvb]; exact f1.1)).2
                                      simp only [List.mem_append, not_or] at nj
                                      have a1 : env1[j]? = some es := by rw [off _ _ _ eg j nj.1]; exact f1.1
                                      have a2 : envc[j]? = some es := by rw [← henvc, wipeE_out nj.2]; exact (freeze_ownI f1.2).mpr ⟨a1, f2.2⟩
                                      have s1 : σ2[j]? = some (some (.ref a)) := by rw [ag j nj.1]; exact f3
                                      have s2 : σc[j]? = some (some (.ref a)) := by rw [← hσc, wipe_out nj.2]; exact s1
                                      exact ⟨j, es, ⟨by rw [off1 _ _ _ eg1 j nj.2]; exact a2, f1.2⟩, f2.1, by rw [ag1 j nj.2]; exact s2⟩)⟩
                                    have r9 := (kr.up g57).append (.cons r8 .nil)
                                    have nB : ¬ sel (me ++ mi1) A' envb σb D := fun z => nA z.1
                                    exact ⟨acd1 ++ [y], acc1 ++ [v], ys, eys, by simpa using hd1, ⟨upd_same, (rep_write d7 (.inl ⟨_, rfl⟩) nB).2 r9, (kE.up g57).aside d7 nA H0D, (kg.trans g57).aside hD d7⟩, (kc.up g57).aside d7 nA2 H0D, ((ks.grow g57)).trans (.put d7)⟩
                                  · cases hc1
                                · cases hs1
                      · have ee : j = items1.length := by omega
                        refine .inl ⟨jt2 ee, ?_⟩
                        rw [ee, List.drop_length, compL] at hc1
                        cases hc1
                        exact ⟨acd1, acc1, zs, hzs, by simpa using hd1, kD, kr, kE, kg⟩
            · cases hc
        · have ee : i = items.length := by omega
          refine .inl ⟨it2 ee, ?_⟩
          rw [ee, List.drop_length, catL] at hc
          cases hc
          rw [List.append_nil] at hd
          subst hd
          refine q D acc Hi (g1.trans gi) (g1.fresh D hD) hiD (hr.wide fun a z => ⟨⟨z.1.1.1, fun w => ?_⟩, z.1.1.2⟩)
          obtain ⟨j, es, f1, f2, f3⟩ := w
          simp only [List.mem_append, not_or] at f2
          have h1 : (freeze mi env)[j]? = some es ∧ es.own = true := ⟨(freeze_ownI f1.2).mpr ⟨f1.1, f2.2⟩, f1.2⟩
          by_cases hj : j ∈ tl ++ tl1
          · exact z.1.2 ⟨j, es, hj, h1, f3⟩
          · exact z.2 ⟨j, es, by rw [← henvb, wipeE_out hj]; exact h1, by simp [f2.1.1, f2.1.2], by rw [← hσb, wipe_out hj]; exact f3⟩
      · cases hf
def canI (K : PySem.W.Frag) (TB : Addr → Prop) (ms : List Nat) (f : Sls → Option (List PyData)) : TI := fun σ H R => ∃ (A : Addr → Prop) (H0 : Hp) (env : Sls) (items : List PyData) (W : Addr → Prop), EnvRep K TB A H0 H σ env ∧ f env = some items ∧
  (∀ b, W b → ∃ o, H b = some o ∧ IsOw o) ∧ (∀ a, sel ms A env σ a → ¬ W a) ∧ ∀ J H1, Grow H H1 → ItOk K W (sel ms A env σ) H1 J items → R J H1
theorem canI_of {TB : Addr → Prop} {ms : List Nat} {f : Sls → Option (List PyData)} {tg iter : Expr} (h : ∃ wi, PI X tg iter wi ∧ (∀ env x, foldedSetIterable iter env x = pure x) ∧ ISp X TB ms f wi) : PI X tg iter (canI X.K TB ms f) ∧ ∀ env x, foldedSetIterable iter env x = pure x := by
  obtain ⟨wi, h1, h2, h3⟩ := h
  exact ⟨⟨fun pins s σ H R I ⟨A, H0, env, items, W, E, e, w1, w2, q⟩ => h1.run pins s σ H R I (h3 A H0 H σ env items W R E e w1 w2 q)⟩, h2⟩
theorem canI_sp {TB : Addr → Prop} {ms : List Nat} {f : Sls → Option (List PyData)} : ISp X TB ms f (canI X.K TB ms f) := fun A H0 H σ env items W R E e w1 w2 q => ⟨A, H0, env, items, W, E, e, w1, w2, q⟩
variable {a b : Expr} {p : Pos} {ms ns : List Nat} {f g : Sls → Option PyData} {ca cb : Bool} {es : List Expr} {fs : Sls → Option (List PyData)} {ce : Bool} {tg tg1 : Expr}
variable {elt iter iter1 : Expr} {ifs ifs1 : List Expr} {scope : Scope} {mi mi1 me tl tl1 : List Nat} {fi fi1 : Sls → Option (List PyData)} {gt gt1 : PyData → Sls → Option Sls} {ft ft1 : Sls → Option Bool} {fe : Sls → Option PyData} {ci ci1 cg cg1 ct ct1 : Bool}
instance purLc2F [h1 : PurI S nm T tg iter mi fi ci] [h2 : PurG S scope.names T tg gt tl cg] [h3 : PurTs S scope.names T ifs ft ct] [h4 : PurI S scope.names T tg1 iter1 mi1 fi1 ci1] [h5 : PurG S scope.names T tg1 gt1 tl1 cg1] [h6 : PurTs S scope.names T ifs1 ft1 ct1] [h7 : PurE S scope.names T elt me fe ce] :
    PurF S nm T (.ListComp elt [⟨tg, iter, ifs, 0⟩, ⟨tg1, iter1, ifs1, 0⟩] scope p) (me ++ mi1 ++ mi) (fun env => lc2V (fi env) mi tl gt ft fi1 mi1 tl1 gt1 ft1 fe env) (ci && cg && ct && ci1 && cg1 && ct1 && ce && blkP S nm scope (tl ++ tl1)) where
  run hc TB k X G := by
    simp only [Bool.and_eq_true] at hc
    obtain ⟨⟨⟨⟨⟨⟨⟨hc1, hc2⟩, hc3⟩, hc4⟩, hc5⟩, hc6⟩, hc7⟩, hc8⟩ := hc
    obtain ⟨wi, hi, hs, qi⟩ := h1.run hc1 TB k X G
    obtain ⟨bo, eo⟩ := G.blk hc8
    have hin : ∀ (s : Shared) (H : Hp) (C : Addr) (cl : List (Str × Addr)) (fp : List Addr), Good S scope.names T TB k (X.blk s H scope (compEnvC scope cl C X.env) fp) := fun s H C cl fp => G.inBlk scope bo.kind s H C cl fp
    have hw := h4.run hc4 TB k _ (hin X.s_0 X.H_0 0 [] [])
    obtain ⟨_, _, hs1, _⟩ := hw
    have hg : ∀ (s : Shared) (H : Hp) (C : Addr) (cl : List (Str × Addr)) (fp : List Addr), PG (X.blk s H scope (compEnvC scope cl C X.env) fp) tg (canG X.K TB gt tl) := fun s H C cl fp => canG_of (h2.run hc2 TB k _ (hin s H C cl fp))
    have ht : ∀ (s : Shared) (H : Hp) (C : Addr) (cl : List (Str × Addr)) (fp : List Addr), PTs (X.blk s H scope (compEnvC scope cl C X.env) fp) ifs (canT X.K TB ft) := fun s H C cl fp => canTs_of (h3.run hc3 TB k _ (hin s H C cl fp))
    have hi1 : ∀ (s : Shared) (H : Hp) (C : Addr) (cl : List (Str × Addr)) (fp : List Addr), PI (X.blk s H scope (compEnvC scope cl C X.env) fp) tg1 iter1 (canI X.K TB mi1 fi1) := fun s H C cl fp => (canI_of (h4.run hc4 TB k _ (hin s H C cl fp))).1
    have hg1 : ∀ (s : Shared) (H : Hp) (C : Addr) (cl : List (Str × Addr)) (fp : List Addr), PG (X.blk s H scope (compEnvC scope cl C X.env) fp) tg1 (canG X.K TB gt1 tl1) := fun s H C cl fp => canG_of (h5.run hc5 TB k _ (hin s H C cl fp))
    have ht1 : ∀ (s : Shared) (H : Hp) (C : Addr) (cl : List (Str × Addr)) (fp : List Addr), PTs (X.blk s H scope (compEnvC scope cl C X.env) fp) ifs1 (canT X.K TB ft1) := fun s H C cl fp => canTs_of (h6.run hc6 TB k _ (hin s H C cl fp))
    have he : ∀ (s : Shared) (H : Hp) (C : Addr) (cl : List (Str × Addr)) (fp : List Addr), PE (X.blk s H scope (compEnvC scope cl C X.env) fp) elt (canE X.K TB me fe) := fun s H C cl fp => canE_of (h7.run hc7 TB k _ (hin s H C cl fp))
    have hv : ∀ i ∈ tl1, i ∈ (ownOf S (tl ++ tl1)).map (·.2) := fun i hi => by rw [eo]; exact List.mem_append_right _ hi
    refine ⟨_, pe_lc2 G.calm G.nd hi bo hv hg ht hi1 hg1 ht1 he (hs _) hs1, fun A H0 H σ env ds Q E hf q => ?_⟩
    rw [eo]
    exact lc2_read qi canG_sp h2.off canT_sp canI_sp canG_sp h5.off canT_sp canE_sp E hf q
instance purLc2 [PurF S nm T (.ListComp elt [⟨tg, iter, ifs, 0⟩, ⟨tg1, iter1, ifs1, 0⟩] scope p) ms fs ce] : PurE S nm T (.ListComp elt [⟨tg, iter, ifs, 0⟩, ⟨tg1, iter1, ifs1, 0⟩] scope p) ms (fun env => listV (fs env)) ce := pur_of_fresh inferInstance
/-- a name = [.. two clauses ..] -/
instance (priority := high) purSetLc2 {x : Str} {i : Nat} {p' lp : Pos} [SlotOf S x i] [h1 : PurI S nm T tg iter mi fi ci] [h2 : PurG S scope.names T tg gt tl cg] [h3 : PurTs S scope.names T ifs ft ct] [h4 : PurI S scope.names T tg1 iter1 mi1 fi1 ci1] [h5 : PurG S scope.names T tg1 gt1 tl1 cg1] [h6 : PurTs S scope.names T ifs1 ft1 ct1] [h7 : PurE S scope.names T elt me fe ce] :
    PurS S nm T (.Assign [.Name x p'] (.ListComp elt [⟨tg, iter, ifs, 0⟩, ⟨tg1, iter1, ifs1, 0⟩] scope lp) p) (fun env => setF i (me ++ mi1 ++ mi) (lc2V (fi env) mi tl gt ft fi1 mi1 tl1 gt1 ft1 fe env) env) ((ci && cg && ct && ci1 && cg1 && ct1 && ce && blkP S nm scope (tl ++ tl1)) && locC S nm x i) where
  run hc TB k X G := by
    simp only [Bool.and_eq_true] at hc
    obtain ⟨⟨⟨⟨⟨⟨⟨⟨hc1, hc2⟩, hc3⟩, hc4⟩, hc5⟩, hc6⟩, hc7⟩, hc8⟩, hc9⟩ := hc
    obtain ⟨wi, hi, hs, qi⟩ := h1.run hc1 TB k X G
    obtain ⟨bo, eo⟩ := G.blk hc8
    obtain ⟨l1, l2, l3⟩ := G.lo hc9
    have hin : ∀ (s : Shared) (H : Hp) (C : Addr) (cl : List (Str × Addr)) (fp : List Addr), Good S scope.names T TB k (X.blk s H scope (compEnvC scope cl C X.env) fp) := fun s H C cl fp => G.inBlk scope bo.kind s H C cl fp
    obtain ⟨_, _, hs1, _⟩ := h4.run hc4 TB k _ (hin X.s_0 X.H_0 0 [] [])
    have rd : FSp X TB (me ++ mi1 ++ mi) (fun env => lc2V (fi env) mi tl gt ft fi1 mi1 tl1 gt1 ft1 fe env) (tLc2 wi (canG X.K TB gt tl) (canT X.K TB ft) (canI X.K TB mi1 fi1) (canG X.K TB gt1 tl1) (canT X.K TB ft1) (canE X.K TB me fe) ((ownOf S (tl ++ tl1)).map (·.2)) tl1) := fun A H0 H σ env ds Q E hf q => by
      rw [eo]
      exact lc2_read qi canG_sp h2.off canT_sp canI_sp canG_sp h5.off canT_sp canE_sp E hf q
    have sw : ∃ bb : Bool, swapsWith (.ListComp elt [⟨tg, iter, ifs, 0⟩, ⟨tg1, iter1, ifs1, 0⟩] scope lp) (some (.Name x p')) p.line X.env = pure bb ∧ (bb = true → X.env.scope.names.lookup x = some .local) := by
      refine ⟨_, rfl, fun h => ?_⟩
      simp only [Bool.and_eq_true, beq_iff_eq] at h
      exact h.1.1.2
    obtain ⟨bb, sw, hl⟩ := sw
    have hg : ∀ (s : Shared) (H : Hp) (C : Addr) (cl : List (Str × Addr)) (fp : List Addr), PG (X.blk s H scope (compEnvC scope cl C X.env) fp) tg (canG X.K TB gt tl) := fun s H C cl fp => canG_of (h2.run hc2 TB k _ (hin s H C cl fp))
    have ht : ∀ (s : Shared) (H : Hp) (C : Addr) (cl : List (Str × Addr)) (fp : List Addr), PTs (X.blk s H scope (compEnvC scope cl C X.env) fp) ifs (canT X.K TB ft) := fun s H C cl fp => canTs_of (h3.run hc3 TB k _ (hin s H C cl fp))
    have hi1 : ∀ (s : Shared) (H : Hp) (C : Addr) (cl : List (Str × Addr)) (fp : List Addr), PI (X.blk s H scope (compEnvC scope cl C X.env) fp) tg1 iter1 (canI X.K TB mi1 fi1) := fun s H C cl fp => (canI_of (h4.run hc4 TB k _ (hin s H C cl fp))).1
    have hg1 : ∀ (s : Shared) (H : Hp) (C : Addr) (cl : List (Str × Addr)) (fp : List Addr), PG (X.blk s H scope (compEnvC scope cl C X.env) fp) tg1 (canG X.K TB gt1 tl1) := fun s H C cl fp => canG_of (h5.run hc5 TB k _ (hin s H C cl fp))
    have ht1 : ∀ (s : Shared) (H : Hp) (C : Addr) (cl : List (Str × Addr)) (fp : List Addr), PTs (X.blk s H scope (compEnvC scope cl C X.env) fp) ifs1 (canT X.K TB ft1) := fun s H C cl fp => canTs_of (h6.run hc6 TB k _ (hin s H C cl fp))
    have he : ∀ (s : Shared) (H : Hp) (C : Addr) (cl : List (Str × Addr)) (fp : List Addr), PE (X.blk s H scope (compEnvC scope cl C X.env) fp) elt (canE X.K TB me fe) := fun s H C cl fp => canE_of (h7.run hc7 TB k _ (hin s H C cl fp))
    have hv : ∀ i ∈ tl1, i ∈ (ownOf S (tl ++ tl1)).map (·.2) := fun i hi => by rw [eo]; exact List.mem_append_right _ hi
    cases bb with
    | true => exact ⟨_, ps_setLc2 (i := i) G.calm G.nd l1 (hl rfl) sw hi bo hv hg ht hi1 hg1 ht1 he (hs _) hs1, fun A H σ env o D E h q => setF_read rd E h q⟩
    | false => exact ⟨_, ps_set (i := i) G.nd l1 l2 (pe_lc2 G.calm G.nd hi bo hv hg ht hi1 hg1 ht1 he (hs _) hs1) sw l3, fun A H σ env o D E h q => setF_read rd E h q⟩
end
/-! evaluated -/
theorem catL_map {α : Type} {h : PyData → Option (List PyData)} (f : α → PyData) (o : α → List PyData) : ∀ (xs : List α), (∀ x ∈ xs, h (f x) = some (o x)) → catL h (xs.map f) = some (xs.flatMap o)
  | [], _ => rfl
  | x :: r, hx => by
    rw [List.map_cons, catL, hx x (by simp), catL_map f o r fun y hy => hx y (by simp [hy])]
    rfl
theorem lc2V_map {α : Type} {mi tl mi1 tl1 : List Nat} {gt gt1 : PyData → Sls → Option Sls} {ft ft1 : Sls → Option Bool} {fi1 : Sls → Option (List PyData)} {fe : Sls → Option PyData} {env : Sls} {f : α → PyData} {xs : List α} (o : α → List PyData) (hl : (xs.flatMap o).length ≤ LIM)
    (h : ∀ x ∈ xs, lc2Step gt ft fi1 mi1 tl1 gt1 ft1 fe (wipeE (tl ++ tl1) (freeze mi env)) (f x) = some (o x)) : lc2V (some (xs.map f)) mi tl gt ft fi1 mi1 tl1 gt1 ft1 fe env = some (xs.flatMap o) := by
  unfold lc2V
  dsimp only
  rw [catL_map f o xs h]
  exact if_pos hl
@[simp] theorem lc2Step_def (gt : PyData → Sls → Option Sls) (ft : Sls → Option Bool) (fi1 : Sls → Option (List PyData)) (mi1 tl1 : List Nat) (gt1 : PyData → Sls → Option Sls) (ft1 : Sls → Option Bool) (fe : Sls → Option PyData) (env : Sls) (d : PyData) :
    lc2Step gt ft fi1 mi1 tl1 gt1 ft1 fe env d = (gt d env).bind fun env1 => (ft env1).bind fun b => if b = true then (fi1 env1).bind fun ys => compL (lcStep gt1 ft1 fe (wipeE tl1 (freeze mi1 env1))) ys else some [] := by
  unfold lc2Step
  cases gt d env with
  | none => rfl
  | some env1 =>
    dsimp only [Option.bind]
    cases ft env1 with
    | none => rfl
    | some b => cases b <;> cases fi1 env1 <;> rfl
end Pu

set_option Elab.async false
set_option linter.all false
set_option autoImplicit false
set_option maxRecDepth 100000
set_option maxHeartbeats 4000000
namespace Pu
open PySem PySem.Spec PyProof.Rows L2 GxR
section
variable {S : List (Str × Nat)} {nm : List (Str × NameKind)} {T : Tab} {TB : Addr → Prop} {k : Nat} {X : Cx}
variable {a b : Expr} {p : Pos} {ms ns : List Nat} {f g : Sls → Option PyData} {ca cb : Bool} {es : List Expr} {fs : Sls → Option (List PyData)} {ce : Bool} {tg : Expr}
variable {x : Str} {i : Nat}

/-! ### x.extend(a list made here) -/
def extS (zs : List PyData) : Sl → Option Sl
  | .ow ds => if ds.length + zs.length ≤ LIM then some (.ow (ds ++ zs)) else none
  | _ => none
def extO (i : Nat) (ms : List Nat) (a : Option (List PyData)) (env : Sls) : Option Out := match a with
  | some zs => nxO (atE (extS zs) i (settleL ms zs env))
  | none => none
theorem settleL_ow {ms : List Nat} {d : List PyData} {env : Sls} {i : Nat} {ds : List PyData} (h : (settleL ms d env)[i]? = some (.ow ds)) : env[i]? = some (.ow ds) := by
  unfold settleL at h
  split at h
  · exact h
  · exact (freeze_ow.mp h).1
instance purExtend {px apos cpos : Pos} [SlotOf S x i] [h1 : PurF S nm T a ms fs ca] : PurS S nm T (.Expr (.Call (.Attribute (.Name x px) "extend" apos) [a] [] cpos) p) (fun env => extO i ms (fs env) env)
    (ca && nameC S nm x i && notStar a && (apos.endLine == cpos.line)) where
  run hc TB k X G := by
    simp only [Bool.and_eq_true] at hc
    obtain ⟨⟨⟨hc1, hc2⟩, hc3⟩, hc4⟩ := hc
    obtain ⟨ta, ha, qa⟩ := h1.run hc1 TB k X G
    unfold nameC at hc2
    simp only [Bool.and_eq_true, decide_eq_true_eq, Bool.not_eq_true'] at hc2
    obtain ⟨⟨⟨n1, n2⟩, n3⟩, n4⟩ := hc2
    have px' : PE X (.Name x px) (tVar i) := pe_var (i := i) (by rw [G.N]; exact n1) (G.vis n2) n3 n4
    refine ⟨_, ps_expr (pe_bm PySem.F.plainAttrs_list PySem.F.slot_list_extend PySem.F.type_list_extend mt_extend px' (pa_cons ha pa_nil (star_of hc3)) rfl (few1 hc3) hc4 (star_of hc3) rfl) rfl, fun A H σ env o D E h q => ?_⟩
    unfold extO at h
    try dsimp only at h
    split at h
    · rename_i zs e
      rw [atE_eq] at h
      cases eo : (settleL ms zs env)[i]? with
      | none => rw [eo] at h; cases h
      | some sl =>
        rw [eo] at h
        cases sl with
        | un => cases h
        | va d => cases h
        | od kvs => cases h
        | ow ds =>
          dsimp only [extS] at h
          by_cases hl : ds.length + zs.length ≤ LIM
          · rw [if_pos hl] at h
            cases h
            obtain ⟨a0, ys0, s1, s2, _⟩ := E.ow i ds (settleL_ow eo)
            refine ⟨.ref a0, s1, .inl ⟨rfl, _, .inl (.inl s2)⟩, ?_⟩
            refine qa A X.H_0 H σ env zs _ E e fun p0 ys H1 g1 np hp r1 => ?_
            have key : EnvRep X.K TB A X.H_0 H1 σ (settleL ms zs env) ∧ Reps X.K H1 (sel [] A (settleL ms zs env) σ) zs ys ∧ Evo env σ H (settleL ms zs env) σ H1 := by
              unfold settleL
              split
              · rename_i hn
                exact ⟨E.up g1, r1.flat hn, .grow g1 fun a z => .inl z⟩
              · exact ⟨(E.up g1).freeze ms, r1.wide fun a z => sel_freeze.mpr z.1, .grow g1 fun a z => .inl ((OW_freeze.mp z).sub (by simp))⟩
            obtain ⟨E2, r2, ev⟩ := key
            obtain ⟨a1, ys1, t1, t2, _, _, t5⟩ := E2.ow i ds eo
            rw [s1] at t1; cases t1
            have W := E2.write eo s1 t2 (t5.append r2)
            exact ⟨a0, p0, ys1, ys, rfl, rfl, t2, hp, by rw [← lim_line, ← t5.length, ← r2.length]; exact hl, q _ _ W.1 (ev.trans W.2)⟩
          · rw [if_neg hl] at h; cases h
    · cases h

/-! ### [..] * n, text * n -/
def RpC (n : Nat) (j : Int) : Prop := -(2 ^ 63) ≤ j ∧ j < 2 ^ 63 ∧ n * j.toNat ≤ LIM
noncomputable instance (n : Nat) (j : Int) : Decidable (RpC n j) := Classical.propDecidable _
noncomputable def repL (a : Option (List PyData)) (b : Option PyData) : Option (List PyData) := match a with
  | some xs => (match b with
    | some (.int j) => if RpC xs.length j then some (List.replicate j.toNat xs).flatten else none
    | _ => none)
  | none => none
instance purRepL [h1 : PurF S nm T a ms fs ca] [h2 : PurE S nm T b ns g cb] : PurF S nm T (.BinOp a .Mult b p) ms (fun env => repL (fs env) (g env)) (ca && cb) where
  run hc TB k X G := by
    simp only [Bool.and_eq_true] at hc
    obtain ⟨ta, ha, qa⟩ := h1.run hc.1 TB k X G
    obtain ⟨tb, hb, qb⟩ := h2.run hc.2 TB k X G
    refine ⟨_, pe_op op_rep ha hb, fun A H0 H σ env d Q E hf q => ?_⟩
    unfold repL at hf
    try dsimp only at hf
    split at hf
    · rename_i xs e1
      split at hf
      · rename_i j e2
        split at hf
        · rename_i hr
          cases hf
          refine qa A H0 H σ env xs _ E e1 fun l ys H1 g1 np hl r1 => ?_
          refine qb A H0 H1 σ env _ _ (E.up g1) e2 fun v H2 g2 r2 => ?_
          cases r2
          refine ⟨l, j, ys, rfl, rfl, g2.same _ _ (fun _ => HO.noConfusion) hl, hr.1, hr.2.1, by rw [← lim_line, ← r1.length]; exact hr.2.2, fun p0 np0 => ?_⟩
          have r3 := (r1.rep j.toNat).up g2
          exact q p0 _ _ ((g1.trans g2).trans (.new np0)) (g1.fresh p0 (g2.fresh p0 np0)) upd_same ((r3.wide fun a z => z.1).away np0 |>.up (.new np0))
        · cases hf
      · cases hf
    · cases hf
end
/-! evaluated -/
@[simp] theorem extO_some (i : Nat) (ms : List Nat) (zs : List PyData) (env : Sls) : extO i ms (some zs) env = nxO (atE (extS zs) i (settleL ms zs env)) := id rfl
@[simp] theorem extS_ow {zs ds : List PyData} (h : ds.length + zs.length ≤ LIM) : extS zs (.ow ds) = some (.ow (ds ++ zs)) := if_pos h
theorem repL_some {xs : List PyData} {j : Int} (h : xs.length * j.toNat ≤ LIM) (h2 : -1000000000 < j ∧ j < 1000000000) : repL (some xs) (some (.int j)) = some (List.replicate j.toNat xs).flatten := by
  show (if RpC xs.length j then some (List.replicate j.toNat xs).flatten else none) = _
  rw [if_pos ⟨by omega, by omega, h⟩]
@[simp] theorem repL_one {x : PyData} {j : Int} (h : 0 ≤ j) (h2 : j < 10000000) : repL (some [x]) (some (.int j)) = some (List.replicate j.toNat x) := by
  rw [repL_some (by rw [LIM_eq]; simp; omega) (by omega)]
  congr 1
  induction j.toNat with
  | zero => rfl
  | succ n ih => rw [List.replicate_succ, List.flatten_cons, ih, List.replicate_succ]; rfl
end Pu

set_option Elab.async false
set_option linter.all false
set_option autoImplicit false
set_option maxRecDepth 100000
set_option maxHeartbeats 4000000
namespace Pu
open PySem PySem.Spec PyProof.Rows L2 GxR
section
variable {S : List (Str × Nat)} {nm : List (Str × NameKind)} {T : Tab} {TB : Addr → Prop} {k : Nat} {X : Cx}
variable {a b : Expr} {p : Pos} {ms ns : List Nat} {f g : Sls → Option PyData} {ca cb : Bool} {es : List Expr} {fs : Sls → Option (List PyData)} {ce : Bool} {tg : Expr}
variable {x : Str} {i : Nat}

/-! ### x[i] op= e -/
def rGetL : V → V → Hp → VK → Prop := fun o j H Q => ∃ (l : Addr) (xs : List V) (n : Int) (y : V), o = .ref l ∧ j = .int n ∧ H l = some (.lst xs) ∧ 0 ≤ n ∧ n < 1000000000 ∧ xs[n.toNat]? = some y ∧ Q y H
theorem get_lst : PGet X rGetL := by
  intro pins s σ H o j ov iv Q I ro rj h
  obtain ⟨l, xs, n, y, rfl, rfl, hl, h0, h1, hy, q⟩ := h
  cases ro
  obtain ⟨t, rfl⟩ := rj
  obtain ⟨its, r, pl, hz⟩ := I.list (.inl (.inl hl))
  obtain ⟨w, ew, rw'⟩ := r.get hy
  exact wpAny_getItem_list pl.isList h0 (by omega) (by simpa using ew) ⟨y, H, I, rw', q⟩
/-- the item n of a list of one's own by F with e -/
def augS (F : PyData → PyData → Option PyData) (n : Int) (e : PyData) : Sl → Option Sl
  | .ow ds => if 0 ≤ n ∧ n < 1000000000 then (match ds[n.toNat]? with
    | some d => (match F d e with
      | some r => if noL r = true then some (.ow (ds.set n.toNat r)) else none
      | none => none)
    | none => none) else none
  | _ => none
def augI (F : PyData → PyData → Option PyData) (i : Nat) (a b : Option PyData) (env : Sls) : Option Out := match a with
  | some (.int n) => (match b with
    | some e => nxO (atE (augS F n e) i env)
    | none => none)
  | _ => none
instance purAugI {op : Operator} {F : PyData → PyData → Option PyData} {px tp : Pos} [SlotOf S x i] [hA : AugP op F] [h1 : PurE S nm T a ms f ca] [h2 : PurE S nm T b ns g cb] : PurS S nm T (.AugAssign (.Subscript (.Name x px) a tp) op b p) (fun env => augI F i (f env) (g env) env)
    (ca && cb && nameC S nm x i && notSlice a) where
  run hc TB k X G := by
    simp only [Bool.and_eq_true] at hc
    obtain ⟨⟨⟨hc1, hc2⟩, hc3⟩, hc4⟩ := hc
    obtain ⟨ta, ha, qa⟩ := h1.run hc1 TB k X G
    obtain ⟨tb, hb, qb⟩ := h2.run hc2 TB k X G
    unfold nameC at hc3
    simp only [Bool.and_eq_true, decide_eq_true_eq, Bool.not_eq_true'] at hc3
    obtain ⟨⟨⟨n1, n2⟩, n3⟩, n4⟩ := hc3
    have px' : PE X (.Name x px) (tVar i) := pe_var (i := i) (by rw [G.N]; exact n1) (G.vis n2) n3 n4
    refine ⟨_, ps_augS px' ha get_lst hb (hA.rule X) set_list (by intro ov iv new; cases a <;> first | rfl | cases hc4), fun A H σ env o D E h q => ?_⟩
    unfold augI at h
    try dsimp only at h
    split at h
    · rename_i n en
      split at h
      · rename_i e ee
        rw [atE_eq] at h
        cases eo : env[i]? with
        | none => rw [eo] at h; cases h
        | some sl =>
          rw [eo] at h
          cases sl with
          | un => cases h
          | va d => cases h
          | od kvs => cases h
          | ow ds =>
            dsimp only [augS] at h
            by_cases hn : 0 ≤ n ∧ n < 1000000000
            · rw [if_pos hn] at h
              cases ed : ds[n.toNat]? with
              | none => rw [ed] at h; cases h
              | some d =>
                rw [ed] at h
                dsimp only at h
                cases er : F d e with
                | none => rw [er] at h; cases h
                | some r =>
                  rw [er] at h
                  dsimp only at h
                  by_cases hr : noL r = true
                  · rw [if_pos hr] at h
                    cases h
                    obtain ⟨a0, ys0, s1, s2, _⟩ := E.ow i ds eo
                    refine ⟨.ref a0, s1, ?_⟩
                    refine qa A X.H_0 H σ env _ _ E en fun y H1 g1 r1 => ?_
                    cases r1
                    have E1 := E.up g1
                    obtain ⟨a1, ys, t1, t2, _, _, t5⟩ := E1.ow i ds eo
                    rw [s1] at t1; cases t1
                    obtain ⟨v, v1, v2⟩ := t5.get ed
                    refine ⟨a0, ys, n, v, rfl, rfl, t2, hn.1, hn.2, v1, ?_⟩
                    refine qb A X.H_0 H1 σ env _ _ E1 ee fun z H2 g2 r2 => ?_
                    refine ⟨sel ns A env σ, d, e, r, (E1.up g2).selfree _, (v2.up g2).wide fun a z => z.sub (by simp), r2, er, fun u H3 g3 r3 => ?_⟩
                    have E3 := (E1.up g2).up g3
                    obtain ⟨a2, ys2, u1, u2, _, _, u5⟩ := E3.ow i ds eo
                    rw [s1] at u1; cases u1
                    have W := E3.write eo s1 u2 (u5.set n.toNat (r3.flat hr))
                    have hlt : n.toNat < ys2.length := by rw [← u5.length]; exact (List.getElem?_eq_some_iff.mp ed).1
                    refine ⟨a0, ys2, n, n.toNat, rfl, rfl, u2, by unfold ixN; rw [if_pos hn.1, if_pos (by omega)], q _ _ W.1 ((Evo.grow ((g1.trans g2).trans g3) fun a z => .inl z).trans W.2)⟩
                  · rw [if_neg hr] at h; cases h
            · rw [if_neg hn] at h; cases h
      · cases h
    · cases h
end
@[simp] theorem augI_some (F : PyData → PyData → Option PyData) (i : Nat) (n : Int) (e : PyData) (env : Sls) : augI F i (some (.int n)) (some e) env = nxO (atE (augS F n e) i env) := id rfl
theorem augS_map {α : Type} [Inhabited α] {F : PyData → PyData → Option PyData} {f : α → PyData} {xs : List α} {n : Int} {e : PyData} {y : α} (h0 : 0 ≤ n) (h1 : n < xs.length) (h2 : n < 1000000000) (hF : F (f (nth xs n)) e = some (f y)) (hn : noL (f y) = true) :
    augS F n e (.ow (xs.map f)) = some (.ow ((xs.set n.toNat y).map f)) := by
  unfold augS
  dsimp only
  rw [if_pos ⟨h0, h2⟩, List.getElem?_map, nth_eq h0 h1]
  dsimp only [Option.map]
  rw [hF]
  dsimp only
  rw [if_pos hn, List.map_set]
@[simp] theorem augS_addI {xs : List Int} {n e : Int} (h0 : 0 ≤ n) (h1 : n < xs.length) (h2 : n < 1000000000) : augS iaddP n (.int e) (.ow (xs.map .int)) = some (.ow ((xs.set n.toNat (nth xs n + e)).map .int)) := augS_map h0 h1 h2 rfl rfl
end Pu

set_option Elab.async false
set_option linter.all false
set_option autoImplicit false
set_option maxRecDepth 100000
set_option maxHeartbeats 4000000
namespace Pu
open PySem PySem.Spec PyProof.Rows L2 GxR

/-! ### sorted, further -/
theorem leD_totle : PySem.W.TotalLe leD := PySem.W.sortLe_total (PyProof.Rows.listOrd PyProof.Rows.itemOrd) false fun d => PySem.W.keyToks d
theorem srtD_perm (xs : List PyData) : (srtD xs).Perm xs := List.mergeSort_perm _ _
/-- a sort that is worked out by its text -/
def insS {α : Type} (le : α → α → Bool) (x : α) : List α → List α
  | [] => [x]
  | y :: r => if le x y = true then x :: y :: r else y :: insS le x r
def isort {α : Type} (le : α → α → Bool) : List α → List α
  | [] => []
  | x :: r => insS le x (isort le r)
section
variable {α : Type} {le : α → α → Bool}
theorem insS_perm (x : α) : ∀ l : List α, (insS le x l).Perm (x :: l)
  | [] => .refl _
  | y :: r => by
    unfold insS
    split
    · exact .refl _
    · exact ((insS_perm x r).cons y).trans (.swap x y r)
theorem isort_perm : ∀ l : List α, (isort le l).Perm l
  | [] => .refl _
  | x :: r => (insS_perm x _).trans ((isort_perm r).cons x)
theorem insS_sorted (tr : ∀ a b c, le a b = true → le b c = true → le a c = true) (tt : ∀ a b, le a b = true ∨ le b a = true) (x : α) : ∀ l : List α, l.Pairwise (fun a b => le a b = true) → (insS le x l).Pairwise (fun a b => le a b = true)
  | [], _ => by simp [insS]
  | y :: r, h => by
    unfold insS
    have h2 := List.pairwise_cons.mp h
    split
    · rename_i c
      refine List.pairwise_cons.mpr ⟨fun z hz => ?_, h⟩
      rcases List.mem_cons.mp hz with rfl | hz
      · exact c
      · exact tr _ _ _ c (h2.1 z hz)
    · rename_i c
      refine List.pairwise_cons.mpr ⟨fun z hz => ?_, insS_sorted tr tt x r h2.2⟩
      rcases List.mem_cons.mp ((insS_perm x r).mem_iff.mp hz) with rfl | hz
      · exact (tt _ _).resolve_left c
      · exact h2.1 z hz
theorem isort_sorted (tr : ∀ a b c, le a b = true → le b c = true → le a c = true) (tt : ∀ a b, le a b = true ∨ le b a = true) : ∀ l : List α, (isort le l).Pairwise (fun a b => le a b = true)
  | [] => .nil
  | x :: r => insS_sorted tr tt x _ (isort_sorted tr tt r)
theorem mergeSort_isort (tr : ∀ a b c, le a b = true → le b c = true → le a c = true) (tt : ∀ a b, le a b = true ∨ le b a = true) {l : List α} (an : ∀ a ∈ l, ∀ b ∈ l, le a b = true → le b a = true → a = b) : l.mergeSort le = isort le l := by
  refine List.Perm.eq_of_pairwise (le := fun a b => le a b = true) (fun a b ha hb => an a ?_ b ?_) (List.pairwise_mergeSort tr (fun a b => by have := tt a b; simpa using this) l) (isort_sorted tr tt l) ((List.mergeSort_perm l le).trans (isort_perm l).symm)
  · exact (List.mergeSort_perm l le).mem_iff.mp ha
  · exact (isort_perm l).mem_iff.mp hb
/-- a sorted list is what sorting leaves -/
theorem mergeSort_sorted (tr : ∀ a b c, le a b = true → le b c = true → le a c = true) (tt : ∀ a b, le a b = true ∨ le b a = true) {l m : List α} (an : ∀ a ∈ l, ∀ b ∈ l, le a b = true → le b a = true → a = b) (hp : m.Perm l) (hs : m.Pairwise fun a b => le a b = true) : l.mergeSort le = m := by
  refine List.Perm.eq_of_pairwise (le := fun a b => le a b = true) (fun a b ha hb => an a ?_ b ?_) (List.pairwise_mergeSort tr (fun a b => by have := tt a b; simpa using this) l) hs ((List.mergeSort_perm l le).trans hp.symm)
  · exact (List.mergeSort_perm l le).mem_iff.mp ha
  · exact hp.mem_iff.mp hb
end
theorem sortL_map {α : Type} {enc : α → PyData} {xs : List α} (le : α → α → Bool) (hs : SoC (xs.map enc)) (hle : ∀ a ∈ xs, ∀ b ∈ xs, le a b = leD (enc a) (enc b)) : sortL (some (.list (xs.map enc))) = some ((xs.mergeSort le).map enc) := by
  show (if SoC (xs.map enc) then some (srtD (xs.map enc)) else none) = _
  rw [if_pos hs]
  exact congrArg some (List.map_mergeSort hle).symm
theorem leD_not (x y : PyData) : leD x y = !PySem.W.dataLt y x := rfl
theorem leD_str (a b : Str) : leD (.str a) (.str b) = decide (a.cps.toList ≤ b.cps.toList) := congrFun (congrFun (PySem.W.dataLe_str (fun n : Str => n)) a) b
theorem leD_ii (a b c d : Int) : leD (.tuple [.int a, .int b]) (.tuple [.int c, .int d]) = decide (a < c ∨ (a = c ∧ b ≤ d)) := by
  rw [leD_not, PySem.W.dataLt_ii]
  by_cases h : c < a ∨ (c = a ∧ d < b)
  · have h' : ¬ (a < c ∨ (a = c ∧ b ≤ d)) := by omega
    simp [h, h']
  · have h' : a < c ∨ (a = c ∧ b ≤ d) := by omega
    simp [h, h']
theorem leD_tints (xs ys : List Int) : leD (.tuple (xs.map .int)) (.tuple (ys.map .int)) = decide (xs ≤ ys) := by
  rw [leD_not, PySem.W.dataLt_tuple]
  show (!PySem.W.rowLt (ys.map .int) (xs.map .int)) = _
  rw [PySem.W.dataLt_ints]
  by_cases h : ys < xs
  · have h' : ¬ xs ≤ ys := fun r => List.not_lt.mpr r h
    simp [h, h']
  · have h' : xs ≤ ys := List.not_lt.mp h
    simp [h, h']
theorem eqv_ints (xs ys : List Int) : PyData.eqv (.tuple (xs.map .int)) (.tuple (ys.map .int)) = decide (xs = ys) := by
  classical
  rw [eqv_sm (d := .tuple (xs.map .int)) (e := .tuple (ys.map .int))]
  simp
theorem leD_itints (a b : Int) (xs ys : List Int) : leD (.tuple [.int a, .tuple (xs.map .int)]) (.tuple [.int b, .tuple (ys.map .int)]) = decide (a < b ∨ (a = b ∧ xs ≤ ys)) := by
  rw [leD_not, PySem.W.dataLt_pair (by simp [PySem.W.alike]) (by rw [PySem.W.alike]; exact PySem.W.alike_ints _ _), eqv_ints, PySem.W.dataLt_tuple, PySem.W.dataLt_int]
  have e : PyProof.Rows.lexLt PyProof.Rows.itemOrd (PySem.W.keyToksAll (ys.map .int)) (PySem.W.keyToksAll (xs.map .int)) = decide (ys < xs) := PySem.W.dataLt_ints ys xs
  rw [e]
  simp only [PyData.eqv, beq_iff_eq]
  by_cases h : b = a
  · subst h
    by_cases h2 : ys < xs
    · have h3 : ¬ xs ≤ ys := fun r => List.not_lt.mpr r h2
      have h4 : ys ≠ xs := fun z => List.lt_irrefl _ (z ▸ h2)
      simp [h2, h3, h4]
    · have h3 : xs ≤ ys := List.not_lt.mp h2
      simp [h2, h3]
  · by_cases h2 : a < b
    · have : ¬ b < a := by omega
      simp [h, h2, this]
    · have : b < a := by omega
      have h5 : ¬ a = b := by omega
      simp [h, h2, this, h5]
theorem lint_tr (a b c : List Int) (h : a ≤ b) (h2 : b ≤ c) : a ≤ c := Std.le_trans h h2
theorem lint_tt (a b : List Int) : a ≤ b ∨ b ≤ a := Std.Total.total a b
theorem lint_an {a b : List Int} (h : a ≤ b) (h2 : b ≤ a) : a = b := Std.le_antisymm h h2
theorem soC_of {α : Type} {enc : α → PyData} {xs : List α} (h1 : ∀ a ∈ xs, ∀ b ∈ xs, PySem.W.alike (enc a) (enc b) = true) (h2 : (∀ a ∈ xs, ∃ x r, enc a = .tuple (x :: r)) ∨ ∀ a ∈ xs, enc a ≠ .none ∧ ∀ ys, enc a ≠ .tuple ys) (h3 : ∀ a ∈ xs, (enc a).depth ≤ DEP) : SoC (xs.map enc) := by
  refine ⟨fun x hx y hy => ?_, ?_, fun d hd => ?_⟩
  · obtain ⟨a, ha, rfl⟩ := List.mem_map.mp hx
    obtain ⟨b, hb, rfl⟩ := List.mem_map.mp hy
    exact h1 a ha b hb
  · rcases h2 with h | h
    · left
      intro d hd
      obtain ⟨a, ha, rfl⟩ := List.mem_map.mp hd
      exact h a ha
    · right
      intro d hd
      obtain ⟨a, ha, rfl⟩ := List.mem_map.mp hd
      exact h a ha
  · obtain ⟨a, ha, rfl⟩ := List.mem_map.mp hd
    exact h3 a ha

/-! ### enumerate, by places -/
theorem enumD_map {α : Type} [Inhabited α] (f : α → PyData) (xs : List α) : enumD (xs.map f) = (rg 0 xs.length).map fun i => .tuple [.int i, f (nth xs i)] := by
  unfold enumD
  apply List.ext_getElem?
  intro k
  rw [List.getElem?_map, List.getElem?_map]
  by_cases hk : k < xs.length
  · rw [List.getElem?_zipIdx, List.getElem?_map]
    unfold rg
    rw [List.getElem?_map, List.getElem?_range (by omega)]
    rw [List.getElem?_eq_getElem hk]
    simp [nth, hk]
  · rw [List.getElem?_eq_none (by simpa using hk), List.getElem?_eq_none (by simpa using hk)]
    rfl
@[simp] theorem enumV_list {α : Type} [Inhabited α] (f : α → PyData) (xs : List α) : enumV (some [.list (xs.map f)]) = some ((rg 0 xs.length).map fun i => .tuple [.int i, f (nth xs i)]) := congrArg some (enumD_map f xs)
@[simp] theorem enumV_tuple {α : Type} [Inhabited α] (f : α → PyData) (xs : List α) : enumV (some [.tuple (xs.map f)]) = some ((rg 0 xs.length).map fun i => .tuple [.int i, f (nth xs i)]) := congrArg some (enumD_map f xs)
/-- over f i for i in range(a, b) -/
theorem wp_rgmap {f : Int → PyData} {a b : Int} {env : Sls} {gt : PyData → Sls → Option Sls} {body : Sls → Option Out} {Q : Out → Prop} (I : Int → Sls → Prop) (h0 : I a env)
    (hs : ∀ i e, a ≤ i → i < b → I i e → ∃ e1, gt (f i) e = some e1 ∧ Wp (body e1) (bodyQ (I (i + 1)) Q)) (hq : ∀ e, I (max a b) e → Q (.nx e)) : Wp (forL gt body ((rg a b).map f) env) Q := by
  refine wp_for (fun l e => ∃ i, a ≤ i ∧ i ≤ max a b ∧ l = (rg i b).map f ∧ I i e) ⟨a, by omega, by omega, rfl, h0⟩ ?_ ?_
  · rintro x r e ⟨i, h1, h2, hl, hI⟩
    by_cases hb : i < b
    · rw [rg_cons hb, List.map_cons] at hl
      simp only [List.cons.injEq] at hl
      obtain ⟨rfl, rfl⟩ := hl
      obtain ⟨e1, eg, o, eo, q⟩ := hs i e h1 hb hI
      refine ⟨e1, eg, o, eo, ?_⟩
      cases o with
      | nx e => exact ⟨i + 1, by omega, by omega, rfl, q⟩
      | ct e => exact ⟨i + 1, by omega, by omega, rfl, q⟩
      | bk e => exact q
      | rt d => exact q
    · rw [rg_eq_nil (by omega)] at hl
      simp at hl
  · rintro e ⟨i, h1, h2, hl, hI⟩
    by_cases hb : i < b
    · rw [rg_cons hb] at hl
      simp at hl
    · have : i = max a b := by omega
      subst this
      exact hq e hI

/-! ### a slot not known, given up -/
def frz : Sl → Sl
  | .ow ds => .va (.list ds)
  | .od kvs => .va (.dict kvs)
  | x => x
@[simp low] theorem freeze1_any (x : Sl) (r : Sls) : freeze1 0 (x :: r) = frz x :: r := by
  cases x <;> rfl
end Pu

set_option Elab.async false
set_option linter.all false
set_option autoImplicit false
set_option maxRecDepth 100000
set_option maxHeartbeats 4000000
namespace Pu
open PySem PySem.Spec PyProof.Rows L2 GxR

/-! ### generator expressions: the frame -/
/-- the context of a generator's frame cenv that begins at s, walked in the around B, its iterator's objects at fp -/
abbrev genCx (X : Cx) (s : Shared) (H : Hp) (B : Around) (cenv : Env) (fp : List Addr) : Cx := { X with A := B, s_0 := s, H_0 := H, env := cenv, outer := X.stack, stack := cenv :: X.stack, ex := fp, fn := fun _ => false, pn := [], xe := fun _ _ => False }
section
variable {X : Cx} {pins : List (Addr × Obj)} {σ : L2.St} {H : Hp} {s : Shared}
theorem gen_start {scope : Scope} {own : List (Str × Nat)} {fp : List Addr} {B : Around} {code itv : Value} {h' : Heap} {G : Array GenState} {tk : Nat} {gobj : Obj} (I : Inv X pins σ H s) (ok : BlkOk X.N X.env.scope scope own) (hN : X.N.Nodup) (hcell : ∀ y ∈ scope.names, y.2 ≠ .cell)
    (hfp : ∀ b ∈ fp, FpOk X pins H b ∧ b < s.heap.objs.size) (hd : X.calm = true → B.handled = none) (hfr : B.frames = some (genEnv scope (cloFrom X.env.cells scope.names []) s.heap.objs.size code builtinsNs X.env :: X.stack))
    (hns : h'.Ns s.heap.objs.size (fun y => if y = ".0" then some itv else none)) (hsb : Heap.SameBut s.heap.objs.size (s.heap.push { cls := .type "frame", data := .dict #[] }) h') (hG : AllBare G) (hgo : ∀ v, gobj.data ≠ .cell v) (hgf : gobj.isFreed = false) (hg0 : s.heap.objs.size + 1 = h'.objs.size) :
    Inv (genCx X s H B (genEnv scope (cloFrom X.env.cells scope.names []) s.heap.objs.size code builtinsNs X.env) fp) [(h'.objs.size, gobj)] (wipe σ (own.map (·.2))) H { s with heap := h'.push gobj, gens := G, toks := tk } := by
  have hfree : ∀ y ∈ scope.names, y.2 = .free → ∃ c, X.env.cells.lookup y.1 = some c := fun y hy e => by
    rcases ok.free y hy e with k | k
    · exact I.ok.has _ (.inl k)
    · exact I.ok.has _ (.inr k)
  generalize hcenv : genEnv scope (cloFrom X.env.cells scope.names []) s.heap.objs.size code builtinsNs X.env = cenv at hfr
  have kp : ∀ b o, s.heap.get? b = some o → (h'.push gobj).get? b = some o := fun b o e => Heap.get?_push_of_some _ ((hsb.2 b (Nat.ne_of_lt (Heap.lt_size e))).trans (Heap.get?_push_of_some _ e))
  have hL : cenv.locals = s.heap.objs.size := by rw [← hcenv]; rfl
  have hcl : cenv.cells = cloFrom X.env.cells scope.names [] := by rw [← hcenv]; rfl
  have hsc : cenv.scope = scope := by rw [← hcenv]; rfl
  have mem : ∀ {y c}, cenv.cells.lookup y = some c → X.env.cells.lookup y = some c := fun {y c} e => by
    rw [hcl] at e
    rcases cloFrom_mem (PySem.mem_of_lookup e) with hm | ⟨h1, rfl⟩
    · cases hm
    · obtain ⟨c, hc⟩ := hfree _ h1 rfl
      rw [hc]; rfl
  have lts : ∀ {y c}, X.env.cells.lookup y = some c → c < s.heap.objs.size := fun {y c} e => by
    obtain ⟨w, z⟩ := I.cell _ _ e
    exact z.lt
  have look : ∀ {y}, scope.names.lookup y = some .free → ∃ c, cenv.cells.lookup y = some c ∧ X.env.cells.lookup y = some c := fun {y} hl => by
    have hy : (y, NameKind.free) ∈ scope.names := PySem.mem_of_lookup hl
    obtain ⟨c', e'⟩ := mem_lookup (cloFrom_has (cells := X.env.cells) (acc := []) hy)
    rw [← hcl] at e'
    exact ⟨c', e', mem e'⟩
  have okB : (genCx X s H B cenv fp).Ok := by
    refine ⟨I.ok.mod, by show cenv.scope.kind = _; rw [hsc]; exact ok.kind, by show cenv.globals = _; rw [← hcenv]; exact I.ok.glob, by show cenv.builtins = _; rw [← hcenv]; rfl, by show s.heap.objs.size ≤ cenv.locals; rw [hL]; exact Nat.le_refl _,
      fun y z c e1 e2 => I.ok.inj y z c (mem e1) (mem e2), fun y hy => ?_, fun y c z e => (by cases z), hd, hfr, .inr ⟨rfl, by show cenv.frame = some cenv.locals; rw [← hcenv]; rfl⟩, fun b hb => ⟨?_, fun y c e z => ?_⟩, I.bs, Nat.le_trans I.ok.bsz I.sz, fun b o e hb => ?_, fun b hb z => ?_, I.stack, I.stkFree⟩
    · show ∃ c, cenv.cells.lookup y = some c
      have hy : cenv.scope.names.lookup y = some .cell ∨ cenv.scope.names.lookup y = some .free := hy
      rw [hsc] at hy
      rcases hy with hy | hy
      · exact absurd rfl (hcell _ (PySem.mem_of_lookup hy))
      · obtain ⟨c, h1, _⟩ := look hy
        exact ⟨c, h1⟩
    · show b ≠ cenv.locals
      rw [hL]; exact Nat.ne_of_lt (hfp b hb).2
    · exact (hfp b hb).1.2.2.2.2.1 y c (mem e) z
    · rcases (hfp b hb).1.2.2.2.1 with z | z
      · exact I.ok.noex b o e z
      · exact absurd (Nat.lt_of_lt_of_le (Heap.lt_size e) (Nat.le_trans I.ok.bsz z)) (Nat.lt_irrefl _)
    · rcases List.mem_cons.mp (I.stkSub b z) with z | z
      · exact (hfp b hb).1.2.1 z
      · exact (hfp b hb).1.2.2.1 z
  refine ⟨okB, rfl, hG, Un.kept kp, ⟨fun y => if y = (".0" : Str) then some itv else none, ?_, fun i y av e1 e2 e3 => ?_⟩, fun y c e => ?_, ?_, fun y c e => I.freeC y c (mem e), fun p hp => ?_, I.hok.kept kp, by rw [wipe_length]; exact I.len⟩
  · show Heap.Ns _ cenv.locals _
    rw [hL]
    exact hns.push _
  · obtain ⟨e2, hne⟩ := wipe_some e2
    have e3 : Vis cenv.scope y := e3
    rw [hsc] at e3
    have no : ∀ k, scope.names.lookup y = some k → ¬ (k = .local ∨ k = .cell) := fun k e hh => by
      rcases ok.own _ (PySem.mem_of_lookup e) hh with e' | e'
      · obtain ⟨p, hp, hpy⟩ := List.mem_map.mp e'
        have e3 := ok.ix p hp
        have : p.1 = y := hpy
        rw [this] at e3
        exact hne (List.mem_map.mpr ⟨p, hp, nodup_ix hN e3 e1⟩)
      · exact e' (List.mem_of_getElem? e1)
    have hf : scope.names.lookup y = some .free := by
      rcases e3 with e3 | e3 | e3
      · exact absurd (.inl rfl) (no _ e3)
      · exact absurd (.inr rfl) (no _ e3)
      · exact e3
    obtain ⟨m, hn, hl⟩ := I.loc
    have hvis : Vis X.env.scope y := (ok.free _ (PySem.mem_of_lookup hf) rfl).elim (fun k => .inr (.inl k)) (fun k => .inr (.inr k))
    obtain ⟨w, r, q⟩ := hl i y av e1 e2 hvis
    refine ⟨w, r, .inr ⟨.inr (by show cenv.scope.names.lookup y = _; rw [hsc]; exact hf), ?_⟩⟩
    obtain ⟨c, h1, h2⟩ := look hf
    rcases q with ⟨k, _⟩ | ⟨_, c', e', z⟩
    · have k : X.env.scope.names.lookup y = some .local := k
      rcases ok.free _ (PySem.mem_of_lookup hf) rfl with k' | k' <;> rw [show X.env.scope.names.lookup y = _ from k'] at k <;> cases k
    · rw [h2] at e'; cases e'
      exact ⟨c, h1, z.keeps kp⟩
  · obtain ⟨w, z⟩ := I.cell y c (mem e)
    exact ⟨w, z.keeps kp⟩
  · show H cenv.locals = none
    rw [hL]; exact I.hok.fresh (Nat.le_refl _)
  · have hp : p = (h'.objs.size, gobj) := by simpa using hp
    subst hp
    refine ⟨Heap.get?_push_size _ ?_, I.hok.fresh (by show s.heap.objs.size ≤ h'.objs.size; omega), by show h'.objs.size ≠ cenv.locals; rw [hL]; omega, fun z => ?_, hgo⟩
    · exact hgf
    · have z : h'.objs.size ∈ frs X.stack := z
      rcases List.mem_cons.mp (I.stkSub _ z) with z | z
      · have hl := I.lt
        rw [← z] at hl
        have hl : h'.objs.size < s.heap.objs.size := hl
        omega
      · exact absurd z (I.nofs (by omega))
end

/-! ### the walk -/
/-- the turns of all (go: true) or any (go: false) of a generator expression -/
def GTurn (J : It) (g : TG) (tt : TT) (te : TE) (vs : List Nat) (σ : L2.St) (go : Bool) (QD QS : Hp → Prop) (W : Nat → Nat → Hp → Prop) : Prop := ∀ i m H, W i m H →
  (J.stop i H ∧ QD H) ∨ (J.go i H ∧ ∃ Nx : Hp → Prop, (∀ H', Nx H' → ∃ m', m' < m ∧ W (i + 1) m' H') ∧ ∀ x H', J.yld i H x H' → g x (wipe σ vs) H' fun σ2 H2 => wipe σ2 vs = wipe σ vs ∧ tt σ2 H2 fun b H3 =>
    if b = true then te σ2 H3 fun y H4 => ∃ r : Bool, y = .bl r ∧ (if r = go then Nx H4 else QS H4) else Nx H3)
def GeY (X' : Cx) (gp : List (Addr × Obj)) (go : Bool) (QS : Hp → Prop) : Protocol := fun _ _ v s kap => ∃ (r : Bool) (σ' : L2.St) (H' : Hp), v = .bool r ∧ Inv X' gp σ' H' s ∧ (if r = go then ∀ G, AllBare G → kap (.send .none) { s with gens := G } else QS H')
def GeR (X' : Cx) (gp : List (Addr × Obj)) (QD : Hp → Prop) : Nat → Shared → Shared → Prop := fun _ _ s => ∃ (σ' : L2.St) (H' : Hp), Inv X' gp σ' H' s ∧ QD H'
abbrev geCode (elt tg iter : Expr) (ifs : List Expr) (scope : Scope) (pos : Pos) (it : Addr) (cenv : Env) : Code := .compLoop (.GeneratorExp elt [⟨tg, iter, ifs, 0⟩] scope pos) 0 (.ref it) .none cenv
theorem Inv.gensB {X' : Cx} {gp : List (Addr × Obj)} {σ' : L2.St} {H' : Hp} {s : Shared} {G : Array GenState} (I : Inv X' gp σ' H' s) (hG : AllBare G) : Inv X' gp σ' H' { s with gens := G } :=
  I.call' (s' := { s with gens := G }) (ch := []) rfl Un.refl I.hok hG fun b hb => absurd hb (by simp)
section
variable {X : Cx} {s4 : Shared} {H4 : Hp} {elt tg iter : Expr} {ifs : List Expr} {scope : Scope} {pos : Pos} {it : Addr} {cenv : Env} {A1 : Around} {fp : List Addr} {tn : Nat → Heap → Prop} {J : It} {g : TG} {tt : TT} {te : TE} {vs : List Nat} {σ : L2.St} {go : Bool} {QD QS : Hp → Prop} {W : Nat → Nat → Hp → Prop} {gp : List (Addr × Obj)}
abbrev GX (X : Cx) (s4 : Shared) (H4 : Hp) (A1 : Around) (elt tg iter : Expr) (ifs : List Expr) (scope : Scope) (pos : Pos) (it : Addr) (cenv : Env) (fp : List Addr) : Cx := genCx X s4 H4 (A1.over (geCode elt tg iter ifs scope pos it cenv) []) cenv fp
theorem ge_loop (hc : X.calm = true) (hco : cenv.scope.isCoroutine = false) (T : Turn X.prog X.w X.K tg J fp it tn) (hgp : ∀ b ∈ fp, ∀ p ∈ gp, p.1 ≠ b)
    (pg : PG (GX X s4 H4 A1 elt tg iter ifs scope pos it cenv fp) tg g) (pt : PTs (GX X s4 H4 A1 elt tg iter ifs scope pos it cenv fp) ifs tt) (pe : PE (GX X s4 H4 A1 elt tg iter ifs scope pos it cenv fp) elt te) (turn : GTurn J g tt te vs σ go QD QS W) :
    ∀ (m n i : Nat) (s₀ s : Shared) (H : Hp), m < n → W i m H → Inv (GX X s4 H4 A1 elt tg iter ifs scope pos it cenv fp) gp (wipe σ vs) H s → tn i s.heap → (∀ b ∈ fp, H b = none) →
      Seg (model X.prog X.w) A1 (fun n s₀ r s₁ => r = .ok .next ∧ GeR (GX X s4 H4 A1 elt tg iter ifs scope pos it cenv fp) gp QD n s₀ s₁) (GeY (GX X s4 H4 A1 elt tg iter ifs scope pos it cenv fp) gp go QS) n s₀
        (geCode elt tg iter ifs scope pos it cenv) ((model X.prog X.w).den (geCode elt tg iter ifs scope pos it cenv)) [] s := by
  have stat : ∀ {σ' : L2.St} {H' : Hp} {s' : Shared}, Inv (GX X s4 H4 A1 elt tg iter ifs scope pos it cenv fp) gp σ' H' s' → (∀ b ∈ fp, H' b = none) → ∀ b ∈ fp, FpOk (GX X s4 H4 A1 elt tg iter ifs scope pos it cenv fp) gp H' b := fun {σ' H' s'} I' hn b hb =>
    ⟨hn b hb, (I'.ok.exf b hb).1, I'.ok.exfs b hb, .inl hb, fun x c e => (I'.ok.exf b hb).2 x c e, fun p hp => hgp b hb p hp⟩
  intro m
  induction m using Nat.strongRecOn with
  | ind m ih =>
    intro n i s₀ s5 H5 hmn w5 I5 st5 n5
    show Seg _ A1 _ _ _ s₀ _ ((compTurn (.GeneratorExp elt [⟨tg, iter, ifs, 0⟩] scope pos) 0 (.ref it) .none cenv).onRaise (leaving cenv)) [] s5
    rw [compTurn_gen, Sem.onRaise_eq_wrap]
    refine seg_bind_wrap (wpAny_standAt ?_)
    rcases turn i m H5 w5 with ⟨stop, qq⟩ | ⟨go5, Nx, hNx, step⟩
    · have td := T.done (GX X s4 H4 A1 elt tg iter ifs scope pos it cenv fp) rfl rfl rfl hc i gp s5 _ H5 (fun _ _ => False) I5 (stat I5 n5) st5 stop
      refine seg_bind_wrap (thnF td fun r s6 ⟨hr, I6⟩ => ?_)
      subst hr
      exact seg_end (.ok .next) ⟨rfl, _, H5, I6, qq⟩
    · have ti := T.item (GX X s4 H4 A1 elt tg iter ifs scope pos it cenv fp) rfl rfl rfl hc i gp s5 _ H5 (fun _ _ => False) I5 (stat I5 n5) st5 go5
      refine seg_bind_wrap (thnF ti fun r s6 ⟨u, hr, h6⟩ => ?_)
      subst hr
      refine seg_bind_wrap (thnF h6 fun _ s7 ⟨x, H7, I7, r7, y7, st7, n7⟩ => ?_)
      have I7' := I7.pinned (stat I7 n7) (T.obj _ _ st7)
      refine seg_bind_wrap (thnF (pg.run _ s7 _ H7 x u _ I7' r7 (step x H7 y7)) fun _ s8 ⟨σ8, H8, I8, hw8, q8⟩ => ?_)
      refine seg_bind_wrap (thnF (pt.run _ s8 σ8 H8 _ I8 q8) fun b s9 ⟨H9, I9, q9⟩ => ?_)
      have hl : (wipe σ vs).length = σ8.length := by rw [← hw8, wipe_length]
      -- the turn's end, in a heap with these pins
      have fin : ∀ {s' : Shared} {H' : Hp} {n' : Nat} {s₀' : Shared}, Inv (GX X s4 H4 A1 elt tg iter ifs scope pos it cenv fp) (gp ++ pinsAt fp s7.heap) σ8 H' s' → Nx H' → (∀ m', m' < m → m' < n') →
          Seg (model X.prog X.w) A1 (fun n s₀ r s₁ => r = .ok .next ∧ GeR (GX X s4 H4 A1 elt tg iter ifs scope pos it cenv fp) gp QD n s₀ s₁) (GeY (GX X s4 H4 A1 elt tg iter ifs scope pos it cenv fp) gp go QS) n' s₀'
            (geCode elt tg iter ifs scope pos it cenv) ((model X.prog X.w).den (geCode elt tg iter ifs scope pos it cenv)) [] s' := fun {s' H' n' s₀'} I' nx hn' => by
        obtain ⟨m', hm, w'⟩ := hNx H' nx
        have pin' : ∀ b ∈ fp, ∀ o, s7.heap.get? b = some o → s'.heap.get? b = some o ∧ H' b = none := fun b hb o e =>
          let z := I'.pin (b, o) (List.mem_append_right _ (List.mem_append_right _ (mem_pinsAt hb e)))
          ⟨z.1, z.2.1⟩
        refine ih m' hm n' (i + 1) s₀' s' H' (hn' m' hm) w' ((I'.unpinned (pins := gp)).weak hl (fun j v e => ?_)) (T.keep _ _ _ st7 fun b hb o e => (pin' b hb o e).1) fun b hb => ?_
        · rw [← hw8] at e
          exact (wipe_some e).1
        · obtain ⟨o, e, _⟩ := T.obj _ _ st7 b hb
          exact (pin' b hb o e).2
      cases b with
      | false =>
        simp only [Bool.false_eq_true, if_false] at q9 ⊢
        exact seg_again rfl (fin I9 q9 fun m' hm => by omega)
      | true =>
        simp only [if_true] at q9 ⊢
        have hy : ∀ v, yieldOut cenv v = yieldValue v := fun v => by simp only [yieldOut, hco, Bool.false_eq_true, if_false]
        simp only [hy]
        obtain ⟨n, rfl⟩ : ∃ n', n = n' + 1 := ⟨n - 1, by omega⟩
        rw [Sem.bind_eq_wrap', Sem.bind_eq_wrap', Sem.wrap_wrap, Sem.wrap_wrap]
        refine seg_wrap (thnF (pe.run _ s9 σ8 H9 _ I9 q9) fun y s10 ⟨yv, H10, I10, r10, r, hr, q10⟩ => ?_)
        subst hr
        obtain rfl : y = .bool r := r10
        refine seg_at (seg_yield rfl rfl rfl ⟨r, σ8, H10, rfl, I10.unpinned (pins := gp), ?_⟩)
        by_cases hrg : r = go
        · rw [if_pos hrg] at q10 ⊢
          intro G hG
          exact seg_again rfl (fin (Inv.gensB I10 hG) q10 fun m' hm => by omega)
        · rw [if_neg hrg] at q10 ⊢
          exact q10
/-- a generator that has not begun -/
theorem ge_begin (hc : X.calm = true) (hco : cenv.scope.isCoroutine = false) (hh : A1.handled = none) (T : Turn X.prog X.w X.K tg J fp it tn) (hgp : ∀ b ∈ fp, ∀ p ∈ gp, p.1 ≠ b)
    (pg : PG (GX X s4 H4 A1 elt tg iter ifs scope pos it cenv fp) tg g) (pt : PTs (GX X s4 H4 A1 elt tg iter ifs scope pos it cenv fp) ifs tt) (pe : PE (GX X s4 H4 A1 elt tg iter ifs scope pos it cenv fp) elt te) (turn : GTurn J g tt te vs σ go QD QS W)
    {m n : Nat} {s₀ s : Shared} {H : Hp} (hmn : m < n) (w0 : W 0 m H) (I : Inv (GX X s4 H4 A1 elt tg iter ifs scope pos it cenv fp) gp (wipe σ vs) H s) (st : tn 0 s.heap) (hn : ∀ b ∈ fp, H b = none) :
      Seg (model X.prog X.w) A1 (fun n s₀ r s₁ => r = .ok .next ∧ GeR (GX X s4 H4 A1 elt tg iter ifs scope pos it cenv fp) gp QD n s₀ s₁) (GeY (GX X s4 H4 A1 elt tg iter ifs scope pos it cenv fp) gp go QS) n s₀
        (.compStart (.GeneratorExp elt [⟨tg, iter, ifs, 0⟩] scope pos) 0 (.ref it) .none cenv) ((model X.prog X.w).den (.compStart (.GeneratorExp elt [⟨tg, iter, ifs, 0⟩] scope pos) 0 (.ref it) .none cenv)) [] s := by
  have loop := ge_loop (s4 := s4) (H4 := H4) (iter := iter) (scope := scope) (pos := pos) (cenv := cenv) (A1 := A1) hc hco T hgp pg pt pe turn m n 0 s₀ s H hmn w0 I st hn
  show Seg _ A1 _ _ _ s₀ _ ((compStart (.GeneratorExp elt [⟨tg, iter, ifs, 0⟩] scope pos) 0 (.ref it) .none cenv).onRaise (leaving cenv)) [] s
  unfold compStart
  rw [Sem.onRaise_eq_wrap]
  show Seg _ A1 _ _ _ s₀ _ ((ask >>= _).wrap _ _ _ _) [] s
  refine seg_bind_wrap (wpAny_askSetting ?_)
  split
  · exact seg_again rfl loop
  · first
      | exact seg_bind_wrap (wpAny_rule (seg_bind_wrap (wpAny_standAt (seg_bind_wrap (T.self _ 0 _ _ _ st (seg_again rfl loop))))))
      | (refine seg_bind_wrap (wpAny_rule ?_); show Seg _ A1 _ _ _ s₀ _ ((standAt iter.pos >>= _).wrap _ _ _ _) [] s; exact seg_bind_wrap (wpAny_standAt (seg_bind_wrap (T.self _ 0 _ _ _ st (seg_again rfl loop)))))
end

/-! ### all, any over it -/
section
variable {prog : Program} {w : PySem.World} {A : Around} {X' : Cx} {gp : List (Addr × Obj)} {go : Bool} {QD QS : Hp → Prop} {a : Addr} {gi : Nat} {R : Result → Shared → Prop}
/-- a generator that waits: woken in the state s it goes on, n hand-outs at most -/
structure Waits (X' : Cx) (gp : List (Addr × Obj)) (go : Bool) (QD QS : Hp → Prop) (A1 : Around) (a : Addr) (gi n : Nat) (s : Shared) : Prop where
  isg : s.heap.IsGen a gi
  lim : s.heap.NoLimit
  bare : AllBare s.gens
  at_ : ∃ gs, s.gens[gi]? = some gs ∧ ∀ G, AllBare G → gs.Goes (model X'.prog X'.w) A1 (fun n s₀ r s₁ => r = .ok .next ∧ GeR X' gp QD n s₀ s₁) (GeY X' gp go QS) n (.send .none) { s with gens := G }
theorem bare_set {G : Array GenState} {i : Nat} {x : GenState} (hG : AllBare G) (hx : x.bare = true) : AllBare (G.setIfInBounds i x) := fun y hy => by
  rcases Array.mem_or_eq_of_mem_setIfInBounds hy with h | h
  · exact hG y h
  · rw [h]; exact hx
theorem ge_next {E : Value → Shared → Prop} {n : Nat} {s : Shared} {Q : Option Value → Shared → Prop} (hh : A.handled = none) (hroom : A.depth < recursionLimit) (hgp : ∃ nm qn sl, gp = [(a, { cls := .type "generator", data := .fields #[.int gi 0, nm, qn], slots := sl })] ∧ sl = #[])
    (w : Waits X' gp go QD QS A.in1 a gi n s)
    (hY : ∀ (r : Bool) (s' : Shared) (σ' : L2.St) (H' : Hp), Inv X' gp σ' H' s' → (if r = go then ∃ m, n = m + 1 ∧ Waits X' gp go QD QS A.in1 a gi m s' else QS H') → Q (some (.bool r)) s')
    (hD : ∀ (s' : Shared) (σ' : L2.St) (H' : Hp), Inv X' gp σ' H' s' → QD H' → Q none s') : wpAny (model X'.prog X'.w) A (pyNext (.ref a)) Q E s := by
  obtain ⟨isg, lim, bare, gs, hgs, hgo⟩ := w
  have hlt : gi < s.gens.size := by
    rcases Nat.lt_or_ge gi s.gens.size with h | h
    · exact h
    · rw [Array.getElem?_eq_none h] at hgs; cases hgs
  refine GenW.wpAny_gsz (n := gi + 1) hlt ?_
  refine wpAny_pyNext_genexpQ (P := GeR X' gp QD) hh lim hroom isg hgs (hgo _ (bare_set bare rfl)) (fun v s1 gs' hb hv hsz => ?_) (fun s1 hp h' hk hsz => ?_)
  · obtain ⟨r, σ', H', rfl, I, q⟩ := hv
    have I2 : Inv X' gp σ' H' (s1.setGen gi gs') := Inv.gensB I (bare_set I.bare hb)
    refine hY r _ σ' H' I2 ?_
    by_cases hr : r = go
    · rw [if_pos hr] at q ⊢
      cases n with
      | zero => exact (q #[] AllBare.empty).elim
      | succ m =>
        refine ⟨m, rfl, ?_, I2.nolimit, I2.bare, gs', ?_, fun G hG => q G hG⟩
        · obtain ⟨nm, qn, sl, rfl, rfl⟩ := hgp
          have := (I2.pin _ (List.mem_append_right _ (List.mem_singleton.mpr rfl))).1
          exact ⟨_, nm, qn, this, rfl, rfl, rfl⟩
        · have h2 : gi < s1.gens.size := by
            have e : (s1.setGen gi gs').gens.size = s1.gens.size := by simp [Shared.setGen]
            omega
          simp [Shared.setGen, h2]
    · rw [if_neg hr] at q ⊢
      exact q
  · obtain ⟨σ', H', I, q⟩ := hp
    have I2 : Inv X' gp σ' H' (s1.setGen gi .finished) := Inv.gensB I (bare_set I.bare rfl)
    exact hD _ σ' H' (I2.kept (t' := (s1.setGen gi .finished).toks) hk) q
/-- the loop of all -/
theorem ge_all (hh : A.handled = none) (hroom : A.in1.depth < recursionLimit) (hgp : ∃ nm qn sl, gp = [(a, { cls := .type "generator", data := .fields #[.int gi 0, nm, qn], slots := sl })] ∧ sl = #[])
    (hS : ∀ s' σ' H', Inv X' gp σ' H' s' → QS H' → R (.ok (.ret (.bool false))) s') (hD : ∀ s' σ' H', Inv X' gp σ' H' s' → QD H' → R (.ok (.ret (.bool true))) s') :
    ∀ (n : Nat) (s : Shared), Waits X' gp true QD QS A.in1.in1 a gi n s → codeAny (model X'.prog X'.w) A (.builtin "all.loop" ⟨[.ref a], []⟩) R s := by
  intro n
  induction n using Nat.strongRecOn with
  | ind n ih =>
    intro s w
    refine codeAny_builtin F.entry_all_loop ?_
    rw [Around.under_plainId F.plain_all_loop _]
    show wpAny _ A.in1 (pyNext (.ref a) >>= _) _ _ s
    refine wpAny_bind (ge_next (A := A.in1) hh hroom hgp w (fun r s' σ' H' I q => ?_) fun s' σ' H' I q => ?_)
    · refine wpAny_bind (wpAny_holding (wpAny_truthy_bool ?_))
      refine wpAny_bind (wpAny_letGo ?_)
      cases r with
      | true =>
        rw [if_pos rfl] at q
        obtain ⟨m, rfl, w'⟩ := q
        simp only [if_true]
        exact wpAny_pure ⟨plainId_quiet F.plain_all_loop _, ih m (by omega) _ w'⟩
      | false =>
        rw [if_neg Bool.false_ne_true] at q
        simp only [Bool.false_eq_true, if_false]
        exact wpAny_bind (wpAny_rule (wpAny_pure (hS s' σ' H' I q)))
    · refine wpAny_bind (wpAny_rule (wpAny_pure ?_))
      exact hD s' σ' H' I q
theorem ge_any (hh : A.handled = none) (hroom : A.in1.depth < recursionLimit) (hgp : ∃ nm qn sl, gp = [(a, { cls := .type "generator", data := .fields #[.int gi 0, nm, qn], slots := sl })] ∧ sl = #[])
    (hS : ∀ s' σ' H', Inv X' gp σ' H' s' → QS H' → R (.ok (.ret (.bool true))) s') (hD : ∀ s' σ' H', Inv X' gp σ' H' s' → QD H' → R (.ok (.ret (.bool false))) s') :
    ∀ (n : Nat) (s : Shared), Waits X' gp false QD QS A.in1.in1 a gi n s → codeAny (model X'.prog X'.w) A (.builtin "any.loop" ⟨[.ref a], []⟩) R s := by
  intro n
  induction n using Nat.strongRecOn with
  | ind n ih =>
    intro s w
    refine codeAny_builtin F.entry_any_loop ?_
    rw [Around.under_plainId F.plain_any_loop _]
    show wpAny _ A.in1 (pyNext (.ref a) >>= _) _ _ s
    refine wpAny_bind (ge_next (A := A.in1) hh hroom hgp w (fun r s' σ' H' I q => ?_) fun s' σ' H' I q => ?_)
    · refine wpAny_bind (wpAny_holding (wpAny_truthy_bool ?_))
      refine wpAny_bind (wpAny_letGo ?_)
      cases r with
      | false =>
        rw [if_pos rfl] at q
        obtain ⟨m, rfl, w'⟩ := q
        simp only [Bool.false_eq_true, if_false]
        exact wpAny_pure ⟨plainId_quiet F.plain_any_loop _, ih m (by omega) _ w'⟩
      | true =>
        rw [if_neg (by decide)] at q
        simp only [if_true]
        exact wpAny_bind (wpAny_rule (wpAny_pure (hS s' σ' H' I q)))
    · refine wpAny_bind (wpAny_rule (wpAny_pure ?_))
      exact hD s' σ' H' I q
end

/-! ### the expression -/
section
variable {X : Cx} {pins : List (Addr × Obj)} {σ : L2.St} {H : Hp} {s : Shared} {elt tg iter : Expr} {ifs : List Expr} {scope : Scope} {own : List (Str × Nat)} {wi : TI} {g : TG} {tt : TT} {te : TE} {c P : Addr} {k : Nat} {gpos p pos : Pos}
/-- what the walk of all, any comes to -/
def tGen (P : Addr) (wi : TI) (g : TG) (tt : TT) (te : TE) (vs : List Nat) (go : Bool) : TE := fun σ H Q => wi σ H fun J H1 => TabG H1 P ∧ ∀ H2, Tabbed P H1 H2 → ∃ W : Nat → Nat → Hp → Prop, (∃ m, W 0 m H2) ∧ GTurn J g tt te vs σ go (fun H' => Q (.bl go) H') (fun H' => Q (.bl (!go)) H') W
theorem gen_run {go : Bool} {Q : VK} {Q' : Value → Shared → Prop} (hc : X.calm = true) (hN : X.N.Nodup) (hr : Room (k + 1) X.A) (TB : TabB X.base X.mg c P) (hcode : X.env.code = .ref c) (I : Inv X pins σ H s) (hi : PI X tg iter wi) (ok : BlkOk X.N X.env.scope scope own)
    (hcell : ∀ y ∈ scope.names, y.2 ≠ .cell) (h0 : scope.names.lookup (".0" : Str) = some NameKind.local) (hco : scope.isCoroutine = false) (hs : ∀ v, genFold iter X.env v = pure v)
    (hg : ∀ (s : Shared) (H : Hp) (C : Addr) (code : Value) (B : Around) (fp : List Addr), B.handled = none → Room k B → PG (genCx X s H B (genEnv scope (cloFrom X.env.cells scope.names []) C code builtinsNs X.env) fp) tg g)
    (ht : ∀ (s : Shared) (H : Hp) (C : Addr) (code : Value) (B : Around) (fp : List Addr), B.handled = none → Room k B → PTs (genCx X s H B (genEnv scope (cloFrom X.env.cells scope.names []) C code builtinsNs X.env) fp) ifs tt)
    (he : ∀ (s : Shared) (H : Hp) (C : Addr) (code : Value) (B : Around) (fp : List Addr), B.handled = none → Room k B → PE (genCx X s H B (genEnv scope (cloFrom X.env.cells scope.names []) C code builtinsNs X.env) fp) elt te)
    (h : tGen P wi g tt te (own.map (·.2)) go σ H Q)
    (hQ : ∀ (a : Addr) (s5 : Shared) (X' : Cx) (gp : List (Addr × Obj)) (n gi : Nat) (nm qn : Value), X'.prog = X.prog → X'.w = X.w → gp = [(a, { cls := .type "generator", data := .fields #[.int gi 0, nm, qn] })] → Waits X' gp go (fun H' => Q (.bl go) H') (fun H' => Q (.bl (!go)) H') X.A.in1.in1 a gi n s5 →
      (∀ σ' H' s', Inv X' gp σ' H' s' → Inv X pins σ H' s') → Q' (.ref a) s5) :
    wpAny (model X.prog X.w) X.A (eval (.GeneratorExp elt [⟨tg, iter, ifs, 0⟩] scope gpos) X.env) Q' X.xe s := by
  have hfree : ∀ y ∈ scope.names, y.2 = .free → ∃ c, X.env.cells.lookup y.1 = some c := fun y hy e => by
    rcases ok.free y hy e with k | k
    · exact I.ok.has _ (.inl k)
    · exact I.ok.has _ (.inr k)
  refine wpAny_GeneratorExp_make hco (closure_ok hfree) hcell h0 ok.kind hr.depth (thn (hi.run pins s σ H _ I h) fun xv s1 hx => thn hx fun itv s2 h2 => ?_) hs
  obtain ⟨it, fp, tn, J, H2, e, I2, T, st2, f2, ⟨⟨ps, hP, ht3⟩, q⟩⟩ := h2
  subst e
  have hPs : s2.heap.get? P = some { cls := .none, data := .fields ps } := I2.hok P _ hP
  have cd : PySem.W.CodeHd s2.heap c P := TB.code.keeps fun b u e => I2.bk b u e
  refine ⟨I2.nolimit, ?_⟩
  have cont : ∀ (code : Value) (h3 : Heap) (tk : Nat) (ps' : Array Value), Heap.ExtBut P s2.heap h3 → s2.heap.objs.size ≤ h3.objs.size → h3.get? P = some { cls := .none, data := .fields ps' } → (∃ more, ps' = ps ++ more) → TriplesOk ps'.toList →
      wpAny (model X.prog X.w) X.A (builtinsFor X.env.globals X.env.builtins) (fun bi s₄ =>
        ∀ h', h'.Ns s₄.heap.objs.size (fun y => if y = ".0" then some (.ref it) else none) → Heap.SameBut s₄.heap.objs.size (s₄.heap.push { cls := .type "frame", data := .dict #[] }) h' →
          Q' (.ref h'.objs.size) { s₄ with
            gens := s₄.gens.push (.fresh (.compStart (.GeneratorExp elt [⟨tg, iter, ifs, 0⟩] scope gpos) 0 (.ref it) .none (genEnv scope (cloFrom X.env.cells scope.names []) s₄.heap.objs.size code bi X.env))),
            toks := s₄.toks + 1 + 1 + 1,
            heap := h'.push { cls := .type "generator", data := .fields #[.int s₄.gens.size 0, .str "<genexpr>" (s₄.toks + 1), .str (X.env.qual ++ "<genexpr>") (s₄.toks + 1 + 1)] } }) X.xe { s2 with heap := h3, toks := tk } := by
    intro code h3 tk ps' hx hsz hP3 hmore ht3'
    obtain ⟨bm, ob, e1, e2, e3, e4, e5, e6, e7, e8⟩ := TB.bm
    have keep3 : ∀ b u, b ≠ P → s2.heap.get? b = some u → h3.get? b = some u := fun b u hb e => hx b u hb e
    refine wpAny_builtinsFor (m := X.mg) (by rw [I2.ok.glob]; exact (I2.mod.glob.keeps I2.bk).extBut hx TB.gP) e1 e2 (keep3 _ _ e4 (I2.bk _ _ e5)) e6 e7 e8 ?_
    obtain ⟨more, em⟩ := hmore
    have I4 : Inv X pins σ (upd H2 P (.tbl (ps ++ more))) { s2 with heap := h3, toks := tk } :=
      inv_tab (more := more) (h' := h3) (g' := s2.gens) (d' := s2.drawn) (t' := tk) I2 hP (fun b o hb e => keep3 b o hb e) (by rw [← em]; exact hP3) I2.bare
    have f4 : ∀ b ∈ fp, FpOk X pins (upd H2 P (.tbl (ps ++ more))) b ∧ b < h3.objs.size := fun b hb => by
      obtain ⟨o, e, _⟩ := T.obj _ _ st2 b hb
      have hbP : b ≠ P := fun z => by
        have := (f2 b hb).1
        rw [z, hP] at this; cases this
      refine ⟨⟨by rw [upd_ne hbP]; exact (f2 b hb).1, (f2 b hb).2⟩, Nat.lt_of_lt_of_le (Heap.lt_size e) hsz⟩
    have st4 : tn 0 h3 := T.keep _ _ _ st2 fun b hb o e => keep3 b o (fun z => by
      have := (f2 b hb).1
      rw [z, hP] at this; cases this) e
    obtain ⟨W, ⟨m0, w0⟩, turn⟩ := q (upd H2 P (.tbl (ps ++ more))) ⟨⟨ps ++ more, upd_same, by rw [← em]; exact ht3'⟩, fun b hb => upd_ne hb⟩
    generalize hH4 : upd H2 P (.tbl (ps ++ more)) = H4 at I4 f4 w0
    intro h' hn' hs'
    have hsz5 : h'.objs.size = h3.objs.size + 1 := by rw [hs'.1, Heap.size_push]
    have hns5 : h'.Ns h3.objs.size (fun y => if y = ".0" then some (.ref it) else none) := hn'
    have hsb5 : Heap.SameBut h3.objs.size (h3.push { cls := .type "frame", data := .dict #[] }) h' := hs'
    generalize hce : genEnv scope (cloFrom X.env.cells scope.names []) h3.objs.size code builtinsNs X.env = ce
    have hcsc : ce.scope = scope := by rw [← hce]; rfl
    have hB1 : (X.A.in1.in1.over (geCode elt tg iter ifs scope gpos it ce) []).handled = none := hr.hd
    have hB2 : Room k (X.A.in1.in1.over (geCode elt tg iter ifs scope gpos it ce) []) := by
      refine ⟨hB1, ?_, ?_⟩
      · have := hr.dp
        show X.A.depth + 0 + 1 + 3 * k + 5 < recursionLimit
        omega
      · have := hr.un
        show X.A.units + 1 + 1 + 0 + 3 + 16 * k + 200 < cLine
        omega
    have hB3 : (X.A.in1.in1.over (geCode elt tg iter ifs scope gpos it ce) []).frames = some (ce :: X.stack) := by
      show pushEnvs [ce] (pushEnvs [] X.A.frames) = _
      rw [I.ok.frames]
      rfl
    have pg := hg { s2 with heap := h3, toks := tk } H4 h3.objs.size code (X.A.in1.in1.over (geCode elt tg iter ifs scope gpos it ce) []) fp hB1 hB2
    have pt := ht { s2 with heap := h3, toks := tk } H4 h3.objs.size code (X.A.in1.in1.over (geCode elt tg iter ifs scope gpos it ce) []) fp hB1 hB2
    have pe := he { s2 with heap := h3, toks := tk } H4 h3.objs.size code (X.A.in1.in1.over (geCode elt tg iter ifs scope gpos it ce) []) fp hB1 hB2
    have I5 := fun (G : Array GenState) (hG : AllBare G) => gen_start (B := X.A.in1.in1.over (geCode elt tg iter ifs scope gpos it ce) []) (code := code) (itv := .ref it) (h' := h') (G := G) (tk := tk + 1 + 1 + 1)
      (gobj := { cls := .type "generator", data := .fields #[.int s2.gens.size 0, .str "<genexpr>" (tk + 1), .str (X.env.qual ++ "<genexpr>") (tk + 1 + 1)] }) I4 ok hN hcell f4 (fun _ => hB1) (by rw [hce]; exact hB3) hns5 hsb5 hG (fun v z => by cases z) rfl hsz5.symm
    rw [hce] at pg pt pe
    simp only [hce] at I5
    have st5 : tn 0 (h'.push { cls := .type "generator", data := .fields #[.int s2.gens.size 0, .str "<genexpr>" (tk + 1), .str (X.env.qual ++ "<genexpr>") (tk + 1 + 1)] }) := T.keep _ _ _ st4 fun b hb o e => by
      refine Heap.get?_push_of_some _ ?_
      rw [hsb5.2 b (Nat.ne_of_lt (f4 b hb).2)]
      exact Heap.get?_push_of_some _ e
    have bareG : AllBare (s2.gens.push (.fresh (.compStart (.GeneratorExp elt [⟨tg, iter, ifs, 0⟩] scope gpos) 0 (.ref it) .none ce))) := I2.bare.push rfl
    refine hQ h'.objs.size _ (GX X { s2 with heap := h3, toks := tk } H4 X.A.in1.in1 elt tg iter ifs scope gpos it ce fp) [(h'.objs.size, { cls := .type "generator", data := .fields #[.int s2.gens.size 0, .str "<genexpr>" (tk + 1), .str (X.env.qual ++ "<genexpr>") (tk + 1 + 1)] })] (m0 + 1) s2.gens.size
      (.str "<genexpr>" (tk + 1)) (.str (X.env.qual ++ "<genexpr>") (tk + 1 + 1)) rfl rfl rfl ?_ fun σ' H' s' I6 => I4.call' (ch := fp) I6.os I6.base I6.hok I6.bare fun b hb => ⟨(f4 b hb).1.2.2.2.1, (f4 b hb).1.2.1, (f4 b hb).1.2.2.2.2.1, (f4 b hb).1.2.2.2.2.2⟩
    refine ⟨⟨_, _, _, Heap.get?_push_size _ rfl, rfl, rfl, rfl⟩, (I5 _ bareG).nolimit, bareG, ?_⟩
    refine ⟨_, Array.getElem?_push_size .., fun G hG => ⟨rfl, ?_⟩⟩
    exact ge_begin (s4 := { s2 with heap := h3, toks := tk }) (H4 := H4) (iter := iter) (scope := scope) (pos := gpos) (cenv := ce) (A1 := X.A.in1.in1) hc (by rw [hcsc]; exact hco) hr.hd T (gp := [(h'.objs.size, { cls := .type "generator", data := .fields #[.int s2.gens.size 0, .str "<genexpr>" (tk + 1), .str (X.env.qual ++ "<genexpr>") (tk + 1 + 1)] })])
        (fun b hb p hp => by
          rw [List.mem_singleton] at hp
          subst hp
          have := (f4 b hb).2
          show h'.objs.size ≠ b
          exact Nat.ne_of_gt (by rw [hsz5]; exact Nat.lt_succ_of_lt this)) pg pt pe turn (n := m0 + 1) (Nat.lt_succ_self m0) w0 (I5 G hG) st5 (fun b hb => (f4 b hb).1.1)
  cases hf : codeAmong gpos ps.toList with
  | none =>
    refine wpAny_genexprCodeX hcode (cd.code hPs ht3) (cd.tab hPs) hf fun c' h' tk hx hge hlt hco' _ htab' _ => ?_
    obtain ⟨o1, vs, f1, tf, fl, tg', inF, tx, tt', op, _, _, _, _, _, _, _, _, _, htr, _⟩ := hco'
    exact cont _ h' tk _ hx (Nat.le_trans hge (Nat.le_of_lt hlt)) htab'.2 ⟨_, rfl⟩ htr
  | some cv =>
    refine wpAny_genexprCode_hit hcode (cd.code hPs ht3) hf ?_
    exact cont cv s2.heap s2.toks ps (Heap.ExtBut.refl _ _) (Nat.le_refl _) hPs ⟨#[], by simp⟩ ht3
theorem boot_all' : bootBuiltins "all" = some (.builtin "all") := by decide +kernel
theorem boot_any' : bootBuiltins "any" = some (.builtin "any") := by decide +kernel
theorem pe_allG (hgl : Gl X "all") (hm : X.mg "all" = none) (hc : X.calm = true) (hN : X.N.Nodup) (hr : Room (k + 1) X.A) (TB : TabB X.base X.mg c P) (hcode : X.env.code = .ref c) (hi : PI X tg iter wi) (ok : BlkOk X.N X.env.scope scope own)
    (hcell : ∀ y ∈ scope.names, y.2 ≠ .cell) (h0 : scope.names.lookup (".0" : Str) = some NameKind.local) (hco : scope.isCoroutine = false) (hs : ∀ v, genFold iter X.env v = pure v)
    (hg : ∀ (s : Shared) (H : Hp) (C : Addr) (code : Value) (B : Around) (fp : List Addr), B.handled = none → Room k B → PG (genCx X s H B (genEnv scope (cloFrom X.env.cells scope.names []) C code builtinsNs X.env) fp) tg g)
    (ht : ∀ (s : Shared) (H : Hp) (C : Addr) (code : Value) (B : Around) (fp : List Addr), B.handled = none → Room k B → PTs (genCx X s H B (genEnv scope (cloFrom X.env.cells scope.names []) C code builtinsNs X.env) fp) ifs tt)
    (he : ∀ (s : Shared) (H : Hp) (C : Addr) (code : Value) (B : Around) (fp : List Addr), B.handled = none → Room k B → PE (genCx X s H B (genEnv scope (cloFrom X.env.cells scope.names []) C code builtinsNs X.env) fp) elt te)
    (hst : starEach [.GeneratorExp elt [⟨tg, iter, ifs, 0⟩] scope gpos] X.env = (false, eval (.GeneratorExp elt [⟨tg, iter, ifs, 0⟩] scope gpos) X.env) :: starEach [] X.env := by rfl) :
    PE X (.Call (.Name "all" p) [.GeneratorExp elt [⟨tg, iter, ifs, 0⟩] scope gpos] [] pos) (tGen P wi g tt te (own.map (·.2)) true) := by
  refine ⟨fun pins s σ H Q I h => ?_⟩
  refine wpAny_Call_Name_kw (ld_blt I hgl hm boot_all' ?_)
  refine PyProof.Rows.callWith_builtin1 ?_ hst (by rfl)
  rw [hst]
  show wpAny _ _ (spliced ((false, eval (.GeneratorExp elt [⟨tg, iter, ifs, 0⟩] scope gpos) X.env) :: backTo pos (starEach [] X.env))) _ _ s
  refine Calls.spliced_cons (gen_run hc hN hr TB hcode I hi ok hcell h0 hco hs hg ht he h fun a s5 X' gp n gi nm qn e1 e2 hgp W back => ?_)
  refine Calls.spliced_nil ?_
  refine call_function_tree F.kind_all F.plain_all F.entry_all (F.args_all1 _) ?_
  unfold Builtin.«all»
  refine wpAny_bind (m := oneArg "all" _) (wpAny_pure ?_)
  refine wpAny_bind (wpAny_pyIter_gen W.isg ?_)
  rw [← e1, ← e2]
  exact wpAny_pure ⟨plainId_quiet F.plain_all_loop _, ge_all hr.hd hr.depth ⟨nm, qn, #[], hgp, rfl⟩ (fun s' σ' H' I' q => ⟨.bl false, H', back σ' H' s' I', rfl, q⟩) (fun s' σ' H' I' q => ⟨.bl true, H', back σ' H' s' I', rfl, q⟩) n s5 W⟩
theorem pe_anyG (hgl : Gl X "any") (hm : X.mg "any" = none) (hc : X.calm = true) (hN : X.N.Nodup) (hr : Room (k + 1) X.A) (TB : TabB X.base X.mg c P) (hcode : X.env.code = .ref c) (hi : PI X tg iter wi) (ok : BlkOk X.N X.env.scope scope own)
    (hcell : ∀ y ∈ scope.names, y.2 ≠ .cell) (h0 : scope.names.lookup (".0" : Str) = some NameKind.local) (hco : scope.isCoroutine = false) (hs : ∀ v, genFold iter X.env v = pure v)
    (hg : ∀ (s : Shared) (H : Hp) (C : Addr) (code : Value) (B : Around) (fp : List Addr), B.handled = none → Room k B → PG (genCx X s H B (genEnv scope (cloFrom X.env.cells scope.names []) C code builtinsNs X.env) fp) tg g)
    (ht : ∀ (s : Shared) (H : Hp) (C : Addr) (code : Value) (B : Around) (fp : List Addr), B.handled = none → Room k B → PTs (genCx X s H B (genEnv scope (cloFrom X.env.cells scope.names []) C code builtinsNs X.env) fp) ifs tt)
    (he : ∀ (s : Shared) (H : Hp) (C : Addr) (code : Value) (B : Around) (fp : List Addr), B.handled = none → Room k B → PE (genCx X s H B (genEnv scope (cloFrom X.env.cells scope.names []) C code builtinsNs X.env) fp) elt te)
    (hst : starEach [.GeneratorExp elt [⟨tg, iter, ifs, 0⟩] scope gpos] X.env = (false, eval (.GeneratorExp elt [⟨tg, iter, ifs, 0⟩] scope gpos) X.env) :: starEach [] X.env := by rfl) :
    PE X (.Call (.Name "any" p) [.GeneratorExp elt [⟨tg, iter, ifs, 0⟩] scope gpos] [] pos) (tGen P wi g tt te (own.map (·.2)) false) := by
  refine ⟨fun pins s σ H Q I h => ?_⟩
  refine wpAny_Call_Name_kw (ld_blt I hgl hm boot_any' ?_)
  refine PyProof.Rows.callWith_builtin1 ?_ hst (by rfl)
  rw [hst]
  show wpAny _ _ (spliced ((false, eval (.GeneratorExp elt [⟨tg, iter, ifs, 0⟩] scope gpos) X.env) :: backTo pos (starEach [] X.env))) _ _ s
  refine Calls.spliced_cons (gen_run hc hN hr TB hcode I hi ok hcell h0 hco hs hg ht he h fun a s5 X' gp n gi nm qn e1 e2 hgp W back => ?_)
  refine Calls.spliced_nil ?_
  refine call_function_tree F.kind_any F.plain_any F.entry_any (F.args_any1 _) ?_
  unfold Builtin.«any»
  refine wpAny_bind (m := oneArg "any" _) (wpAny_pure ?_)
  refine wpAny_bind (wpAny_pyIter_gen W.isg ?_)
  rw [← e1, ← e2]
  exact wpAny_pure ⟨plainId_quiet F.plain_any_loop _, ge_any hr.hd hr.depth ⟨nm, qn, #[], hgp, rfl⟩ (fun s' σ' H' I' q => ⟨.bl true, H', back σ' H' s' I', rfl, q⟩) (fun s' σ' H' I' q => ⟨.bl false, H', back σ' H' s' I', rfl, q⟩) n s5 W⟩
end
end Pu

set_option Elab.async false
set_option linter.all false
set_option autoImplicit false
set_option maxRecDepth 100000
set_option maxHeartbeats 4000000
namespace Pu
open PySem PySem.Spec PyProof.Rows L2 GxR

/-! ### all, any of a generator expression: the meaning -/
def genL (go : Bool) (h : PyData → Option (Option Bool)) : List PyData → Option Bool
  | [] => some go
  | d :: r => match h d with
    | none => none
    | some none => genL go h r
    | some (some b) => if b = go then genL go h r else some (!go)
def geStep (gt : PyData → Sls → Option Sls) (ft : Sls → Option Bool) (fe : Sls → Option PyData) (env : Sls) (d : PyData) : Option (Option Bool) :=
  match gt d env with
  | none => none
  | some env1 => match ft env1 with
    | none => none
    | some false => some none
    | some true => (match fe env1 with | some (.bool b) => some (some b) | _ => none)
def genV (go : Bool) (items : Option (List PyData)) (mi tl : List Nat) (gt : PyData → Sls → Option Sls) (ft : Sls → Option Bool) (fe : Sls → Option PyData) (env : Sls) : Option PyData :=
  match items with
  | none => none
  | some xs => match genL go (geStep gt ft fe (wipeE tl (freeze mi env))) xs with
    | some b => some (.bool b)
    | none => none
theorem grow_tab {H1 H2 : Hp} {P : Addr} (t : Tabbed P H1 H2) (h : TabG H1 P) : Grow H1 H2 := by
  obtain ⟨ps, e, _⟩ := h
  obtain ⟨⟨qs, e2, q2⟩, same⟩ := t
  refine ⟨fun b o nt eb => ?_, fun b tb => ?_, fun b eb => ?_⟩
  · have ne : b ≠ P := fun z => by rw [z, e] at eb; cases eb; exact nt ps rfl
    rw [same b ne]; exact eb
  · by_cases hb : b = P
    · rw [hb]; exact ⟨qs, e2, q2⟩
    · obtain ⟨rs, e3, q3⟩ := tb
      exact ⟨rs, by rw [same b hb]; exact e3, q3⟩
  · have ne : b ≠ P := fun z => by rw [z, e2] at eb; cases eb
    rw [← same b ne]; exact eb
section
variable {S : List (Str × Nat)} {nm : List (Str × NameKind)} {T : Tab} {TB : Addr → Prop} {k : Nat} {X : Cx}
theorem ge_read {wi : TI} {gT : TG} {tt : TT} {te : TE} {mi me tl : List Nat} {fi : Sls → Option (List PyData)} {gt : PyData → Sls → Option Sls} {ft : Sls → Option Bool} {fe : Sls → Option PyData} {go : Bool} {P : Addr}
    (qi : ISp X TB mi fi wi) (qg : GSp X TB gt tl gT) (qt : TSp X TB ft tt) (qe : ESp X TB me fe te) (hP : TB P)
    {A : Addr → Prop} {H0 H : Hp} {σ : L2.St} {env : Sls} {d : PyData} {Q : VK} (E : EnvRep X.K TB A H0 H σ env) (hf : genV go (fi env) mi tl gt ft fe env = some d)
    (q : ∀ x H', Grow H H' → Rep X.K H' (sel [] A env σ) d x → Q x H') : tGen P wi gT tt te tl go σ H Q := by
  unfold genV at hf
  split at hf
  · cases hf
  · rename_i items e0
    split at hf
    · rename_i bb hb
      cases hf
      refine qi A H0 H σ env items (OWx mi env σ) _ E e0 (fun b z => let ⟨ys, e, _⟩ := E.owl z; ⟨ys, e⟩) (fun a z => z.2) fun J H1 g1 IT => ?_
      have E1 := E.up g1
      refine ⟨E1.tabs P hP, fun H1' tb => ?_⟩
      have g1' := grow_tab tb (E1.tabs P hP)
      have E1' := E1.up g1'
      generalize henvb : wipeE tl (freeze mi env) = envb at hb
      generalize hσb : wipe σ tl = σb
      let A' : Addr → Prop := fun a => A a ∧ ¬ Wi tl (freeze mi env) σ a
      have E2 : EnvRep X.K TB A' H0 H1' σb envb := by
        have z := (E1'.freeze mi).wipe tl
        rw [henvb, hσb] at z
        exact z
      refine ⟨fun i m Hi => m = items.length - i ∧ i ≤ items.length ∧ genL go (geStep gt ft fe envb) (items.drop i) = some bb ∧ EnvRep X.K TB A' H0 Hi σb envb ∧ Grow H1 Hi, ⟨items.length, rfl, Nat.zero_le _, hb, E2, g1'⟩, ?_⟩
      rintro i m Hi ⟨rfl, hi, hc, Ei, gi⟩
      obtain ⟨it1, it2⟩ := IT i Hi (.of gi)
      have fin : ∀ (H' : Hp) (b : Bool), Grow Hi H' → b = bb → Q (.bl b) H' := fun H' b g e => by
        subst e
        exact q _ H' ((g1.trans gi).trans g) (.bl _)
      by_cases hlt : i < items.length
      · have ei : items[i]? = some items[i] := List.getElem?_eq_getElem hlt
        obtain ⟨go', yl⟩ := it1 _ ei
        have edrop : items.drop i = items[i] :: items.drop (i + 1) := (List.drop_eq_getElem_cons hlt)
        rw [edrop, genL] at hc
        refine .inr ⟨go', fun H' => genL go (geStep gt ft fe envb) (items.drop (i + 1)) = some bb ∧ EnvRep X.K TB A' H0 H' σb envb ∧ Grow H1 H', fun H' h => ⟨items.length - (i + 1), by omega, rfl, hlt, h⟩, fun x H2 y => ?_⟩
        obtain ⟨g2, rx⟩ := yl x H2 y
        have Ej := Ei.up g2
        have rx2 : Rep X.K H2 (sel [] A' envb σb) items[i] x := rx.wide fun a ⟨h1, h2⟩ => by
          have n1 : ¬ OWx mi env σ a := h1.2
          refine ⟨⟨h1.1, fun ⟨j, es, _, e1, e2⟩ => n1 (OW_freeze.mp ⟨j, es, e1, by simp, e2⟩)⟩, fun z => ?_⟩
          rw [← henvb, ← hσb] at z
          exact n1 (OW_freeze.mp (OW_wipe z))
        cases hst : geStep gt ft fe envb items[i] with
        | none => rw [hst] at hc; cases hc
        | some r =>
          rw [hst] at hc
          unfold geStep at hst
          split at hst
          · cases hst
          · rename_i env1 eg
            rw [hσb]
            refine qg A' H0 H2 σb envb env1 _ x _ Ej rx2 eg fun σ2 E3 ev ag ln => ⟨?_, ?_⟩
            · have hl2 : σ2.length = σ.length := by rw [ln, ← hσb, wipe_length]
              rw [← hσb] at ag
              rw [← hσb]
              exact wipe_eq hl2 fun j hj => ag j hj
            · split at hst
              · cases hst
              · rename_i et
                cases hst
                refine qt A' H0 H2 σ2 env1 false _ E3 et fun H3 g3 => ?_
                rw [if_neg Bool.false_ne_true]
                exact ⟨hc, Ej.up g3, (gi.trans g2).trans g3⟩
              · rename_i et
                split at hst
                · rename_i b eb
                  cases hst
                  dsimp only at hc
                  refine qt A' H0 H2 σ2 env1 true _ E3 et fun H3 g3 => ?_
                  rw [if_pos rfl]
                  refine qe A' H0 H3 σ2 env1 _ _ (E3.up g3) eb fun v H4 g4 r4 => ?_
                  cases r4
                  have g24 := (g2.trans g3).trans g4
                  refine ⟨b, rfl, ?_⟩
                  by_cases hbg : b = go
                  · rw [if_pos hbg] at hc ⊢
                    exact ⟨hc, Ej.up (g3.trans g4), gi.trans g24⟩
                  · rw [if_neg hbg] at hc ⊢
                    cases hc
                    exact fin H4 _ g24 rfl
                · cases hst
      · have ee : i = items.length := by omega
        refine .inl ⟨it2 ee, ?_⟩
        rw [ee, List.drop_length, genL] at hc
        cases hc
        exact fin Hi _ (.refl Hi) rfl
    · cases hf
end
section
variable {S : List (Str × Nat)} {nm : List (Str × NameKind)} {TB : Addr → Prop} {k : Nat} {X : Cx} {fs : List (Str × Nat × Fn)} {bl : List Str} {ma : List (Str × String)}
variable {elt iter tg : Expr} {ifs : List Expr} {scope : Scope} {mi me tl : List Nat} {fi : Sls → Option (List PyData)} {gt : PyData → Sls → Option Sls} {ft : Sls → Option Bool} {fe : Sls → Option PyData} {ci cg ct ce : Bool} {pn p gpos : Pos}
def notList : Expr → Bool
  | .List .. => false
  | _ => true
theorem genFold_of {e : Expr} {env : Env} (h : notList e = true) (hs : ∀ env x, foldedSetIterable e env x = pure x) (x : Value) : genFold e env x = pure x := by
  cases e <;> first | exact hs env x | cases h
def genC (scope : Scope) : Bool := !scope.isCoroutine && (scope.names.all fun y => match y.2 with | .cell => false | _ => true) && decide (scope.names.lookup (".0" : Str) = some NameKind.local)
theorem genC_of (h : genC scope = true) : scope.isCoroutine = false ∧ (∀ y ∈ scope.names, y.2 ≠ .cell) ∧ scope.names.lookup (".0" : Str) = some NameKind.local := by
  unfold genC at h
  simp only [Bool.and_eq_true, Bool.not_eq_true', List.all_eq_true, decide_eq_true_eq] at h
  refine ⟨h.1.1, fun y hy e => ?_, h.2⟩
  have := h.1.2 y hy
  rw [e] at this
  cases this
theorem Good.inGen (G : Good S nm ⟨fs, bl, ma, true⟩ TB k X) (hk : scope.kind = .function) (hcell : ∀ y ∈ scope.names, y.2 ≠ .cell) (s : Shared) (H : Hp) (C : Addr) (code : Value) (B : Around) (fp : List Addr) (rB : Room k B) :
    Good S scope.names ⟨fs, bl, ma, false⟩ TB k (genCx X s H B (genEnv scope (cloFrom X.env.cells scope.names []) C code builtinsNs X.env) fp) where
  N := G.N
  nd := G.nd
  calm := G.calm
  xe := rfl
  kind := hk
  loc x h := h
  cell x h := absurd rfl (hcell _ (PySem.mem_of_lookup h))
  fre x h := .inr h
  glo x h := h
  blt := G.blt
  mat := G.mat
  has := G.has
  room := rB
  gen z := by cases z
theorem ge_parts [h1 : PurI S nm ⟨fs, bl, ma, true⟩ tg iter mi fi ci] [h2 : PurG S scope.names ⟨fs, bl, ma, false⟩ tg gt tl cg] [h3 : PurTs S scope.names ⟨fs, bl, ma, false⟩ ifs ft ct] [h4 : PurE S scope.names ⟨fs, bl, ma, false⟩ elt me fe ce]
    (hc : (ci && cg && ct && ce && blkP S nm scope tl && genC scope && notList iter) = true) (G : Good S nm ⟨fs, bl, ma, true⟩ TB k X) :
    ∃ wi, PI X tg iter wi ∧ (∀ x, genFold iter X.env x = pure x) ∧ ISp X TB mi fi wi ∧ BlkOk X.N X.env.scope scope (ownOf S tl) ∧ (ownOf S tl).map (·.2) = tl ∧ scope.isCoroutine = false ∧ (∀ y ∈ scope.names, y.2 ≠ .cell) ∧ scope.names.lookup (".0" : Str) = some NameKind.local ∧
      (∀ (s : Shared) (H : Hp) (C : Addr) (code : Value) (B : Around) (fp : List Addr), B.handled = none → Room k B → PG (genCx X s H B (genEnv scope (cloFrom X.env.cells scope.names []) C code builtinsNs X.env) fp) tg (canG X.K TB gt tl)) ∧
      (∀ (s : Shared) (H : Hp) (C : Addr) (code : Value) (B : Around) (fp : List Addr), B.handled = none → Room k B → PTs (genCx X s H B (genEnv scope (cloFrom X.env.cells scope.names []) C code builtinsNs X.env) fp) ifs (canT X.K TB ft)) ∧
      (∀ (s : Shared) (H : Hp) (C : Addr) (code : Value) (B : Around) (fp : List Addr), B.handled = none → Room k B → PE (genCx X s H B (genEnv scope (cloFrom X.env.cells scope.names []) C code builtinsNs X.env) fp) elt (canE X.K TB me fe)) := by
  simp only [Bool.and_eq_true] at hc
  obtain ⟨⟨⟨⟨⟨⟨hc1, hc2⟩, hc3⟩, hc4⟩, hc5⟩, hc6⟩, hc7⟩ := hc
  obtain ⟨wi, hi, hs, qi⟩ := h1.run hc1 TB k X G
  obtain ⟨bo, eo⟩ := G.blk hc5
  obtain ⟨g1, g2, g3⟩ := genC_of hc6
  exact ⟨wi, hi, fun x => genFold_of hc7 hs x, qi, bo, eo, g1, g2, g3, fun s H C code B fp _ rB => canG_of (h2.run hc2 TB k _ (G.inGen bo.kind g2 s H C code B fp rB)), fun s H C code B fp _ rB => canTs_of (h3.run hc3 TB k _ (G.inGen bo.kind g2 s H C code B fp rB)), fun s H C code B fp _ rB => canE_of (h4.run hc4 TB k _ (G.inGen bo.kind g2 s H C code B fp rB))⟩
instance (priority := high) purAllG [h1 : PurI S nm ⟨fs, bl, ma, true⟩ tg iter mi fi ci] [h2 : PurG S scope.names ⟨fs, bl, ma, false⟩ tg gt tl cg] [h3 : PurTs S scope.names ⟨fs, bl, ma, false⟩ ifs ft ct] [h4 : PurE S scope.names ⟨fs, bl, ma, false⟩ elt me fe ce] :
    PurE S nm ⟨fs, bl, ma, true⟩ (.Call (.Name "all" pn) [.GeneratorExp elt [⟨tg, iter, ifs, 0⟩] scope gpos] [] p) [] (fun env => genV true (fi env) mi tl gt ft fe env) (bltC nm ⟨fs, bl, ma, true⟩ "all" && (ci && cg && ct && ce && blkP S nm scope tl && genC scope && notList iter)) where
  run hc TB k X G := by
    rw [Bool.and_eq_true] at hc
    obtain ⟨wi, hi, hs, qi, bo, eo, g1, g2, g3, pg, pt, pe⟩ := ge_parts (tg := tg) (iter := iter) (ifs := ifs) (elt := elt) hc.2 G
    obtain ⟨z1, z2⟩ := G.bl hc.1
    obtain ⟨hr, c, P, hcode, tb, hP⟩ := G.gen rfl
    refine ⟨_, pe_allG z1 z2 G.calm G.nd hr tb hcode hi bo g2 g3 g1 hs pg pt pe, fun A H0 H σ env d Q E hf q => ?_⟩
    rw [eo]
    exact ge_read qi canG_sp canT_sp canE_sp hP E hf q
instance (priority := high) purAnyG [h1 : PurI S nm ⟨fs, bl, ma, true⟩ tg iter mi fi ci] [h2 : PurG S scope.names ⟨fs, bl, ma, false⟩ tg gt tl cg] [h3 : PurTs S scope.names ⟨fs, bl, ma, false⟩ ifs ft ct] [h4 : PurE S scope.names ⟨fs, bl, ma, false⟩ elt me fe ce] :
    PurE S nm ⟨fs, bl, ma, true⟩ (.Call (.Name "any" pn) [.GeneratorExp elt [⟨tg, iter, ifs, 0⟩] scope gpos] [] p) [] (fun env => genV false (fi env) mi tl gt ft fe env) (bltC nm ⟨fs, bl, ma, true⟩ "any" && (ci && cg && ct && ce && blkP S nm scope tl && genC scope && notList iter)) where
  run hc TB k X G := by
    rw [Bool.and_eq_true] at hc
    obtain ⟨wi, hi, hs, qi, bo, eo, g1, g2, g3, pg, pt, pe⟩ := ge_parts (tg := tg) (iter := iter) (ifs := ifs) (elt := elt) hc.2 G
    obtain ⟨z1, z2⟩ := G.bl hc.1
    obtain ⟨hr, c, P, hcode, tb, hP⟩ := G.gen rfl
    refine ⟨_, pe_anyG z1 z2 G.calm G.nd hr tb hcode hi bo g2 g3 g1 hs pg pt pe, fun A H0 H σ env d Q E hf q => ?_⟩
    rw [eo]
    exact ge_read qi canG_sp canT_sp canE_sp hP E hf q
end
end Pu

set_option Elab.async false
set_option linter.all false
set_option autoImplicit false
set_option maxRecDepth 100000
set_option maxHeartbeats 4000000
namespace Pu
open PySem PySem.Spec PyProof.Rows L2 GxR

/-! ### defs with a table of code objects -/
structure FunG (K : PySem.W.Frag) (x qual : Str) (st : Stmt) (f : Addr) (fd : FuncData) (c : Addr) : Prop where
  ex : ∃ (oc : Value) (od : Option Addr) (kV doc pm : Value) (an : Option Addr) (ct : Value) (osl : Array (Option Value)),
    fd = PySem.W.fnOf x qual (defArgs st) (defBody st) (defScope st) .none kV doc pm an (.ref c) ct ∧ K.lookup f = some ⟨oc, od, .func fd, osl⟩ ∧ PySem.W.codeIn K (.ref c) qual = true
theorem fn_okG {P : Program} {w : PySem.World} {K : PySem.W.Frag} {mg : Str → Option Value} {base : Heap} {TB : Addr → Prop} {fs : List (Str × Nat × Fn)} {bl : List Str} {ma : List (Str × String)} {k : Nat} {x qual : Str} {st : Stmt} {f c Pt : Addr} {fd : FuncData}
    (Wd : World P w K mg base TB ⟨fs, bl, ma, false⟩ k) (Fu : FunG K x qual st f fd c) (tb : TabB base mg c Pt) (hP : TB Pt) (S : List (Str × Nat)) (ps : List Str) (F : Fn) {s0 : Stmt} {rest : List Stmt} {g : Sls → Option Out} {cc : Bool}
    (hb : defBody st = s0 :: rest) (hS : PurSs S (defScope st).names ⟨fs, bl, ma, true⟩ (s0 :: rest) g cc) (hc : cc = true) (hd : defC S ps (defScope st) = true)
    (hF : ∀ ds d, ds.length = ps.length → F ds = some d → outV (g (startE S.length ds)) = some d) : FnOk P w K mg base CX0 (k + 2) f fd ps (spF K TB ps.length F) := by
  obtain ⟨sc, hlen⟩ := fnScope_of hd
  obtain ⟨oc, od, kV, doc, pm, an, ct, osl, rfl, lk, hcd⟩ := Fu.ex
  refine fn_of lk hcd sc (fun vs H Q E h => ?_) (fun A outer s H vs Q E hr h => ?_)
  · obtain ⟨A, ds, d, _, _, r, hl, _⟩ := h
    rw [← r.length, hl]
  · obtain ⟨A', ds, d, hA, hT, r, hl, hf, q⟩ := h
    have G : Good S (defScope st).names ⟨fs, bl, ma, true⟩ TB k (cxOf CX0 P w K mg base (S.map (·.1)) qual (defScope st) f (.ref c) A outer s H E).nox :=
      { N := rfl, nd := sc.nd, calm := rfl, xe := rfl, kind := sc.kind, loc := fun _ h => h, cell := fun _ h => ⟨h, rfl⟩, fre := fun _ h => .inr h, glo := fun _ h => h,
        blt := Wd.blt, mat := Wd.mat, has := Wd.has, room := Room.mono hr (Nat.le_succ k), gen := fun _ => ⟨hr, c, Pt, rfl, tb, hP⟩ }
    obtain ⟨t, ht, sp⟩ := hS.run hc TB k _ G
    rw [hb]
    refine ⟨t, ht.nox, ?_⟩
    have E0 := start_rep (N := S.map (·.1)) hA hT r (by rw [List.length_map, hl]; exact hlen)
    rw [List.length_map] at E0
    have ho := hF ds d hl hf
    cases e : g (startE S.length ds) with
    | none => rw [e] at ho; cases ho
    | some o =>
      rw [e] at ho
      refine sp A' H _ _ o _ E0 e ?_
      cases o with
      | nx env => cases ho; exact fun σ' H' E' ev => q .non H' E'.grow .non
      | rt v => cases ho; exact fun x H' g' r' => q x H' g' r'
      | bk env => cases ho
      | ct env => cases ho
/-- what the top has written of a def with a table -/
def DefAtG (K : PySem.W.Frag) (x : Str) (st : Stmt) (c Pt : Addr) : Prop :=
  ∃ (f : Addr) (od an : Option Addr) (osl : Array (Option Value)) (oc kV doc pm ct : Value), PySem.W.nsIn K mainGlobals x = some (some (.ref f)) ∧
    K.lookup f = some ⟨oc, od, .func (PySem.W.fnOf x x (defArgs st) (defBody st) (defScope st) .none kV doc pm an (.ref c) ct), osl⟩ ∧ PySem.W.codeIn K (.ref c) x = true ∧ PySem.W.keepIn K (.ref f) = true ∧
    (∃ (e : Value) (dd : Option Addr) (vs : Array Value) (sl : Array (Option Value)), K.lookup c = some ⟨e, dd, .fields vs, sl⟩ ∧ vs[11]? = some (.ref Pt)) ∧ K.lookup Pt = none
theorem defAtG_mk {K : PySem.W.Frag} {x : Str} {st : Stmt} {f c Pt : Addr} {od an : Option Addr} {osl : Array (Option Value)} {oc kV doc pm ct : Value} {e : Value} {dd : Option Addr} {vs : Array Value} {sl : Array (Option Value)} (a : PySem.W.nsIn K mainGlobals x = some (some (.ref f)))
    (l : K.lookup f = some ⟨oc, od, .func (PySem.W.fnOf x x (defArgs st) (defBody st) (defScope st) .none kV doc pm an (.ref c) ct), osl⟩) (cd : PySem.W.codeIn K (.ref c) x = true) (k : PySem.W.keepIn K (.ref f) = true)
    (lc : K.lookup c = some ⟨e, dd, .fields vs, sl⟩) (v11 : vs[11]? = some (.ref Pt)) (np : K.lookup Pt = none) : DefAtG K x st c Pt :=
  ⟨f, od, an, osl, oc, kV, doc, pm, ct, a, l, cd, k, ⟨e, dd, vs, sl, lc, v11⟩, np⟩
structure LinkG (K : PySem.W.Frag) (mg : Str → Option Value) (base : Heap) (TB : Addr → Prop) (x : Str) (st : Stmt) (ps : List Str) : Prop where
  ex : ∃ (f : Addr) (fd : FuncData) (c Pt : Addr), FunG K x x st f fd c ∧ mg x = some (.ref f) ∧ PySem.W.keepIn K (.ref f) = true ∧ Binds K fd ps [] ∧ TabB base mg c Pt ∧ TB Pt
theorem DefAtG.link {K : PySem.W.Frag} {mg : Str → Option Value} {x : Str} {st : Stmt} {ps : List Str} {h base : Heap} {TB : Addr → Prop} {c Pt : Addr} (D : DefAtG K x st c Pt) (X : K.In h) (G : h.Ns mainGlobals mg) (hb : BindOk x st ps) (tb : TabB base mg c Pt) (hP : TB Pt) : LinkG K mg base TB x st ps := by
  obtain ⟨f, od, an, osl, oc, kV, doc, pm, ct, a, l, cd, k, _, _⟩ := D
  exact ⟨f, _, c, Pt, ⟨oc, od, kV, doc, pm, an, ct, osl, rfl, l, cd⟩, PySem.W.mg_of X G a, k, .all (hb kV doc pm an (.ref c) ct), tb, hP⟩
section
variable {P : Program} {w : PySem.World} {K : PySem.W.Frag} {mg : Str → Option Value} {base : Heap} {TB : Addr → Prop} {k : Nat} {x : Str} {st : Stmt} {ps : List Str} {s0 : Stmt} {rest : List Stmt} {g : Sls → Option Out} {cc : Bool} {S : List (Str × Nat)}
theorem okD_ofG {fs : List (Str × Nat × Fn)} {bl : List Str} {ma : List (Str × String)} (L : LinkG K mg base TB x st ps) (Wd : World P w K mg base TB ⟨fs, bl, ma, false⟩ k) (hb : defBody st = s0 :: rest) (hS : PurSs S (defScope st).names ⟨fs, bl, ma, true⟩ (s0 :: rest) g cc) (hc : cc = true) (hd : defC S ps (defScope st) = true) :
    OkD P w K mg base TB (k + 2) x ps.length (fnV st hb hS) := by
  obtain ⟨f, fd, c, Pt, Fu, h1, h2, h3, tb, hP⟩ := L.ex
  exact ⟨f, fd, ps, fn_okG Wd Fu tb hP S ps (fnV st hb hS) hb hS hc hd fun ds d _ h => h, h1, h2, h3⟩
end
/-! ### the end -/
abbrev tbOf (cs : List (Addr × Addr)) : Addr → Prop := fun b => ∃ p ∈ cs, b = p.2
theorem law_endT {P : Program} {w : PySem.World} {K : PySem.W.Frag} {h : Heap} {mg : Str → Option Value} {fa : Addr} {st : Stmt} {k : Nat} {T : Tab} {s0 : Stmt} {rest : List Stmt} {g : Sls → Option Out} {c : Bool} {S : List (Str × Nat)} {cs : List (Addr × Addr)} (hfa : mg "law" = some (.ref fa)) (D : DefAt K "law" st) (X : K.In h) (G : h.Ns mainGlobals mg)
    (hbt : ∀ (kV doc pm : Value) (an : Option Addr) (cdv ct : Value) (s : Shared) (u : Value), BindsTo s (PySem.W.fnOf "law" "law" (defArgs st) (defBody st) (defScope st) .none kV doc pm an cdv ct) ⟨[u], []⟩ [("script", u)])
    (hb : defBody st = s0 :: rest) (hS : PurSs S (defScope st).names T (s0 :: rest) g c) (hc : c = true) (hd : defC S ["script"] (defScope st) = true) (Wd : ∀ base : Heap, (∀ p ∈ cs, TabB base mg p.1 p.2) → World P w K mg base (tbOf cs) T k) (hge : T.ge = false := by rfl) :
    ∃ fd : FuncData, (∀ (s : Shared) (u : Value), BindsTo s fd ⟨[u], []⟩ [("script", u)]) ∧ ∀ base : Heap, K.In base → base.Ns mainGlobals mg → (∀ p ∈ cs, TabB base mg p.1 p.2) → FnOk P w K mg base CX0 (k + 1) fa fd ["script"] (spF K (tbOf cs) 1 (fnV st hb hS)) := by
  obtain ⟨f, od, an, osl, oc, kV, doc, pm, cdv, ct, a, l, e, kp⟩ := D
  have e2 := hfa.symm.trans (PySem.W.mg_of X G a)
  cases e2
  exact ⟨_, fun s u => hbt kV doc pm an cdv ct s u, fun base _ _ ht => fn_ok (Wd base ht) (fun_mk l e kp) S ["script"] (fnV st hb hS) hb hS hc hd hge fun ds d _ h => h⟩
theorem law_endTG {P : Program} {w : PySem.World} {K : PySem.W.Frag} {h : Heap} {mg : Str → Option Value} {fa : Addr} {st : Stmt} {k : Nat} {fs : List (Str × Nat × Fn)} {bl : List Str} {ma : List (Str × String)} {s0 : Stmt} {rest : List Stmt} {g : Sls → Option Out} {c : Bool} {S : List (Str × Nat)} {cs : List (Addr × Addr)} {c0 P0 : Addr} (hfa : mg "law" = some (.ref fa)) (D : DefAtG K "law" st c0 P0) (X : K.In h) (G : h.Ns mainGlobals mg)
    (hbt : ∀ (kV doc pm : Value) (an : Option Addr) (cdv ct : Value) (s : Shared) (u : Value), BindsTo s (PySem.W.fnOf "law" "law" (defArgs st) (defBody st) (defScope st) .none kV doc pm an cdv ct) ⟨[u], []⟩ [("script", u)])
    (hb : defBody st = s0 :: rest) (hS : PurSs S (defScope st).names ⟨fs, bl, ma, true⟩ (s0 :: rest) g c) (hc : c = true) (hd : defC S ["script"] (defScope st) = true) (hcs : (c0, P0) ∈ cs) (Wd : ∀ base : Heap, (∀ p ∈ cs, TabB base mg p.1 p.2) → World P w K mg base (tbOf cs) ⟨fs, bl, ma, false⟩ k) :
    ∃ fd : FuncData, (∀ (s : Shared) (u : Value), BindsTo s fd ⟨[u], []⟩ [("script", u)]) ∧ ∀ base : Heap, K.In base → base.Ns mainGlobals mg → (∀ p ∈ cs, TabB base mg p.1 p.2) → FnOk P w K mg base CX0 (k + 2) fa fd ["script"] (spF K (tbOf cs) 1 (fnV st hb hS)) := by
  obtain ⟨f, od, an, osl, oc, kV, doc, pm, ct, a, l, e, kp, _, _⟩ := D
  have e2 := hfa.symm.trans (PySem.W.mg_of X G a)
  cases e2
  exact ⟨_, fun s u => hbt kV doc pm an (.ref c0) ct s u, fun base _ _ ht => fn_okG (Wd base ht) ⟨oc, od, kV, doc, pm, an, ct, osl, rfl, l, e⟩ (ht _ hcs) ⟨_, hcs, rfl⟩ S ["script"] (fnV st hb hS) hb hS hc hd fun ds d _ h => h⟩
/-- a def's table as the top leaves it -/
def TabAt (mg : Str → Option Value) (y : Str) (h : Heap) : Prop := ∃ (a : Addr) (o : Obj) (fd : FuncData) (c P : Addr), mg y = some (.ref a) ∧ h.get? a = some o ∧ o.data = .func fd ∧ fd.code = .ref c ∧ h.IsCode c P #[] ∧ h.TableAt c P #[]
theorem DefAtG.tab {K : PySem.W.Frag} {mg : Str → Option Value} {x : Str} {st : Stmt} {h : Heap} {c Pt : Addr} (D : DefAtG K x st c Pt) (X : K.In h) (G : h.Ns mainGlobals mg) (t : TabAt mg x h) : K.lookup Pt = none ∧ PySem.W.CodeHd h c Pt ∧ h.get? Pt = some { cls := .none, data := .fields #[] } := by
  obtain ⟨f, od, an, osl, oc, kV, doc, pm, ct, a, l, cd, k, ⟨e, dd, vs, sl, lc, v11⟩, np⟩ := D
  obtain ⟨a', o, fd, c', P', h1, h2, h3, h4, h5, h6⟩ := t
  have e2 := h1.symm.trans (PySem.W.mg_of X G a)
  cases e2
  have e3 := X _ _ l
  rw [h2] at e3
  cases e3
  cases h3
  have h4 : Value.ref c = Value.ref c' := h4
  cases h4
  have hd := PySem.W.CodeHd.of h5 h6
  obtain ⟨⟨o', vs', g1, _, g3, g4⟩, g5⟩ := h6
  have e4 := X _ _ lc
  rw [g1] at e4
  cases e4
  cases g3
  rw [v11] at g4
  cases g4
  exact ⟨np, hd, g5⟩
theorem lawAt_mk {l : PySem.W.OpenLaw} {w : PySem.World} {K : PySem.W.Frag} {mg : Str → Option Value} {fa : Addr} {h : Heap} {k n : Nat} {cs : List (Addr × Addr)} {F : Fn}
    (E : ∃ fd : FuncData, (∀ (s : Shared) (u : Value), BindsTo s fd ⟨[u], []⟩ [("script", u)]) ∧ ∀ base : Heap, K.In base → base.Ns mainGlobals mg → (∀ p ∈ cs, TabB base mg p.1 p.2) → FnOk l.prog w K mg base CX0 k fa fd ["script"] (spF K (tbOf cs) 1 F))
    (hT : ∀ p ∈ cs, K.lookup p.2 = none ∧ PySem.W.CodeHd h p.1 p.2 ∧ h.get? p.2 = some { cls := .none, data := .fields #[] }) (hF : ∀ ns : List Int, ns.length ≤ n → F [.list (ns.map .int)] = some (.bool true)) : LamX.LawAtS l w K CX0 k n "script" mg fa h := by
  obtain ⟨fd, hb, hf⟩ := E
  refine ⟨fd, cs, spF K (tbOf cs) 1 F, fun p hp => (hT p hp).2.2, fun p hp => (hT p hp).1, fun p hp => (hT p hp).2.1, hb, fun H a ns hl _ ht hS => ?_, fun base a b t => hf base a b fun p hp => ⟨(t p hp).code, (t p hp).bm, (t p hp).gP⟩⟩
  refine ⟨fun _ => True, [.list (ns.map .int)], .bool true, fun _ _ => trivial, fun b ⟨p, hp, e⟩ => ⟨#[], by rw [e]; exact ht p hp, trivial⟩, ?_, rfl, hF ns hl, fun x H' _ r => ?_⟩
  · refine .cons (.lst ?_ (Reps.ints ns)) .nil
    rcases hS with h | h
    · exact .inl ⟨trivial, h⟩
    · exact .inr (.inr h)
  · cases r
    rfl
theorem walk_ofAll {l : PySem.W.OpenLaw} {n k : Nat} {q : Program} {loose : List Str} {XP : (Str → Option Value) → Heap → Prop} {YP : PySem.World → Heap → Prop} {d : DefRec} {K : Params → PySem.W.Frag} {CX : PySem.World → CXT} {x : Str}
    (hn : l.most = some n) (hn2 : n ≤ sizeLine) (hdf : d.params.defaults = []) (hr : Room k callerA) (hY : ∀ (w : PySem.World) (h : Heap), YP w h → (K w.params).In h)
    (F : ∀ (w : PySem.World) (mg : Str → Option Value) (fa : Addr) (h : Heap), YP w h → (K w.params).In h → h.Ns mainGlobals mg → mg d.name = some (.ref fa) → (∀ y, ((recsOf q).any fun e => e.name == y) = true → TabAt mg y h) → LamX.LawAtS l w (K w.params) (CX w) k n x mg fa h)
    (hCX : ∀ (w : PySem.World) (H : Hp) (s : Shared) (e : Value) (s' : Shared), CX w [] H s (fun _ _ _ => False) e s' → False) :
    PySem.W.WalkO q loose XP YP l.row.toRowW d [] (fun f vs => PySem.call f vs) := by
  refine Att.attach_callB hn hdf fun w s₀ s₁ mg mb fa o pm cd doc a vs ns G Y ho hd hcd hmg hobj hints hlen hbits hg => ?_
  have KX := hY w _ Y
  obtain ⟨fd, cs, sp, hT, nT, C, hb, hsp, hF⟩ := F w mg fa _ Y KX G.T.g hmg fun y hy => by
    obtain ⟨dL, hm, hn1⟩ := List.any_eq_true.mp hy
    have hn2 : dL.name = y := beq_iff_eq.mp hn1
    obtain ⟨a', o', fd', c', P', h1, h2, h3, h4, h5, h6⟩ := G.T.tab dL hm
    rw [hn2] at h1
    exact ⟨a', o', fd', c', P', h1, h2, h3, h4, h5, h6⟩
  exact LamX.law_callTs KX G.T.g G.T.b G.T.builtins G.T.nolimit hg hT nT C G.T.bmain hobj hints (Nat.le_trans hlen hn2) hr hF hb (fun H hH hS => hsp H a ns hlen hbits hH hS) fun H e s' => hCX w H s₁ e s'
end Pu

set_option Elab.async false
set_option linter.all false
set_option autoImplicit false
set_option maxRecDepth 100000
set_option maxHeartbeats 4000000
namespace Pu
open PySem PySem.Spec PyProof.Rows L2 GxR

/-! ### all, any of a generator expression, evaluated -/
@[simp] theorem geStep_def (gt : PyData → Sls → Option Sls) (ft : Sls → Option Bool) (fe : Sls → Option PyData) (env : Sls) (d : PyData) :
    geStep gt ft fe env d = (gt d env).bind fun env1 => (ft env1).bind fun b => if b = true then (match fe env1 with | some (.bool b) => some (some b) | _ => none) else some none := by
  unfold geStep
  cases gt d env with
  | none => rfl
  | some env1 =>
    dsimp only [Option.bind]
    cases ft env1 with
    | none => rfl
    | some b => cases b <;> rfl
section
variable {α : Type} {mi tl : List Nat} {gt : PyData → Sls → Option Sls} {ft : Sls → Option Bool} {fe : Sls → Option PyData} {env : Sls} {f : α → PyData} {xs : List α}
theorem genV_allF (o : α → Option Bool) (h : ∀ x ∈ xs, geStep gt ft fe (wipeE tl (freeze mi env)) (f x) = some (o x)) : genV true (some (xs.map f)) mi tl gt ft fe env = some (.bool (xs.all fun x => (o x).getD true)) := by
  unfold genV
  dsimp only
  have key : genL true (geStep gt ft fe (wipeE tl (freeze mi env))) (xs.map f) = some (xs.all fun x => (o x).getD true) := by
    induction xs with
    | nil => rfl
    | cons x r ih =>
      rw [List.map_cons, genL, h x (by simp), List.all_cons]
      have ih := ih fun y hy => h y (by simp [hy])
      cases o x with
      | none => simp [ih]
      | some b => cases b <;> simp [ih]
  rw [key]
theorem genV_anyF (o : α → Option Bool) (h : ∀ x ∈ xs, geStep gt ft fe (wipeE tl (freeze mi env)) (f x) = some (o x)) : genV false (some (xs.map f)) mi tl gt ft fe env = some (.bool (xs.any fun x => (o x).getD false)) := by
  unfold genV
  dsimp only
  have key : genL false (geStep gt ft fe (wipeE tl (freeze mi env))) (xs.map f) = some (xs.any fun x => (o x).getD false) := by
    induction xs with
    | nil => rfl
    | cons x r ih =>
      rw [List.map_cons, genL, h x (by simp), List.any_cons]
      have ih := ih fun y hy => h y (by simp [hy])
      cases o x with
      | none => simp [ih]
      | some b => cases b <;> simp [ih]
  rw [key]
theorem genV_all (p : α → Bool) (h : ∀ x ∈ xs, geStep gt ft fe (wipeE tl (freeze mi env)) (f x) = some (some (p x))) : genV true (some (xs.map f)) mi tl gt ft fe env = some (.bool (xs.all p)) := genV_allF (fun x => some (p x)) h
theorem genV_any (p : α → Bool) (h : ∀ x ∈ xs, geStep gt ft fe (wipeE tl (freeze mi env)) (f x) = some (some (p x))) : genV false (some (xs.map f)) mi tl gt ft fe env = some (.bool (xs.any p)) := genV_anyF (fun x => some (p x)) h
theorem genV_allE {ds : List PyData} (f : α → PyData) (xs : List α) (p : α → Bool) (hd : ds = xs.map f) (h : ∀ x ∈ xs, geStep gt ft fe (wipeE tl (freeze mi env)) (f x) = some (some (p x))) : genV true (some ds) mi tl gt ft fe env = some (.bool (xs.all p)) := by
  subst hd; exact genV_all p h
theorem genV_anyE {ds : List PyData} (f : α → PyData) (xs : List α) (p : α → Bool) (hd : ds = xs.map f) (h : ∀ x ∈ xs, geStep gt ft fe (wipeE tl (freeze mi env)) (f x) = some (some (p x))) : genV false (some ds) mi tl gt ft fe env = some (.bool (xs.any p)) := by
  subst hd; exact genV_any p h
end
end Pu

set_option Elab.async false
set_option linter.all false
set_option autoImplicit false
set_option maxRecDepth 100000
set_option maxHeartbeats 4000000
namespace Pu
open PySem PySem.Spec PyProof.Rows L2 GxR

/-! ### a letter in a text -/
theorem occ_letter (l : List Nat) (c : Nat) : (!(Builtin.Str.occurrences (mkS l) (mkS [c]) 0 (mkS l).length 1).isEmpty) = decide (c ∈ l) := SX.in_one l c
@[simp] theorem inP_letter (l : List Nat) (c : Nat) : inP (.str (mkS [c])) (.str (mkS l)) = some (.bool (decide (c ∈ l))) := by
  unfold inP inD
  dsimp only
  rw [occ_letter]
@[simp] theorem ninP_letter (l : List Nat) (c : Nat) : ninP (.str (mkS [c])) (.str (mkS l)) = some (.bool (!decide (c ∈ l))) := by
  unfold ninP inD
  dsimp only
  rw [occ_letter]
end Pu

set_option Elab.async false
set_option linter.all false
set_option autoImplicit false
set_option maxRecDepth 100000
set_option maxHeartbeats 4000000
namespace Pu
open PySem PySem.Spec PyProof.Rows L2 GxR

/-! ### n times -/
@[simp] theorem mulP_mkS {l : List Nat} {n : Int} (h : -1000000000 < n) (h2 : n < 1000000000) (h3 : l.length * n.toNat ≤ LIM) : mulP (.str (mkS l)) (.int n) = some (.str (mkS (List.replicate n.toNat l).flatten)) := by
  show (if RpS (mkS l) n then some (PyData.str (repS (mkS l) n)) else none) = _
  rw [if_pos ⟨⟨h, h2⟩, by rw [mkS_length]; exact h3⟩]
  unfold repS
  rw [mkS_list]
  rfl
@[simp] theorem mulP_tuple {xs : List PyData} {n : Int} (h : -1000 ≤ n) (h2 : n ≤ 1000) (h3 : xs.length ≤ 1000) : mulP (.tuple xs) (.int n) = some (.tuple (List.replicate n.toNat xs).flatten) := if_pos ⟨⟨h, h2⟩, h3⟩
theorem rep_one {α : Type} (x : α) (n : Nat) : (List.replicate n [x]).flatten = List.replicate n x := by
  induction n with
  | zero => rfl
  | succ n ih => rw [List.replicate_succ, List.replicate_succ, List.flatten_cons, ih]; rfl
theorem rep_flat_len {α : Type} (l : List α) (n : Nat) : (List.replicate n l).flatten.length = n * l.length := rep_len l n

/-! ### truth of what holds items -/
@[simp] theorem truD_tuple (xs : List PyData) : truD (.tuple xs) = some (!xs.isEmpty) := by cases xs <;> rfl
@[simp] theorem truD_list (xs : List PyData) : truD (.list xs) = some (!xs.isEmpty) := by cases xs <;> rfl
@[simp] theorem notV_tuple (xs : List PyData) : notV (some (.tuple xs)) = some (.bool xs.isEmpty) := by cases xs <;> rfl
@[simp] theorem notV_list (xs : List PyData) : notV (some (.list xs)) = some (.bool xs.isEmpty) := by cases xs <;> rfl
/-! ### remainders -/
theorem emod_two {x n : Int} (h0 : 0 ≤ x) (h1 : x < 2 * n) : x % n = if x < n then x else x - n := by
  split
  · rename_i h
    exact Int.emod_eq_of_lt h0 h
  · rename_i h
    rw [show x = (x - n) + n * 1 by omega, Int.add_mul_emod_self_left, Int.emod_eq_of_lt (by omega) (by omega)]
    omega

/-! ### the last item -/
theorem atI_last {α : Type} [Inhabited α] {xs : List α} (h : 0 < xs.length) : atI xs (-1) = some (nth xs ((xs.length : Int) - 1)) := by
  rw [atI_neg (by decide) (by omega), ← nth_eq (by omega) (by omega)]
  rw [show (-1 + (xs.length : Int)).toNat = ((xs.length : Int) - 1).toNat by omega]
@[simp] theorem itemD_lastL {α : Type} [Inhabited α] {f : α → PyData} {xs : List α} (h : 0 < xs.length) : itemD (.list (xs.map f)) (.int (-1)) = some (f (nth xs ((xs.length : Int) - 1))) := by
  show atI _ _ = _
  rw [atI_last (by simpa using h), List.length_map, nth_map (by omega) (by omega)]
@[simp] theorem itemD_lastT {α : Type} [Inhabited α] {f : α → PyData} {xs : List α} (h : 0 < xs.length) : itemD (.tuple (xs.map f)) (.int (-1)) = some (f (nth xs ((xs.length : Int) - 1))) := by
  show atI _ _ = _
  rw [atI_last (by simpa using h), List.length_map, nth_map (by omega) (by omega)]
@[simp] theorem itemD_lastS {l : List Nat} (hl : l.length ≤ LIM) (h : 0 < l.length) : itemD (.str (mkS l)) (.int (-1)) = some (.str (mkS [nth l ((l.length : Int) - 1)])) := by
  show (if (mkS l).length ≤ LIM then (match atI (mkS l).cps.toList (-1) with | some c => some (PyData.str ⟨#[c]⟩) | none => none) else none) = _
  rw [mkS_length, if_pos hl, mkS_list, atI_last h]
  rfl
end Pu

set_option Elab.async false
set_option linter.all false
set_option autoImplicit false
set_option maxRecDepth 100000
namespace Pu
open PySem PySem.Spec PyProof.Rows L2
/-! parts of a list without lists -/
@[simp] theorem noLs_drop {xs : List PyData} {k : Nat} (h : noLs xs = true) : noLs (xs.drop k) = true := noLs_iff.mpr fun x hx => noLs_iff.mp h x (List.mem_of_mem_drop hx)
@[simp] theorem noLs_take {xs : List PyData} {k : Nat} (h : noLs xs = true) : noLs (xs.take k) = true := noLs_iff.mpr fun x hx => noLs_iff.mp h x (List.mem_of_mem_take hx)
@[simp] theorem noLs_reverse {xs : List PyData} (h : noLs xs = true) : noLs xs.reverse = true := noLs_iff.mpr fun x hx => noLs_iff.mp h x (List.mem_reverse.mp hx)
@[simp] theorem noLs_set {xs : List PyData} {k : Nat} {d : PyData} (h : noLs xs = true) (h2 : noL d = true) : noLs (xs.set k d) = true := noLs_iff.mpr fun x hx => by
  rcases List.mem_or_eq_of_mem_set hx with h3 | h3
  · exact noLs_iff.mp h x h3
  · rw [h3]; exact h2
@[simp] theorem noLs_replicate {n : Nat} {d : PyData} (h : noL d = true) : noLs (List.replicate n d) = true := noLs_iff.mpr fun x hx => by rw [(List.mem_replicate.mp hx).2]; exact h
/-! items from the end -/
theorem atI_back {α : Type} [Inhabited α] {xs : List α} {i : Int} (h : i < 0) (h2 : -(xs.length : Int) ≤ i) : atI xs i = some (nth xs (i + xs.length)) := by
  rw [atI_neg h h2, nth_eq (by omega) (by omega)]
@[simp] theorem itemD_backS {l : List Nat} {i : Int} (hl : l.length ≤ LIM) (h : i < 0) (h2 : -(l.length : Int) ≤ i) : itemD (.str (mkS l)) (.int i) = some (.str (mkS [nth l (i + l.length)])) := by
  show (if (mkS l).length ≤ LIM then (match atI (mkS l).cps.toList i with | some c => some (PyData.str ⟨#[c]⟩) | none => none) else none) = _
  rw [mkS_length, if_pos hl, mkS_list, atI_back h h2]
  rfl
@[simp] theorem itemD_backL {α : Type} [Inhabited α] {f : α → PyData} {xs : List α} {i : Int} (h : i < 0) (h2 : -(xs.length : Int) ≤ i) : itemD (.list (xs.map f)) (.int i) = some (f (nth xs (i + xs.length))) := by
  show atI _ _ = _
  rw [atI_back h (by rw [List.length_map]; exact h2), List.length_map, nth_map (by omega) (by omega)]
@[simp] theorem itemD_backT {α : Type} [Inhabited α] {f : α → PyData} {xs : List α} {i : Int} (h : i < 0) (h2 : -(xs.length : Int) ≤ i) : itemD (.tuple (xs.map f)) (.int i) = some (f (nth xs (i + xs.length))) := by
  show atI _ _ = _
  rw [atI_back h (by rw [List.length_map]; exact h2), List.length_map, nth_map (by omega) (by omega)]
theorem joinF_lists {α : Type} {xs : List α} {g : α → List Nat} (h : (xs.flatMap g).length ≤ 16777216) : joinF (.str (mkS [])) (.list (xs.map fun x => .str (mkS (g x)))) = some (.str (mkS (xs.flatMap g))) := by
  have e := joinF_list (ys := xs.map g) (by rw [← List.flatMap_def]; exact h)
  rw [List.map_map, ← List.flatMap_def] at e
  exact e
/-! x[::c], c from 1 on -/
def evl {α : Type} [Inhabited α] (c : Int) (xs : List α) : List α := (rg 0 ((xs.length + c - 1) / c)).map fun k => nth xs (c * k)
theorem evl_in {n : Nat} {c k : Int} (hc : 1 ≤ c) (h0 : 0 ≤ k) (h1 : k < (n + c - 1) / c) : 0 ≤ c * k ∧ c * k < n := by
  refine ⟨Int.mul_nonneg (by omega) h0, ?_⟩
  have h2 : k + 1 ≤ (n + c - 1) / c := by omega
  rw [Int.le_ediv_iff_mul_le (by omega), Int.add_mul, Int.mul_comm k c] at h2
  omega
theorem fm_map {α β : Type} {f : α → Option β} {g : α → β} : ∀ {l : List α}, (∀ x ∈ l, f x = some (g x)) → l.filterMap f = l.map g
  | [], _ => rfl
  | a :: r, h => by rw [List.filterMap_cons, h a (by simp), List.map_cons, fm_map fun x hx => h x (by simp [hx])]
theorem pick_up {α : Type} [Inhabited α] {c : Int} (hc : 1 ≤ c) (xs : List α) : pickL ((List.range ((xs.length + c - 1) / c).toNat).map fun (k : Nat) => (0 + c * (k : Int)).toNat) xs = evl c xs := by
  unfold pickL evl rg
  rw [List.filterMap_map, List.map_map, show ((xs.length : Int) + c - 1) / c - 0 = (xs.length + c - 1) / c by omega]
  refine fm_map fun k hk => ?_
  have hk := List.mem_range.mp hk
  obtain ⟨a, b⟩ := evl_in (n := xs.length) (c := c) (k := k) hc (by omega) (by omega)
  show xs[(0 + c * (k : Int)).toNat]? = some (nth xs (c * (0 + (k : Int))))
  rw [Int.zero_add, Int.zero_add, nth_eq a b]
theorem count_up {n : Nat} {c : Int} (hc : 1 ≤ c) : (if (0 : Int) < n then ((n : Int) - 0 + c - 1) / c else 0) = (n + c - 1) / c := by
  split
  · rw [Int.sub_zero]
  · have : n = 0 := by omega
    subst this
    rw [Int.ediv_eq_zero_of_lt (by omega) (by omega)]
theorem range_up {n : Nat} {c : Int} (hc : 1 ≤ c) : sliceRange 0 (n : Int) c = (List.range ((n + c - 1) / c).toNat).map fun (k : Nat) => (0 + c * (k : Int)).toNat := by
  unfold sliceRange
  have h1 : c > 0 := by omega
  simp only [h1, if_true, count_up hc]
theorem ixL_up {n : Nat} {c : Int} (hc : 1 ≤ c) : ixL none none c n = (List.range ((n + c - 1) / c).toNat).map fun (k : Nat) => (0 + c * (k : Int)).toNat := by
  rw [← range_up hc]
  have h1 : c > 0 := by omega
  unfold ixL sliceBounds
  simp [h1]
theorem ixS_up {n : Nat} {c : Int} (hc : 1 ≤ c) : ixS none none c n = (List.range ((n + c - 1) / c).toNat).map fun (k : Nat) => (0 + c * (k : Int)).toNat := by
  rw [← range_up hc]
  have h1 : c > 0 := by omega
  unfold ixS Builtin.Str.strSliceIndices
  simp [h1]
theorem ixT_up {n : Nat} {c : Int} (hc : 1 ≤ c) : ixT none none c n = (List.range ((n + c - 1) / c).toNat).map fun (k : Nat) => (0 + c * (k : Int)).toNat := by
  have h1 : c > 0 := by omega
  have h2 : ¬ c < 0 := by omega
  have e1 : Builtin.Slice.sliceAdjust none none c (n : Int) = (0, (n : Int)) := by
    unfold Builtin.Slice.sliceAdjust
    simp [h2]
  have e2 : Builtin.Slice.slicePlaces 0 (n : Int) c = ((n + c - 1) / c).toNat := by
    unfold Builtin.Slice.slicePlaces
    rw [if_pos h1]
    congr 1
    split
    · rw [show (n : Int) + c - 1 = (n - 0 - 1) + 1 * c by omega, Int.add_mul_ediv_right _ _ (by omega)]
    · have : n = 0 := by omega
      subst this
      rw [Int.ediv_eq_zero_of_lt (by omega) (by omega)]
  unfold ixT
  rw [e1]
  dsimp only
  rw [e2]
  apply List.map_congr_left
  intro k hk
  rw [Int.mul_comm]
theorem evl_len {α : Type} [Inhabited α] {c : Int} (hc : 1 ≤ c) (xs : List α) : (evl c xs).length ≤ xs.length := by
  unfold evl
  rw [List.length_map, rg_length]
  have : ((xs.length : Int) + c - 1) / c ≤ xs.length := by
    have h : ((xs.length : Int) + c - 1) / c < xs.length + 1 := by
      apply Int.ediv_lt_of_lt_mul (by omega)
      rw [Int.add_mul, Int.one_mul]
      have := Int.mul_le_mul_of_nonneg_left hc (show 0 ≤ (xs.length : Int) by omega)
      omega
    omega
  omega
theorem evl_map {α β : Type} [Inhabited α] [Inhabited β] {c : Int} (hc : 1 ≤ c) (f : α → β) (xs : List α) : evl c (xs.map f) = (evl c xs).map f := by
  unfold evl
  rw [List.length_map, List.map_map]
  apply List.map_congr_left
  intro k hk
  rw [mem_rg] at hk
  obtain ⟨a, b⟩ := evl_in (n := xs.length) hc hk.1 hk.2
  exact nth_map a b
theorem C3_up {c : Int} {n m : Nat} (hc : 1 ≤ c) (h : n ≤ LIM) (h2 : m ≤ LIM) : C3 none none c n m := ⟨by omega, fun _ => ⟨rfl, rfl⟩, h, h2⟩
@[simp] theorem slice3_up_list {α : Type} [Inhabited α] {f : α → PyData} {xs : List α} {c : Int} (hc : 1 ≤ c) (h : xs.length ≤ LIM) : slice3 none none c (.list (xs.map f)) = some (.list ((evl c xs).map f)) := by
  unfold slice3
  dsimp only
  have := evl_len hc xs
  rw [ixL_up hc, pick_up hc, evl_map hc, if_pos (C3_up hc (by rw [List.length_map]; exact h) (by rw [List.length_map]; omega))]
@[simp] theorem slice3_up_tuple {α : Type} [Inhabited α] {f : α → PyData} {xs : List α} {c : Int} (hc : 1 ≤ c) (h : xs.length ≤ LIM) : slice3 none none c (.tuple (xs.map f)) = some (.tuple ((evl c xs).map f)) := by
  unfold slice3
  dsimp only
  have := evl_len hc xs
  rw [ixT_up hc, pick_up hc, evl_map hc, if_pos (C3_up hc (by rw [List.length_map]; exact h) (by rw [List.length_map]; omega))]
@[simp] theorem slice3_up_str {l : List Nat} {c : Int} (hc : 1 ≤ c) (h : l.length ≤ LIM) : slice3 none none c (.str (mkS l)) = some (.str (mkS (evl c l))) := by
  unfold slice3
  dsimp only
  have := evl_len hc l
  rw [mkS_list, mkS_length, ixS_up hc, pick_up hc, if_pos (C3_up hc h (by omega))]
  rfl
end Pu

set_option Elab.async false
set_option linter.all false
set_option autoImplicit false
set_option maxRecDepth 100000
set_option maxHeartbeats 4000000
namespace Pu
open PySem PySem.Spec PyProof.Rows L2
/-! how often a letter stands in a text -/
theorem sub_letter (l : List Nat) (c i : Nat) (h : i < l.length) : Builtin.Str.subAt (mkS l) (mkS [c]) i = decide (l[i] = c) := by
  unfold Builtin.Str.subAt
  show ((l.toArray.extract i (i + (mkS [c]).length)) == #[c]) = _
  rw [mkS_length]
  have e : l.toArray.extract i (i + [c].length) = #[l[i]] := by
    apply Array.ext'
    simp
    rw [List.drop_eq_getElem_cons h]
    rfl
  rw [e]
  by_cases hc : l[i] = c <;> simp [hc]
theorem occ_count (l : List Nat) (c : Nat) : ∀ (k i : Nat) (f : Array Nat) (free : Nat), i + k = l.length + 1 → free ≤ i → f.size ≤ i →
    (forIn (m := Id) (List.range' i k) (f, free) (StrLaws.occBody (mkS l) (mkS [c]) l.length (l.length + 1))).run.fst.size = f.size + ((l.drop i).filter fun x => decide (x = c)).length
  | 0, i, f, free, h1, h2, h3 => by
    rw [List.drop_eq_nil_of_le (by omega)]
    rfl
  | k + 1, i, f, free, h1, h2, h3 => by
    rw [List.range'_succ, List.forIn_cons]
    unfold StrLaws.occBody
    by_cases hi : i < l.length
    · rw [List.drop_eq_getElem_cons hi, List.filter_cons, sub_letter l c i hi]
      by_cases hc : l[i] = c
      · rw [if_pos ⟨⟨⟨by show f.size < _; omega, h2⟩, by rw [mkS_length]; exact hi⟩, by simpa using hc⟩, if_pos (by simpa using hc)]
        have := occ_count l c k (i + 1) (f.push i) (i + (mkS [c]).length) (by omega) (by rw [mkS_length]; simp) (by rw [Array.size_push]; omega)
        refine Eq.trans this ?_
        rw [Array.size_push, List.length_cons]
        omega
      · rw [if_neg (fun z => hc (by simpa using z.2)), if_neg (by simpa using hc)]
        exact occ_count l c k (i + 1) f free (by omega) (by omega) (by omega)
    · rw [if_neg (fun z => hi (by have := z.1.2; rw [mkS_length] at this; exact this))]
      have := occ_count l c k (i + 1) f free (by omega) (by omega) (by omega)
      refine Eq.trans this ?_
      rw [List.drop_eq_nil_of_le (show l.length ≤ i + 1 by omega), List.drop_eq_nil_of_le (show l.length ≤ i by omega)]
@[simp] theorem countF_letter (l : List Nat) (c : Nat) : countF (.str (mkS l)) (.str (mkS [c])) = some (.int ((l.filter fun x => decide (x = c)).length : Nat)) := by
  show some (PyData.int (Txt.count (mkS l) (mkS [c]))) = _
  have := occ_count l c (l.length + 1) 0 #[] 0 (by omega) (Nat.le_refl 0) (Nat.le_refl 0)
  rw [List.drop_zero] at this
  have e : Txt.count (mkS l) (mkS [c]) = (((l.filter fun x => decide (x = c)).length : Nat) : Int) := by
    unfold Txt.count
    rw [StrLaws.occ_eq, mkS_length, Array.length_toList]
    simp at this ⊢
    exact congrArg Int.ofNat this
  rw [e]
/-! a list made here or there -/
def iteL (c : Option Bool) (a b : Option (List PyData)) : Option (List PyData) := match c with | some true => a | some false => b | none => none
section
variable {S : List (Str × Nat)} {nm : List (Str × NameKind)} {T : Tab}
variable {a b c : Expr} {p : Pos} {ms ns : List Nat} {fc : Sls → Option Bool} {f g : Sls → Option (List PyData)} {ca cb cc : Bool}
instance purIfF [h0 : PurT S nm T c fc cc] [h1 : PurF S nm T a ms f ca] [h2 : PurF S nm T b ns g cb] : PurF S nm T (.IfExp c a b p) (ms ++ ns) (fun env => iteL (fc env) (f env) (g env)) (cc && ca && cb) where
  run hc TB k X G := by
    simp only [Bool.and_eq_true] at hc
    obtain ⟨tc, hcc, qc⟩ := h0.run hc.1.1 TB k X G
    obtain ⟨ta, ha, qa⟩ := h1.run hc.1.2 TB k X G
    obtain ⟨tb, hb, qb⟩ := h2.run hc.2 TB k X G
    refine ⟨_, pe_ifExp hcc ha hb, fun A H0 H σ env d Q E hf q => ?_⟩
    unfold iteL at hf
    split at hf
    · rename_i e
      refine qc A H0 H σ env true _ E e fun H1 g1 => ?_
      rw [if_pos rfl]
      exact qa A H0 H1 σ env d _ (E.up g1) hf fun p ys H2 g2 np hl r => q p ys H2 (g1.trans g2) (g1.fresh p np) hl (r.wide fun a z => ⟨z.1.l, z.2⟩)
    · rename_i e
      refine qc A H0 H σ env false _ E e fun H1 g1 => ?_
      rw [if_neg Bool.false_ne_true]
      exact qb A H0 H1 σ env d _ (E.up g1) hf fun p ys H2 g2 np hl r => q p ys H2 (g1.trans g2) (g1.fresh p np) hl (r.wide fun a z => ⟨z.1.r, z.2⟩)
    · cases hf
end
@[simp] theorem iteL_some (c : Bool) (a b : Option (List PyData)) : iteL (some c) a b = if c = true then a else b := by cases c <;> rfl
@[simp] theorem sumF_intsT (xs : List Int) : sumF [.tuple (xs.map .int)] = some (.int xs.sum) := by
  unfold sumF
  try dsimp only
  rw [asInts_map]
end Pu

set_option Elab.async false
set_option linter.all false
set_option autoImplicit false
set_option maxRecDepth 100000
set_option maxHeartbeats 4000000
namespace Pu
open PySem PySem.Spec PyProof.Rows L2 GxR
/-! items of what is written out -/
@[simp] theorem itemD_2L (x y z : PyData) (xs : List PyData) : itemD (.list (x :: y :: z :: xs)) (.int 2) = some z := by show atI _ _ = _; rw [atI_pos (by omega)]; rfl
@[simp] theorem itemD_3L (x y z w : PyData) (xs : List PyData) : itemD (.list (x :: y :: z :: w :: xs)) (.int 3) = some w := by show atI _ _ = _; rw [atI_pos (by omega)]; rfl
@[simp] theorem itemD_4 (x y z w v : PyData) (xs : List PyData) : itemD (.tuple (x :: y :: z :: w :: v :: xs)) (.int 4) = some v := by show atI _ _ = _; rw [atI_pos (by omega)]; rfl
@[simp] theorem itemD_4L (x y z w v : PyData) (xs : List PyData) : itemD (.list (x :: y :: z :: w :: v :: xs)) (.int 4) = some v := by show atI _ _ = _; rw [atI_pos (by omega)]; rfl
@[simp] theorem nth_one {α : Type} [Inhabited α] (x y : α) (xs : List α) : nth (x :: y :: xs) 1 = y := rfl
@[simp] theorem nth_two {α : Type} [Inhabited α] (x y z : α) (xs : List α) : nth (x :: y :: z :: xs) 2 = z := rfl
@[simp] theorem nth_three {α : Type} [Inhabited α] (x y z w : α) (xs : List α) : nth (x :: y :: z :: w :: xs) 3 = w := rfl
@[simp] theorem nth_four {α : Type} [Inhabited α] (x y z w v : α) (xs : List α) : nth (x :: y :: z :: w :: v :: xs) 4 = v := rfl
@[simp] theorem compL_nil (h : PyData → Option (Option PyData)) : compL h [] = some [] := id rfl
theorem compL_cons (h : PyData → Option (Option PyData)) (d : PyData) (r : List PyData) : compL h (d :: r) = (h d).bind fun o => (compL h r).bind fun l => some (match o with | some x => x :: l | none => l) := by
  rw [compL]
  cases h d with
  | none => rfl
  | some o => cases compL h r <;> cases o <;> rfl
end Pu

set_option Elab.async false
set_option linter.all false
set_option autoImplicit false
set_option maxRecDepth 100000
set_option maxHeartbeats 4000000
namespace Pu
open PySem PySem.Spec PyProof.Rows L2 GxR
/-! where a letter stands in a text -/
def indexF : PyData → PyData → Option PyData
  | .str a, .str b => (match Builtin.Str.occurrences a b 0 a.length 1 with | i :: _ => some (.int (i : Nat)) | [] => none)
  | _, _ => none
instance : MtP "index" "str.index" indexF where
  slot := F.slot_str_index
  ty := F.type_str_index
  str d e r h := by
    unfold indexF at h
    split at h
    · exact ⟨_, rfl⟩
    · cases h
  rule X := by
    intro pins s σ H x xs v us Q I rx rs h
    obtain ⟨y, A, d, e, res, rfl, hA, rd, re, hf, q⟩ := h
    unfold indexF at hf
    split at hf
    · split at hf
      · rename_i i r ho
        cases hf
        cases rd
        cases re
        exact mt_sindex pins s σ H _ _ v us Q I rx rs ⟨_, _, i, r, rfl, rfl, ho, q _ _ (.refl H) (.int _)⟩
      · cases hf
    · cases hf
theorem occ_full (l : List Nat) (c : Nat) (x : Nat) : ∀ (k i : Nat) (free : Nat),
    (forIn (m := Id) (List.range' i k) (#[x], free) (StrLaws.occBody (mkS l) (mkS [c]) l.length 1)).run.fst = #[x]
  | 0, i, free => rfl
  | k + 1, i, free => by
    rw [List.range'_succ, List.forIn_cons]
    unfold StrLaws.occBody
    rw [if_neg (fun z => by have := z.1.1.1; simp at this)]
    exact occ_full l c x k (i + 1) free
theorem occ_first (l : List Nat) (c : Nat) : ∀ (k i : Nat) (free : Nat), i + k = l.length + 1 → free ≤ i → (∀ j, j < i → (h : j < l.length) → l[j] ≠ c) →
    (forIn (m := Id) (List.range' i k) (#[], free) (StrLaws.occBody (mkS l) (mkS [c]) l.length 1)).run.fst.toList = if c ∈ l then [l.idxOf c] else []
  | 0, i, free, h1, h2, h3 => by
    rw [if_neg fun z => by
      obtain ⟨j, hj, e⟩ := List.mem_iff_getElem.mp z
      exact h3 j (by omega) hj e]
    rfl
  | k + 1, i, free, h1, h2, h3 => by
    rw [List.range'_succ, List.forIn_cons]
    unfold StrLaws.occBody
    by_cases hi : i < l.length
    · rw [sub_letter l c i hi]
      by_cases hc : l[i] = c
      · rw [if_pos ⟨⟨⟨by show (0 : Nat) < 1; omega, h2⟩, by rw [mkS_length]; exact hi⟩, by simpa using hc⟩]
        have := occ_full l c i k (i + 1) (i + (mkS [c]).length)
        refine Eq.trans (congrArg Array.toList this) ?_
        rw [if_pos (List.mem_iff_getElem.mpr ⟨i, hi, hc⟩)]
        have e : l.idxOf c = i := by
          unfold List.idxOf
          rw [List.findIdx_eq hi]
          exact ⟨by simpa using hc, fun j hj => by have := h3 j hj (by omega); simpa using this⟩
        rw [e]
      · rw [if_neg (fun z => hc (by simpa using z.2))]
        exact occ_first l c k (i + 1) free (by omega) (by omega) fun j hj h => by
          by_cases q : j = i
          · subst q; exact hc
          · exact h3 j (by omega) h
    · rw [if_neg (fun z => hi (by have := z.1.2; rw [mkS_length] at this; exact this))]
      exact occ_first l c k (i + 1) free (by omega) (by omega) fun j hj h => h3 j (by omega) h
@[simp] theorem indexF_letter {l : List Nat} {c : Nat} (h : c ∈ l) : indexF (.str (mkS l)) (.str (mkS [c])) = some (.int (l.idxOf c : Nat)) := by
  have e : Builtin.Str.occurrences (mkS l) (mkS [c]) 0 (mkS l).length 1 = [l.idxOf c] := by
    rw [StrLaws.occ_eq, mkS_length]
    have := occ_first l c (l.length + 1) 0 0 (by omega) (Nat.le_refl 0) (fun j hj => by omega)
    rw [if_pos h] at this
    exact this
  show (match Builtin.Str.occurrences (mkS l) (mkS [c]) 0 (mkS l).length 1 with | i :: _ => some (PyData.int (i : Nat)) | [] => none) = _
  rw [e]
end Pu

set_option Elab.async false
set_option linter.all false
set_option autoImplicit false
set_option maxRecDepth 100000
set_option maxHeartbeats 4000000
namespace Pu
open PySem PySem.Spec PyProof.Rows L2 GxR
section
variable {S : List (Str × Nat)} {nm : List (Str × NameKind)} {T : Tab} {TB : Addr → Prop} {k : Nat} {X : Cx}
variable {a b c : Expr} {p : Pos} {ms ns : List Nat} {f g : Sls → Option PyData} {ca cb : Bool} {es : List Expr} {fs : Sls → Option (List PyData)} {ce : Bool} {tg : Expr}
/-! ### zip of two lists, of two tuples -/
theorem zipD_get {xs ys : List PyData} {i : Nat} {d : PyData} (h : (zipD xs ys)[i]? = some d) : ∃ x y, xs[i]? = some x ∧ ys[i]? = some y ∧ d = .tuple [x, y] := by
  unfold zipD at h
  rw [List.getElem?_map] at h
  cases e : (xs.zip ys)[i]? with
  | none => rw [e] at h; cases h
  | some q =>
    rw [e] at h
    cases h
    obtain ⟨h1, h2⟩ := List.getElem?_zip_eq_some.mp e
    exact ⟨_, _, h1, h2, rfl⟩
theorem itOk_zip {K : PySem.W.Frag} {W B : Addr → Prop} {H1 : Hp} {a b : Addr} {us vs : List V} {ds es : List PyData} (hW : ∀ b, W b → ∃ o, H1 b = some o ∧ IsOw o) (hB : ∀ a, B a → ¬ W a) (h : LsAt K H1 B a us) (h2 : LsAt K H1 B b vs) (r : Reps K H1 B ds us) (r2 : Reps K H1 B es vs) : ItOk K W B H1 (L2.Itz K a b) (zipD ds es) := by
  intro i Hi s
  have lf : ∀ {a ys}, LsAt K H1 B a ys → SqL K Hi a ys := fun h => by
    rcases h with ⟨ha, h⟩ | h
    · exact .inl (s.rdL (hB _ ha) h)
    · exact LsAt.sql (A := B) (.inr h)
  have q1 := r.stay s hW hB
  have q2 := r2.stay s hW hB
  have hlen : (zipD ds es).length = min ds.length es.length := by unfold zipD; simp
  refine ⟨fun d hd => ?_, fun e => ⟨us, vs, lf h, lf h2, by rw [hlen] at e; rw [e, ← r.length, ← r2.length]; omega⟩⟩
  obtain ⟨x, y, e1, e2, rfl⟩ := zipD_get hd
  obtain ⟨u, u1, u2⟩ := q1.get e1
  obtain ⟨v, v1, v2⟩ := q2.get e2
  refine ⟨⟨us, vs, u, v, lf h, lf h2, u1, v1⟩, fun z H2 yy => ?_⟩
  obtain ⟨T, x0, y0, rfl, hT, rfl, w1, w2⟩ := yy
  have z1 := w1 us (lf h)
  have z2 := w2 vs (lf h2)
  rw [u1] at z1; cases z1
  rw [v1] at z2; cases z2
  exact ⟨.new hT, .tup (.of upd_same) (.cons (u2.up (.new hT)) (.cons (v2.up (.new hT)) .nil))⟩
theorem itOk_zipT {K : PySem.W.Frag} {W B : Addr → Prop} {H1 : Hp} {a b : Addr} {us vs : List V} {ds es : List PyData} (hW : ∀ b, W b → ∃ o, H1 b = some o ∧ IsOw o) (hB : ∀ a, B a → ¬ W a) (h : SqT K H1 a us) (h2 : SqT K H1 b vs) (r : Reps K H1 B ds us) (r2 : Reps K H1 B es vs) : ItOk K W B H1 (RZ.ItzT K a b) (zipD ds es) := by
  intro i Hi s
  have q1 := r.stay s hW hB
  have q2 := r2.stay s hW hB
  have f1 := s.sqT hW h
  have f2 := s.sqT hW h2
  have hlen : (zipD ds es).length = min ds.length es.length := by unfold zipD; simp
  refine ⟨fun d hd => ?_, fun e => ⟨us, vs, f1, f2, by rw [hlen] at e; rw [e, ← r.length, ← r2.length]; omega⟩⟩
  obtain ⟨x, y, e1, e2, rfl⟩ := zipD_get hd
  obtain ⟨u, u1, u2⟩ := q1.get e1
  obtain ⟨v, v1, v2⟩ := q2.get e2
  refine ⟨⟨us, vs, u, v, f1, f2, u1, v1⟩, fun z H2 yy => ?_⟩
  obtain ⟨T, x0, y0, rfl, hT, rfl, w1, w2⟩ := yy
  have z1 := w1 us f1
  have z2 := w2 vs f2
  rw [u1] at z1; cases z1
  rw [v1] at z2; cases z2
  exact ⟨.new hT, .tup (.of upd_same) (.cons (u2.up (.new hT)) (.cons (v2.up (.new hT)) .nil))⟩
def zipV (a : Option (List PyData)) : Option (List PyData) := match a with
  | some [.list xs, .list ys] => some (zipD xs ys)
  | some [.tuple xs, .tuple ys] => some (zipD xs ys)
  | _ => none
instance purZip {pn tpos : Pos} {elts : List Expr} {kk : Nat} [h1 : PurA S nm T [a, b] ms fs ce] : PurI S nm T (.Tuple elts kk tpos) (.Call (.Name "zip" pn) [a, b] [] p) ms (fun env => zipV (fs env)) (ce && bltC nm T "zip" && notStar a && notStar b) where
  run hc TB k X G := by
    simp only [Bool.and_eq_true] at hc
    obtain ⟨⟨⟨hc1, hc2⟩, hc3⟩, hc4⟩ := hc
    obtain ⟨ta, ha, la, qa⟩ := h1.run hc1 TB k X G
    obtain ⟨g1, g2⟩ := G.bl hc2
    refine ⟨_, RZ.pi_zipA g1 g2 ha (star_of hc3) (stars_of (by simp [hc4])), fun env x => rfl, fun A H0 H σ env items W R E hf hW hB q => ?_⟩
    unfold zipV at hf
    try dsimp only at hf
    split at hf
    · rename_i xs ys e
      cases hf
      refine qa A H0 H σ env _ _ E e fun vs H1 g1 r1 => ?_
      cases r1 with
      | cons r1 r2 =>
        cases r2 with
        | cons r2 r3 =>
          cases r3
          cases r1 with
          | lst h2 h3 =>
            cases r2 with
            | lst h4 h5 => exact ⟨_, _, _, _, rfl, .inl ⟨h2.sql, h4.sql, q _ _ g1 (itOk_zip (lists_up hW g1) hB h2 h4 h3 h5)⟩⟩
    · rename_i xs ys e
      cases hf
      refine qa A H0 H σ env _ _ E e fun vs H1 g1 r1 => ?_
      cases r1 with
      | cons r1 r2 =>
        cases r2 with
        | cons r2 r3 =>
          cases r3
          cases r1 with
          | tup h2 h3 =>
            cases r2 with
            | tup h4 h5 => exact ⟨_, _, _, _, rfl, .inr ⟨h2.sqt, h4.sqt, q _ _ g1 (itOk_zipT (lists_up hW g1) hB h2 h4 h3 h5)⟩⟩
    · cases hf
@[simp] theorem zipV_list (xs ys : List PyData) : zipV (some [.list xs, .list ys]) = some (zipD xs ys) := id rfl
@[simp] theorem zipV_tuple (xs ys : List PyData) : zipV (some [.tuple xs, .tuple ys]) = some (zipD xs ys) := id rfl
theorem zipD_map {α β : Type} (f : α → PyData) (g : β → PyData) (xs : List α) (ys : List β) : zipD (xs.map f) (ys.map g) = (xs.zip ys).map fun q => .tuple [f q.1, g q.2] := by
  unfold zipD
  rw [List.zip_map, List.map_map]
  rfl
end
end Pu

set_option Elab.async false
set_option linter.all false
set_option autoImplicit false
set_option maxRecDepth 100000
set_option maxHeartbeats 4000000
namespace Pu
open PySem PySem.Spec PyProof.Rows L2 GxR
/-! ### sets of ints and texts, their members' keys in the table's order -/
def vKey (u : Value) : Key := match u with
  | .int i _ => .inl i
  | .str x _ => .inr x
  | _ => .inl 0
theorem vKey_of {k : Key} {u : Value} (r : RelV (kV k) u) : vKey u = k := by
  cases k with
  | inl i => obtain ⟨t, rfl⟩ := r; rfl
  | inr x => obtain ⟨t, rfl⟩ := r; rfl
theorem scan_of {k : Key} {u : Value} (r : RelV (kV k) u) : u.scannable = true := by
  cases k with
  | inl i => obtain ⟨t, rfl⟩ := r; rfl
  | inr x => obtain ⟨t, rfl⟩ := r; rfl
def KeyE (P : Program) (w : PySem.World) (e : Int × Value) : Prop := ∃ k, RelV (kV k) e.2 ∧ e.1 = (mixKind P w).hash k
def keysOf (l : List (Int × Value)) : List Key := l.map fun e => vKey e.2
structure ZSet (P : Program) (w : PySem.World) (h : Heap) (a : Addr) (o : Obj) (es : Array (Int × Value)) (ep : Nat) (t : SetTable) (ks : List Key) : Prop where
  at_ : h.get? a = some o
  ex : o.ExactSet
  da : o.data = .set es ep t
  good : ∀ e ∈ es.toList, KeyE P w e
  kz : keysOf es.toList = ks
  nd : ks.Nodup
  few : es.size < scanBound
  fits : t.fits es.size = true
  ris : Ris t.place.toList
  led : w.params.followText "set-order" = true ∨ t.led = true
def SetZ (P : Program) (w : PySem.World) (h : Heap) (a : Addr) (ks : List Key) : Prop := ∃ o es ep t, ZSet P w h a o es ep t ks
section
variable {P : Program} {w : PySem.World} {A : Around} {E : Value → Shared → Prop} {s : Shared} {a : Addr} {ks : List Key}
theorem SetZ.keep {h h' : Heap} (z : SetZ P w h a ks) (k : ∀ o, h.get? a = some o → h'.get? a = some o) : SetZ P w h' a ks := by
  obtain ⟨o, es, ep, t, z⟩ := z
  exact ⟨o, es, ep, t, { z with at_ := k o z.at_ }⟩
theorem ZSet.elems {h : Heap} {o : Obj} {es : Array (Int × Value)} {ep : Nat} {t : SetTable} (z : ZSet P w h a o es ep t ks) : ElemsOf (mixKind P w) es.toList := fun e he =>
  let ⟨k, r, q⟩ := z.good e he
  ⟨⟨k, kV_is r, q⟩, scan_of r⟩
theorem is_key {e : Int × Value} (g : KeyE P w e) (k : Key) : (mixKind P w).is k e.2 = true ↔ vKey e.2 = k := by
  obtain ⟨j, r, _⟩ := g
  rw [vKey_of r]
  exact ⟨fun q => (mixKind P w).inj e.2 _ _ (kV_is r) q, fun q => q ▸ kV_is r⟩
theorem ZSet.len {h : Heap} {o : Obj} {es : Array (Int × Value)} {ep : Nat} {t : SetTable} (z : ZSet P w h a o es ep t ks) : es.size = ks.length := by
  rw [← z.kz]; simp [keysOf]
/-- the end of an add: the table with the new member stored, laid anew where it is too full -/
theorem zset_tail {gv : Bool → Sem Unit} (hg : ∀ (b : Bool) (z : Shared) (Q : Unit → Shared → Prop), Q () z → wpAny (model P w) A (gv b) Q E z)
    {o : Obj} {es es1 : Array (Int × Value)} {ep : Nat} {t t1 : SetTable} {js : List Key} (ho : s.heap.get? a = some o) (hx : o.ExactSet) (hd : o.data = .set es ep t)
    (g1 : ∀ e ∈ es1.toList, KeyE P w e) (k1 : keysOf es1.toList = js) (n1 : js.Nodup) (few : es1.size < scanBound) (fit : t1.fits es1.size = true) (ri : Ris t1.place.toList) (le : w.params.followText "set-order" = true ∨ t1.led = true)
    {dm : Bool} {R : Option Bool → Shared → Prop} (hR : ∀ g js', Heap.SameBut a s.heap g → SetZ P w g a js' → js'.Perm js → R (some true) { s with heap := g }) :
    wpAny (model P w) A (do
        storeSet a es1 t1
        (if (!dm && t1.tooFull) = true then (do gv (relayAll t1 es1 (SetTable.grown es1.size)).2.2; storeSet a (relayAll t1 es1 (SetTable.grown es1.size)).1 (relayAll t1 es1 (SetTable.grown es1.size)).2.1; pure (some true)) else pure (some true))) R E s := by
  refine wpAny_bind (wpAny_storeSet_of ho hd ?_ (fits_of_scanBound few))
  have st := store_at (es' := es1) (t' := t1) ho hd
  have sb := Heap.SameBut.update s.heap a (Obj.putSet es1 t1)
  by_cases c : (!dm && t1.tooFull) = true
  · rw [if_pos c]
    have pm := relayAll_perm t1 es1 (SetTable.grown es1.size)
    have f3 := relayAll_fits t1 es1 (SetTable.grown es1.size)
    have r3 := relayAll_ris t1 es1 (SetTable.grown es1.size)
    have l3 := relayAll_led t1 es1 (SetTable.grown es1.size)
    rcases hz : relayAll t1 es1 (SetTable.grown es1.size) with ⟨es2, t2, gave⟩
    rw [hz] at pm f3 r3 l3
    dsimp only at pm f3 r3 l3 ⊢
    have sz : es2.size = es1.size := by have := pm.length_eq; simpa using this
    refine wpAny_bind (hg _ _ _ (wpAny_bind (wpAny_storeSet_of st rfl ?_ (fits_of_scanBound (by rw [sz]; exact few)))))
    have st2 := store_at (es' := es2) (t' := t2) st rfl
    have pk : (keysOf es2.toList).Perm js := by rw [← k1]; exact pm.map _
    refine wpAny_pure (hR _ (keysOf es2.toList) (sb.trans (Heap.SameBut.update _ a _)) ⟨_, es2, _, t2, st2, hx, rfl, fun e he => g1 e (pm.mem_iff.mp he), rfl, pk.nodup_iff.mpr n1, by rw [sz]; exact few, f3, r3, ?_⟩ pk)
    rw [l3]; exact le
  · rw [if_neg c]
    exact wpAny_pure (hR _ js sb ⟨_, es1, _, t1, st, hx, rfl, g1, k1, n1, few, fit, ri, le⟩ (.refl _))
theorem zset_add {k : Key} {u : Value} {Q : Bool → Shared → Prop} (z : SetZ P w s.heap a ks) (r : RelV (kV k) u) (room : ks.length + 1 < scanBound)
    (hQ : ∀ g js b, Heap.SameBut a s.heap g → SetZ P w g a js → (k ∈ ks → js.Perm ks) → (k ∉ ks → js.Perm (k :: ks)) → Q b { s with heap := g }) :
    wpAny (model P w) A (setAddHashed a u ((mixKind P w).hash k)) Q E s := by
  obtain ⟨o, es, ep, t, z⟩ := z
  have key := kV_is (P := P) (w := w) r
  have sc := scan_of r
  have mem : ∀ j, j ∈ ks ↔ ∃ e ∈ es.toList, (mixKind P w).is j e.2 = true := fun j => by
    rw [← z.kz]
    unfold keysOf
    rw [List.mem_map]
    exact ⟨fun ⟨e, h1, h2⟩ => ⟨e, h1, (is_key (z.good e h1) j).mpr h2⟩, fun ⟨e, h1, h2⟩ => ⟨e, h1, (is_key (z.good e h1) j).mp h2⟩⟩
  unfold setAddHashed setAddHashedIn
  refine wpAny_holding (wpAny_bind (wpAny_setState_of z.at_ z.da z.fits ?_))
  dsimp only
  rw [byScan_of sc z.few z.elems, if_pos rfl]
  unfold setAddByScan
  refine wpAny_bind (wpAny_bind (wpAny_rule (wpAny_bind (wpAny_setScan_of key z.at_ z.da z.fits z.elems ?_))))
  rcases hf : List.findIdx? (fun e => (mixKind P w).is k e.2) es.toList with _ | j
  · have nk : k ∉ ks := fun q => by
      obtain ⟨e, h1, h2⟩ := (mem k).mp q
      have := List.findIdx?_eq_none_iff.mp hf e h1
      rw [h2] at this; cases this
    have gw : ∀ (b : Bool) {z : Shared} {Q' : Unit → Shared → Prop}, Q' () z → wpAny (model P w) A (match b with | true => rule "set.scan.the-table-gave-way" | false => pure ()) Q' E z := fun b z Q' q => by
      cases b
      · exact wpAny_pure q
      · exact wpAny_rule q
    have pm := layNew_perm t es ((mixKind P w).hash k) u
    have f1 := layNew_fits t es ((mixKind P w).hash k) u
    have r1 := layNew_ris t es ((mixKind P w).hash k) u z.ris
    have l1 := layNew_led t es ((mixKind P w).hash k) u
    rw [hf]
    dsimp only
    rcases hz : layNew t es ((mixKind P w).hash k) u with ⟨es1, t1, dm, gave⟩
    rw [hz] at pm f1 r1 l1
    dsimp only at pm f1 r1 l1 ⊢
    have pc : es1.toList.Perm (((mixKind P w).hash k, u) :: es.toList) := by rw [Array.toList_push] at pm; exact pm.trans (List.perm_append_singleton _ _)
    have pk : (keysOf es1.toList).Perm (k :: ks) := by
      have := pc.map fun e : Int × Value => vKey e.2
      rw [List.map_cons, vKey_of r] at this
      rw [← z.kz]; exact this
    have g1 : ∀ e ∈ es1.toList, KeyE P w e := fun e he => (List.mem_cons.mp (pc.mem_iff.mp he)).elim (fun q => by rw [q]; exact ⟨k, r, rfl⟩) (z.good e)
    have n1 : (keysOf es1.toList).Nodup := pk.nodup_iff.mpr (List.nodup_cons.mpr ⟨nk, z.nd⟩)
    have sz : es1.size = ks.length + 1 := by have := pk.length_eq; simpa [keysOf] using this
    have few : es1.size < scanBound := by rw [sz]; exact room
    have led : w.params.followText "set-order" = true ∨ t1.led = true := by rw [l1]; exact z.led
    have fin : ∀ g js, Heap.SameBut a s.heap g → SetZ P w g a js → js.Perm (keysOf es1.toList) → Q true { s with heap := g } := fun g js sb q pj => hQ g js true sb q (fun z => absurd z nk) fun _ => pj.trans pk
    refine wpAny_bind (gw _ ?_)
    split
    · refine wpAny_bind ?_
      rw [hashByValue_scannable 8 sc]
      refine wpAny_pure (zset_tail ?_ z.at_ z.ex z.da g1 rfl n1 few ?_ ?_ ?_ ?_)
      · intro b z' Q' q; cases b <;> first | exact wpAny_pure q | exact wpAny_rule q
      · first | (split <;> first | exact f1 | exact SetTable.fits_plain_off f1) | exact f1
      · first | (split <;> exact r1) | exact r1
      · first | (split <;> exact led) | exact led
      · intro g js sb q pj; dsimp only; exact wpAny_pure (fin g js sb q pj)
    · refine wpAny_bind (wpAny_pure ?_)
      rw [if_pos rfl]
      refine zset_tail ?_ z.at_ z.ex z.da g1 rfl n1 few f1 r1 led ?_
      · intro b z' Q' q; cases b <;> first | exact wpAny_pure q | exact wpAny_rule q
      · intro g js sb q pj; dsimp only; exact wpAny_pure (fin g js sb q pj)
  · obtain ⟨hj, pj, _⟩ := List.findIdx?_eq_some_iff_getElem.mp hf
    have hk : k ∈ ks := (mem k).mpr ⟨es.toList[j], List.getElem_mem hj, pj⟩
    rw [hf]
    dsimp only
    exact wpAny_pure (wpAny_pure (hQ s.heap ks false (Heap.SameBut.refl a s.heap) ⟨o, es, ep, t, z⟩ (fun _ => .refl _) fun z => absurd hk z))
structure SetGot (l ks : List Key) : Prop where
  mem : ∀ k, k ∈ ks ↔ k ∈ l
  len : ks.length ≤ l.length
theorem zset_loop {It0 : Addr} {fp wr : List Addr} {G : Array GenState → Array GenState → Prop} {n : Nat} {Pv : Nat → Value → Prop} {St : Nat → Shared → Prop} {R : Result → Shared → Prop}
    (W : WalksS P w A.in1 It0 fp wr G n Pv St) (Z : Addr) (zf : Z ∉ fp) (js : List Key) (hn : n = js.length) (room : js.length + 1 < scanBound) (hv : ∀ i v, Pv i v → ∃ k, js[i]? = some k ∧ RelV (kV k) v) :
    ∀ (m i : Nat) (s : Shared), i + m = n → St i s → (∃ ks, SetZ P w s.heap Z ks ∧ SetGot (js.take i) ks) →
      (∀ s' ks, Moved (Z :: wr) G s s' → SetZ P w s'.heap Z ks → SetGot js ks → R (.ok (.ret .none)) s') →
      codeAny (model P w) A (.builtin "set.update.loop" ⟨[.ref Z, .ref It0], []⟩) R s
  | 0, i, s, e, st, ⟨ks, z, g⟩, hR => by
    have e' : i = n := e
    subst e'
    have zw : Z ∉ wr := fun h => zf (W.sub _ h)
    refine codeAny_builtin F.entry_set_update_loop ?_
    rw [Around.under_plainId F.plain_set_update_loop _]
    show wpAny _ A.in1 (pyNext (.ref It0) >>= fun _ => _) _ _ s
    refine wpAny_bind (W.done s _ _ st fun s' hm => ?_)
    show wpAny _ A.in1 (ret Value.none) _ _ s'
    rw [List.take_of_length_le (by omega)] at g
    exact wpAny_pure (hR s' ks (hm.mono fun b hb => List.mem_cons_of_mem _ hb) (z.keep fun o e => hm.heap Z o zw e) g)
  | m + 1, i, s, e, st, ⟨ks, z, g⟩, hR => by
    have zw : Z ∉ wr := fun h => zf (W.sub _ h)
    have lt : i < n := by omega
    have up : ∀ b ∈ wr, b ∈ Z :: wr := fun b hb => List.mem_cons_of_mem _ hb
    refine codeAny_builtin F.entry_set_update_loop ?_
    rw [Around.under_plainId F.plain_set_update_loop _]
    show wpAny _ A.in1 (pyNext (.ref It0) >>= fun _ => _) _ _ s
    refine wpAny_bind (W.item i s _ _ lt st fun v s' hP st' hm => ?_)
    obtain ⟨k, ek, rk⟩ := hv i v hP
    have z' : SetZ P w s'.heap Z ks := z.keep fun o e => hm.heap Z o zw e
    show wpAny _ A.in1 (holding [v] (setAdd Z v) >>= fun _ => _) _ _ s'
    refine wpAny_bind (wpAny_holding ?_)
    unfold setAdd
    refine wpAny_holding (wpAny_bind ((mixKind P w).pyHash (k := k) (kV_is rk) ?_))
    have kl : ks.length ≤ i := by have := g.len; rw [List.length_take] at this; omega
    have tk : js.take (i + 1) = js.take i ++ [k] := by rw [List.take_add_one, ek]; rfl
    refine zset_add (s := { s' with toks := s'.toks + 1 }) z' rk (by omega) fun h js' b sb z2 p1 p2 => ?_
    have g2 : SetGot (js.take (i + 1)) js' := by
      rw [tk]
      by_cases q : k ∈ ks
      · have p := p1 q
        exact ⟨fun x => by
          rw [p.mem_iff, g.mem, List.mem_append, List.mem_singleton]
          exact ⟨.inl, fun y => y.elim id fun y => y ▸ (g.mem k).mp q⟩, by rw [p.length_eq, List.length_append]; have := g.len; omega⟩
      · have p := p2 q
        exact ⟨fun x => by
          rw [p.mem_iff, List.mem_cons, g.mem, List.mem_append, List.mem_singleton]
          exact Or.comm, by rw [p.length_eq, List.length_append, List.length_cons]; have := g.len; simp; omega⟩
    refine wpAny_pure ⟨plainId_quiet F.plain_set_update_loop _, zset_loop W Z zf js hn room hv m (i + 1) _ (by omega) (W.frame _ s' _ _ st' (Nat.le_succ _) fun b hb o e => ?_) ⟨js', z2, g2⟩ fun s'' k2 m2 z3 g3 => ?_⟩
    · rw [sb.2 b (fun h : b = Z => zf (by rw [← h]; exact hb))]; exact e
    · refine hR s'' k2 (Moved.trans W.gtrans ((hm.mono up).then_heap (Nat.le_succ _) fun b o hb e => ?_) m2) z3 g3
      rw [sb.2 b (fun h : b = Z => hb (by rw [h]; exact List.mem_cons_self))]; exact e
theorem zset_new {h : Heap} (ho : h.get? a = some { cls := .type "set", dict := none, data := .set #[] 0 (.fresh 0 0 (!w.params.followText "set-order")) }) : SetZ P w h a [] :=
  ⟨_, #[], 0, _, { at_ := ho, ex := ⟨rfl, rfl, rfl⟩, da := rfl, good := fun e he => by simp at he, kz := rfl, nd := List.nodup_nil, few := by decide, fits := by rfl, ris := List.Pairwise.nil, led := by cases hq : w.params.followText "set-order" <;> simp [SetTable.fresh] }⟩
end
section
variable {P : Program} {w : PySem.World} {A : Around} {E : Value → Shared → Prop} {s : Shared}
abbrev newSet (w : PySem.World) : Obj := { cls := .type "set", dict := none, data := .set #[] 0 (.fresh 0 0 (!w.params.followText "set-order")) }
set_option maxHeartbeats 8000000 in
theorem call_setL {l : Addr} {items : Array Value} (js : List Key) {Q : Value → Shared → Prop} (hh : A.handled = none) (hl : s.heap.IsList l items) (hi : ∀ (i : Nat) (v : Value), items[i]? = some v → ∃ k, js[i]? = some k ∧ RelV (kV k) v) (hz : items.size = js.length) (room : js.length + 1 < scanBound)
    (h : ∀ (h' : Heap) (tk : Nat) ks, SetZ P w h' s.heap.objs.size ks → SetGot js ks → (∀ b o, s.heap.get? b = some o → h'.get? b = some o) → Q (.ref s.heap.objs.size) { s with heap := h', toks := tk }) :
    wpAny (model P w) A (call (.type "set") [.ref l]) Q E s := by
  obtain ⟨c, tl, hmro⟩ := F.called_set.mro
  have mk := F.called_set.made; have su := F.called_set.sub
  refine wpAny_call (codeAny_of_tree ?_)
  show wpAny _ _ (callAny (.type "set") _) _ _ _
  refine wpAny_pure ⟨Code.quiet_builtin _ (by decide +kernel), codeAny_builtin F.entry_type_call ?_⟩
  rw [Around.under_plain (weight_type_call_type "set" [.ref l] []) rfl]
  have t1 := F.called_set.notType; have t2 := F.called_set.canCreate; have t3 := F.typeCall_set_1 (.ref l)
  repeat (any_goals (first | assumption | wp_step))
  refine codeAny_mono (code_set_led1 (.ref l) (E := E) (Q₁ := fun obj s1 => obj = .ref s.heap.objs.size ∧ s1 = { s with heap := s.heap.push (newSet w) }) ⟨rfl, rfl⟩) fun r s1 hr => ?_
  rcases r with e | fl
  · exact hr
  cases fl with
  | ret obj =>
    obtain ⟨rfl, rfl⟩ := hr
    have hS : (s.heap.push (newSet w)).get? s.heap.objs.size = some (newSet w) := Heap.get?_push_size _ rfl
    have hT : Shared.TypeIs { s with heap := s.heap.push (newSet w) } (.ref s.heap.objs.size) "set" := ⟨_, hS, rfl⟩
    have u1 := F.called_set.init.lookup; have u2 := F.called_set.init.bind (.ref s.heap.objs.size)
    repeat (any_goals (first | assumption | wp_step))
    refine codeAny_mono (codeAny_call_builtin (R := wants (fun r s2 => r = .none ∧ ∃ h' tk ks, s2 = { s with heap := h', toks := tk } ∧ SetZ P w h' s.heap.objs.size ks ∧ SetGot js ks ∧
        (∀ b o, s.heap.get? b = some o → h'.get? b = some o)) E) F.called_set.init.plain F.entry_set_init (check_set_init_1 hT ?_)) fun r2 s2 hr2 => ?_
    · obtain ⟨ol, hol, hcl, nl, hdl⟩ := hl
      obtain ⟨ocls, odict, odata, oslots⟩ := ol
      simp only at hcl hdl
      subst hcl; subst hdl
      have hol' : (s.heap.push (newSet w)).get? l = some { cls := .type "list", dict := odict, data := .seq items nl, slots := oslots } := Heap.get?_push_of_some _ hol
      have v1 := F.sub_list_set; have v2 := F.sub_list_frozenset
      have v3 : (Value.type "list" == Value.type "dict") = false := by decide
      have hl1 : (s.heap.push (newSet w)).IsList l items := ⟨_, hol', rfl, nl, rfl⟩
      unfold Builtin.«set.__init__» noKeywords Builtin.Frozenset.updateFrom
      generalize hPI : pyIter = PI
      wp_walk
      subst hPI
      refine wpAny_pyIter_list hl1 (wpAny_bind (wpAny_runValue ?_))
      have lS : l < s.heap.objs.size := Heap.lt_size hol
      have hh3 : A.in1.in1.in1.handled = none := by simp [hh]
      have z1 : (s.heap.push (newSet w)).objs.size = s.heap.objs.size + 1 := Heap.size_push ..
      have ne : l ≠ (s.heap.push (newSet w)).objs.size := by
        rw [z1]; exact Nat.ne_of_lt (Nat.lt_succ_of_lt lS)
      have nf : s.heap.objs.size ∉ [(s.heap.push (newSet w)).objs.size, l] := by
        rw [z1]; simp only [List.mem_cons, List.not_mem_nil, or_false, not_or]
        exact ⟨Nat.ne_of_lt (Nat.lt_succ_self _), Nat.ne_of_gt lS⟩
      refine zset_loop ((Walks.list hh3 _ l ne items).toS) s.heap.objs.size nf js hz room hi items.size 0 _ (by omega) ⟨⟨_, Heap.get?_push_size _ rfl, rfl, rfl⟩, (hl1.push _)⟩ ?hS0 ?hR
      case hS0 => exact ⟨[], zset_new (Heap.get?_push_of_some _ hS), fun k => by simp, Nat.le_refl _⟩
      case hR =>
        intro s' ks hm z g
        obtain ⟨h', g2, d', tk', os'⟩ := s'
        have eg : g2 = s.gens := hm.gens
        have ed : d' = s.drawn := hm.drawn
        have eo : os' = s.os := hm.os
        subst eg; subst ed; subst eo
        show wpAny _ _ _ _ _ _
        refine wpAny_pure ?_
        show wpAny _ _ (ret Value.none) _ _ _
        refine wpAny_pure ⟨rfl, h', tk', ks, rfl, z, g, fun b o e => ?_⟩
        have hb := Heap.lt_size e
        refine hm.heap b o ?_ (Heap.get?_push_of_some _ (Heap.get?_push_of_some _ e))
        rw [z1]
        simp only [List.mem_cons, List.not_mem_nil, or_false, not_or]
        exact ⟨Nat.ne_of_lt hb, Nat.ne_of_lt (Nat.lt_succ_of_lt hb)⟩
    · rcases r2 with e | fl2
      · exact hr2
      cases fl2 with
      | ret r =>
        obtain ⟨rfl, h', tk, ks, rfl, z, g, hk⟩ := hr2
        repeat (any_goals (first | assumption | wp_step))
        exact h _ _ _ z g hk
      | _ => exact hr2.elim
  | _ => exact hr.elim
set_option maxHeartbeats 8000000 in
theorem call_setT {l : Addr} {items : Array Value} (js : List Key) {Q : Value → Shared → Prop} (hh : A.handled = none) (hl : s.heap.IsTuple l items) (hi : ∀ (i : Nat) (v : Value), items[i]? = some v → ∃ k, js[i]? = some k ∧ RelV (kV k) v) (hz : items.size = js.length) (room : js.length + 1 < scanBound)
    (h : ∀ (h' : Heap) (tk : Nat) ks, SetZ P w h' s.heap.objs.size ks → SetGot js ks → (∀ b o, s.heap.get? b = some o → h'.get? b = some o) → Q (.ref s.heap.objs.size) { s with heap := h', toks := tk }) :
    wpAny (model P w) A (call (.type "set") [.ref l]) Q E s := by
  obtain ⟨c, tl, hmro⟩ := F.called_set.mro
  have mk := F.called_set.made; have su := F.called_set.sub
  refine wpAny_call (codeAny_of_tree ?_)
  show wpAny _ _ (callAny (.type "set") _) _ _ _
  refine wpAny_pure ⟨Code.quiet_builtin _ (by decide +kernel), codeAny_builtin F.entry_type_call ?_⟩
  rw [Around.under_plain (weight_type_call_type "set" [.ref l] []) rfl]
  have t1 := F.called_set.notType; have t2 := F.called_set.canCreate; have t3 := F.typeCall_set_1 (.ref l)
  repeat (any_goals (first | assumption | wp_step))
  refine codeAny_mono (code_set_led1 (.ref l) (E := E) (Q₁ := fun obj s1 => obj = .ref s.heap.objs.size ∧ s1 = { s with heap := s.heap.push (newSet w) }) ⟨rfl, rfl⟩) fun r s1 hr => ?_
  rcases r with e | fl
  · exact hr
  cases fl with
  | ret obj =>
    obtain ⟨rfl, rfl⟩ := hr
    have hS : (s.heap.push (newSet w)).get? s.heap.objs.size = some (newSet w) := Heap.get?_push_size _ rfl
    have hT : Shared.TypeIs { s with heap := s.heap.push (newSet w) } (.ref s.heap.objs.size) "set" := ⟨_, hS, rfl⟩
    have u1 := F.called_set.init.lookup; have u2 := F.called_set.init.bind (.ref s.heap.objs.size)
    repeat (any_goals (first | assumption | wp_step))
    refine codeAny_mono (codeAny_call_builtin (R := wants (fun r s2 => r = .none ∧ ∃ h' tk ks, s2 = { s with heap := h', toks := tk } ∧ SetZ P w h' s.heap.objs.size ks ∧ SetGot js ks ∧
        (∀ b o, s.heap.get? b = some o → h'.get? b = some o)) E) F.called_set.init.plain F.entry_set_init (check_set_init_1 hT ?_)) fun r2 s2 hr2 => ?_
    · obtain ⟨ol, hol, hcl, nl, hdl⟩ := hl
      obtain ⟨ocls, odict, odata, oslots⟩ := ol
      simp only at hcl hdl
      subst hcl; subst hdl
      have hol' : (s.heap.push (newSet w)).get? l = some { cls := .type "tuple", dict := odict, data := .seq items nl, slots := oslots } := Heap.get?_push_of_some _ hol
      have v1 := F.sub_tuple_set; have v2 := F.sub_tuple_frozenset
      have v3 : (Value.type "tuple" == Value.type "dict") = false := by decide
      have hl1 : (s.heap.push (newSet w)).IsTuple l items := ⟨_, hol', rfl, nl, rfl⟩
      unfold Builtin.«set.__init__» noKeywords Builtin.Frozenset.updateFrom
      generalize hPI : pyIter = PI
      wp_walk
      subst hPI
      refine wpAny_pyIter_tuple hl1 (wpAny_bind (wpAny_runValue ?_))
      have lS : l < s.heap.objs.size := Heap.lt_size hol
      have hh3 : A.in1.in1.in1.handled = none := by simp [hh]
      have z1 : (s.heap.push (newSet w)).objs.size = s.heap.objs.size + 1 := Heap.size_push ..
      have ne : l ≠ (s.heap.push (newSet w)).objs.size := by
        rw [z1]; exact Nat.ne_of_lt (Nat.lt_succ_of_lt lS)
      have nf : s.heap.objs.size ∉ [(s.heap.push (newSet w)).objs.size, l] := by
        rw [z1]; simp only [List.mem_cons, List.not_mem_nil, or_false, not_or]
        exact ⟨Nat.ne_of_lt (Nat.lt_succ_self _), Nat.ne_of_gt lS⟩
      refine zset_loop ((Walks.tuple hh3 _ l ne items).toS) s.heap.objs.size nf js hz room hi items.size 0 _ (by omega) ⟨⟨_, Heap.get?_push_size _ rfl, rfl, rfl⟩, (hl1.push _)⟩ ?hS0 ?hR
      case hS0 => exact ⟨[], zset_new (Heap.get?_push_of_some _ hS), fun k => by simp, Nat.le_refl _⟩
      case hR =>
        intro s' ks hm z g
        obtain ⟨h', g2, d', tk', os'⟩ := s'
        have eg : g2 = s.gens := hm.gens
        have ed : d' = s.drawn := hm.drawn
        have eo : os' = s.os := hm.os
        subst eg; subst ed; subst eo
        show wpAny _ _ _ _ _ _
        refine wpAny_pure ?_
        show wpAny _ _ (ret Value.none) _ _ _
        refine wpAny_pure ⟨rfl, h', tk', ks, rfl, z, g, fun b o e => ?_⟩
        have hb := Heap.lt_size e
        refine hm.heap b o ?_ (Heap.get?_push_of_some _ (Heap.get?_push_of_some _ e))
        rw [z1]
        simp only [List.mem_cons, List.not_mem_nil, or_false, not_or]
        exact ⟨Nat.ne_of_lt hb, Nat.ne_of_lt (Nat.lt_succ_of_lt hb)⟩
    · rcases r2 with e | fl2
      · exact hr2
      cases fl2 with
      | ret r =>
        obtain ⟨rfl, h', tk, ks, rfl, z, g, hk⟩ := hr2
        repeat (any_goals (first | assumption | wp_step))
        exact h _ _ _ z g hk
      | _ => exact hr2.elim
  | _ => exact hr.elim
end
end Pu

set_option Elab.async false
set_option linter.all false
set_option autoImplicit false
set_option maxRecDepth 100000
set_option maxHeartbeats 4000000
namespace Pu
open PySem PySem.Spec PyProof.Rows L2 GxR
/-! ### numbers, texts and rows sorted, each once -/
theorem nodup_dups {α : Type} [BEq α] [LawfulBEq α] : ∀ (n : Nat) (l : List α), l.length ≤ n → l.eraseDups.Nodup
  | _, [], _ => by rw [List.eraseDups_nil]; exact List.nodup_nil
  | 0, _ :: _, h => by simp at h
  | n + 1, a :: l, h => by
    rw [List.eraseDups_cons, List.nodup_cons]
    refine ⟨fun z => ?_, nodup_dups n _ (Nat.le_trans (List.length_filter_le _ _) (by simpa using h))⟩
    rw [List.mem_eraseDups, List.mem_filter] at z
    simp at z
theorem nodup_eraseDups {α : Type} [BEq α] [LawfulBEq α] (l : List α) : l.eraseDups.Nodup := nodup_dups l.length l (Nat.le_refl _)
/-- an order on what data stand for -/
class Ord1 (α : Type) where
  le : α → α → Bool
  dec : DecidableEq α
  trans : ∀ a b c, le a b = true → le b c = true → le a c = true
  total : ∀ a b, (le a b || le b a) = true
  anti : ∀ a b, le a b = true → le b a = true → a = b
  f : α → PyData
  key : ∀ a b, leD (f a) (f b) = le a b
instance (α : Type) [Ord1 α] : DecidableEq α := Ord1.dec
def srtU {α : Type} [Ord1 α] (xs : List α) : List α := xs.eraseDups.mergeSort Ord1.le
section
variable {α : Type} [Ord1 α]
@[simp] theorem mem_srtU {x : α} {xs : List α} : x ∈ srtU xs ↔ x ∈ xs := by unfold srtU; rw [List.mem_mergeSort, List.mem_eraseDups]
theorem srtU_nodup (xs : List α) : (srtU xs).Nodup := (List.mergeSort_perm _ _).nodup_iff.mpr (nodup_eraseDups xs)
theorem srtU_sorted (xs : List α) : (srtU xs).Pairwise fun a b => Ord1.le a b = true := List.pairwise_mergeSort Ord1.trans Ord1.total _
theorem srtU_of {L xs : List α} (nd : L.Nodup) (hm : ∀ x, x ∈ L ↔ x ∈ xs) (hs : L.Pairwise fun a b => Ord1.le a b = true) : srtU xs = L :=
  List.Perm.eq_of_pairwise (fun a b _ _ => Ord1.anti a b) (srtU_sorted xs) hs ((List.perm_ext_iff_of_nodup (srtU_nodup xs) nd).mpr fun x => by rw [mem_srtU, hm])
theorem srtU_len (xs : List α) : (srtU xs).length ≤ xs.length := by
  unfold srtU
  rw [List.length_mergeSort]
  have h := (nodup_eraseDups xs)
  exact List.Nodup.length_le_of_subset h fun x hx => List.mem_eraseDups.mp hx
theorem srtU_length {L xs : List α} (nd : L.Nodup) (hm : ∀ x, x ∈ L ↔ x ∈ xs) : L.length = (srtU xs).length := ((List.perm_ext_iff_of_nodup nd (srtU_nodup xs)).mpr fun x => by rw [mem_srtU, hm]).length_eq
theorem srt_perm {L M : List α} (p : L.Perm M) : L.mergeSort Ord1.le = M.mergeSort Ord1.le :=
  List.Perm.eq_of_pairwise (fun a b _ _ => Ord1.anti a b) (List.pairwise_mergeSort Ord1.trans Ord1.total _) (List.pairwise_mergeSort Ord1.trans Ord1.total _) ((List.mergeSort_perm _ _).trans (p.trans (List.mergeSort_perm _ _).symm))
theorem perm_pre {β γ : Type} {g : β → γ} {bs cs : List γ} (p : bs.Perm cs) : ∀ {L : List β}, cs = L.map g → ∃ M : List β, M.Perm L ∧ bs = M.map g := by
  induction p with
  | nil =>
    intro L e
    cases L with
    | nil => exact ⟨[], .refl _, rfl⟩
    | cons _ _ => cases e
  | cons x _ ih =>
    intro L e
    cases L with
    | nil => cases e
    | cons y L =>
      rw [List.map_cons] at e
      injection e with e1 e2
      obtain ⟨M, h1, h2⟩ := ih e2
      exact ⟨y :: M, h1.cons _, by rw [List.map_cons, e1, h2]⟩
  | swap x y l =>
    intro L e
    cases L with
    | nil => cases e
    | cons a L =>
      cases L with
      | nil => cases e
      | cons b L =>
        rw [List.map_cons, List.map_cons] at e
        injection e with e1 e2
        injection e2 with e2 e3
        exact ⟨b :: a :: L, List.Perm.swap _ _ _, by rw [List.map_cons, List.map_cons, e1, e2, e3]⟩
  | trans _ _ ih1 ih2 =>
    intro L e
    obtain ⟨M, h1, h2⟩ := ih2 e
    obtain ⟨N, h3, h4⟩ := ih1 h2
    exact ⟨N, h3.trans h1, h4⟩
theorem srt_bs {bs bs0 : List (PyData × V)} {L xs : List α} (p : bs.Perm bs0) (e0 : bs0.map (·.1) = L.map Ord1.f) (nd : L.Nodup) (hm : ∀ x, x ∈ L ↔ x ∈ xs) :
    (bs.mergeSort (PySem.W.dataLe false fun b : PyData × V => b.1)).map (·.1) = (srtU xs).map Ord1.f := by
  have p1 : (bs.map (·.1)).Perm (L.map Ord1.f) := by rw [← e0]; exact p.map _
  obtain ⟨M, h1, h2⟩ := perm_pre p1 rfl
  have e1 : (bs.mergeSort (PySem.W.dataLe false fun b : PyData × V => b.1)).map (·.1) = (bs.map (·.1)).mergeSort leD := List.map_mergeSort fun x _ y _ => rfl
  have e2 : (M.mergeSort Ord1.le).map Ord1.f = (M.map Ord1.f).mergeSort leD := List.map_mergeSort fun x _ y _ => (Ord1.key x y).symm
  rw [e1, h2, ← e2]
  have pm : M.Perm xs.eraseDups := (List.perm_ext_iff_of_nodup (h1.nodup_iff.mpr nd) (nodup_eraseDups xs)).mpr fun x => by rw [h1.mem_iff, hm, List.mem_eraseDups]
  rw [srt_perm pm]
  rfl
end
theorem leD_rowT (a b : List Int) : leD (.tuple (a.map .int)) (.tuple (b.map .int)) = decide (a ≤ b) := by
  have h := congrFun (congrFun (PySem.W.dataLe_rows (fun n : List Int => n)) a) b
  rw [← h]
  rfl
instance ordInt : Ord1 Int where
  le a b := decide (a ≤ b)
  dec := inferInstance
  trans a b c h1 h2 := by simp at *; omega
  total a b := by simp; omega
  anti a b h1 h2 := by simp at *; omega
  f := .int
  key := leD_int
instance ordTxt : Ord1 (List Nat) where
  le a b := decide (a ≤ b)
  dec := inferInstance
  trans a b c h1 h2 := by simp at *; exact List.le_trans h1 h2
  total a b := by simp; exact List.le_total a b
  anti a b h1 h2 := by simp at *; exact List.le_antisymm h1 h2
  f l := .str (mkS l)
  key a b := by rw [leD_str]; simp
instance ordRow : Ord1 (List Int) where
  le a b := decide (a ≤ b)
  dec := inferInstance
  trans a b c h1 h2 := by simp at *; exact List.le_trans h1 h2
  total a b := by simp; exact List.le_total a b
  anti a b h1 h2 := by simp at *; exact List.le_antisymm h1 h2
  f l := .tuple (l.map .int)
  key := leD_rowT
end Pu

set_option Elab.async false
set_option linter.all false
set_option autoImplicit false
set_option maxRecDepth 100000
set_option maxHeartbeats 4000000
namespace Pu
open PySem PySem.Spec PyProof.Rows L2 GxR
/-! ### set(xs), sorted(set(xs)), len(set(xs)) -/
def SetKO (P : Program) (w : PySem.World) (a : Addr) (ks : List Key) : HO := .ext fun h => SetZ P w h a ks
theorem setKO_new {w : PySem.World} {P : Program} {H : Hp} {h : Heap} {a : Addr} {ks : List Key} (z : SetZ P w h a ks) : ObjOk P w H h a (SetKO P w a ks) := by
  have ⟨o, _, _, _, q⟩ := z
  exact ⟨z, ⟨o, q.at_⟩, fun h1 h2 p k => SetZ.keep p k⟩
theorem rep_key {K : PySem.W.Frag} {H : Hp} {A : Addr → Prop} (k : Key) : Rep K H A (kD k) (kV k) := by
  cases k with
  | inl i => exact .int i
  | inr x => exact .str x
theorem reps_keys {K : PySem.W.Frag} {H : Hp} {A : Addr → Prop} : ∀ {ks : List Key} {ys : List V}, Reps K H A (ks.map kD) ys → ys = ks.map kV
  | [], _, .nil => rfl
  | .inl i :: ks, _, .cons (.int _) r => by rw [reps_keys r]; rfl
  | .inr x :: ks, _, .cons (.str _) r => by rw [reps_keys r]; rfl
theorem vals_key {ks : List Key} {us : List Value} (r : Vals (ks.map kV) us) : ∀ (i : Nat) (v : Value), us.toArray[i]? = some v → ∃ k, ks[i]? = some k ∧ RelV (kV k) v := fun i v h => by
  have h2 : us[i]? = some v := by simpa using h
  have hl := r.length
  have hi : i < us.length := (List.getElem?_eq_some_iff.mp h2).1
  have hk : i < ks.length := by rw [List.length_map] at hl; omega
  obtain ⟨u, hu, ru⟩ := r.get (i := i) (x := kV ks[i]) (by rw [List.getElem?_map, List.getElem?_eq_getElem hk]; rfl)
  rw [h2] at hu; cases hu
  exact ⟨_, List.getElem?_eq_getElem hk, ru⟩
section
variable {X : Cx}
/-- set(xs): xs a list or a tuple of ints and texts, or a list of rows of ints -/
def rSetX (K : PySem.W.Frag) (P : Program) (w : PySem.World) : List V → Hp → VK → Prop := fun xs H Q =>
  (∃ (A : Addr → Prop) (v : V) (js : List Key), xs = [v] ∧ (Rep K H A (.list (js.map kD)) v ∨ Rep K H A (.tuple (js.map kD)) v) ∧ js.length + 1 < scanBound ∧ ∀ a ks, H a = none → SetGot js ks → ks.Nodup → Q (.ref a) (upd H a (SetKO P w a ks)))
  ∨ ∃ (l : Addr) (ks : List (Addr × List Int)), xs = [V.ref l] ∧ SqL K H l (ks.map fun p => V.ref p.1) ∧ (∀ p ∈ ks, TpT H p.1 (p.2.map V.int)) ∧ ks.length < 64 ∧
    ∀ (a : Addr) (L : List (Addr × List Int)), H a = none → (∀ p ∈ L, p ∈ ks) → (∀ p ∈ ks, p.2 ∈ L.map (·.2)) → (L.map (·.2)).Nodup → Q (.ref a) (upd H a (SetTO P w a L))
theorem cr_setX {k : Nat} (hc : X.calm = true) (hr : Room k X.A) : CallR X (.type "set") (rSetX X.K X.prog X.w) := by
  intro pins s σ H xs us Q I r h
  have hn : H s.heap.objs.size = none := I.hok.fresh (Nat.le_refl _)
  rcases h with ⟨A, v, js, rfl, rd, room, q⟩ | h
  · rcases rd with rd | rd
    · cases rd with
      | lst h2 h3 =>
        rw [Vals.ref1 r]
        obtain ⟨its, rv, pl, hz⟩ := I.list h2.sql
        rw [reps_keys h3] at rv
        refine call_setL js (I.ok.hd hc) pl.isList (vals_key rv) (by rw [List.size_toArray, ← rv.length, List.length_map]) room fun h' tk ks z g kp => ?_
        have ⟨_, _, _, _, z0⟩ := z
        exact ⟨.ref _, upd H s.heap.objs.size (SetKO X.prog X.w s.heap.objs.size ks), I.laid (t' := tk) kp (Nat.le_refl _) (setKO_new z), rfl, q _ ks hn g z0.nd⟩
    · cases rd with
      | tup h2 h3 =>
        rw [Vals.ref1 r]
        obtain ⟨its, rv, pl, hz⟩ := I.tuple h2.sqt
        rw [reps_keys h3] at rv
        refine call_setT js (I.ok.hd hc) pl (vals_key rv) (by rw [List.size_toArray, ← rv.length, List.length_map]) room fun h' tk ks z g kp => ?_
        have ⟨_, _, _, _, z0⟩ := z
        exact ⟨.ref _, upd H s.heap.objs.size (SetKO X.prog X.w s.heap.objs.size ks), I.laid (t' := tk) kp (Nat.le_refl _) (setKO_new z), rfl, q _ ks hn g z0.nd⟩
  · have := hr.un
    obtain ⟨l, ks, rfl, hl, hk, hf, q⟩ := h
    rw [Vals.ref1 r]
    obtain ⟨its, rv, pl, hz⟩ := I.list hl
    refine call_set_tups (P := X.prog) (w := X.w) ks (I.ok.hd hc) pl.isList (by simpa using refs_of_vals rv) (fun p hp => I.isT (hk p hp).sqt) hf (by omega) fun h' tk L es ep t R g kp => ?_
    exact ⟨.ref _, upd H s.heap.objs.size (SetTO X.prog X.w s.heap.objs.size L), I.laid (t' := tk) kp (Nat.le_refl _) (setTO_new R.t0), rfl, q _ L hn (fun p hp => List.mem_of_mem_take (g.sub p hp)) (fun p hp => g.all p (by rw [List.take_length]; exact hp)) R.nd⟩
/-- sorted(set) -/
abbrev Src (K : PySem.W.Frag) (P : Program) (w : PySem.World) (H : Hp) (v : V) (bs : List (PyData × V)) : Prop :=
  (∃ (a : Addr) (ks : List Key), v = .ref a ∧ H a = some (SetKO P w a ks) ∧ bs = ks.map fun k => (kD k, kV k)) ∨
  (∃ (a : Addr) (L : List (Addr × List Int)), v = .ref a ∧ H a = some (SetTO P w a L) ∧ (∀ p ∈ L, TpT H p.1 (p.2.map V.int)) ∧ bs = L.map fun p => (.tuple (p.2.map .int), V.ref p.1))
theorem src_rep {K : PySem.W.Frag} {P : Program} {w : PySem.World} {H : Hp} {A : Addr → Prop} {v : V} {bs : List (PyData × V)} (h : Src K P w H v bs) : ∀ b ∈ bs, Rep K H A b.1 b.2 := by
  rcases h with ⟨a, ks, _, _, rfl⟩ | ⟨a, L, _, _, ht, rfl⟩
  · intro b hb
    obtain ⟨k, _, rfl⟩ := List.mem_map.mp hb
    exact rep_key k
  · intro b hb
    obtain ⟨p, hp, rfl⟩ := List.mem_map.mp hb
    exact .tup (ht p hp) (Reps.ints p.2)
def rSortX (K : PySem.W.Frag) (P : Program) (w : PySem.World) : List V → Hp → VK → Prop := fun vs H Q => ∃ (v : V) (bs0 : List (PyData × V)), vs = [v] ∧ Src K P w H v bs0 ∧ SoC (bs0.map (·.1)) ∧ bs0.length ≤ sizeLine ∧
  ∀ (bs : List (PyData × V)) (p : Addr), H p = none → bs.Perm bs0 → Q (.ref p) (upd H p (.lst ((bs.mergeSort (PySem.W.dataLe false fun b : PyData × V => b.1)).map (·.2))))
theorem call_sortX {k : Nat} (hc : X.calm = true) (hr : Room k X.A) : CallR X (.builtin "sorted") (rSortX X.K X.prog X.w) := by
  intro pins s σ H vs us Q I r h
  obtain ⟨v, bs0, rfl, src, so, hL, q⟩ := h
  have hun := hr.un
  have src0 := src
  -- the set's values, and how they are collected
  have C : ∃ (a : Addr) (vs0 : List Value), us = [.ref a] ∧ PySem.W.EachIs (fun u (b : PyData × V) => RelV b.2 u) vs0 bs0 ∧ ∀ (E : Value → Shared → Prop) (Q' : List Value → Shared → Prop), (∀ s' out, (∀ b o, s.heap.get? b = some o → s'.heap.get? b = some o) → s.heap.objs.size ≤ s'.heap.objs.size → s'.gens = s.gens → s'.os = s.os → out.Perm vs0 → Q' out s') → wpAny (model X.prog X.w) X.A.in1 (collect (.ref a)) Q' E s := by
    rcases src with ⟨a, ks, rfl, ha, rfl⟩ | ⟨a, L, rfl, ha, ht, rfl⟩
    · obtain ⟨o, es, ep, t, z⟩ := (show SetZ X.prog X.w s.heap a ks from (I.hok a _ ha).1)
      refine ⟨a, es.toList.map (·.2), Vals.ref1 r, ?_, fun E Q' hq => collect_set (A := X.A.in1) (I.ok.hd hc) ⟨o, z.at_, z.ex.1, z.da⟩ z.fits z.few z.ris z.led hq⟩
      have : ∀ (l : List (Int × Value)), (∀ e ∈ l, KeyE X.prog X.w e) → PySem.W.EachIs (fun u (b : PyData × V) => RelV b.2 u) (l.map (·.2)) ((keysOf l).map fun k => (kD k, kV k)) := by
        intro l
        induction l with
        | nil => intro _; exact .nil
        | cons e l ih =>
          intro h
          refine .cons ?_ (ih fun x hx => h x (by simp [hx]))
          obtain ⟨k, rk, _⟩ := h e (by simp)
          show RelV (kV (vKey e.2)) e.2
          rw [vKey_of rk]; exact rk
      have q2 := this es.toList z.good
      rw [z.kz] at q2
      exact q2
    · have R0 : SetT0 X.prog X.w s.heap a L := (I.hok a _ ha).1
      obtain ⟨es, ep, t, R⟩ := R0.full fun p hp => I.isT (ht p hp).sqt
      obtain ⟨o, ho, hex, hd⟩ := R.ob
      refine ⟨a, L.map fun p => Value.ref p.1, Vals.ref1 r, ?_, fun E Q' hq => collect_set (A := X.A.in1) (I.ok.hd hc) ⟨o, ho, hex.1, hd⟩ R.fits (by have := R.size; have := R.few; unfold scanBound; omega) R.tab.ris R.led fun s' out h1 h2 h3 h4 pm => hq s' out h1 h2 h3 h4 (by
        rw [R.rows] at pm
        unfold rowsOf at pm
        rw [List.map_map] at pm
        exact pm)⟩
      clear hL so src0 q R R0 ha r ho hd hex
      induction L with
      | nil => exact .nil
      | cons p L ih => exact .cons rfl (ih fun x hx => ht x (by simp [hx]))
  obtain ⟨a, vs0, rfl, e0, C⟩ := C
  have both : PySem.W.EachIs (fun u (b : PyData × V) => RelV b.2 u ∧ ∃ as, Reads s.heap u b.1 as) vs0 bs0 := PySem.W.EachIs.mono (fun u b hb => ⟨hb.1, (src_rep (A := fun _ => True) src0 b hb.2).reads (plain_alike _ (so.1 _ (List.mem_map.mpr ⟨b, hb.2, rfl⟩) _ (List.mem_map.mpr ⟨b, hb.2, rfl⟩))) I hb.1⟩) (PySem.W.each_mem e0)
  refine sorted_coll (Pb := fun bs => bs.Perm bs0) (fun Q' hq => C _ Q' fun s' out h1 h2 h3 h4 pm => by
    obtain ⟨bs, pb, eb⟩ := each_perm pm both
    exact hq s' out bs h1 h2 h3 h4 pb eb) (fun bs pb => ⟨fun d hd d' hd' => so.1 d ((pb.map _).mem_iff.mp hd) d' ((pb.map _).mem_iff.mp hd'), by
      rcases so.2.1 with q | q
      · exact .inl fun d hd => q d ((pb.map _).mem_iff.mp hd)
      · exact .inr fun d hd => q d ((pb.map _).mem_iff.mp hd), by rw [pb.length_eq]; exact hL, fun d hd => by have := so.2.2 d ((pb.map _).mem_iff.mp hd); unfold DEP at *; omega⟩) fun s' p out c bs k g o hp hg pb vv => ?_
  have hn : H p = none := I.hok.fresh hp
  have hlen : ((bs.mergeSort (PySem.W.dataLe false fun b : PyData × V => b.1)).map (·.2)).length ≤ sizeLine := by rw [List.length_map, List.length_mergeSort, pb.length_eq]; exact hL
  have J : Inv X pins σ (upd H p (.lst ((bs.mergeSort (PySem.W.dataLe false fun b : PyData × V => b.1)).map (·.2)))) { s with heap := s'.heap, gens := s'.gens, drawn := s'.drawn, toks := s'.toks } :=
    I.call (ch := []) (Un.laid k hp hn) (I.hok.laid k hp ⟨hlen, out.toList, c, vv, hg⟩) (by rw [g]; exact I.bare) (fun _ z => nomatch z)
  have e : s' = { s with heap := s'.heap, gens := s'.gens, drawn := s'.drawn, toks := s'.toks } := by
    cases s'
    cases s
    cases o
    rfl
  rw [e]
  exact ⟨.ref p, _, J, rfl, q bs p hn pb⟩
/-- len(set) -/
def rLenX (K : PySem.W.Frag) (P : Program) (w : PySem.World) : List V → Hp → VK → Prop := fun vs H Q => ∃ (v : V) (bs0 : List (PyData × V)), vs = [v] ∧ Src K P w H v bs0 ∧ bs0.length ≤ LIM ∧ Q (.int (bs0.length : Nat)) H
theorem call_lenX (hc : X.calm = true) : CallR X (.builtin "len") (rLenX X.K X.prog X.w) := by
  intro pins s σ H vs us Q I r h
  obtain ⟨v, bs0, rfl, src, hL, q⟩ := h
  have hLL : LIM = 16777216 := rfl
  rcases src with ⟨a, ks, rfl, ha, rfl⟩ | ⟨a, L, rfl, ha, ht, rfl⟩
  · obtain ⟨o, es, ep, t, z⟩ := (show SetZ X.prog X.w s.heap a ks from (I.hok a _ ha).1)
    have n := z.len
    rw [List.length_map] at hL
    rw [Vals.ref1 r]
    exact call_len_set z.at_ z.ex z.da z.fits (by omega) ⟨.int _, H, I.tok _, ⟨_, by rw [n, List.length_map]⟩, q⟩
  · have R0 : SetT0 X.prog X.w s.heap a L := (I.hok a _ ha).1
    obtain ⟨es, ep, t, R⟩ := R0.full fun p hp => I.isT (ht p hp).sqt
    obtain ⟨o, ho, hex, hd⟩ := R.ob
    have n := R.size
    rw [List.length_map] at hL
    rw [Vals.ref1 r]
    exact call_len_set ho hex hd R.fits (by omega) ⟨.int _, H, I.tok _, ⟨_, by rw [n, List.length_map]⟩, q⟩
end

/-! ### the meanings -/
class Ord2 (α : Type) extends Ord1 α where
  inj : ∀ a b : α, Ord1.f a = Ord1.f b → a = b
  flat : ∀ a : α, noL (Ord1.f a) = true
  ok : α → Prop
  so : ∀ xs : List α, (∀ x ∈ xs, ok x) → SoC (xs.map Ord1.f)
theorem map_f_inj {α : Type} [Ord2 α] : ∀ {xs ys : List α}, xs.map Ord1.f = ys.map Ord1.f → xs = ys
  | [], [], _ => rfl
  | [], _ :: _, h => by cases h
  | _ :: _, [], h => by cases h
  | x :: xs, y :: ys, h => by
    rw [List.map_cons, List.map_cons] at h
    injection h with h1 h2
    rw [Ord2.inj x y h1, map_f_inj h2]
theorem alike_intL (xs ys : List Int) : PySem.W.alike (.tuple (xs.map .int)) (.tuple (ys.map .int)) = true := by
  have := PySem.W.alike_ints xs ys
  simpa [PySem.W.alike] using this
instance : Ord2 Int where
  inj a b h := by injection h
  flat a := rfl
  ok _ := True
  so xs _ := ⟨fun d hd e he => by
      obtain ⟨x, _, rfl⟩ := List.mem_map.mp hd
      obtain ⟨y, _, rfl⟩ := List.mem_map.mp he
      rfl, .inr fun d hd => by
      obtain ⟨x, _, rfl⟩ := List.mem_map.mp hd
      exact ⟨by simp [Ord1.f], by simp [Ord1.f]⟩, fun d hd => by
      obtain ⟨x, _, rfl⟩ := List.mem_map.mp hd
      simp [Ord1.f, PyData.depth]⟩
instance : Ord2 (List Nat) where
  inj a b h := by
    injection h with h
    simpa using h
  flat a := rfl
  ok _ := True
  so xs _ := ⟨fun d hd e he => by
      obtain ⟨x, _, rfl⟩ := List.mem_map.mp hd
      obtain ⟨y, _, rfl⟩ := List.mem_map.mp he
      rfl, .inr fun d hd => by
      obtain ⟨x, _, rfl⟩ := List.mem_map.mp hd
      exact ⟨by simp [Ord1.f], by simp [Ord1.f]⟩, fun d hd => by
      obtain ⟨x, _, rfl⟩ := List.mem_map.mp hd
      simp [Ord1.f, PyData.depth]⟩
instance : Ord2 (List Int) where
  inj a b h := by
    injection h with h
    simpa using h
  flat a := by simp [Ord1.f]
  ok r := r ≠ []
  so xs hx := ⟨fun d hd e he => by
      obtain ⟨x, _, rfl⟩ := List.mem_map.mp hd
      obtain ⟨y, _, rfl⟩ := List.mem_map.mp he
      exact alike_intL x y, .inl fun d hd => by
      obtain ⟨x, h, rfl⟩ := List.mem_map.mp hd
      cases x with
      | nil => exact absurd rfl (hx _ h)
      | cons a r => exact ⟨.int a, r.map .int, rfl⟩, fun d hd => by
      obtain ⟨x, _, rfl⟩ := List.mem_map.mp hd
      have : PyData.depthAll (x.map PyData.int) ≤ 0 := depthAll_le fun y hy => by
        obtain ⟨z, _, rfl⟩ := List.mem_map.mp hy
        simp [PyData.depth]
      simp [Ord1.f, PyData.depth]
      have hD : DEP = 150 := rfl
      omega⟩
def SetAs (α : Type) [Ord2 α] (b : Nat) (ds : List PyData) : Prop := ∃ xs : List α, ds = xs.map Ord1.f ∧ xs.length + 1 < b ∧ ∀ x ∈ xs, Ord2.ok x
open Classical in
noncomputable def setMem (l : Bool) (ds : List PyData) : Option (List PyData) :=
  if h : SetAs Int scanBound ds then some ((srtU h.choose).map Ord1.f)
  else if h : SetAs (List Nat) scanBound ds then some ((srtU h.choose).map Ord1.f)
  else if h : l = true ∧ SetAs (List Int) 65 ds then some ((srtU h.2.choose).map Ord1.f)
  else none
noncomputable def setL (a : Option PyData) : Option (List PyData) := match a with
  | some (.list ds) => setMem true ds
  | some (.tuple ds) => setMem false ds
  | _ => none
theorem setAs_ne {α β : Type} [Ord2 α] [Ord2 β] (hne : ∀ (a : α) (b : β), Ord1.f a ≠ Ord1.f b) {n m : Nat} {ds : List PyData} (h : SetAs α n ds) (h2 : SetAs β m ds) : ds = [] := by
  obtain ⟨xs, rfl, _⟩ := h
  obtain ⟨ys, e, _⟩ := h2
  cases xs with
  | nil => rfl
  | cons x xs =>
    cases ys with
    | nil => cases e
    | cons y ys =>
      rw [List.map_cons, List.map_cons] at e
      injection e with e1 _
      exact absurd e1 (hne x y)
theorem choose_eq {α : Type} [Ord2 α] {n : Nat} {xs : List α} (h : SetAs α n (xs.map Ord1.f)) : h.choose = xs := (map_f_inj h.choose_spec.1).symm
theorem srtU_nil {α : Type} [Ord2 α] : srtU ([] : List α) = [] := by simp [srtU]
theorem setMem_ints {l : Bool} {ns : List Int} (h : ns.length < 4000) : setMem l (ns.map .int) = some ((srtU ns).map .int) := by
  have q : SetAs Int scanBound (ns.map .int) := ⟨ns, rfl, by unfold scanBound; omega, fun _ _ => trivial⟩
  unfold setMem
  rw [dif_pos q, choose_eq (α := Int) q]
  rfl
theorem setMem_txts {l : Bool} {ns : List (List Nat)} (h : ns.length < 4000) : setMem l (ns.map fun z => .str (mkS z)) = some ((srtU ns).map fun z => .str (mkS z)) := by
  have q : SetAs (List Nat) scanBound (ns.map fun z => .str (mkS z)) := ⟨ns, rfl, by unfold scanBound; omega, fun _ _ => trivial⟩
  cases ns with
  | nil =>
    have := setMem_ints (ns := []) (l := l) (by simp)
    rw [srtU_nil] at this ⊢
    exact this
  | cons z zs =>
    have n1 : ¬ SetAs Int scanBound ((z :: zs).map fun z => .str (mkS z)) := fun r => by
      have := setAs_ne (fun a b z => by simp [Ord1.f] at z) r q
      cases this
    unfold setMem
    rw [dif_neg n1, dif_pos q, choose_eq (α := List Nat) q]
    rfl
theorem setMem_rows {ns : List (List Int)} (h : ns.length < 64) (hn : ∀ r ∈ ns, r ≠ []) : setMem true (ns.map fun z => .tuple (z.map .int)) = some ((srtU ns).map fun z => .tuple (z.map .int)) := by
  have q : SetAs (List Int) 65 (ns.map fun z => .tuple (z.map .int)) := ⟨ns, rfl, by omega, hn⟩
  cases ns with
  | nil =>
    have := setMem_ints (ns := []) (l := true) (by simp)
    rw [srtU_nil] at this ⊢
    exact this
  | cons z zs =>
    have n1 : ¬ SetAs Int scanBound ((z :: zs).map fun z => .tuple (z.map .int)) := fun r => by
      have := setAs_ne (fun a b z => by simp [Ord1.f] at z) r q
      cases this
    have n2 : ¬ SetAs (List Nat) scanBound ((z :: zs).map fun z => .tuple (z.map .int)) := fun r => by
      have := setAs_ne (fun a b z => by simp [Ord1.f] at z) r q
      cases this
    unfold setMem
    rw [dif_neg n1, dif_neg n2, dif_pos ⟨rfl, q⟩, choose_eq (α := List Int) q]
    rfl
section
variable {S : List (Str × Nat)} {nm : List (Str × NameKind)} {T : Tab} {TB : Addr → Prop} {k : Nat} {X : Cx}
variable {a b c : Expr} {p : Pos} {ms ns : List Nat} {f g : Sls → Option PyData} {ca cb : Bool} {es : List Expr} {fs : Sls → Option (List PyData)} {ce : Bool} {tg : Expr}
theorem got_pre {α : Type} (f : α → Key) {xs : List α} {ks : List Key} (g : SetGot (xs.map f) ks) : ∃ L : List α, ks = L.map f := by
  have : ∀ l : List Key, (∀ k ∈ l, ∃ x, k = f x) → ∃ L : List α, l = L.map f := by
    intro l
    induction l with
    | nil => intro _; exact ⟨[], rfl⟩
    | cons k l ih =>
      intro h
      obtain ⟨x, rfl⟩ := h k (by simp)
      obtain ⟨L, rfl⟩ := ih fun y hy => h y (by simp [hy])
      exact ⟨x :: L, rfl⟩
  exact this ks fun k hk => by
    obtain ⟨x, _, e⟩ := List.mem_map.mp ((g.mem k).mp hk)
    exact ⟨x, e.symm⟩
theorem rows_reps {K : PySem.W.Frag} {A : Addr → Prop} {H : Hp} : ∀ {xs : List (List Int)} {ys : List V}, Reps K H A (xs.map Ord1.f) ys → ∃ zs : List (Addr × List Int), zs.map (·.2) = xs ∧ (∀ p ∈ zs, TpT H p.1 (p.2.map V.int)) ∧ ys = zs.map fun p => V.ref p.1
  | [], _, .nil => ⟨[], rfl, fun p hp => by (cases hp), rfl⟩
  | x :: xs, _, .cons (.tup (a := b) ht hr) rs => by
    obtain ⟨zs, e1, e2, e3⟩ := rows_reps rs
    have := Reps.of_ints hr
    subst this
    refine ⟨(b, x) :: zs, by rw [List.map_cons, e1], fun p hp => ?_, by rw [List.map_cons, e3]⟩
    rcases List.mem_cons.mp hp with rfl | hp
    · exact ht
    · exact e2 p hp
/-- a set asked for and used at once -/
theorem set_use {K : PySem.W.Frag} {P : Program} {w : PySem.World} {A : Addr → Prop} {H : Hp} {d : PyData} {v : V} {ys : List PyData} {Q : VK} (hA : ∀ a, H a = none → A a) (hf : setL (some d) = some ys) (r : Rep K H A d v)
    (q : ∀ (a : Addr) (H' : Hp) (bs0 : List (PyData × V)), Grow H H' → Src K P w H' (.ref a) bs0 → SoC (bs0.map (·.1)) → bs0.length ≤ 5000 → bs0.length = ys.length →
      (∀ bs : List (PyData × V), bs.Perm bs0 → (bs.mergeSort (PySem.W.dataLe false fun b : PyData × V => b.1)).map (·.1) = ys) → Q (.ref a) H') : rSetX K P w [v] H Q := by
  -- ints and texts
  have keys : ∀ {α : Type} [Ord2 α] (kf : α → Key) (js : List α), (∀ x, kD (kf x) = Ord1.f x) → (∀ x y, kf x = kf y → x = y) → (∀ x : α, Ord2.ok x) → js.length + 1 < scanBound → (Rep K H A (.list (js.map Ord1.f)) v ∨ Rep K H A (.tuple (js.map Ord1.f)) v) → ys = (srtU js).map Ord1.f → rSetX K P w [v] H Q := by
    intro α _ kf js h1 h2 h3 h4 rd e
    have em : (js.map kf).map kD = js.map Ord1.f := by rw [List.map_map]; exact List.map_congr_left fun x _ => h1 x
    refine .inl ⟨A, v, js.map kf, rfl, by rw [em]; exact rd, by rw [List.length_map]; exact h4, fun a ks ha got nd => ?_⟩
    obtain ⟨L, rfl⟩ := got_pre kf got
    have ndL : L.Nodup := by
      refine List.Pairwise.of_map kf (fun x y hne e => hne (e ▸ rfl)) nd
    have hm : ∀ x, x ∈ L ↔ x ∈ js := fun x => by
      have := got.mem (kf x)
      constructor
      · intro z
        obtain ⟨y, hy, e⟩ := List.mem_map.mp (this.mp (List.mem_map.mpr ⟨x, z, rfl⟩))
        exact h2 _ _ e ▸ hy
      · intro z
        obtain ⟨y, hy, e⟩ := List.mem_map.mp (this.mpr (List.mem_map.mpr ⟨x, z, rfl⟩))
        exact h2 _ _ e ▸ hy
    have eb : ((L.map kf).map fun k => (kD k, kV k)) = L.map fun x => (Ord1.f x, kV (kf x)) := by rw [List.map_map]; exact List.map_congr_left fun x _ => by show (kD (kf x), kV (kf x)) = _; rw [h1]
    have ll := srtU_length ndL hm
    have lb : L.length ≤ 5000 := by have := srtU_len js; unfold scanBound at h4; omega
    refine q a _ _ (.new ha) (.inl ⟨a, _, rfl, upd_same, rfl⟩) ?_ (by rw [List.length_map, List.length_map]; exact lb) (by rw [List.length_map, List.length_map, e, List.length_map]; exact ll) fun bs pb => ?_
    · rw [eb, List.map_map]
      exact Ord2.so L fun x _ => h3 x
    · rw [e]
      exact srt_bs pb (by rw [eb, List.map_map]; rfl) ndL hm
  have main : ∀ (l : Bool) (ds : List PyData), setMem l ds = some ys → (l = true → Rep K H A (.list ds) v) → (l = false → Rep K H A (.tuple ds) v) → rSetX K P w [v] H Q := by
    intro l ds hf r1 r2
    unfold setMem at hf
    have rr : Rep K H A (.list ds) v ∨ Rep K H A (.tuple ds) v := by
      cases l with
      | false => exact .inr (r2 rfl)
      | true => exact .inl (r1 rfl)
    split at hf
    · rename_i h
      injection hf with hf
      have e := h.choose_spec
      generalize h.choose = xs at e hf
      obtain ⟨rfl, e2, _⟩ := e
      exact keys (fun i : Int => .inl i) xs (fun _ => rfl) (fun x y e => by injection e) (fun _ => trivial) e2 rr hf.symm
    · split at hf
      · rename_i h
        injection hf with hf
        have e := h.choose_spec
        generalize h.choose = xs at e hf
        obtain ⟨rfl, e2, _⟩ := e
        exact keys (fun i : List Nat => .inr (mkS i)) xs (fun _ => rfl) (fun x y e => by injection e with e; simpa using e) (fun _ => trivial) e2 rr hf.symm
      · split at hf
        · rename_i h
          injection hf with hf
          have e := h.2.choose_spec
          have hl := h.1
          generalize h.2.choose = xs at e hf
          obtain ⟨rfl, e2, e3⟩ := e
          have r1 := r1 hl
          cases r1 with
          | lst h2 h3 =>
            obtain ⟨zs, ez, et, rfl⟩ := rows_reps h3
            have zl : zs.length = xs.length := by rw [← ez, List.length_map]
            refine .inr ⟨_, zs, rfl, h2.sql, et, by omega, fun a L ha h5 h6 nd => ?_⟩
            have hm : ∀ x, x ∈ L.map (·.2) ↔ x ∈ xs := fun x => by
              rw [← ez]
              constructor
              · intro z
                obtain ⟨p, hp, rfl⟩ := List.mem_map.mp z
                exact List.mem_map.mpr ⟨p, h5 p hp, rfl⟩
              · intro z
                obtain ⟨p, hp, rfl⟩ := List.mem_map.mp z
                exact h6 p hp
            have eb : (L.map fun p : Addr × List Int => (PyData.tuple (p.2.map .int), V.ref p.1)).map (·.1) = (L.map (·.2)).map Ord1.f := by rw [List.map_map, List.map_map]; rfl
            have ll := srtU_length nd hm
            have lb := srtU_len xs
            rw [List.length_map] at ll
            refine q a _ _ (.new ha) (.inr ⟨a, _, rfl, upd_same, fun p hp => (Grow.new ha).tpT (et p (h5 p hp)), rfl⟩) ?_ (by rw [List.length_map]; omega) (by rw [List.length_map, ← hf, List.length_map]; exact ll) fun bs pb => by rw [← hf]; exact srt_bs pb eb nd hm
            rw [eb]
            exact Ord2.so _ fun x hx => e3 x ((hm x).mp hx)
        · cases hf
  cases d with
  | list ds => exact main true ds hf (fun _ => r) (fun z => nomatch z)
  | tuple ds => exact main false ds hf (fun z => nomatch z) (fun _ => r)
  | _ => cases hf
theorem boot_set' : bootBuiltins "set" = some (.type "set") := by decide +kernel
noncomputable instance (priority := high) purSortSet {pn pm p2 : Pos} [h1 : PurE S nm T a ms f ca] : PurF S nm T (.Call (.Name "sorted" pn) [.Call (.Name "set" pm) [a] [] p2] [] p) [] (fun env => setL (f env)) (ca && bltC nm T "sorted" && bltC nm T "set" && notStar a) where
  run hc TB k X G := by
    simp only [Bool.and_eq_true] at hc
    obtain ⟨⟨⟨hc1, hc2⟩, hc3⟩, hc4⟩ := hc
    obtain ⟨ta, ha, qa⟩ := h1.run hc1 TB k X G
    obtain ⟨g1, g2⟩ := G.bl hc2
    obtain ⟨g3, g4⟩ := G.bl hc3
    have inner := pe_callTy (p := pm) (pos := p2) (cr_setX G.calm G.room) g3 g4 boot_set' (pa_cons ha pa_nil (star_of hc4)) (by decide) (by decide) (star_of hc4) rfl
    refine ⟨_, pe_callB (call_sortX G.calm G.room) g1 g2 boot_sorted' (pa_cons inner pa_nil (star_of rfl)) (by decide) (by decide) (star_of rfl) rfl, fun A H0 H σ env d Q E hf q => ?_⟩
    have e1 : ∃ x, f env = some x := by
      cases e : f env with
      | none => rw [e] at hf; cases hf
      | some x => exact ⟨x, rfl⟩
    obtain ⟨x, e1⟩ := e1
    rw [e1] at hf
    refine qa A H0 H σ env _ _ E e1 fun v H1 g1 r1 => ?_
    dsimp only [tNil]
    refine set_use ((E.up g1).selfree _) hf r1 fun a0 H2 bs0 g2 src so l1 l2 hb => ?_
    refine ⟨_, bs0, rfl, src, so, by rw [sizeLine_eq]; omega, fun bs l nl pb => ?_⟩
    have rr := reps_of_pairs (K := X.K) (H := H2) (A := sel [] A env σ) (bs := bs.mergeSort (PySem.W.dataLe false fun b : PyData × V => b.1)) fun b hb2 => src_rep src b (pb.mem_iff.mp (List.mem_mergeSort.mp hb2))
    rw [hb bs pb] at rr
    exact q l _ _ ((g1.trans g2).trans (.new nl)) ((g1.trans g2).fresh l nl) upd_same ((rr.away nl).up (.new nl))
noncomputable instance (priority := high) purSortSetE {pn pm p2 : Pos} [PurF S nm T (.Call (.Name "sorted" pn) [.Call (.Name "set" pm) es [] p2] [] p) ms fs ce] : PurE S nm T (.Call (.Name "sorted" pn) [.Call (.Name "set" pm) es [] p2] [] p) ms (fun env => listV (fs env)) ce := pur_of_fresh inferInstance
noncomputable def setLen (a : Option (List PyData)) : Option PyData := match a with
  | some xs => some (.int (xs.length : Nat))
  | none => none
noncomputable instance (priority := high) purLenSet {pn pm p2 : Pos} [h1 : PurE S nm T a ms f ca] : PurE S nm T (.Call (.Name "len" pn) [.Call (.Name "set" pm) [a] [] p2] [] p) [] (fun env => setLen (setL (f env))) (ca && bltC nm T "len" && bltC nm T "set" && notStar a) where
  run hc TB k X G := by
    simp only [Bool.and_eq_true] at hc
    obtain ⟨⟨⟨hc1, hc2⟩, hc3⟩, hc4⟩ := hc
    obtain ⟨ta, ha, qa⟩ := h1.run hc1 TB k X G
    obtain ⟨g1, g2⟩ := G.bl hc2
    obtain ⟨g3, g4⟩ := G.bl hc3
    have inner := pe_callTy (p := pm) (pos := p2) (cr_setX G.calm G.room) g3 g4 boot_set' (pa_cons ha pa_nil (star_of hc4)) (by decide) (by decide) (star_of hc4) rfl
    refine ⟨_, pe_callB (call_lenX G.calm) g1 g2 PySem.boot_len (pa_cons inner pa_nil (star_of rfl)) (by decide) (by decide) (star_of rfl) rfl, fun A H0 H σ env d Q E hf q => ?_⟩
    have e1 : ∃ x ys, f env = some x ∧ setL (some x) = some ys ∧ d = .int (ys.length : Nat) := by
      dsimp only at hf
      cases e : f env with
      | none => rw [e] at hf; cases hf
      | some x =>
        rw [e] at hf
        cases e2 : setL (some x) with
        | none => rw [e2] at hf; cases hf
        | some ys => rw [e2] at hf; cases hf; exact ⟨x, ys, rfl, e2, rfl⟩
    obtain ⟨x, ys, e1, e2, rfl⟩ := e1
    refine qa A H0 H σ env _ _ E e1 fun v H1 g1 r1 => ?_
    dsimp only [tNil]
    refine set_use ((E.up g1).selfree _) e2 r1 fun a0 H2 bs0 g2 src so l1 l2 hb => ?_
    have hLL : LIM = 16777216 := rfl
    refine ⟨_, bs0, rfl, src, by omega, ?_⟩
    rw [l2]
    exact q _ _ (g1.trans g2) (.int _)
end
/-! evaluated -/
@[simp] theorem setL_ints {ns : List Int} (h : ns.length < 4000) : setL (some (.list (ns.map .int))) = some ((srtU ns).map .int) := setMem_ints h
@[simp] theorem setL_intsT {ns : List Int} (h : ns.length < 4000) : setL (some (.tuple (ns.map .int))) = some ((srtU ns).map .int) := setMem_ints h
@[simp] theorem setL_txts {ns : List (List Nat)} (h : ns.length < 4000) : setL (some (.list (ns.map fun z => .str (mkS z)))) = some ((srtU ns).map fun z => .str (mkS z)) := setMem_txts h
theorem setL_rows {ns : List (List Int)} (h : ns.length < 64) (hn : ∀ r ∈ ns, r ≠ []) : setL (some (.list (ns.map fun z => .tuple (z.map .int)))) = some ((srtU ns).map fun z => .tuple (z.map .int)) := setMem_rows h hn
@[simp] theorem setLen_some (xs : List PyData) : setLen (some xs) = some (.int (xs.length : Nat)) := id rfl
/-- pairs of ints, in their order -/
abbrev rowP (q : Int × Int) : List Int := [q.1, q.2]
def srtP (qs : List (Int × Int)) : List (Int × Int) := (srtU (qs.map rowP)).map fun r => (nth r 0, nth r 1)
theorem srtP_rows (qs : List (Int × Int)) : srtU (qs.map rowP) = (srtP qs).map rowP := by
  unfold srtP
  rw [List.map_map]
  symm
  refine Eq.trans (List.map_congr_left (g := id) fun r hr => ?_) (List.map_id _)
  obtain ⟨q, _, rfl⟩ := List.mem_map.mp (mem_srtU.mp hr)
  rfl
theorem setL_pairs {qs : List (Int × Int)} (h : qs.length < 64) : setL (some (.list (qs.map fun q => .tuple [.int q.1, .int q.2]))) = some ((srtP qs).map fun q => .tuple [.int q.1, .int q.2]) := by
  have e : ∀ l : List (Int × Int), l.map (fun q => PyData.tuple [.int q.1, .int q.2]) = (l.map rowP).map fun z => .tuple (z.map .int) := fun l => by rw [List.map_map]; rfl
  rw [e, setL_rows (by rw [List.length_map]; exact h) (fun r hr => by obtain ⟨q, _, rfl⟩ := List.mem_map.mp hr; simp), srtP_rows, ← e]
end Pu

set_option Elab.async false
set_option linter.all false
set_option autoImplicit false
set_option maxRecDepth 100000
set_option maxHeartbeats 4000000
namespace Pu
open PySem PySem.Spec PyProof.Rows L2
/-! ### x = a[lo:hi], of a list or of a text or tuple -/
section
variable {X : Cx}
abbrev rSlG (K : PySem.W.Frag) : V → Option Int → Option Int → Hp → VK → Prop := fun x lo hi H Q => rSlL K x lo hi H Q ∨ rSlP K x lo hi H Q
theorem sl_G : SlR X (rSlG X.K) := fun pins s σ H x v vl vu lo hi sl Q I rx hs pl pu h => h.elim (fun h => sl_list pins s σ H x v vl vu lo hi sl Q I rx hs pl pu h) fun h => sl_P pins s σ H x v vl vu lo hi sl Q I rx hs pl pu h
def isL : Option PyData → Bool
  | some (.list _) => true
  | _ => false
def setM (i : Nat) (ms : List Nat) (a : Option PyData) (env : Sls) : Option Out := match a with
  | some (.list xs) => setF i ms (some xs) env
  | d => setO i ms d env
@[simp] theorem setM_list (i : Nat) (ms : List Nat) (xs : List PyData) (env : Sls) : setM i ms (some (.list xs)) env = setF i ms (some xs) env := id rfl
@[simp] theorem setM_tuple (i : Nat) (ms : List Nat) (xs : List PyData) (env : Sls) : setM i ms (some (.tuple xs)) env = setO i ms (some (.tuple xs)) env := id rfl
@[simp] theorem setM_str (i : Nat) (ms : List Nat) (xs : Str) (env : Sls) : setM i ms (some (.str xs)) env = setO i ms (some (.str xs)) env := id rfl
end
section
variable {S : List (Str × Nat)} {nm : List (Str × NameKind)} {T : Tab} {a : Expr} {p p2 : Pos} {ms : List Nat} {f : Sls → Option PyData} {ca : Bool} {lo hi : Option Expr} {fl fh : Sls → Option (Option Int)} {cl ch : Bool}
instance (priority := high) purSetSl {x : Str} {i : Nat} {p' p3 : Pos} [SlotOf S x i] [h1 : PurE S nm T a ms f ca] [h2 : PurO S nm T lo fl cl] [h3 : PurO S nm T hi fh ch] : PurS S nm T (.Assign [.Name x p'] (.Subscript a (.Slice lo hi none p2) p3) p) (fun env => setM i ms (sliV (f env) (fl env) (fh env)) env) ((ca && cl && ch) && locC S nm x i) where
  run hc TB k X G := by
    simp only [Bool.and_eq_true] at hc
    obtain ⟨ta, ha, qa⟩ := h1.run hc.1.1.1 TB k X G
    obtain ⟨tl, hl, ql⟩ := h2.run hc.1.1.2 TB k X G
    obtain ⟨th, hh, qh⟩ := h3.run hc.1.2 TB k X G
    obtain ⟨l1, l2, l3⟩ := G.lo hc.2
    have qe : ESp X TB ms (fun env => sliV (f env) (fl env) (fh env)) (tSl (rSlG X.K) ta tl th) := fun A H0 H σ env d Q E hf q => by
      unfold sliV at hf
      try dsimp only at hf
      split at hf
      · rename_i x e1
        split at hf
        · rename_i l e2
          split at hf
          · rename_i h e3
            refine qa A H0 H σ env x _ E e1 fun u H1 g1 r1 => ?_
            refine ql A H0 H1 σ env l _ (E.up g1) e2 fun H2 g2 => ?_
            refine qh A H0 H2 σ env h _ ((E.up g1).up g2) e3 fun H3 g3 => ?_
            exact .inr ⟨sel ms A env σ, x, d, (E.up ((g1.trans g2).trans g3)).selfree _, (r1.up g2).up g3, hf, fun z H' g r => q z H' (((g1.trans g2).trans g3).trans g) r⟩
          · cases hf
        · cases hf
      · cases hf
    have qf : FSp X TB ms (fun env => sliF (f env) (fl env) (fh env)) (tSl (rSlG X.K) ta tl th) := fun A H0 H σ env d Q E hf q => by
      unfold sliF at hf
      try dsimp only at hf
      split at hf
      · rename_i zs e0
        cases hf
        unfold sliV at e0
        try dsimp only at e0
        split at e0
        · rename_i x e1
          split at e0
          · rename_i l e2
            split at e0
            · rename_i h e3
              refine qa A H0 H σ env x _ E e1 fun u H1 g1 r1 => ?_
              refine ql A H0 H1 σ env l _ (E.up g1) e2 fun H2 g2 => ?_
              refine qh A H0 H2 σ env h _ ((E.up g1).up g2) e3 fun H3 g3 => ?_
              have r3 := (r1.up g2).up g3
              cases r3 with
              | lst h2 h3 =>
                cases e0
                refine .inl ⟨_, _, rfl, h2.sql, fun p np => ?_⟩
                exact q p _ _ (((g1.trans g2).trans g3).trans (.new np)) (g1.fresh p (g2.fresh p (g3.fresh p np))) upd_same (((h3.slice l h).away np).up (.new np))
              | str z =>
                unfold sliceD at e0
                try dsimp only at e0
                split at e0 <;> cases e0
              | tup _ _ => cases e0
              | _ => cases e0
            · cases e0
          · cases e0
        · cases e0
      · cases hf
    refine ⟨_, ps_set (i := i) G.nd l1 l2 (pe_slice sl_G ha hl hh) rfl l3, fun A H σ env o D E h q => ?_⟩
    unfold setM at h
    try dsimp only at h
    split at h
    · rename_i xs e
      exact setF_read qf E (by unfold sliF; rw [e]; exact h) q
    · exact set_read qe E h q
/-! ### x = a + b, of two lists or of others -/
end
section
variable {X : Cx}
abbrev rAdG (K : PySem.W.Frag) : R2 := fun x y H Q => rCatL K x y H Q ∨ rOp K addP x y H Q
theorem op_adG : OpR X (binaryOp .Add) (rAdG X.K) := fun pins s σ H x y v u Q I rx ry h => h.elim (fun h => op_catL pins s σ H x y v u Q I rx ry h) fun h => op_addP pins s σ H x y v u Q I rx ry h
@[simp] theorem setM_int (i : Nat) (ms : List Nat) (a : Int) (env : Sls) : setM i ms (some (.int a)) env = setO i ms (some (.int a)) env := id rfl
def ofL : Option PyData → Option (List PyData)
  | some (.list xs) => some xs
  | _ => none
end
section
variable {S : List (Str × Nat)} {nm : List (Str × NameKind)} {T : Tab} {a b : Expr} {p : Pos} {ms ns : List Nat} {f g : Sls → Option PyData} {ca cb : Bool}
instance (priority := high) purSetAd {x : Str} {i : Nat} {p' p3 : Pos} [SlotOf S x i] [h1 : PurE S nm T a ms f ca] [h2 : PurE S nm T b ns g cb] : PurS S nm T (.Assign [.Name x p'] (.BinOp a .Add b p3) p) (fun env => setM i (ms ++ ns) (bind2 addP (f env) (g env)) env) ((ca && cb) && locC S nm x i) where
  run hc TB k X G := by
    simp only [Bool.and_eq_true] at hc
    obtain ⟨ta, ha, qa⟩ := h1.run hc.1.1 TB k X G
    obtain ⟨tb, hb, qb⟩ := h2.run hc.1.2 TB k X G
    obtain ⟨l1, l2, l3⟩ := G.lo hc.2
    have qe : ESp X TB (ms ++ ns) (fun env => bind2 addP (f env) (g env)) (tOp (rAdG X.K) ta tb) := fun A H0 H σ env d Q E hf q => by
      obtain ⟨x, y, e1, e2, e3⟩ := bind2_some hf
      refine qa A H0 H σ env x _ E e1 fun u H1 g1 r1 => ?_
      refine qb A H0 H1 σ env y _ (E.up g1) e2 fun v H2 g2 r2 => ?_
      exact .inr ⟨sel (ms ++ ns) A env σ, x, y, d, (E.up (g1.trans g2)).selfree _, (r1.up g2).wide fun a z => z.l, r2.wide fun a z => z.r, e3, fun z H' g r => q z H' ((g1.trans g2).trans g) r⟩
    have qf : FSp X TB (ms ++ ns) (fun env => ofL (bind2 addP (f env) (g env))) (tOp (rAdG X.K) ta tb) := fun A H0 H σ env ds Q E hf q => by
      dsimp only at hf
      cases e0 : bind2 addP (f env) (g env) with
      | none => rw [e0] at hf; cases hf
      | some d =>
        rw [e0] at hf
        obtain ⟨x, y, e1, e2, e3⟩ := bind2_some e0
        refine qa A H0 H σ env x _ E e1 fun u H1 g1 r1 => ?_
        refine qb A H0 H1 σ env y _ (E.up g1) e2 fun v H2 g2 r2 => ?_
        have r3 := r1.up g2
        cases r3 with
        | lst h1 h2 => cases r2 with
          | lst k1 k2 =>
            rename_i a as xs b bs ys
            change (if xs.length + ys.length ≤ LIM then some (PyData.list (xs ++ ys)) else none) = some d at e3
            split at e3
            · cases e3
              cases hf
              refine .inl ⟨a, b, as, bs, rfl, rfl, h1.sql, k1.sql, by rw [← lim_line, ← h2.length, ← k2.length]; assumption, fun p np => ?_⟩
              have r4 := ((h2.wide (A' := sel (ms ++ ns) A env σ) fun a z => z.l).append (k2.wide (A' := sel (ms ++ ns) A env σ) fun a z => z.r))
              exact q p _ _ ((g1.trans g2).trans (.new np)) (g1.fresh p (g2.fresh p np)) upd_same ((r4.away np).up (.new np))
            · cases e3
          | _ => cases e3
        | int a => cases r2 with
          | int b => cases e3; cases hf
          | _ => cases e3
        | str a => cases r2 with
          | str b =>
            change (if a.length + b.length ≤ LIM then some (PyData.str (a ++ b)) else none) = some d at e3
            split at e3 <;> cases e3
            cases hf
          | _ => cases e3
        | tup h1 h2 => cases r2 with
          | tup k1 k2 =>
            rename_i a as xs b bs ys
            change (if xs.length + ys.length ≤ LIM then some (PyData.tuple (xs ++ ys)) else none) = some d at e3
            split at e3 <;> cases e3
            cases hf
          | _ => cases e3
        | _ => cases e3
    refine ⟨_, ps_set (i := i) G.nd l1 l2 (pe_op op_adG ha hb) rfl l3, fun A H σ env o D E h q => ?_⟩
    unfold setM at h
    try dsimp only at h
    split at h
    · rename_i xs e
      exact setF_read qf E (by rw [e]; exact h) q
    · exact set_read qe E h q
end
end Pu

set_option Elab.async false
set_option linter.all false
set_option autoImplicit false
set_option maxRecDepth 100000
set_option maxHeartbeats 4000000
namespace Pu
open PySem PySem.Spec PyProof.Rows L2 GxR
/-! ### zip of two: lists, tuples, texts, in any mix -/
inductive ZS where
  | L (a : Addr)
  | T (a : Addr)
  | S (x : Str)
def ZS.v : ZS → V
  | .L a => .ref a
  | .T a => .ref a
  | .S x => .str x
def ZS.Is (K : PySem.W.Frag) (H : Hp) : ZS → List V → Prop
  | .L a, xs => SqL K H a xs
  | .T a, xs => SqT K H a xs
  | .S x, xs => xs = x.cps.toList.map fun c => V.str ⟨#[c]⟩
def ZS.St : ZS → Tok → Addr → Nat → Heap → Prop
  | .L a, _, it, i, h => h.IsListIter it a i
  | .T a, _, it, i, h => h.IsTupleIter it a i
  | .S x, t, it, i, h => h.IsStrIter it (strIterType x) x t i
def ZS.rest : ZS → List Addr
  | .L a => [a]
  | .T a => [a]
  | .S _ => []
theorem ZS.St.keep {s : ZS} {t : Tok} {it : Addr} {i : Nat} {h h' : Heap} (st : s.St t it i h) (k : ∀ o, h.get? it = some o → h'.get? it = some o) : s.St t it i h' := by
  cases s with
  | L a => exact Heap.IsListIter.at st k
  | T a => exact Heap.IsTupleIter.at st k
  | S x => obtain ⟨o, ho, r⟩ := st; exact ⟨o, k o ho, r⟩
theorem ZS.St.obj {s : ZS} {t : Tok} {it : Addr} {i : Nat} {h : Heap} (st : s.St t it i h) : ∃ o, h.get? it = some o ∧ ∀ v, o.data ≠ Data.cell v := by
  cases s with
  | L a => obtain ⟨o, ho, _, d⟩ := st; exact ⟨o, ho, fun v q => by rw [d] at q; cases q⟩
  | T a => obtain ⟨o, ho, _, d⟩ := st; exact ⟨o, ho, fun v q => by rw [d] at q; cases q⟩
  | S x => obtain ⟨o, ho, _, d⟩ := st; exact ⟨o, ho, fun v q => by rw [d] at q; cases q⟩
theorem vals_back {xs : List V} {its : List Value} (rv : Vals xs its) {i : Nat} {v : Value} (h : its[i]? = some v) : ∃ x, xs[i]? = some x ∧ RelV x v := by
  have hl := rv.length
  have hi := (List.getElem?_eq_some_iff.mp h).1
  have hx : xs[i]? = some xs[i] := List.getElem?_eq_getElem (by omega)
  obtain ⟨u, hu, ru⟩ := rv.get hx
  rw [h] at hu
  cases hu
  exact ⟨_, hx, ru⟩
theorem ZS.draws {X : Cx} {pins : List (Addr × Obj)} {σ : L2.St} {H : Hp} {sh : Shared} (I : Inv X pins σ H sh) (hh : X.A.in1.handled = none) {s : ZS} {xs : List V} (h : s.Is X.K H xs) (t : Tok) (it : Addr) (hit : it ∉ s.rest) :
    ∃ (n : Nat) (P : Nat → Value → Prop) (St : Nat → Heap → Prop), Draws X.prog X.w X.A.in1 it (it :: s.rest) n P St ∧ n = xs.length ∧ (∀ i v, P i v → ∃ x, xs[i]? = some x ∧ RelV x v) ∧ (∀ i, s.St t it i sh.heap → St i sh.heap) ∧ ∀ i h', St i h' → s.St t it i h' := by
  cases s with
  | L a =>
    obtain ⟨its, rv, p, _⟩ := I.list h
    refine ⟨_, _, _, Draws.list hh it a (fun q => hit (by simp [ZS.rest, q])) its.toArray, by simp [rv.length], fun i v hv => ?_, fun i st => ⟨st, p.isList⟩, fun i h' st => st.1⟩
    exact vals_back rv (by simpa using hv)
  | T a =>
    obtain ⟨its, rv, p, _⟩ := I.tuple h
    refine ⟨_, _, _, Draws.tuple hh it a (fun q => hit (by simp [ZS.rest, q])) its.toArray, by simp [rv.length], fun i v hv => ?_, fun i st => ⟨st, p⟩, fun i h' st => st.1⟩
    exact vals_back rv (by simpa using hv)
  | S x =>
    have h' : xs = x.cps.toList.map fun c => V.str ⟨#[c]⟩ := h
    subst h'
    refine ⟨_, _, _, Draws.text hh it x t, by simp, fun i v hv => ?_, fun i st => st, fun i h' st => st⟩
    obtain ⟨c, u, ec, ev⟩ := hv
    refine ⟨.str ⟨#[c]⟩, ?_, ⟨u, ev⟩⟩
    rw [List.getElem?_map, Array.getElem?_toList, ec]
    rfl
theorem ZS.begins {X : Cx} {pins : List (Addr × Obj)} {σ : L2.St} {H : Hp} {sh : Shared} (I : Inv X pins σ H sh) {s : ZS} {xs : List V} (h : s.Is X.K H xs) {u : Value} (r : RelV s.v u) :
    ∃ (t : Tok) (o : Obj) (Hb : Heap → Prop), Begins u o Hb ∧ Hb sh.heap ∧ (∀ h' it, h'.get? it = some o → s.St t it 0 h') ∧ ∀ b ∈ s.rest, b < sh.heap.objs.size := by
  cases s with
  | L a =>
    cases r
    obtain ⟨its, rv, p, _⟩ := I.list h
    refine ⟨0, _, _, begins_list a its.toArray, p.isList, fun h' it e => ⟨_, e, rfl, rfl⟩, fun b hb => ?_⟩
    rw [List.mem_singleton.mp hb]
    exact p.lt
  | T a =>
    cases r
    obtain ⟨its, rv, p, _⟩ := I.tuple h
    refine ⟨0, _, _, begins_tuple a its.toArray, p, fun h' it e => ⟨_, e, rfl, rfl⟩, fun b hb => ?_⟩
    rw [List.mem_singleton.mp hb]
    obtain ⟨o, z, _⟩ := p
    exact Heap.lt_size z
  | S x =>
    obtain ⟨t, rfl⟩ := _root_.id r
    exact ⟨t, _, _, begins_text x t, trivial, fun h' it e => ⟨_, e, rfl, rfl⟩, fun b hb => by cases hb⟩
theorem ZS.inj {X : Cx} {pins : List (Addr × Obj)} {σ : L2.St} {H : Hp} {sh : Shared} (I : Inv X pins σ H sh) {s : ZS} {xs ys : List V} (h : s.Is X.K H xs) (h' : s.Is X.K H ys) : xs = ys := by
  cases s with
  | L a => exact I.list_inj h h'
  | T a => exact I.tuple_inj h h'
  | S x => exact h.trans h'.symm
def ItG (K : PySem.W.Frag) (a b : ZS) : It :=
  ⟨fun i H => ∃ (xs ys : List V) (x y : V), a.Is K H xs ∧ b.Is K H ys ∧ xs[i]? = some x ∧ ys[i]? = some y,
    fun i H v H' => ∃ T x y, v = .ref T ∧ H T = none ∧ H' = upd H T (.tup [x, y]) ∧ (∀ xs, a.Is K H xs → xs[i]? = some x) ∧ ∀ ys, b.Is K H ys → ys[i]? = some y,
    fun i H => ∃ xs ys : List V, a.Is K H xs ∧ b.Is K H ys ∧ i ≤ xs.length ∧ i ≤ ys.length ∧ (i = xs.length ∨ i = ys.length)⟩
theorem turn_zipG {P : Program} {w : PySem.World} {K : PySem.W.Frag} {elts : List Expr} {kk : Nat} {tpos : Pos} {a b : ZS} {t1 t2 : Tok} {z TI TO i1 i2 : Addr} (D : ZipSep2 z TI TO i1 i2 (i1 :: a.rest) (i2 :: b.rest)) (n1 : i1 ∉ a.rest) (n2 : i2 ∉ b.rest) :
    Turn P w K (.Tuple elts kk tpos) (ItG K a b) [z, TI, TO, i1, i2] z (fun i h => IsZip h z TI TO .none ∧ IsTupOf2 h TI (.ref i1) (.ref i2) ∧ (∃ x y, IsTupOf2 h TO x y) ∧ a.St t1 i1 i h ∧ b.St t2 i2 i h) where
  mem := by simp
  obj := fun i h st c hc => by
    obtain ⟨hz, hTI, ⟨x, y, hTO⟩, s1, s2⟩ := st
    have e' : c = z ∨ c = TI ∨ c = TO ∨ c = i1 ∨ c = i2 := by simpa using hc
    rcases e' with q | q | q | q | q
    · rw [q]; exact ⟨_, hz, fun v q => nomatch q⟩
    · rw [q]; exact ⟨_, hTI, fun v q => nomatch q⟩
    · rw [q]; exact ⟨_, hTO, fun v q => nomatch q⟩
    · rw [q]; exact s1.obj
    · rw [q]; exact s2.obj
  keep := fun i h h' st k => by
    obtain ⟨hz, hTI, ⟨x, y, hTO⟩, h1, h2⟩ := st
    exact ⟨k z (by simp) _ hz, k TI (by simp) _ hTI, ⟨x, y, k TO (by simp) _ hTO⟩, h1.keep fun o q => k i1 (by simp) o q, h2.keep fun o q => k i2 (by simp) o q⟩
  item := by
    intro X hP hw hK hc i pins s σ H E I hf st hg
    subst hP hw hK
    obtain ⟨hz, hTI, ⟨x0, y0, hTO⟩, h1, h2⟩ := st
    obtain ⟨xs, ys, x, y, hqx, hqy, hx, hy⟩ := hg
    obtain ⟨N1, P1, S1, D1, l1, g1, k1, b1⟩ := ZS.draws I (I.ok.hd hc) hqx t1 i1 n1
    obtain ⟨N2, P2, S2, D2, l2, g2, k2, b2⟩ := ZS.draws I (I.ok.hd hc) hqy t2 i2 n2
    have hzl : z < s.heap.objs.size := Heap.lt_size hz
    have lx := (List.getElem?_eq_some_iff.mp hx).1
    have ly := (List.getElem?_eq_some_iff.mp hy).1
    refine wpAny_pyNext_zipD2_item D D1 D2 hz hTI hTO (k1 i h1) (k2 i h2) (by omega) (by omega) fun u u2 h' tk p1 p2 z' TO' h1' h2' hT hsz hk => ?_
    obtain ⟨x', ex, ru⟩ := g1 i u p1
    obtain ⟨y', ey, ru2⟩ := g2 i u2 p2
    rw [hx] at ex; cases ex
    rw [hy] at ey; cases ey
    refine ⟨_, rfl, wpAny_letOwnedTupleGo_zip (s := { s with heap := h', toks := tk }) z' fun h'' z'' sb => ?_⟩
    have hT2 : h''.get? s.heap.objs.size = some { cls := .type "tuple", data := .seq #[u, u2] } := (sb.2 _ (Nat.ne_of_gt hzl)).trans hT
    have new : ObjOk X.prog X.w (upd H s.heap.objs.size (.tup [x, y])) h'' s.heap.objs.size (.tup [x, y]) :=
      ⟨by show 2 ≤ sizeLine; decide, [u, u2], .cons ru (.cons ru2 .nil), ⟨_, hT2, rfl, _, rfl⟩⟩
    have I1 : Inv X pins σ (upd H s.heap.objs.size (.tup [x, y])) { s with heap := h'', toks := tk } :=
      I.turnedNew (ch := [z, TI, TO, i1, i2]) (fun c o hb q => (sb.2 c (fun q' => hb (by simp [q']))).trans (hk c o (fun q' => hb (by simp [q'])) (fun q' => hb (by simp [q'])) (fun q' => hb (by simp [q'])) (fun q' => hb (by simp [q'])) q)) hf (Nat.le_refl _) new
    have zi1 : i1 ≠ z := fun q => D.zf1 (by simp [q])
    have zi2 : i2 ≠ z := fun q => D.zf2 (by simp [q])
    refine ⟨.ref s.heap.objs.size, _, I1, rfl, ⟨_, x, y, rfl, I.hok.fresh (Nat.le_refl _), rfl, fun l hl => by rw [ZS.inj I hl hqx]; exact hx, fun l hl => by rw [ZS.inj I hl hqy]; exact hy⟩, ⟨z'', ?_, ⟨u, u2, ?_⟩, ?_, ?_⟩, fun c hcm => ?_⟩
    · exact (sb.2 _ D.TIz).trans (hk _ _ D.TIz D.TITO D.TIi1 D.TIi2 hTI)
    · exact (sb.2 _ D.TOz).trans TO'
    · exact (b1 _ _ h1').keep fun o q => (sb.2 _ zi1).trans q
    · exact (b2 _ _ h2').keep fun o q => (sb.2 _ zi2).trans q
    · have hlt : c < s.heap.objs.size := by
        have e' : c = z ∨ c = TI ∨ c = TO ∨ c = i1 ∨ c = i2 := by simpa using hcm
        rcases e' with q | q | q | q | q
        · rw [q]; exact hzl
        · rw [q]; exact Heap.lt_size hTI
        · rw [q]; exact Heap.lt_size hTO
        · rw [q]; obtain ⟨_, e1, _⟩ := h1.obj; exact Heap.lt_size e1
        · rw [q]; obtain ⟨_, e2, _⟩ := h2.obj; exact Heap.lt_size e2
      rw [upd_ne (Nat.ne_of_lt hlt)]
      exact (hf c hcm).1
  done := by
    intro X hP hw hK hc i pins s σ H E I hf st hg
    subst hP hw hK
    obtain ⟨hz, hTI, ⟨x0, y0, hTO⟩, h1, h2⟩ := st
    obtain ⟨xs, ys, hqx, hqy, e1, e2, hend⟩ := hg
    obtain ⟨N1, P1, S1, D1, l1, g1, k1, b1⟩ := ZS.draws I (I.ok.hd hc) hqx t1 i1 n1
    obtain ⟨N2, P2, S2, D2, l2, g2, k2, b2⟩ := ZS.draws I (I.ok.hd hc) hqy t2 i2 n2
    exact wpAny_pyNext_zipD2_end D D1 D2 hz hTI hTO (k1 i h1) (k2 i h2) (by omega) (by omega) (by omega) fun h' tk hk => ⟨rfl, I.turnedL (ch := [z, TI, TO, i1, i2]) (fun c o hb q =>
      hk c o (fun q' => hb (by simp [q'])) (fun q' => hb (by simp [q'])) (fun q' => hb (by simp [q'])) (fun q' => hb (by simp [q'])) q) hf⟩
  self := fun A i s Q E st h => wpAny_pyIter_zip st.1 h
theorem pi_zipG {X : Cx} {e e2 : Expr} {ta : TA} {p pos tpos : Pos} {elts : List Expr} {kk : Nat} (hg : Gl X "zip") (hm : X.mg "zip" = none) (ha : PA X [e, e2] ta)
    (hs : starEach [e, e2] X.env = (false, eval e X.env) :: starEach [e2] X.env) (hpl : (backTo pos (starEach [e2] X.env)).any (·.1) = false) :
    PI X (.Tuple elts kk tpos) (.Call (.Name "zip" p) [e, e2] [] pos) (fun σ H R => ta σ H fun vs H1 => ∃ (a b : ZS) (xs ys : List V), vs = [a.v, b.v] ∧ a.Is X.K H1 xs ∧ b.Is X.K H1 ys ∧ R (ItG X.K a b) H1) := by
  refine ⟨fun pins s σ H R I h => ?_⟩
  refine Call_ (ld_blt I hg hm PyProof.Rows.boot_zip (PyProof.Rows.callWith_type1 (thn (ha.run pos pins s σ H _ I h) fun us s1 ⟨vs, H1, I1, r1, q1⟩ => ?_) hs hpl))
  obtain ⟨a, b, xs, ys, ex, hqx, hqy, q⟩ := q1
  subst ex
  cases r1 with
  | cons r rr =>
    cases rr with
    | cons r' rr =>
      cases rr
      have fresh5 : ∀ c, c ∈ [s1.heap.objs.size + 4, s1.heap.objs.size + 2, s1.heap.objs.size + 3, s1.heap.objs.size, s1.heap.objs.size + 1] → FpOk X pins H1 c := fun c hcm => by
        have e' : c = s1.heap.objs.size + 4 ∨ c = s1.heap.objs.size + 2 ∨ c = s1.heap.objs.size + 3 ∨ c = s1.heap.objs.size ∨ c = s1.heap.objs.size + 1 := by simpa using hcm
        have hle : s1.heap.objs.size ≤ c := by omega
        exact I1.fpOk hle (I1.hok.fresh hle)
      obtain ⟨t1, o1, Hb1, B1, q1, w1, r1'⟩ := ZS.begins I1 hqx r
      obtain ⟨t2, o2, Hb2, B2, q2, w2, r2'⟩ := ZS.begins I1 hqy r'
      refine zip_begins2 B1 B2 q1 q2 fun h' hz hTI hTO e1 e2 hsz hk => wpAny_pyIter_zip hz ?_
      have I2 : Inv X pins σ H1 { s1 with heap := h' } := I1.kept (t' := s1.toks) hk
      exact ⟨s1.heap.objs.size + 4, [s1.heap.objs.size + 4, s1.heap.objs.size + 2, s1.heap.objs.size + 3, s1.heap.objs.size, s1.heap.objs.size + 1], _, _, H1, rfl, I2, turn_zipG (t1 := t1) (t2 := t2) (zip_sep2 r1' r2') (fun z => Nat.lt_irrefl _ (r1' _ z)) (fun z => Nat.not_succ_lt_self (r2' _ z)), ⟨hz, hTI, ⟨_, _, hTO⟩, w1 _ _ e1, w2 _ _ e2⟩, fresh5, q⟩
def zitemsD : PyData → Option (List PyData)
  | .list xs => some xs
  | .tuple xs => some xs
  | .str x => some (chars x)
  | _ => none
/-- what zip walks through at an argument -/
theorem zs_of {K : PySem.W.Frag} {W B : Addr → Prop} {H1 : Hp} {d : PyData} {u : V} {ds : List PyData} (hW : ∀ b, W b → ∃ o, H1 b = some o ∧ IsOw o) (hB : ∀ a, B a → ¬ W a) (r : Rep K H1 B d u) (h : zitemsD d = some ds) :
    ∃ (s : ZS) (xs : List V), u = s.v ∧ s.Is K H1 xs ∧ ∀ Hi, Stay W H1 Hi → s.Is K Hi xs ∧ Reps K Hi (fun a => B a ∧ H1 a ≠ none) ds xs := by
  cases r with
  | lst h2 h3 =>
    cases h
    refine ⟨.L _, _, rfl, h2.sql, fun Hi s => ⟨?_, h3.stay s hW hB⟩⟩
    rcases h2 with ⟨ha, h⟩ | h
    · exact .inl (s.rdL (hB _ ha) h)
    · exact LsAt.sql (A := B) (.inr h)
  | tup h2 h3 =>
    cases h
    exact ⟨.T _, _, rfl, h2.sqt, fun Hi s => ⟨s.sqT hW h2.sqt, h3.stay s hW hB⟩⟩
  | str x =>
    cases h
    refine ⟨.S x, _, rfl, rfl, fun Hi s => ⟨rfl, ?_⟩⟩
    unfold chars
    generalize x.cps.toList = l
    induction l with
    | nil => exact .nil
    | cons c l ih => exact .cons (.str _) ih
  | _ => cases h
theorem itOk_zipG {K : PySem.W.Frag} {W B : Addr → Prop} {H1 : Hp} {a b : ZS} {us vs : List V} {ds es : List PyData} (f1 : ∀ Hi, Stay W H1 Hi → a.Is K Hi us ∧ Reps K Hi (fun a => B a ∧ H1 a ≠ none) ds us) (f2 : ∀ Hi, Stay W H1 Hi → b.Is K Hi vs ∧ Reps K Hi (fun a => B a ∧ H1 a ≠ none) es vs) : ItOk K W B H1 (ItG K a b) (zipD ds es) := by
  intro i Hi s
  obtain ⟨g1, q1⟩ := f1 Hi s
  obtain ⟨g2, q2⟩ := f2 Hi s
  have hlen : (zipD ds es).length = min ds.length es.length := by unfold zipD; simp
  have l1 := q1.length
  have l2 := q2.length
  refine ⟨fun d hd => ?_, fun e => ⟨us, vs, g1, g2, by rw [hlen] at e; omega, by rw [hlen] at e; omega, by rw [hlen] at e; omega⟩⟩
  obtain ⟨x, y, e1, e2, rfl⟩ := zipD_get hd
  obtain ⟨u, u1, u2⟩ := q1.get e1
  obtain ⟨v, v1, v2⟩ := q2.get e2
  refine ⟨⟨us, vs, u, v, g1, g2, u1, v1⟩, fun z H2 yy => ?_⟩
  obtain ⟨T, x0, y0, rfl, hT, rfl, w1, w2⟩ := yy
  have z1 := w1 us g1
  have z2 := w2 vs g2
  rw [u1] at z1; cases z1
  rw [v1] at z2; cases z2
  exact ⟨.new hT, .tup (.of upd_same) (.cons (u2.up (.new hT)) (.cons (v2.up (.new hT)) .nil))⟩
def zipG (a : Option (List PyData)) : Option (List PyData) := match a with
  | some [d, e] => (match zitemsD d, zitemsD e with | some xs, some ys => some (zipD xs ys) | _, _ => none)
  | _ => none
@[simp] theorem zipG_list (xs ys : List PyData) : zipG (some [.list xs, .list ys]) = some (zipD xs ys) := id rfl
@[simp] theorem zipG_tuple (xs ys : List PyData) : zipG (some [.tuple xs, .tuple ys]) = some (zipD xs ys) := id rfl
@[simp] theorem zipG_lt (xs ys : List PyData) : zipG (some [.list xs, .tuple ys]) = some (zipD xs ys) := id rfl
@[simp] theorem zipG_tl (xs ys : List PyData) : zipG (some [.tuple xs, .list ys]) = some (zipD xs ys) := id rfl
@[simp] theorem zipG_ts (xs : List PyData) (l : List Nat) : zipG (some [.tuple xs, .str (mkS l)]) = some (zipD xs (l.map fun c => .str (mkS [c]))) := by
  show some (zipD xs (chars (mkS l))) = _
  rw [chars_mkS]
@[simp] theorem zipG_ls (xs : List PyData) (l : List Nat) : zipG (some [.list xs, .str (mkS l)]) = some (zipD xs (l.map fun c => .str (mkS [c]))) := by
  show some (zipD xs (chars (mkS l))) = _
  rw [chars_mkS]
@[simp] theorem zipG_st (xs : List PyData) (l : List Nat) : zipG (some [.str (mkS l), .tuple xs]) = some (zipD (l.map fun c => .str (mkS [c])) xs) := by
  show some (zipD (chars (mkS l)) xs) = _
  rw [chars_mkS]
@[simp] theorem zipG_ss (m l : List Nat) : zipG (some [.str (mkS l), .str (mkS m)]) = some (zipD (l.map fun c => .str (mkS [c])) (m.map fun c => .str (mkS [c]))) := by
  show some (zipD (chars (mkS l)) (chars (mkS m))) = _
  rw [chars_mkS, chars_mkS]
section
variable {S : List (Str × Nat)} {nm : List (Str × NameKind)} {T : Tab} {TB : Addr → Prop} {k : Nat} {X : Cx}
variable {a b c : Expr} {p : Pos} {ms ns : List Nat} {fs : Sls → Option (List PyData)} {ce : Bool}
instance (priority := high) purZipG {pn tpos : Pos} {elts : List Expr} {kk : Nat} [h1 : PurA S nm T [a, b] ms fs ce] : PurI S nm T (.Tuple elts kk tpos) (.Call (.Name "zip" pn) [a, b] [] p) ms (fun env => zipG (fs env)) (ce && bltC nm T "zip" && notStar a && notStar b) where
  run hc TB k X G := by
    simp only [Bool.and_eq_true] at hc
    obtain ⟨⟨⟨hc1, hc2⟩, hc3⟩, hc4⟩ := hc
    obtain ⟨ta, ha, la, qa⟩ := h1.run hc1 TB k X G
    obtain ⟨g1, g2⟩ := G.bl hc2
    refine ⟨_, pi_zipG g1 g2 ha (star_of hc3) (stars_of (by simp [hc4])), fun env x => rfl, fun A H0 H σ env items W R E hf hW hB q => ?_⟩
    unfold zipG at hf
    try dsimp only at hf
    split at hf
    · rename_i d e' e
      split at hf
      · rename_i xs ys e1 e2
        cases hf
        refine qa A H0 H σ env _ _ E e fun vs H1 g1 r1 => ?_
        cases r1 with
        | cons r1 r2 =>
          cases r2 with
          | cons r2 r3 =>
            cases r3
            obtain ⟨s1, us1, rfl, i1, f1⟩ := zs_of (lists_up hW g1) hB r1 e1
            obtain ⟨s2, us2, rfl, i2, f2⟩ := zs_of (lists_up hW g1) hB r2 e2
            exact ⟨s1, s2, us1, us2, rfl, i1, i2, q _ _ g1 (itOk_zipG f1 f2)⟩
      · cases hf
    · cases hf
end
end Pu

set_option Elab.async false
set_option linter.all false
set_option autoImplicit false
set_option maxRecDepth 100000
set_option maxHeartbeats 4000000
namespace Pu
open PySem PySem.Spec PyProof.Rows L2
/-! ### a text in a text -/
def subL (m l : List Nat) : Bool := (List.range (l.length + 1)).any fun i => decide (i + m.length ≤ l.length) && ((l.drop i).take m.length == m)
theorem subL_iff {m l : List Nat} : subL m l = true ↔ ∃ i, i + m.length ≤ l.length ∧ (l.drop i).take m.length = m := by
  unfold subL
  rw [List.any_eq_true]
  constructor
  · rintro ⟨i, _, h⟩
    rw [Bool.and_eq_true, decide_eq_true_eq, beq_iff_eq] at h
    exact ⟨i, h⟩
  · rintro ⟨i, h1, h2⟩
    exact ⟨i, List.mem_range.mpr (by omega), by rw [Bool.and_eq_true, decide_eq_true_eq, beq_iff_eq]; exact ⟨h1, h2⟩⟩
theorem inP_text (l m : List Nat) : inP (.str (mkS m)) (.str (mkS l)) = some (.bool (subL m l)) := by
  unfold inP inD
  dsimp only
  congr 2
  rw [Bool.eq_iff_iff, StrLaws.found_iff, subL_iff]
  simp only [mkS_length, StrLaws.subAt_eq, mkS_list, beq_iff_eq]
/-- two letters in a row -/
theorem subL_two {c d : Nat} {l : List Nat} : subL [c, d] l = true ↔ ∃ i : Nat, l[i]? = some c ∧ l[i + 1]? = some d := by
  rw [subL_iff]
  constructor
  · rintro ⟨i, h1, h2⟩
    refine ⟨i, ?_, ?_⟩
    · have := congrArg (fun t => t[0]?) h2
      simpa using this
    · have := congrArg (fun t => t[1]?) h2
      simpa using this
  · rintro ⟨i, h1, h2⟩
    have hl := (List.getElem?_eq_some_iff.mp h2).1
    refine ⟨i, by simp; omega, ?_⟩
    obtain ⟨q1, e1⟩ := List.getElem?_eq_some_iff.mp h1
    obtain ⟨q2, e2⟩ := List.getElem?_eq_some_iff.mp h2
    rw [List.drop_eq_getElem_cons q1, List.drop_eq_getElem_cons q2, e1, e2]
    rfl
end Pu

set_option Elab.async false
set_option linter.all false
set_option autoImplicit false
set_option maxRecDepth 100000
set_option maxHeartbeats 4000000
namespace Pu
open PySem PySem.Spec PyProof.Rows L2
/-! ### sorted of what has an order, the last of a list -/
theorem srtD_ord {α : Type} [Ord1 α] (xs : List α) : srtD (xs.map Ord1.f) = (xs.mergeSort Ord1.le).map Ord1.f := (List.map_mergeSort fun a _ b _ => (Ord1.key a b).symm).symm
theorem sortL_ord {α : Type} [Ord2 α] {xs : List α} (h : ∀ x ∈ xs, Ord2.ok x) : sortL (some (.list (xs.map Ord1.f))) = some ((xs.mergeSort Ord1.le).map Ord1.f) := by
  show (if SoC (xs.map Ord1.f) then some (srtD (xs.map Ord1.f)) else none) = _
  rw [if_pos (Ord2.so xs h), srtD_ord]
theorem sortL_ordT {α : Type} [Ord2 α] {xs : List α} (h : ∀ x ∈ xs, Ord2.ok x) : sortL (some (.tuple (xs.map Ord1.f))) = some ((xs.mergeSort Ord1.le).map Ord1.f) := by
  show (if SoC (xs.map Ord1.f) then some (srtD (xs.map Ord1.f)) else none) = _
  rw [if_pos (Ord2.so xs h), srtD_ord]
/-- what is ascending and has the same members is the sorted list -/
theorem srt_ord {α : Type} [Ord1 α] {L xs : List α} (p : xs.Perm L) (hs : L.Pairwise fun a b => Ord1.le a b = true) : xs.mergeSort Ord1.le = L :=
  List.Perm.eq_of_pairwise (fun a b _ _ => Ord1.anti a b) (List.pairwise_mergeSort Ord1.trans Ord1.total _) hs ((List.mergeSort_perm _ _).trans p)
theorem itemD_end (d : PyData) (ds : List PyData) : itemD (.list (ds ++ [d])) (.int (-1)) = some d := by
  show L2.atI (ds ++ [d]) (-1) = _
  unfold L2.atI ixN
  rw [List.length_append, List.length_singleton, if_neg (by omega), if_pos (by omega), show (-1 + ((ds.length + 1 : Nat) : Int)).toNat = ds.length by omega]
  simp
theorem setS_end (d : PyData) (ds : List PyData) (x : PyData) : setS (-1) d (.ow (ds ++ [x])) = some (.ow (ds ++ [d])) := by
  unfold setS setK ixN
  dsimp only
  rw [List.length_append, List.length_singleton, if_neg (by omega), if_pos (by omega), show (-1 + ((ds.length + 1 : Nat) : Int)).toNat = ds.length by omega]
  dsimp only
  rw [List.set_append_right _ _ (Nat.le_refl _), Nat.sub_self]
  rfl
theorem rgL_of {i j : Int} (h : RgB i j) : rgL (some (.int i)) (some (.int j)) = some ((rg i j).map .int) := by
  unfold rgL
  dsimp only
  rw [if_pos h, rangeD_eq]
/-- pairs of ints, sorted by the first, then by the second -/
def lePr (q r : Int × Int) : Bool := decide (rowP q ≤ rowP r)
abbrev prD (q : Int × Int) : PyData := .tuple [.int q.1, .int q.2]
theorem lePr_iff {q r : Int × Int} : lePr q r = true ↔ q.1 < r.1 ∨ (q.1 = r.1 ∧ q.2 ≤ r.2) := by
  unfold lePr rowP
  rw [decide_eq_true_eq, List.cons_le_cons_iff, List.cons_le_cons_iff]
  constructor
  · rintro (h | ⟨h, h2 | ⟨h2, _⟩⟩)
    · exact .inl h
    · exact .inr ⟨h, by omega⟩
    · exact .inr ⟨h, by omega⟩
  · rintro (h | ⟨h, h2⟩)
    · exact .inl h
    · by_cases c : q.2 = r.2
      · exact .inr ⟨h, .inr ⟨c, List.le_refl _⟩⟩
      · exact .inr ⟨h, .inl (by omega)⟩
theorem lePr_trans (a b c : Int × Int) (h1 : lePr a b = true) (h2 : lePr b c = true) : lePr a c = true := by
  rw [lePr_iff] at *; omega
theorem lePr_total (a b : Int × Int) : (lePr a b || lePr b a) = true := by
  rw [Bool.or_eq_true, lePr_iff, lePr_iff]; omega
theorem lePr_anti (a b : Int × Int) (h1 : lePr a b = true) (h2 : lePr b a = true) : a = b := by
  rw [lePr_iff] at *
  exact Prod.ext (by omega) (by omega)
theorem sortL_pairs (qs : List (Int × Int)) : sortL (some (.list (qs.map prD))) = some ((qs.mergeSort lePr).map prD) := by
  have e : ∀ l : List (Int × Int), l.map prD = (l.map rowP).map Ord1.f := fun l => by rw [List.map_map]; rfl
  rw [e, sortL_ord fun x hx => by
    obtain ⟨q, _, rfl⟩ := List.mem_map.mp hx
    show rowP q ≠ []
    simp]
  rw [e, List.map_mergeSort (r := lePr) (s := Ord1.le) fun a _ b _ => rfl]
theorem srt_pairs {L xs : List (Int × Int)} (p : xs.Perm L) (hs : L.Pairwise fun a b => lePr a b = true) : xs.mergeSort lePr = L :=
  List.Perm.eq_of_pairwise (fun a b _ _ => lePr_anti a b) (List.pairwise_mergeSort lePr_trans lePr_total _) hs ((List.mergeSort_perm _ _).trans p)
/-- one state between two statements -/
theorem Wp_via {o : Option Out} {Q Q' : Out → Prop} (h : Wp o Q') (i : ∀ x, Q' x → Q x) : Wp o Q := let ⟨x, e, q⟩ := h; ⟨x, e, i x q⟩
end Pu

set_option Elab.async false
set_option linter.all false
set_option autoImplicit false
set_option maxRecDepth 100000
set_option maxHeartbeats 4000000
namespace Pu
open PySem PySem.Spec PyProof.Rows L2
/-! ### x.count(y), of a list or a text -/
def countD : PyData → PyData → Option PyData
  | .list xs, d => if dpL xs d ≤ DEP then some (.int ((xs.countP fun y => PyData.eqv y d : Nat) : Int)) else none
  | .str a, .str b => some (.int (Txt.count a b))
  | _, _ => none
section
variable {X : Cx} {k : Nat}
abbrev rCn (K : PySem.W.Frag) (x : V) (y : V) (H : Hp) (Q : VK) : Prop := ∃ (A : Addr → Prop) (d e res : PyData), (∀ a, H a = none → A a) ∧ Rep K H A d x ∧ Rep K H A e y ∧ countD d e = some res ∧ ∀ z, Rep K H A res z → Q z H
def tCn (K : PySem.W.Frag) (to te : TE) : TE := fun σ H Q => to σ H fun x H1 =>
  (∃ a, x = .str a ∧ te σ H1 fun y H2 => ∃ b, y = .str b ∧ Q (.int (Txt.count a b)) H2) ∨
  (∃ a xs, x = .ref a ∧ SqL K H1 a xs ∧ te σ H1 fun y H2 => ∃ (A : Addr → Prop) (ds : List PyData) (e : PyData), Rep K H2 A (.list ds) x ∧ Rep K H2 A e y ∧ dpL ds e ≤ DEP ∧ Q (.int ((ds.countP fun y => PyData.eqv y e : Nat) : Int)) H2)
theorem pe_count {apos pos : Pos} {o e : Expr} {to te : TE} (hr : Room k X.A) (ho : PE X o to) (he : PE X e te) (hs : starEach [e] X.env = [(false, eval e X.env)]) (hbase : attributeBase o "count" X.env (eval o X.env) = eval o X.env) (hline : (apos.endLine == pos.line) = true) :
    PE X (.Call (.Attribute o "count" apos) [e] [] pos) (tCn X.K to te) := by
  refine ⟨fun pins s σ H Q I h => ?_⟩
  refine PySem.Call_method1 hbase hs hline (thn (ho.run pins s σ H _ I h) fun v s1 ⟨x, H1, I1, r1, q1⟩ => ?_)
  rcases q1 with ⟨a, rfl, q1⟩ | ⟨a, xs, rfl, hq, q1⟩
  · obtain ⟨t, rfl⟩ := _root_.id r1
    refine ⟨"str", _, F.plainAttrs_str, F.slot_str_count, F.type_str_count, typeIs_str _ _ _, (fun _ e => nomatch e), Calls.callWith_builtin rfl (Calls.evalArgs_plain (Calls.spliced_cons ?_))⟩
    refine thn (he.run pins s1 σ H1 _ I1 q1) fun u s2 ⟨y, H2, I2, r2, q2⟩ => Calls.spliced_nil ?_
    obtain ⟨b, rfl, q2⟩ := q2
    exact mt_count pins s2 σ H2 _ _ _ _ Q I2 r1 (.cons r2 .nil) ⟨a, b, rfl, rfl, q2⟩
  · cases r1
    obtain ⟨its, rv, p, _⟩ := I1.list hq
    refine ⟨"list", _, F.plainAttrs_list, F.slot_list_count, F.type_list_count, p.isList.typeIs, ?_, Calls.callWith_builtin rfl (Calls.evalArgs_plain (Calls.spliced_cons ?_))⟩
    · intro b e
      cases e
      obtain ⟨o, n, ho, hc, hdn, hd⟩ := p
      exact ⟨o, ho, hdn⟩
    refine thn (he.run pins s1 σ H1 _ I1 q1) fun u s2 ⟨y, H2, I2, r2, q2⟩ => Calls.spliced_nil ?_
    obtain ⟨A, ds, e, rd, re, hu, q2⟩ := q2
    obtain ⟨p1, p2, hu⟩ := dpL_le hu
    obtain ⟨as, w1⟩ := rd.reads (by rw [PyData.plain]; exact p1) I2 rfl
    obtain ⟨bs, w2⟩ := re.reads p2 I2 r2
    cases w1 with
    | list h1 h2 h3 h4 =>
      exact SeqAt.count_list_data ⟨_, h1, h2, _, h3⟩ h4 w2 p1 p2 (by have := room_dep hr hu; omega) ⟨.int _, H2, I2.tok _, ⟨_, rfl⟩, q2⟩
end
section
variable {S : List (Str × Nat)} {nm : List (Str × NameKind)} {T : Tab} {a b : Expr} {ms ns : List Nat} {f g : Sls → Option PyData} {ca cb : Bool}
instance (priority := high) purCount {apos pos : Pos} [h1 : PurE S nm T a ms f ca] [h2 : PurE S nm T b ns g cb] : PurE S nm T (.Call (.Attribute a "count" apos) [b] [] pos) (ms ++ ns) (fun env => bind2 countD (f env) (g env))
    (ca && cb && notSuper a && notStar b && (apos.endLine == pos.line)) where
  run hc TB k X G := by
    simp only [Bool.and_eq_true] at hc
    obtain ⟨⟨⟨⟨hc1, hc2⟩, hc3⟩, hc4⟩, hc5⟩ := hc
    obtain ⟨ta, ha, qa⟩ := h1.run hc1 TB k X G
    obtain ⟨tb, hb, qb⟩ := h2.run hc2 TB k X G
    refine ⟨_, pe_count G.room ha hb (star_of hc4) (base_of hc3 _ _ _) hc5, fun A H0 H σ env d Q E hf q => ?_⟩
    obtain ⟨x, y, e1, e2, e3⟩ := bind2_some hf
    refine qa A H0 H σ env _ _ E e1 fun u H1 g1 r1 => ?_
    unfold countD at e3
    try dsimp only at e3
    split at e3
    · rename_i xs
      split at e3
      · rename_i hu
        cases e3
        cases r1 with
        | lst h2 h3 =>
          refine .inr ⟨_, _, rfl, h2.sql, ?_⟩
          refine qb A H0 H1 σ env y _ (E.up g1) e2 fun v H2 g2 r2 => ?_
          exact ⟨sel (ms ++ ns) A env σ, _, _, ((Rep.lst h2 h3).up g2).wide fun a z => z.l, r2.wide fun a z => z.r, hu, q _ _ (g1.trans g2) (.int _)⟩
      · cases e3
    · cases e3
      cases r1
      refine .inl ⟨_, rfl, ?_⟩
      refine qb A H0 H1 σ env _ _ (E.up g1) e2 fun v H2 g2 r2 => ?_
      cases r2
      exact ⟨_, rfl, q _ _ (g1.trans g2) (.int _)⟩
    · cases e3
end
@[simp] theorem countD_letter (l : List Nat) (c : Nat) : countD (.str (mkS l)) (.str (mkS [c])) = some (.int ((l.filter fun x => decide (x = c)).length : Nat)) := by
  have := countF_letter l c
  exact this
/-- of a list of flat things, given by an injective f -/
theorem countD_map {α : Type} [DecidableEq α] {f : α → PyData} (hs : ∀ x, Sm 19 (f x)) (hi : ∀ x y, f x = f y → x = y) (xs : List α) (a : α) : countD (.list (xs.map f)) (f a) = some (.int ((xs.countP fun y => decide (y = a) : Nat) : Int)) := by
  have h21 : dpL (xs.map f) (f a) ≤ DEP := dpL_sm (hs a) (fun x hx => by
    obtain ⟨y, _, rfl⟩ := List.mem_map.mp hx
    exact (hs y).nb) (by decide)
  show (if dpL (xs.map f) (f a) ≤ DEP then some (PyData.int (((xs.map f).countP fun y => PyData.eqv y (f a) : Nat) : Int)) else none) = _
  rw [if_pos h21, List.countP_map]
  have e : ((fun y => PyData.eqv y (f a)) ∘ f) = fun y => decide (y = a) := by
    funext y
    show PyData.eqv (f y) (f a) = decide (y = a)
    rw [Bool.eq_iff_iff, eqv_nb (f y) (f a) (hs y).nb (hs a).nb, decide_eq_true_eq]
    exact ⟨hi y a, fun q => q ▸ rfl⟩
  rw [e]
theorem countD_pairs (xs : List (Int × Int)) (a : Int × Int) : countD (.list (xs.map prD)) (prD a) = some (.int ((xs.countP fun y => decide (y = a) : Nat) : Int)) :=
  countD_map (f := prD) (fun x => by unfold prD; infer_instance) (fun x y h => by
    have h' : PyData.tuple [.int x.1, .int x.2] = .tuple [.int y.1, .int y.2] := h
    simp at h'
    exact Prod.ext h'.1 h'.2) xs a
end Pu

set_option Elab.async false
set_option linter.all false
set_option autoImplicit false
set_option maxRecDepth 100000
set_option maxHeartbeats 4000000
namespace Pu
open PySem PySem.Spec PyProof.Rows L2
/-! ### list(range(a, b)), below zero too -/
def RgN (a b : Int) : Prop := -1000000000000 ≤ a ∧ a ≤ 1000000000000 ∧ -1000000000000 ≤ b ∧ b ≤ 1000000000000 ∧ b - a ≤ 16777216
noncomputable instance (a b : Int) : Decidable (RgN a b) := Classical.propDecidable _
noncomputable def rgN (a b : Option PyData) : Option (List PyData) := match a with
  | some (.int i) => (match b with
    | some (.int j) => if RgN i j then some (rangeD i (j - i).toNat) else none
    | _ => none)
  | _ => none
@[simp] theorem rgN_int {i j : Int} (h1 : -1000000000000 ≤ i) (h2 : i ≤ 1000000000000) (h3 : -1000000000000 ≤ j) (h4 : j ≤ 1000000000000) (h5 : j - i ≤ 16777216) : rgN (some (.int i)) (some (.int j)) = some ((rg i j).map .int) := by
  unfold rgN
  dsimp only
  rw [if_pos ⟨h1, h2, h3, h4, h5⟩, rangeD_eq]
section
variable {S : List (Str × Nat)} {nm : List (Str × NameKind)} {T : Tab} {a b : Expr} {p : Pos} {ms ns : List Nat} {f g : Sls → Option PyData} {ca cb : Bool}
instance (priority := high) purListRgN {pn pr p' : Pos} [h1 : PurE S nm T a ms f ca] [h2 : PurE S nm T b ns g cb] : PurF S nm T (.Call (.Name "list" pn) [.Call (.Name "range" pr) [a, b] [] p'] [] p) [] (fun env => rgN (f env) (g env)) (ca && cb && bltC nm T "list" && bltC nm T "range" && notStar a && notStar b) where
  run hc TB k X G := by
    simp only [Bool.and_eq_true] at hc
    obtain ⟨⟨⟨⟨⟨hc1, hc0⟩, hc2⟩, hc3⟩, hc4⟩, hc5⟩ := hc
    obtain ⟨ta, ha, qa⟩ := h1.run hc1 TB k X G
    obtain ⟨tb, hb, qb⟩ := h2.run hc0 TB k X G
    obtain ⟨g1, g2⟩ := G.bl hc2
    obtain ⟨g3, g4⟩ := G.bl hc3
    refine ⟨_, pe_listRg G.calm g1 g2 (prg_2 g3 g4 ha hb (star_of hc4) (star_of hc5) (stars_of (es := [b]) (by simp [hc5]))) rfl, fun A H0 H σ env d Q E hf q => ?_⟩
    unfold rgN at hf
    try dsimp only at hf
    split at hf
    · rename_i i ei
      split at hf
      · rename_i j e
        split at hf
        · rename_i hb
          cases hf
          refine qa A H0 H σ env _ _ E ei fun x H1 g1 r1 => ?_
          refine qb A H0 H1 σ env _ _ (E.up g1) e fun y H2 g2 r2 => ?_
          cases r1
          cases r2
          obtain ⟨b1, b2, b3, b4, b5⟩ := hb
          exact ⟨i, j, rfl, rfl, ⟨by omega, by omega, by omega, by omega, by omega⟩, fun l nl => q l _ _ ((g1.trans g2).trans (.new nl)) (g1.fresh l (g2.fresh l nl)) upd_same (reps_rg i j)⟩
        · cases hf
      · cases hf
    · cases hf
end
end Pu

set_option Elab.async false
set_option linter.all false
set_option autoImplicit false
set_option maxRecDepth 100000
set_option maxHeartbeats 4000000
namespace Pu
open PySem PySem.Spec PyProof.Rows L2 GxR
section
open PySem PySem.AutoSeq1
theorem list_extend_sl (l : Addr) (items : Array Value) (n : Nat) (b : Addr) (items2 : Array Value) (n2 : Nat) (sl : Array (Option Value)) (hc0 : ¬(!items.isEmpty && Builtin.List.listTooLong (items.size + items2.size)) = true) (hc1 : items.size ≤ sizeLine) (hs2 : items.size + items2.size ≤ sizeLine + 1) :
    Meets (Builtin.«list.extend» ⟨[.ref l, .ref b], []⟩) (fun _ R s => s.heap.get? l = some { cls := .type "list", dict := none, data := .seq items n, slots := #[] } ∧ s.heap.get? b = some { cls := .type "list", dict := none, data := .seq items2 n2, slots := sl } ∧ R (.ok (.ret Value.none)) { s with heap := s.heap.update l (Obj.mapSeq fun x => x ++ items2), toks := s.toks }) :=
  .of_wp fun prog w A R s h => by
    obtain ⟨hp, g, d, tk, os⟩ := s; obtain ⟨hl, hb, h⟩ := h; have f1 := idx_int; have f2 := AutoSeq1.sub_tuple_tuple; have f3 := AutoSeq1.sub_list_list; have f4 := AutoSeq1.sub_tuple_list; have f5 := AutoSeq1.sub_list_tuple;
    have hz' : (items ++ items2).size ≤ sizeLine + 1 := by rw [Array.size_append]; exact hs2
    wp_walk using (wpAny_updateSeq hl rfl (hz := hc1) (_hz' := hz')), wpAny_loadPart' hl, wpAny_loadPart' hb; exact ⟨_, rfl, h⟩
end
section
variable {S : List (Str × Nat)} {nm : List (Str × NameKind)} {T : Tab} {TB : Addr → Prop} {k : Nat} {X : Cx}
variable {a b : Expr} {p : Pos} {ms ns : List Nat} {f g : Sls → Option PyData} {ca cb : Bool}
variable {x : Str} {i : Nat}
/-! ### x.extend(any list) -/
def rExtend2 (K : PySem.W.Frag) : V → List V → Hp → VK → Prop := fun x vs H Q => ∃ l b xs zs, x = .ref l ∧ vs = [.ref b] ∧ H l = some (.lst xs) ∧ SqL K H b zs ∧ xs.length + zs.length ≤ sizeLine ∧ Q .non (upd H l (.lst (xs ++ zs)))
theorem mt_extend2 : MtM X "list.extend" (rExtend2 X.K) := by
  intro pins s σ H x vs v us Q I rx rv h
  obtain ⟨l, b, xs, zs, rfl, rfl, hH, hB, hz, q⟩ := h
  cases rx
  obtain ⟨u, rfl, ru⟩ := rv.one
  cases ru
  obtain ⟨z, its, n, r, hl, e⟩ := I.lstM hH
  obtain ⟨its2, r2, ⟨o2, n2, e2, c1, c2, c3⟩, z2⟩ := I.list hB
  obtain ⟨cl, dct, dat, sl⟩ := o2
  simp only at c1 c2 c3
  subst c1 c2 c3
  have hl2 := r2.length
  have hsz : its.toArray.size + its2.toArray.size ≤ sizeLine := by rw [List.size_toArray, List.size_toArray]; omega
  have hlong : ¬ (!its.toArray.isEmpty && Builtin.List.listTooLong (its.toArray.size + its2.toArray.size)) = true := by
    rw [notLongL hsz, Bool.and_false]
    exact Bool.false_ne_true
  refine call_meets PySem.F.slot_list_extend ⟨_, e, rfl⟩ PySem.F.entry_list_extend (PySem.F.args_list_extend_2 _ _)
    (list_extend_sl l its.toArray n b its2.toArray n2 sl hlong (by rw [List.size_toArray]; omega) (by omega)) ⟨e, e2, ?_⟩
  refine ⟨.non, _, I.lset (its' := its ++ its2) hH e (by simp) (r.append r2) ?_, rfl, q⟩
  rw [List.length_append]
  omega
def extE (i : Nat) (ms : List Nat) (a : Option PyData) (env : Sls) : Option Out := match a with
  | some (.list zs) => nxO (atE (extS zs) i (settle ms (.list zs) env))
  | _ => none
instance (priority := low) purExtendE {px apos cpos : Pos} [SlotOf S x i] [h1 : PurE S nm T a ms f ca] : PurS S nm T (.Expr (.Call (.Attribute (.Name x px) "extend" apos) [a] [] cpos) p) (fun env => extE i ms (f env) env)
    (ca && nameC S nm x i && notStar a && (apos.endLine == cpos.line)) where
  run hc TB k X G := by
    simp only [Bool.and_eq_true] at hc
    obtain ⟨⟨⟨hc1, hc2⟩, hc3⟩, hc4⟩ := hc
    obtain ⟨ta, ha, qa⟩ := h1.run hc1 TB k X G
    unfold nameC at hc2
    simp only [Bool.and_eq_true, decide_eq_true_eq, Bool.not_eq_true'] at hc2
    obtain ⟨⟨⟨n1, n2⟩, n3⟩, n4⟩ := hc2
    have px' : PE X (.Name x px) (tVar i) := pe_var (i := i) (by rw [G.N]; exact n1) (G.vis n2) n3 n4
    refine ⟨_, ps_expr (pe_bm PySem.F.plainAttrs_list PySem.F.slot_list_extend PySem.F.type_list_extend mt_extend2 px' (pa_cons ha pa_nil (star_of hc3)) rfl (few1 hc3) hc4 (star_of hc3) rfl) rfl, fun A H σ env o D E h q => ?_⟩
    unfold extE at h
    try dsimp only at h
    split at h
    · rename_i zs e
      rw [atE_eq] at h
      cases eo : (settle ms (.list zs) env)[i]? with
      | none => rw [eo] at h; cases h
      | some sl =>
        rw [eo] at h
        cases sl with
        | un => cases h
        | va d => cases h
        | od kvs => cases h
        | ow ds =>
          dsimp only [extS] at h
          by_cases hl : ds.length + zs.length ≤ LIM
          · rw [if_pos hl] at h
            cases h
            obtain ⟨a0, ys0, s1, s2, _⟩ := E.ow i ds (settle_own rfl eo)
            refine ⟨.ref a0, s1, .inl ⟨rfl, _, .inl (.inl s2)⟩, ?_⟩
            refine qa A X.H_0 H σ env _ _ E e fun y H1 g1 r1 => ?_
            obtain ⟨E2, r2⟩ := (E.up g1).settle r1
            cases r2 with
            | lst h2 h3 =>
              obtain ⟨a1, ys1, t1, t2, _, _, t5⟩ := E2.ow i ds eo
              rw [s1] at t1; cases t1
              have W := E2.write eo s1 t2 (t5.append h3)
              exact ⟨a0, _, ys1, _, rfl, rfl, t2, h2.sql, by rw [← lim_line, ← t5.length, ← h3.length]; exact hl, q _ _ W.1 ((evo_settle (X := X) (A := A) g1).trans W.2)⟩
          · rw [if_neg hl] at h; cases h
    · cases h
end
@[simp] theorem extE_list (i : Nat) (ms : List Nat) (zs : List PyData) (env : Sls) : extE i ms (some (.list zs)) env = nxO (atE (extS zs) i (freeze ms env)) := id rfl
end Pu

set_option Elab.async false
set_option linter.all false
set_option autoImplicit false
set_option maxRecDepth 100000
set_option maxHeartbeats 4000000
namespace Pu
open PySem PySem.Spec PyProof.Rows L2 GxR PySem.W
/-! ### a dict made here -/
theorem pe_or {X : Cx} {e : Expr} {t t' : TE} (h : PE X e t) (h' : PE X e t') : PE X e (fun σ H Q => t σ H Q ∨ t' σ H Q) :=
  ⟨fun pins s σ H Q I q => q.elim (h.run pins s σ H Q I) (h'.run pins s σ H Q I)⟩
abbrev DSp (X : Cx) (TB : Addr → Prop) (ms : List Nat) (f : Sls → Option (List (PyData × PyData))) (t : TE) : Prop := ∀ (A : Addr → Prop) (H0 H : Hp) (σ : L2.St) (env : Sls) (kvs : List (PyData × PyData)) (Q : VK), EnvRep X.K TB A H0 H σ env → f env = some kvs →
    (∀ p vs H', Grow H H' → H p = none → DcAt H' p (kvs.map (·.1)) vs → Reps X.K H' (fun a => sel ms A env σ a ∧ a ≠ p) (kvs.map (·.2)) vs → Q (.ref p) H') → t σ H Q
class PurD (S : List (Str × Nat)) (nm : List (Str × NameKind)) (T : Tab) (e : Expr) (ms : outParam (List Nat)) (f : outParam (Sls → Option (List (PyData × PyData)))) (c : outParam Bool) : Prop where
  run : c = true → ∀ (TB : Addr → Prop) (k : Nat) (X : Cx), Good S nm T TB k X → ∃ t, PE X e t ∧ DSp X TB ms f t
/-- a display of one pair whose key is a tuple -/
def tDispT (tk tv : TE) : TE := fun σ H Q => ∀ p, H p = none → tPairs [(tk, tv)] σ (upd H p (.dT [])) fun ps H2 => H2 p = some (.dT []) ∧ ∃ ks b y, ps = [(.ref b, y)] ∧ H2 b = some (.tup (ks.map kV)) ∧ Q (.ref p) (upd H2 p (.dT [(ks, y)]))
theorem pe_disp1T {X : Cx} {pos : Pos} {k v : Expr} {tk tv : TE} (hu : X.A.units + 1 < cLine) (hk : PE X k tk) (hv : PE X v tv) : PE X (.Dict [some k] [v] pos) (tDispT tk tv) := by
  refine ⟨fun pins s σ H Q I q => ?_⟩
  have hn := I.hok.fresh (Nat.le_refl s.heap.objs.size)
  have I1 := I.laid (a := s.heap.objs.size) (o := .dT []) (h' := s.heap.push { cls := .type "dict", data := .dict #[] }) (t' := s.toks) (fun _ _ q => Heap.get?_push_of_some _ q) (Nat.le_refl _) (dt_empty s.heap I.big)
  have pr := (pps_cons (pos := pos) hk hv pps_nil).run pins _ σ _ _ I1 (q _ hn)
  rw [arm_eval_Dict, zip_pairTrees [some k] [v] X.env pos rfl rfl, dictDisplay_pairs _ (by
    intro he
    have := pairTrees_length [some k] [v] X.env pos rfl rfl
    rw [he] at this
    cases this) (by rw [pairTrees_length [some k] [v] X.env pos rfl rfl]; simp)]
  refine wpAny_bind (wpAny_standAt (wpAny_bind (wpAny_subDictH (knd := tupleKind (mixKind X.prog X.w)) (Q := fun d s' => wpAny (model X.prog X.w) X.A (pure (Value.ref d)) (EP X pins σ Q) X.xe s') (show X.A.units < cLine by omega) (by rw [pairTrees_length [some k] [v] X.env pos rfl rfl]; simp)
    (thn pr fun vs s1 ⟨ps, H2, I2, rel, e, ks, b, y, ep, hb, q2⟩ => ?_))))
  subst ep
  obtain ⟨⟨kv0, v0⟩, rfl, ra, rb⟩ : ∃ p0 : Value × Value, vs = [p0] ∧ RelV (.ref b) p0.1 ∧ RelV y p0.2 := by
    cases rel with
    | cons r1 r2 => cases r2; exact ⟨_, rfl, r1.1, r1.2⟩
  cases (show kv0 = Value.ref b from ra)
  obtain ⟨z, hd, xs, rel, hx⟩ := dt_of I2.hok e
  cases rel
  refine ⟨[(ks, b, v0)], ⟨rfl, rfl, key_of I2.hok hb, trivial⟩, hx, fun h' tk hx' hs => wpAny_pure ⟨.ref _, upd H2 s.heap.objs.size (.dT [(ks, y)]), ?_, rfl, q2⟩⟩
  obtain ⟨o, es, ep, h1, h2, h3, h4, _, h5⟩ := hx'
  have e0 : storedAllH ([] : List (List L2.Key × Addr × Value)) [(ks, b, v0)] = [(ks, b, v0)] := rfl
  rw [e0] at h4 h5
  have ne : b ≠ s.heap.objs.size := fun z => by rw [z, e] at hb; cases hb
  exact d_write I2 (by rw [e]; exact True.intro) hs ⟨o, h1⟩ ⟨by rw [sizeLine_eq]; simp, hd, [(ks, b, v0)], .cons ⟨rfl, by rw [upd_ne ne]; exact hb, rb⟩ .nil, o, es, ep, h1, h2, h3, h4, h5⟩
theorem grow_put {H1 H : Hp} {D : Addr} {o0 o : HO} (g : Grow H1 H) (h1 : H1 D = none) (hD : H D = some o0) (io : IsOw o0) : Grow H1 (upd H D o) :=
  ⟨fun b u nt e => by rw [upd_ne (ne_of_none e h1)]; exact g.same b u nt e, fun b e => by
    obtain ⟨ps, q, t⟩ := g.tab b e
    have ne : b ≠ D := fun z => by rw [z, hD] at q; cases q; exact io.ntbl
    exact ⟨ps, by rw [upd_ne ne]; exact q, t⟩, fun b e => by
    by_cases hb : b = D
    · rw [hb, upd_same] at e; cases e
    · rw [upd_ne hb] at e; exact g.fresh b e⟩
section
variable {S : List (Str × Nat)} {nm : List (Str × NameKind)} {T : Tab} {TB : Addr → Prop} {k : Nat} {X : Cx}
variable {a b c : Expr} {p : Pos} {ms ns ls : List Nat} {f g h : Sls → Option PyData} {ca cb cc : Bool} {fd : Sls → Option (List (PyData × PyData))}
instance purD0 : PurD S nm T (.Dict [] [] p) [] (fun _ => some []) true where
  run _ TB k X G := ⟨_, pe_dnewK, fun A H0 H σ env kvs Q E hf q => by
    cases hf
    intro p np
    exact q p [] _ (.new np) np (.inl ⟨[], upd_same, rfl, rfl⟩) .nil⟩
def dispV (a b : Option PyData) : Option (List (PyData × PyData)) := match a with
  | some k => (match b with
    | some v => if keyK k = true then some [(k, v)] else none
    | none => none)
  | none => none
instance purD1 [h1 : PurE S nm T a ms f ca] [h2 : PurE S nm T b ns g cb] : PurD S nm T (.Dict [some a] [b] p) ns (fun env => dispV (f env) (g env)) (ca && cb) where
  run hc TB k X G := by
    simp only [Bool.and_eq_true] at hc
    obtain ⟨ta, ha, qa⟩ := h1.run hc.1 TB k X G
    obtain ⟨tb, hb, qb⟩ := h2.run hc.2 TB k X G
    refine ⟨_, pe_or (pe_disp (pps_cons ha hb pps_nil) rfl rfl (by simp) (by simp)) (pe_disp1T (room_dep G.room (n := 1) (by decide)) ha hb), fun A H0 H σ env kvs Q E hf q => ?_⟩
    unfold dispV at hf
    try dsimp only at hf
    split at hf
    · rename_i kd ek
      split at hf
      · rename_i vd ev
        split at hf
        · rename_i hk
          cases hf
          have wd : ∀ p a, sel ns (fun a => A a ∧ a ≠ p) env σ a → sel ns A env σ a ∧ a ≠ p := fun p a z => ⟨⟨z.1.1, z.2⟩, z.1.2⟩
          have leaf : ∀ x : L2.Key, kd = kD x → tDisp [(ta, tb)] σ H Q := fun x e => by
            subst e
            intro p np
            have g0 : Grow H (upd H p (.dK [])) := .new np
            have EB := E.beside (o := .dK []) np
            refine qa _ H0 _ σ env _ _ EB ek fun y H1 g1 r1 => ?_
            refine qb _ H0 H1 σ env _ _ (EB.up g1) ev fun z H2 g2 r2 => ?_
            have ey : y = kV x := by
              cases x with
              | inl i => cases r1; rfl
              | inr i => cases r1; rfl
            subst ey
            have hp : H2 p = some (.dK []) := g2.same _ _ (fun _ => HO.noConfusion) (g1.same _ _ (fun _ => HO.noConfusion) upd_same)
            refine ⟨hp, [(x, z)], rfl, by simp, ?_⟩
            have na : ¬ (fun a => sel ns A env σ a ∧ a ≠ p) p := fun z => z.2 rfl
            exact q p [z] _ (grow_put ((g0.trans g1).trans g2) np hp (.inr (.inl ⟨_, rfl⟩))) np (.inl ⟨[(x, z)], upd_same, rfl, rfl⟩) (.cons ((rep_write hp (.inr (.inl ⟨_, rfl⟩)) na).1 (r2.wide (wd p))) .nil)
          cases kd with
          | int i => exact .inl (leaf (.inl i) rfl)
          | str i => exact .inl (leaf (.inr i) rfl)
          | tuple xs =>
            obtain ⟨ks, rfl⟩ := leafs_of (by simpa [keyK] using hk)
            right
            intro p np
            have g0 : Grow H (upd H p (.dT [])) := .new np
            have EB := E.beside (o := .dT []) np
            refine qa _ H0 _ σ env _ _ EB ek fun y H1 g1 r1 => ?_
            refine qb _ H0 H1 σ env _ _ (EB.up g1) ev fun z H2 g2 r2 => ?_
            have hp : H2 p = some (.dT []) := g2.same _ _ (fun _ => HO.noConfusion) (g1.same _ _ (fun _ => HO.noConfusion) upd_same)
            cases r1 with
            | tup h3 h4 =>
              rename_i b ys
              have e := reps_leafs h4
              subst e
              refine ⟨hp, ks, b, z, rfl, g2.same _ _ (fun _ => HO.noConfusion) h3, ?_⟩
              have na : ¬ (fun a => sel ns A env σ a ∧ a ≠ p) p := fun z => z.2 rfl
              exact q p [z] _ (grow_put ((g0.trans g1).trans g2) np hp (.inr (.inr ⟨_, rfl⟩))) np (.inr ⟨[(ks, z)], upd_same, by simp, rfl, rfl⟩) (.cons ((rep_write hp (.inr (.inr ⟨_, rfl⟩)) na).1 (r2.wide (wd p))) .nil)
          | _ => cases hk
        · cases hf
      · cases hf
    · cases hf
/-! ### x = {..} -/
def settleD (ms : List Nat) (kvs : List (PyData × PyData)) (env : Sls) : Sls := settleL ms (kvs.map (·.2)) env
def setDo (i : Nat) (ms : List Nat) (a : Option (List (PyData × PyData))) (env : Sls) : Option Out := match a with
  | some kvs => some (.nx ((settleD ms kvs env).set i (.od kvs)))
  | none => none
instance (priority := high) purSetD {x : Str} {i : Nat} {p' : Pos} [SlotOf S x i] [h1 : PurD S nm T a ms fd ca] : PurS S nm T (.Assign [.Name x p'] a p) (fun env => setDo i ms (fd env) env) (ca && locC S nm x i && notComp a) where
  run hc TB k X G := by
    simp only [Bool.and_eq_true] at hc
    obtain ⟨ta, ha, qa⟩ := h1.run hc.1.1 TB k X G
    obtain ⟨l1, l2, l3⟩ := G.lo hc.1.2
    refine ⟨_, ps_set (i := i) G.nd l1 l2 ha (swaps_of hc.2 _ _ _) l3, fun A H σ env o D E h q => ?_⟩
    unfold setDo at h
    try dsimp only at h
    split at h
    · rename_i kvs e
      cases h
      refine qa A X.H_0 H σ env kvs _ E e fun p vs H1 g1 np hl r1 => ?_
      have key : EnvRep X.K TB A X.H_0 H σ (settleD ms kvs env) ∧ Reps X.K H1 (fun a => sel [] A (settleD ms kvs env) σ a ∧ a ≠ p) (kvs.map (·.2)) vs ∧ ∀ a, OW (settleD ms kvs env) σ a → OW env σ a := by
        unfold settleD settleL
        split
        · rename_i hn
          exact ⟨E, r1.flat hn, fun a z => z⟩
        · exact ⟨E.freeze ms, r1.wide fun a z => ⟨sel_freeze.mpr z.1, z.2⟩, fun a z => (OW_freeze.mp z).sub (by simp)⟩
      obtain ⟨E2, r2, how⟩ := key
      exact q _ H1 (E2.setOwn i np g1 rfl ⟨vs, hl, r2⟩) (.grow g1 fun a z => (owx_set_own z).elim (fun z => .inl (how a z)) fun z => .inr (z ▸ np))
    · cases h
/-! ### d.get(k), d.get(k, x) -/
theorem isD_dc {H : Hp} {a : Addr} {ks : List PyData} {vs : List V} (h : DcAt H a ks vs) : IsD H a := by
  rcases h with ⟨_, e, _⟩ | ⟨_, e, _⟩
  · exact .inl ⟨_, .inl e⟩
  · exact .inr ⟨_, .inl e⟩
def tGet1 (K : PySem.W.Frag) (td ty : TE) : TE := fun σ H Q => td σ H fun x H1 => ∃ a, x = .ref a ∧ IsD H1 a ∧ ty σ H1 fun y H2 => ∃ (A A' : Addr → Prop) (kvs : List (PyData × PyData)) (k : PyData) (vs : List V), DcAt H2 a (kvs.map (·.1)) vs ∧ Reps K H2 A (kvs.map (·.2)) vs ∧ okK kvs k = true ∧ Rep K H2 A' k y ∧
  ∀ v, Rep K H2 A ((lkD kvs k).getD .none) v → Q v H2
def tGet2 (K : PySem.W.Frag) (td ty tx : TE) : TE := fun σ H Q => td σ H fun x H1 => ∃ a, x = .ref a ∧ IsD H1 a ∧ ty σ H1 fun y H2 => tx σ H2 fun z H3 => ∃ (A A' : Addr → Prop) (kvs : List (PyData × PyData)) (k d : PyData) (vs : List V), DcAt H3 a (kvs.map (·.1)) vs ∧ Reps K H3 A (kvs.map (·.2)) vs ∧ okK kvs k = true ∧ Rep K H3 A' k y ∧ Rep K H3 A d z ∧
  ∀ v, Rep K H3 A ((lkD kvs k).getD d) v → Q v H3
theorem pe_get1 {o e : Expr} {apos cpos : Pos} {td ty : TE} (hu : X.A.units + 1 < cLine) (ho : PE X o td) (he : PE X e ty) (m : M1 X o "get" apos e cpos) : PE X (.Call (.Attribute o "get" apos) [e] [] cpos) (tGet1 X.K td ty) := by
  refine ⟨fun pins s σ H Q I h => ?_⟩
  refine wpAny_Call_method m.base m.few m.line PySem.F.plainAttrs_dict PySem.F.slot_dict_get PySem.F.type_dict_get (thn (ho.run pins s σ H _ I h) fun u s1 ⟨x, H1, I1, rx, a, ex, d, q1⟩ => ?_)
  subst ex
  obtain rfl : u = Value.ref a := rx
  obtain ⟨t1, t2, _⟩ := isD_at I1 d
  refine ⟨t1, t2, ?_⟩
  rw [m.trees]
  refine Calls.callWith_builtin rfl (Calls.evalArgs_plain (Calls.spliced_cons (thn (he.run pins s1 σ H1 _ I1 q1) fun iv s2 ⟨y, H2, I2, ry, A, A', kvs, k, vs, c1, c2, c3, c4, q2⟩ => Calls.spliced_nil ?_)))
  exact dc_get1 hu I2 c1 c2 c3 c4 ry fun v w' s3 I3 rw' rv => ⟨_, H2, I3, rw', q2 v rv⟩
theorem pe_get2 {o e e2 : Expr} {apos cpos : Pos} {td ty tx : TE} (hu : X.A.units + 1 < cLine) (ho : PE X o td) (he : PE X e ty) (hf : PE X e2 tx) (m : M2 X o "get" apos e e2 cpos) : PE X (.Call (.Attribute o "get" apos) [e, e2] [] cpos) (tGet2 X.K td ty tx) := by
  refine ⟨fun pins s σ H Q I h => ?_⟩
  refine wpAny_Call_method m.base m.few m.line PySem.F.plainAttrs_dict PySem.F.slot_dict_get PySem.F.type_dict_get (thn (ho.run pins s σ H _ I h) fun u s1 ⟨x, H1, I1, rx, a, ex, d, q1⟩ => ?_)
  subst ex
  obtain rfl : u = Value.ref a := rx
  obtain ⟨t1, t2, _⟩ := isD_at I1 d
  refine ⟨t1, t2, ?_⟩
  rw [m.trees]
  refine Calls.callWith_builtin rfl (Calls.evalArgs_plain (Calls.spliced_cons (thn (he.run pins s1 σ H1 _ I1 q1) fun iv s2 ⟨y, H2, I2, ry, q2⟩ =>
    Calls.spliced_cons (thn (hf.run pins s2 σ H2 _ I2 q2) fun fv s3 ⟨z, H3, I3, rz, A, A', kvs, k, d, vs, c1, c2, c3, c4, c5, q3⟩ => Calls.spliced_nil ?_))))
  exact dc_get2 hu I3 c1 c2 c3 c4 ry c5 rz fun v w' s4 I4 rw' rv => ⟨_, H3, I4, rw', q3 v rv⟩
noncomputable def getF (d k : PyData) : Option PyData := match d with
  | .dict kvs => if okK kvs k = true then some ((lkD kvs k).getD .none) else none
  | _ => none
noncomputable def getF2 (a b c : Option PyData) : Option PyData := match a with
  | some (.dict kvs) => (match b with
    | some k => (match c with
      | some d => if okK kvs k = true then some ((lkD kvs k).getD d) else none
      | none => none)
    | none => none)
  | _ => none
theorem m1_of {o e : Expr} {m : Str} {apos cpos : Pos} (h1 : notSuper o = true) (h2 : notStar e = true) (h3 : (apos.endLine == cpos.line) = true) : M1 X o m apos e cpos :=
  ⟨base_of h1 _ _ _, few1 h2, h3, by rw [star_of h2]; rfl⟩
theorem m2_of {o e e2 : Expr} {m : Str} {apos cpos : Pos} (h1 : notSuper o = true) (h2 : notStar e = true) (h4 : notStar e2 = true) (h3 : (apos.endLine == cpos.line) = true) : M2 X o m apos e e2 cpos :=
  ⟨base_of h1 _ _ _, by rw [star_of h2, star_of h4]; rfl, h3, by rw [star_of h2, star_of h4]; rfl⟩
instance (priority := high) purGet1 {apos pos : Pos} [h1 : PurE S nm T a ms f ca] [h2 : PurE S nm T b ns g cb] : PurE S nm T (.Call (.Attribute a "get" apos) [b] [] pos) (ms ++ ns) (fun env => bind2 getF (f env) (g env))
    (ca && cb && notSuper a && notStar b && (apos.endLine == pos.line)) where
  run hc TB k X G := by
    simp only [Bool.and_eq_true] at hc
    obtain ⟨⟨⟨⟨hc1, hc2⟩, hc3⟩, hc4⟩, hc5⟩ := hc
    obtain ⟨ta, ha, qa⟩ := h1.run hc1 TB k X G
    obtain ⟨tb, hb, qb⟩ := h2.run hc2 TB k X G
    refine ⟨_, pe_get1 (room_dep G.room (n := 1) (by decide)) ha hb (m1_of hc3 hc4 hc5), fun A H0 H σ env d Q E hf q => ?_⟩
    obtain ⟨x, y, e1, e2, e3⟩ := bind2_some hf
    unfold getF at e3
    split at e3
    · rename_i kvs
      split at e3
      · rename_i hk
        cases e3
        refine qa A H0 H σ env _ _ E e1 fun u H1 g1 r1 => ?_
        cases r1 with
        | dct c1 c2 c3 =>
          refine ⟨_, rfl, isD_dc c2, ?_⟩
          refine qb A H0 H1 σ env y _ (E.up g1) e2 fun v H2 g2 r2 => ?_
          exact ⟨sel (ms ++ ns) A env σ, _, kvs, y, _, g2.dc c2, (c3.up g2).wide fun a z => z.l, hk, r2, fun v rv => q v H2 (g1.trans g2) rv⟩
      · cases e3
    · cases e3
instance (priority := high) purGet2 {apos pos : Pos} [h1 : PurE S nm T a ms f ca] [h2 : PurE S nm T b ns g cb] [h3 : PurE S nm T c ls h cc] : PurE S nm T (.Call (.Attribute a "get" apos) [b, c] [] pos) (ms ++ ls) (fun env => getF2 (f env) (g env) (h env))
    (ca && cb && cc && notSuper a && notStar b && notStar c && (apos.endLine == pos.line)) where
  run hc TB k X G := by
    simp only [Bool.and_eq_true] at hc
    obtain ⟨⟨⟨⟨⟨⟨hc1, hc2⟩, hc6⟩, hc3⟩, hc4⟩, hc7⟩, hc5⟩ := hc
    obtain ⟨ta, ha, qa⟩ := h1.run hc1 TB k X G
    obtain ⟨tb, hb, qb⟩ := h2.run hc2 TB k X G
    obtain ⟨tc, hcc, qc⟩ := h3.run hc6 TB k X G
    refine ⟨_, pe_get2 (room_dep G.room (n := 1) (by decide)) ha hb hcc (m2_of hc3 hc4 hc7 hc5), fun A H0 H σ env d Q E hf q => ?_⟩
    unfold getF2 at hf
    try dsimp only at hf
    split at hf
    · rename_i kvs e1
      split at hf
      · rename_i y e2
        split at hf
        · rename_i d e3
          split at hf
          · rename_i hk
            cases hf
            refine qa A H0 H σ env _ _ E e1 fun u H1 g1 r1 => ?_
            cases r1 with
            | dct c1 c2 c3 =>
              refine ⟨_, rfl, isD_dc c2, ?_⟩
              refine qb A H0 H1 σ env y _ (E.up g1) e2 fun v H2 g2 r2 => ?_
              refine qc A H0 H2 σ env d _ ((E.up g1).up g2) e3 fun v H3 g3 r3 => ?_
              exact ⟨sel (ms ++ ls) A env σ, _, kvs, y, d, _, g3.dc (g2.dc c2), ((c3.up g2).up g3).wide fun a z => z.l, hk, r2.up g3, r3.wide fun a z => z.r, fun v rv => q v H3 ((g1.trans g2).trans g3) rv⟩
          · cases hf
        · cases hf
      · cases hf
    · cases hf
end
/-! ### evaluated -/
@[simp] theorem setDo_some (i : Nat) (ms : List Nat) (kvs : List (PyData × PyData)) (env : Sls) : setDo i ms (some kvs) env = some (.nx ((settleD ms kvs env).set i (.od kvs))) := id rfl
@[simp] theorem settleD_nil (ms : List Nat) (env : Sls) : settleD ms [] env = env := id rfl
end Pu

set_option Elab.async false
set_option linter.all false
set_option autoImplicit false
set_option maxRecDepth 100000
set_option maxHeartbeats 4000000
namespace Pu
open PySem PySem.Spec PyProof.Rows L2
/-! ### dicts of like keys and values, as plain lists of pairs -/
section
variable {α β : Type} [DecidableEq α]
def lkM (M : List (α × β)) (a : α) : Option β := (M.find? fun p => decide (p.1 = a)).map (·.2)
def hasM (M : List (α × β)) (a : α) : Bool := M.any fun p => decide (p.1 = a)
def putM (M : List (α × β)) (a : α) (b : β) : List (α × β) := if hasM M a then M.map (fun p => if p.1 = a then (p.1, b) else p) else M ++ [(a, b)]
theorem lkM_nil (a : α) : lkM ([] : List (α × β)) a = none := rfl
theorem lkM_cons (p : α × β) (M : List (α × β)) (a : α) : lkM (p :: M) a = if p.1 = a then some p.2 else lkM M a := by
  unfold lkM
  rw [List.find?_cons]
  by_cases h : p.1 = a <;> simp [h]
theorem lkM_append (M N : List (α × β)) (a : α) : lkM (M ++ N) a = match lkM M a with | some b => some b | none => lkM N a := by
  induction M with
  | nil => simp [lkM_nil]
  | cons p M ih =>
    rw [List.cons_append, lkM_cons, lkM_cons, ih]
    by_cases h : p.1 = a <;> simp [h]
theorem hasM_lk (M : List (α × β)) (a : α) : hasM M a = (lkM M a).isSome := by
  induction M with
  | nil => rfl
  | cons p M ih =>
    rw [lkM_cons]
    unfold hasM at ih ⊢
    rw [List.any_cons, ih]
    by_cases h : p.1 = a <;> simp [h]
theorem hasM_iff (M : List (α × β)) (a : α) : hasM M a = true ↔ a ∈ M.map (·.1) := by
  unfold hasM
  simp only [List.any_eq_true, decide_eq_true_eq, List.mem_map]
theorem lkM_some {M : List (α × β)} {a : α} {b : β} (h : lkM M a = some b) : (a, b) ∈ M := by
  induction M with
  | nil => cases h
  | cons p M ih =>
    rw [lkM_cons] at h
    by_cases e : p.1 = a
    · rw [if_pos e] at h; cases h; subst e; simp
    · rw [if_neg e] at h; exact List.mem_cons_of_mem _ (ih h)
theorem lkM_none {M : List (α × β)} {a : α} : lkM M a = none ↔ a ∉ M.map (·.1) := by
  rw [← hasM_iff, hasM_lk]
  cases lkM M a <;> simp
theorem lkM_mem {M : List (α × β)} (hn : (M.map (·.1)).Nodup) {a : α} {b : β} (h : (a, b) ∈ M) : lkM M a = some b := by
  induction M with
  | nil => cases h
  | cons p M ih =>
    rw [List.map_cons, List.nodup_cons] at hn
    rw [lkM_cons]
    rcases List.mem_cons.mp h with rfl | h
    · simp
    · rw [if_neg (fun e : p.1 = a => hn.1 (e ▸ List.mem_map.mpr ⟨(a, b), h, rfl⟩)), ih hn.2 h]
theorem lkM_setM (M : List (α × β)) (a c : α) (b : β) : lkM (M.map fun p => if p.1 = a then (p.1, b) else p) c = if c = a then (lkM M c).map (fun _ => b) else lkM M c := by
  induction M with
  | nil => simp [lkM_nil]
  | cons p M ih =>
    rw [List.map_cons, lkM_cons, lkM_cons, ih]
    by_cases h : p.1 = a
    · rw [if_pos h]
      by_cases h2 : p.1 = c
      · rw [if_pos h2, if_pos h2, if_pos (h2.symm.trans h)]; rfl
      · rw [if_neg h2, if_neg h2]
    · rw [if_neg h]
      by_cases h2 : p.1 = c
      · rw [if_pos h2, if_pos h2, if_neg (fun z => h (h2.trans z))]
      · rw [if_neg h2, if_neg h2]
theorem lkM_put (M : List (α × β)) (a c : α) (b : β) : lkM (putM M a b) c = if c = a then some b else lkM M c := by
  unfold putM
  by_cases h : hasM M a = true
  · rw [if_pos h, lkM_setM]
    by_cases e : c = a
    · subst e
      rw [if_pos rfl, if_pos rfl]
      rw [hasM_lk] at h
      cases e2 : lkM M c with
      | none => rw [e2] at h; cases h
      | some _ => rfl
    · rw [if_neg e, if_neg e]
  · rw [if_neg h, lkM_append, lkM_cons]
    have hn : lkM M a = none := by
      rw [hasM_lk] at h
      cases e2 : lkM M a with
      | none => rfl
      | some _ => rw [e2] at h; exact absurd rfl h
    by_cases e : c = a
    · subst e; rw [hn]; simp
    · rw [if_neg e, if_neg (fun z => e z.symm)]
      cases lkM M c <;> simp [lkM_nil]
theorem keys_put (M : List (α × β)) (a : α) (b : β) : (putM M a b).map (·.1) = if a ∈ M.map (·.1) then M.map (·.1) else M.map (·.1) ++ [a] := by
  unfold putM
  by_cases h : hasM M a = true
  · rw [if_pos h, if_pos ((hasM_iff M a).mp h), List.map_map]
    apply List.map_congr_left
    intro p _
    show (if p.1 = a then (p.1, b) else p).1 = p.1
    split <;> rfl
  · rw [if_neg h, if_neg (fun z => h ((hasM_iff M a).mpr z))]; simp
theorem keys_put_nodup {M : List (α × β)} (h : (M.map (·.1)).Nodup) (a : α) (b : β) : ((putM M a b).map (·.1)).Nodup := by
  rw [keys_put]
  split
  · exact h
  · rename_i hn
    rw [List.nodup_append]
    exact ⟨h, by simp, fun x hx y hy => by simp at hy; subst hy; exact fun e => hn (e ▸ hx)⟩
theorem putM_len (M : List (α × β)) (a : α) (b : β) : (putM M a b).length ≤ M.length + 1 := by
  unfold putM; split <;> simp
theorem mem_keys_put (M : List (α × β)) (a c : α) (b : β) : c ∈ (putM M a b).map (·.1) ↔ c = a ∨ c ∈ M.map (·.1) := by
  rw [keys_put]
  split
  · constructor
    · exact .inr
    · rintro (rfl | h)
      · assumption
      · exact h
  · rw [List.mem_append]; simp [or_comm]
end
/-- a dict as data -/
def dcD {α β : Type} (f : α → PyData) (g : β → PyData) (M : List (α × β)) : List (PyData × PyData) := M.map fun p => (f p.1, g p.2)
/-- keys of one kind -/
class KyF {α : Type} (f : α → PyData) : Prop where
  key : ∀ a, keyK (f a) = true
  isT : ∀ a b, isT (f a) = isT (f b)
  inj : ∀ a b, f a = f b → a = b
instance : KyF (PyData.int) := ⟨fun _ => rfl, fun _ _ => rfl, fun a b h => by injection h⟩
instance : KyF (fun i : Int => PyData.int i) := ⟨fun _ => rfl, fun _ _ => rfl, fun a b h => by injection h⟩
instance : KyF (fun i : Nat => PyData.int (i : Int)) := ⟨fun _ => rfl, fun _ _ => rfl, fun a b h => by injection h with h; omega⟩
instance : KyF (PyData.str) := ⟨fun _ => rfl, fun _ _ => rfl, fun a b h => by injection h⟩
instance : KyF (fun l : List Nat => PyData.str (mkS l)) := ⟨fun _ => rfl, fun _ _ => rfl, fun a b h => by
  injection h with h
  have := congrArg (fun s : Str => s.cps.toList) h
  simpa [mkS] using this⟩
instance : KyF (fun q : Int × Int => PyData.tuple [.int q.1, .int q.2]) := ⟨fun _ => rfl, fun _ _ => rfl, fun a b h => by
  simp at h
  exact Prod.ext h.1 h.2⟩
instance : KyF (fun l : List Int => PyData.tuple (l.map .int)) := ⟨fun l => by simp [keyK, leafK], fun _ _ => rfl, fun a b h => by simpa using h⟩
section
variable {α β : Type} [DecidableEq α] {f : α → PyData} {g : β → PyData}
@[simp] theorem dcD_nil : dcD f g [] = [] := id rfl
@[simp] theorem dcD_len (M : List (α × β)) : (dcD f g M).length = M.length := by simp [dcD]
@[simp] theorem okK_dc [KyF f] (M : List (α × β)) (a : α) : okK (dcD f g M) (f a) = true := by
  unfold okK dcD
  simp only [Bool.and_eq_true, List.all_eq_true, List.mem_map, beq_iff_eq]
  refine ⟨KyF.key a, ?_⟩
  rintro p ⟨q, _, rfl⟩
  exact KyF.isT (f := f) q.1 a
theorem lkD_dc [KyF f] (M : List (α × β)) (a : α) : lkD (dcD f g M) (f a) = (lkM M a).map g := by
  induction M with
  | nil => rfl
  | cons p M ih =>
    have e : dcD f g (p :: M) = (f p.1, g p.2) :: dcD f g M := rfl
    rw [lkM_cons, e]
    by_cases h : p.1 = a
    · simp [lkD, List.find?_cons, h]
    · have h2 : ¬ f p.1 = f a := fun z => h (KyF.inj (f := f) _ _ z)
      rw [if_neg h, ← ih]
      simp [lkD, List.find?_cons, h2]
theorem putD_dc [KyF f] (M : List (α × β)) (a : α) (b : β) : putD (dcD f g M) (f a) (g b) = dcD f g (putM M a b) := by
  have ha : anyD (dcD f g M) (f a) = hasM M a := by
    unfold anyD hasM dcD
    rw [List.any_map]
    congr 1
    funext p
    dsimp only [Function.comp]
    rw [decide_eq_decide]
    exact ⟨KyF.inj (f := f) _ _, fun e => by rw [e]⟩
  unfold putD putM
  rw [ha]
  by_cases h : hasM M a = true
  · rw [if_pos h, if_pos h]
    unfold setD dcD
    rw [List.map_map, List.map_map]
    apply List.map_congr_left
    intro p _
    dsimp only [Function.comp]
    by_cases e : p.1 = a
    · have e' : f p.1 = f a := by rw [e]
      simp [e]
    · have e' : ¬ f p.1 = f a := fun z => e (KyF.inj (f := f) _ _ z)
      simp [e, e']
  · rw [if_neg h, if_neg h]
    simp [dcD]
theorem dcD_keys (M : List (α × β)) : (dcD f g M).map (·.1) = (M.map (·.1)).map f := by simp [dcD, List.map_map, Function.comp_def]
@[simp] theorem itemD_dc [KyF f] (M : List (α × β)) (a : α) : itemD (.dict (dcD f g M)) (f a) = (lkM M a).map g := by
  rw [← lkD_dc (f := f) (g := g)]
  show (if okK (dcD f g M) (f a) = true then lkD (dcD f g M) (f a) else none) = _
  rw [if_pos (okK_dc (f := f) (g := g) M a)]
@[simp] theorem inP_dc [KyF f] (M : List (α × β)) (a : α) : inP (f a) (.dict (dcD f g M)) = some (.bool (hasM M a)) := by
  rw [hasM_lk]
  unfold inP inD
  dsimp only
  rw [if_pos (okK_dc (f := f) (g := g) M a), lkD_dc, Option.isSome_map]
@[simp] theorem ninP_dc [KyF f] (M : List (α × β)) (a : α) : ninP (f a) (.dict (dcD f g M)) = some (.bool (!hasM M a)) := by
  rw [hasM_lk]
  unfold ninP inD
  dsimp only
  rw [if_pos (okK_dc (f := f) (g := g) M a), lkD_dc, Option.isSome_map]
@[simp] theorem getF_dc [KyF f] (M : List (α × β)) (a : α) : getF (.dict (dcD f g M)) (f a) = some (((lkM M a).map g).getD .none) := by
  unfold getF
  dsimp only
  rw [if_pos (okK_dc (f := f) (g := g) M a), lkD_dc]
@[simp] theorem getF2_dc [KyF f] (M : List (α × β)) (a : α) (d : β) : getF2 (some (.dict (dcD f g M))) (some (f a)) (some (g d)) = some (g ((lkM M a).getD d)) := by
  unfold getF2
  dsimp only
  rw [if_pos (okK_dc (f := f) (g := g) M a), lkD_dc]
  cases lkM M a <;> rfl
@[simp] theorem setK_dc [KyF f] {M : List (α × β)} {a : α} {b : β} (h : M.length < LIM) : setK (f a) (g b) (.od (dcD f g M)) = some (.od (dcD f g (putM M a b))) := by
  rw [← putD_dc (f := f) (g := g)]
  exact if_pos ⟨okK_dc (f := f) (g := g) M a, by rw [dcD_len]; exact h⟩
end
end Pu

set_option Elab.async false
set_option linter.all false
set_option autoImplicit false
set_option maxRecDepth 100000
set_option maxHeartbeats 4000000
namespace Pu
open PySem PySem.Spec PyProof.Rows L2
/-- over range(b - 1, a - 1, -1) -/
theorem wp_down {a b : Int} {env : Sls} {gt : PyData → Sls → Option Sls} {body : Sls → Option Out} {Q : Out → Prop} (hab : a ≤ b) (I : Int → Sls → Prop) (h0 : I b env)
    (hs : ∀ i e, a ≤ i → i < b → I (i + 1) e → ∃ e1, gt (.int i) e = some e1 ∧ Wp (body e1) (bodyQ (I i) Q)) (hq : ∀ e, I a e → Q (.nx e)) : Wp (forL gt body ((rg a b).map .int).reverse env) Q := by
  rw [← List.map_reverse]
  refine wp_for (fun l e => ∃ i, a ≤ i ∧ i ≤ b ∧ l = (rg a i).reverse.map .int ∧ I i e) ⟨b, by omega, by omega, rfl, h0⟩ ?_ ?_
  · rintro x r e ⟨i, h1, h2, hl, hI⟩
    by_cases hb : a < i
    · have e0 : rg a i = rg a (i - 1) ++ [i - 1] := by
        have := rg_snoc (a := a) (b := i - 1) (by omega)
        rw [show i - 1 + 1 = i by omega] at this
        exact this
      rw [e0, List.reverse_append, List.reverse_singleton, List.singleton_append, List.map_cons] at hl
      simp only [List.cons.injEq] at hl
      obtain ⟨rfl, rfl⟩ := hl
      obtain ⟨e1, eg, o, eo, q⟩ := hs (i - 1) e (by omega) (by omega) (by rw [show i - 1 + 1 = i by omega]; exact hI)
      refine ⟨e1, eg, o, eo, ?_⟩
      cases o with
      | nx e => exact ⟨i - 1, by omega, by omega, rfl, q⟩
      | ct e => exact ⟨i - 1, by omega, by omega, rfl, q⟩
      | bk e => exact q
      | rt d => exact q
    · rw [rg_eq_nil (by omega)] at hl; cases hl
  · rintro e ⟨i, h1, h2, hl, hI⟩
    by_cases hb : a < i
    · have e0 : rg a i = rg a (i - 1) ++ [i - 1] := by
        have := rg_snoc (a := a) (b := i - 1) (by omega)
        rw [show i - 1 + 1 = i by omega] at this
        exact this
      rw [e0, List.reverse_append, List.reverse_singleton, List.singleton_append, List.map_cons] at hl
      cases hl
    · have : i = a := by omega
      exact hq e (this ▸ hI)
theorem sub_lenG {α : Type} [DecidableEq α] : ∀ {L M : List α}, L.Nodup → (∀ x ∈ L, x ∈ M) → L.length ≤ M.length
  | [], M, _, _ => by simp
  | a :: L, M, hn, h => by
    obtain ⟨n1, n2⟩ := List.nodup_cons.mp hn
    have hm : a ∈ M := h a (by simp)
    have := sub_lenG (L := L) (M := M.erase a) n2 fun x hx => (List.mem_erase_of_ne (fun e : x = a => n1 (e ▸ hx))).mpr (h x (by simp [hx]))
    rw [List.length_erase_of_mem hm] at this
    have : 0 < M.length := List.length_pos_of_mem hm
    simp; omega
theorem nodup_of_len {α : Type} [DecidableEq α] : ∀ {M L : List α}, L.Nodup → (∀ x ∈ L, x ∈ M) → M.length ≤ L.length → M.Nodup
  | [], _, _, _, _ => by simp
  | a :: M, L, hn, h, hl => by
    have hn2 : (L.erase a).Nodup := hn.erase a
    have hs : ∀ x ∈ L.erase a, x ∈ M := fun x hx => by
      rcases List.mem_cons.mp (h x (List.mem_of_mem_erase hx)) with rfl | hx'
      · exact absurd hx (List.Nodup.not_mem_erase hn)
      · exact hx'
    have le1 := sub_lenG hn2 hs
    have hle : L.length ≤ (L.erase a).length + 1 := by
      by_cases q : a ∈ L
      · rw [List.length_erase_of_mem q]; omega
      · rw [List.erase_of_not_mem q]; omega
    simp at hl
    refine List.nodup_cons.mpr ⟨fun ha => ?_, nodup_of_len hn2 hs (by omega)⟩
    have := sub_lenG (L := L) (M := M) hn fun x hx => by
      rcases List.mem_cons.mp (h x hx) with rfl | hx'
      · exact ha
      · exact hx'
    omega
/-- as many items as a set exactly if none stands twice -/
theorem srtU_len_iff {α : Type} [Ord1 α] [DecidableEq α] {xs : List α} : (srtU xs).length = xs.length ↔ xs.Nodup :=
  ⟨fun h => nodup_of_len (srtU_nodup xs) (fun x hx => mem_srtU.mp hx) (by omega), fun h => (srtU_length h fun _ => Iff.rfl).symm⟩
theorem lit_x : ("x" : Str) = mkS [120] := by decide +kernel
theorem lit_dot : ("." : Str) = mkS [46] := by decide +kernel
end Pu

set_option Elab.async false
set_option linter.all false
set_option autoImplicit false
set_option maxRecDepth 100000
set_option maxHeartbeats 4000000
namespace Pu
open PySem PySem.Spec PyProof.Rows L2
section
variable {S : List (Str × Nat)} {nm : List (Str × NameKind)} {T : Tab}
variable {a : Expr} {p : Pos} {ms : List Nat} {f : Sls → Option PyData} {ca : Bool}
/-- x is True, x is False: of a bool -/
def isB (b : Bool) : PyData → Option PyData
  | .bool c => some (.bool (decide (c = b)))
  | _ => none
@[simp] theorem isB_bool (b c : Bool) : isB b (.bool c) = some (.bool (decide (c = b))) := id rfl
instance purIsB {b : Bool} {j : Nat} {p' : Pos} [h1 : PurE S nm T a ms f ca] : PurE S nm T (.Compare a [.Is] [.Constant (.bool b) j p'] p) [] (fun env => bind1 (isB b) (f env)) ca where
  run hc TB k X G := by
    obtain ⟨ta, ha, qa⟩ := h1.run hc TB k X G
    refine ⟨_, pe_cmpR op_is_bl ha pe_bl (nomark _), fun A H0 H σ env d Q E hf q => ?_⟩
    obtain ⟨x, e1, e2⟩ := bind1_some hf
    refine qa A H0 H σ env x _ E e1 fun u H1 g1 r1 => ?_
    unfold isB at e2
    split at e2
    · cases e2
      cases r1
      exact ⟨_, _, rfl, rfl, q _ _ g1 (.bl _)⟩
    · cases e2
end
end Pu

set_option Elab.async false
set_option linter.all false
set_option autoImplicit false
set_option maxRecDepth 100000
set_option maxHeartbeats 4000000
namespace Pu
open PySem PySem.Spec PyProof.Rows L2
/-! ### orders on data built of ints, texts, pairs and rows -/
class OrdD (α : Type) where
  f : α → PyData
  lt : α → α → Prop
  al : ∀ a b, PySem.W.alike (f a) (f b) = true
  ev : ∀ a b, PyData.eqv (f a) (f b) = true ↔ a = b
  key : ∀ a b, PySem.W.dataLt (f a) (f b) = true ↔ lt a b
  dp : Nat
  dep : ∀ a, (f a).depth ≤ dp
  nn : ∀ a, f a ≠ .none
  irr : ∀ a, ¬ lt a a
  trans : ∀ a b c, lt a b → lt b c → lt a c
  tri : ∀ a b, ¬ lt a b → ¬ lt b a → a = b
instance ordDInt : OrdD Int where
  f := .int
  lt a b := a < b
  al a b := by simp [PySem.W.alike]
  ev a b := by simp [PyData.eqv]
  key a b := by rw [PySem.W.dataLt_int, decide_eq_true_eq]
  dp := 0
  dep a := by simp [PyData.depth]
  nn a h := by cases h
  irr a := by omega
  trans a b c := by omega
  tri a b := by omega
instance ordDTxt : OrdD (List Nat) where
  f l := .str (mkS l)
  lt a b := a < b
  al a b := by simp [PySem.W.alike]
  ev a b := by
    simp only [PyData.eqv, beq_iff_eq]
    exact ⟨fun h => KyF.inj (f := fun l : List Nat => PyData.str (mkS l)) a b (by rw [h]), fun h => by rw [h]⟩
  key a b := by
    have := leD_str (mkS b) (mkS a)
    rw [leD_not] at this
    rw [PySem.W.dataLt_str, decide_eq_true_eq]
    simp
  dp := 0
  dep a := by simp [PyData.depth]
  nn a h := by cases h
  irr a := List.lt_irrefl a
  trans a b c := List.lt_trans
  tri a b h1 h2 := List.le_antisymm (List.not_lt.mp h2) (List.not_lt.mp h1)
open Classical in
noncomputable instance ordDProd {α β : Type} [A : OrdD α] [B : OrdD β] : OrdD (α × β) where
  f p := .tuple [OrdD.f p.1, OrdD.f p.2]
  lt p q := OrdD.lt p.1 q.1 ∨ (p.1 = q.1 ∧ OrdD.lt p.2 q.2)
  al a b := by simp [PySem.W.alike, PySem.W.alikeAll, OrdD.al]
  ev a b := by
    simp only [PyData.eqv, PyData.eqvAll, Bool.and_true, Bool.and_eq_true, OrdD.ev]
    exact ⟨fun h => Prod.ext h.1 h.2, fun h => by rw [h]; exact ⟨rfl, rfl⟩⟩
  key a b := by
    rw [PySem.W.dataLt_pair (OrdD.al _ _) (OrdD.al _ _)]
    by_cases h1 : a.1 = b.1
    · rw [if_pos ((OrdD.ev _ _).mpr h1)]
      by_cases h2 : a.2 = b.2
      · rw [if_pos ((OrdD.ev _ _).mpr h2), h1, h2]
        simp [OrdD.irr]
      · rw [if_neg (fun z => h2 ((OrdD.ev _ _).mp z)), OrdD.key]
        simp [h1, OrdD.irr]
    · rw [if_neg (fun z => h1 ((OrdD.ev _ _).mp z)), OrdD.key]
      simp [h1]
  dp := 1 + max A.dp B.dp
  dep a := by
    have h1 := OrdD.dep a.1
    have h2 := OrdD.dep a.2
    simp [PyData.depth, PyData.depthAll]
    omega
  nn a h := by cases h
  irr a := by
    rintro (h | ⟨_, h⟩)
    · exact OrdD.irr _ h
    · exact OrdD.irr _ h
  trans a b c := by
    rintro (h | ⟨e, h⟩) (h' | ⟨e', h'⟩)
    · exact .inl (OrdD.trans _ _ _ h h')
    · exact .inl (by rw [← e']; exact h)
    · exact .inl (by rw [e]; exact h')
    · exact .inr ⟨e.trans e', OrdD.trans _ _ _ h h'⟩
  tri a b h1 h2 := by
    have e1 : a.1 = b.1 := OrdD.tri _ _ (fun z => h1 (.inl z)) fun z => h2 (.inl z)
    exact Prod.ext e1 (OrdD.tri _ _ (fun z => h1 (.inr ⟨e1, z⟩)) fun z => h2 (.inr ⟨e1.symm, z⟩))
def ltL {α : Type} [OrdD α] : List α → List α → Prop
  | [], [] => False
  | [], _ :: _ => True
  | _ :: _, [] => False
  | x :: xs, y :: ys => OrdD.lt x y ∨ (x = y ∧ ltL xs ys)
section
variable {α : Type} [A : OrdD α]
theorem ltL_irr : ∀ a : List α, ¬ ltL a a
  | [], h => h
  | x :: xs, h => by
    rcases h with h | ⟨_, h⟩
    · exact OrdD.irr _ h
    · exact ltL_irr xs h
theorem ltL_trans : ∀ a b c : List α, ltL a b → ltL b c → ltL a c
  | [], [], _, h, _ => h.elim
  | [], _ :: _, [], _, h => h.elim
  | [], _ :: _, _ :: _, _, _ => trivial
  | _ :: _, [], _, h, _ => h.elim
  | _ :: _, _ :: _, [], _, h => h.elim
  | x :: xs, y :: ys, z :: zs, h, h' => by
    rcases h with h | ⟨e, h⟩ <;> rcases h' with h' | ⟨e', h'⟩
    · exact .inl (OrdD.trans _ _ _ h h')
    · exact .inl (by rw [← e']; exact h)
    · exact .inl (by rw [e]; exact h')
    · exact .inr ⟨e.trans e', ltL_trans xs ys zs h h'⟩
theorem ltL_tri : ∀ a b : List α, ¬ ltL a b → ¬ ltL b a → a = b
  | [], [], _, _ => rfl
  | [], _ :: _, h, _ => absurd trivial h
  | _ :: _, [], _, h => absurd trivial h
  | x :: xs, y :: ys, h1, h2 => by
    have e1 : x = y := OrdD.tri _ _ (fun z => h1 (.inl z)) fun z => h2 (.inl z)
    rw [e1, ltL_tri xs ys (fun z => h1 (.inr ⟨e1, z⟩)) fun z => h2 (.inr ⟨e1.symm, z⟩)]
theorem alL : ∀ a b : List α, PySem.W.alikeAll (a.map OrdD.f) (b.map OrdD.f) = true
  | [], _ => by simp [PySem.W.alikeAll]
  | _ :: _, [] => by simp [PySem.W.alikeAll]
  | x :: xs, y :: ys => by simp [PySem.W.alikeAll, OrdD.al, alL xs ys]
theorem evL : ∀ a b : List α, PyData.eqvAll (a.map OrdD.f) (b.map OrdD.f) = true ↔ a = b
  | [], [] => by simp [PyData.eqvAll]
  | [], _ :: _ => by simp [PyData.eqvAll]
  | _ :: _, [] => by simp [PyData.eqvAll]
  | x :: xs, y :: ys => by simp [PyData.eqvAll, OrdD.ev, evL xs ys]
theorem keyL : ∀ a b : List α, PySem.W.rowLt (a.map OrdD.f) (b.map OrdD.f) = true ↔ ltL a b
  | [], [] => by
    have e : PySem.W.rowLt [] [] = false := PyProof.Rows.lex_irrefl _
    simp [e, ltL]
  | [], y :: ys => by
    have e : PySem.W.rowLt [] (OrdD.f y :: ys.map OrdD.f) = true := by
      unfold PySem.W.rowLt
      rw [PySem.W.toks_all_cons]
      simp only [PySem.W.keyToksAll]
      rw [PyProof.Rows.lex_diff (O := PyProof.Rows.itemOrd) (by simp)]
      rfl
    rw [List.map_nil, List.map_cons, e]
    simp [ltL]
  | y :: ys, [] => by
    have e : PySem.W.rowLt (OrdD.f y :: ys.map OrdD.f) [] = false := by
      unfold PySem.W.rowLt
      rw [PySem.W.toks_all_cons]
      simp only [PySem.W.keyToksAll]
      rw [PyProof.Rows.lex_diff (O := PyProof.Rows.itemOrd) (by simp)]
      rfl
    rw [List.map_nil, List.map_cons, e]
    simp [ltL]
  | x :: xs, y :: ys => by
    show PyProof.Rows.lexLt PyProof.Rows.itemOrd _ _ = true ↔ _
    rw [List.map_cons, List.map_cons, PySem.W.dataLt_cons (OrdD.al x y)]
    by_cases h1 : x = y
    · rw [if_pos ((OrdD.ev _ _).mpr h1)]
      have := keyL xs ys
      simp only [ltL, h1, OrdD.irr, false_or, true_and]
      exact this
    · rw [if_neg (fun z => h1 ((OrdD.ev _ _).mp z)), OrdD.key]
      simp [ltL, h1]
end
noncomputable instance ordDList {α : Type} [A : OrdD α] : OrdD (List α) where
  f l := .tuple (l.map OrdD.f)
  lt := ltL
  al a b := by rw [PySem.W.alike]; exact alL a b
  ev a b := by rw [PyData.eqv]; exact evL a b
  key a b := by rw [PySem.W.dataLt_tuple]; exact keyL a b
  dp := 1 + A.dp
  dep a := by
    have : PyData.depthAll (a.map A.f) ≤ A.dp := depthAll_le fun y hy => by
      obtain ⟨z, _, rfl⟩ := List.mem_map.mp hy
      exact OrdD.dep z
    simp only [PyData.depth]
    omega
  nn a h := by cases h
  irr := ltL_irr
  trans := ltL_trans
  tri := ltL_tri
section
variable {α : Type} [A : OrdD α]
theorem ord_pl (a : α) : (A.f a).plain = true := plain_alike _ (OrdD.al a a)
theorem ord_dpX (h : A.dp ≤ 100) (a b : α) : dpX (A.f a) (A.f b) ≤ DEP := by
  unfold dpX
  rw [if_pos ⟨ord_pl a, ord_pl b⟩]
  have := OrdD.dep a
  have hD : DEP = 150 := rfl
  omega
open Classical in
/-- a < b of tuples -/
theorem ltP_ord (h : A.dp ≤ 100) {a b : α} {xs ys : List PyData} (ea : A.f a = .tuple xs) (eb : A.f b = .tuple ys) : ltP (.tuple xs) (.tuple ys) = some (.bool (decide (A.lt a b))) := by
  have h1 := OrdD.al a b
  have h2 := ord_dpX h a b
  have h3 := OrdD.key a b
  rw [ea, eb] at h1 h2 h3
  rw [PySem.W.alike] at h1
  have e : ltD (.tuple xs) (.tuple ys) = some (PySem.W.dataLt (.tuple xs) (.tuple ys)) := if_pos ⟨h1, h2⟩
  unfold ltP
  rw [e]
  show some (PyData.bool (PySem.W.dataLt (.tuple xs) (.tuple ys))) = _
  congr 2
  rw [Bool.eq_iff_iff, h3, decide_eq_true_eq]
theorem mmC_ord (h : A.dp ≤ 100) (xs : List α) : MmC (xs.map A.f) := ⟨⟨fun x hx y hy => by
  obtain ⟨a, _, rfl⟩ := List.mem_map.mp hx
  obtain ⟨b, _, rfl⟩ := List.mem_map.mp hy
  exact OrdD.al a b, fun x hx => by
  obtain ⟨a, _, rfl⟩ := List.mem_map.mp hx
  exact OrdD.nn a⟩, depthAll_le fun x hx => by
  obtain ⟨a, _, rfl⟩ := List.mem_map.mp hx
  have := OrdD.dep a
  have hD : DEP = 150 := rfl
  omega⟩
open Classical in
noncomputable def minO : α → List α → α := fun x xs => xs.foldl (fun a y => if A.lt y a then y else a) x
open Classical in
noncomputable def maxO : α → List α → α := fun x xs => xs.foldl (fun a y => if A.lt a y then y else a) x
open Classical in
theorem minD_ord : ∀ (xs : List α) (x : α), PySem.W.minD (A.f x) (xs.map A.f) = A.f (minO x xs)
  | [], x => rfl
  | y :: r, x => by
    have ih := minD_ord r (if A.lt y x then y else x)
    have e : (if PySem.W.dataLt (A.f y) (A.f x) = true then A.f y else A.f x) = A.f (if A.lt y x then y else x) := by
      by_cases h : A.lt y x
      · rw [if_pos ((OrdD.key y x).mpr h), if_pos h]
      · rw [if_neg fun z => h ((OrdD.key y x).mp z), if_neg h]
    rw [← e] at ih
    exact ih
open Classical in
theorem maxD_ord : ∀ (xs : List α) (x : α), PySem.W.maxD (A.f x) (xs.map A.f) = A.f (maxO x xs)
  | [], x => rfl
  | y :: r, x => by
    have ih := maxD_ord r (if A.lt x y then y else x)
    have e : (if PySem.W.dataLt (A.f x) (A.f y) = true then A.f y else A.f x) = A.f (if A.lt x y then y else x) := by
      by_cases h : A.lt x y
      · rw [if_pos ((OrdD.key x y).mpr h), if_pos h]
      · rw [if_neg fun z => h ((OrdD.key x y).mp z), if_neg h]
    rw [← e] at ih
    exact ih
theorem ord_le_trans {a b c : α} (h1 : ¬ A.lt b a) (h2 : ¬ A.lt c b) : ¬ A.lt c a := fun h => by
  by_cases e : A.lt b c
  · exact h1 (OrdD.trans _ _ _ e h)
  · have := OrdD.tri b c e h2
    subst this
    exact h1 h
open Classical in
theorem minO_spec : ∀ (xs : List α) (x : α), minO x xs ∈ x :: xs ∧ ∀ y ∈ x :: xs, ¬ A.lt y (minO x xs)
  | [], x => ⟨by simp [minO], fun y hy => by
    simp only [List.mem_cons, List.not_mem_nil, or_false] at hy
    subst hy
    exact OrdD.irr _⟩
  | y :: r, x => by
    obtain ⟨h1, h2⟩ := minO_spec r (if A.lt y x then y else x)
    have e : minO x (y :: r) = minO (if A.lt y x then y else x) r := rfl
    rw [e]
    generalize minO (if A.lt y x then y else x) r = m at *
    by_cases h : A.lt y x
    · rw [if_pos h] at h1 h2
      refine ⟨List.mem_cons_of_mem _ h1, fun z hz => ?_⟩
      rcases List.mem_cons.mp hz with rfl | hz
      · exact ord_le_trans (h2 y (by simp)) fun q => OrdD.irr _ (OrdD.trans _ _ _ q h)
      · exact h2 z hz
    · rw [if_neg h] at h1 h2
      refine ⟨?_, fun z hz => ?_⟩
      · rcases List.mem_cons.mp h1 with q | q
        · rw [q]; simp
        · simp [q]
      · rcases List.mem_cons.mp hz with rfl | hz
        · exact h2 _ (by simp)
        · rcases List.mem_cons.mp hz with rfl | hz
          · exact ord_le_trans (h2 x (by simp)) h
          · exact h2 z (by simp [hz])
open Classical in
theorem maxO_spec : ∀ (xs : List α) (x : α), maxO x xs ∈ x :: xs ∧ ∀ y ∈ x :: xs, ¬ A.lt (maxO x xs) y
  | [], x => ⟨by simp [maxO], fun y hy => by
    simp only [List.mem_cons, List.not_mem_nil, or_false] at hy
    subst hy
    exact OrdD.irr _⟩
  | y :: r, x => by
    obtain ⟨h1, h2⟩ := maxO_spec r (if A.lt x y then y else x)
    have e : maxO x (y :: r) = maxO (if A.lt x y then y else x) r := rfl
    rw [e]
    generalize maxO (if A.lt x y then y else x) r = m at *
    by_cases h : A.lt x y
    · rw [if_pos h] at h1 h2
      refine ⟨List.mem_cons_of_mem _ h1, fun z hz => ?_⟩
      rcases List.mem_cons.mp hz with rfl | hz
      · exact ord_le_trans (fun q => OrdD.irr _ (OrdD.trans _ _ _ h q)) (h2 y (by simp))
      · exact h2 z hz
    · rw [if_neg h] at h1 h2
      refine ⟨?_, fun z hz => ?_⟩
      · rcases List.mem_cons.mp h1 with q | q
        · rw [q]; simp
        · simp [q]
      · rcases List.mem_cons.mp hz with rfl | hz
        · exact h2 _ (by simp)
        · rcases List.mem_cons.mp hz with rfl | hz
          · exact ord_le_trans h (h2 x (by simp))
          · exact h2 z (by simp [hz])
/-- min of a list: the one with none less -/
theorem minV_ord (h : A.dp ≤ 100) {xs : List α} (ne : xs ≠ []) : ∃ m, m ∈ xs ∧ (∀ y ∈ xs, ¬ A.lt y m) ∧ minV [.list (xs.map A.f)] = some (A.f m) ∧ minV [.tuple (xs.map A.f)] = some (A.f m) := by
  cases xs with
  | nil => exact absurd rfl ne
  | cons x r =>
    obtain ⟨h1, h2⟩ := minO_spec r x
    have c := mmC_ord h (x :: r)
    refine ⟨minO x r, h1, h2, ?_, ?_⟩
    · show (if MmC (A.f x :: r.map A.f) then some (PySem.W.minD (A.f x) (r.map A.f)) else none) = _
      exact (if_pos c).trans (by rw [minD_ord])
    · show (if MmC (A.f x :: r.map A.f) then some (PySem.W.minD (A.f x) (r.map A.f)) else none) = _
      exact (if_pos c).trans (by rw [minD_ord])
theorem maxV_ord (h : A.dp ≤ 100) {xs : List α} (ne : xs ≠ []) : ∃ m, m ∈ xs ∧ (∀ y ∈ xs, ¬ A.lt m y) ∧ maxV [.list (xs.map A.f)] = some (A.f m) ∧ maxV [.tuple (xs.map A.f)] = some (A.f m) := by
  cases xs with
  | nil => exact absurd rfl ne
  | cons x r =>
    obtain ⟨h1, h2⟩ := maxO_spec r x
    have c := mmC_ord h (x :: r)
    refine ⟨maxO x r, h1, h2, ?_, ?_⟩
    · show (if MmC (A.f x :: r.map A.f) then some (PySem.W.maxD (A.f x) (r.map A.f)) else none) = _
      exact (if_pos c).trans (by rw [maxD_ord])
    · show (if MmC (A.f x :: r.map A.f) then some (PySem.W.maxD (A.f x) (r.map A.f)) else none) = _
      exact (if_pos c).trans (by rw [maxD_ord])
theorem ord_min_uniq {xs : List α} {m m' : α} (h : m ∈ xs) (h1 : ∀ y ∈ xs, ¬ A.lt y m) (h' : m' ∈ xs) (h2 : ∀ y ∈ xs, ¬ A.lt y m') : m = m' := OrdD.tri _ _ (h2 m h) (h1 m' h')
open Classical in
/-- sorted of tuples with an item at least -/
theorem sortL_ordD (h : A.dp ≤ 100) {xs : List α} (hn : ∀ x ∈ xs, ∃ y r, A.f x = .tuple (y :: r)) : ∃ ys : List α, sortL (some (.list (xs.map A.f))) = some (ys.map A.f) ∧ sortL (some (.tuple (xs.map A.f))) = some (ys.map A.f) ∧ ys.Perm xs ∧ ys.Pairwise fun a b => ¬ A.lt b a := by
  have so : SoC (xs.map A.f) := ⟨fun d hd e he => by
    obtain ⟨a, _, rfl⟩ := List.mem_map.mp hd
    obtain ⟨b, _, rfl⟩ := List.mem_map.mp he
    exact OrdD.al a b, .inl fun d hd => by
    obtain ⟨a, ha, rfl⟩ := List.mem_map.mp hd
    exact hn a ha, fun d hd => by
    obtain ⟨a, _, rfl⟩ := List.mem_map.mp hd
    have := OrdD.dep a
    have hD : DEP = 150 := rfl
    omega⟩
  have key : ∀ a b : α, leD (A.f a) (A.f b) = decide (¬ A.lt b a) := fun a b => by
    rw [leD_not, Bool.eq_iff_iff, decide_eq_true_eq, Bool.not_eq_true', ← Bool.not_eq_true, OrdD.key]
  have e : srtD (xs.map A.f) = (xs.mergeSort fun a b => decide (¬ A.lt b a)).map A.f := (List.map_mergeSort fun a _ b _ => (key a b).symm).symm
  refine ⟨xs.mergeSort fun a b => decide (¬ A.lt b a), ?_, ?_, List.mergeSort_perm _ _, ?_⟩
  · show (if SoC (xs.map A.f) then some (srtD (xs.map A.f)) else none) = _
    rw [if_pos so, e]
  · show (if SoC (xs.map A.f) then some (srtD (xs.map A.f)) else none) = _
    rw [if_pos so, e]
  · have := List.pairwise_mergeSort (le := fun a b : α => decide (¬ A.lt b a)) (fun a b c h1 h2 => by
      rw [decide_eq_true_eq] at *
      exact ord_le_trans h1 h2) (fun a b => by
      rw [Bool.or_eq_true, decide_eq_true_eq, decide_eq_true_eq]
      by_cases q : A.lt a b
      · exact .inl fun z => OrdD.irr _ (OrdD.trans _ _ _ q z)
      · exact .inr q) xs
    exact this.imp fun h => of_decide_eq_true h
theorem ord_sorted_uniq {xs ys : List α} (p : xs.Perm ys) (h1 : xs.Pairwise fun a b => ¬ A.lt b a) (h2 : ys.Pairwise fun a b => ¬ A.lt b a) : xs = ys :=
  List.Perm.eq_of_pairwise (le := fun a b => ¬ A.lt b a) (fun a b _ _ q1 q2 => OrdD.tri a b q2 q1) h1 h2 p
end
end Pu

set_option Elab.async false
set_option linter.all false
set_option autoImplicit false
set_option maxRecDepth 100000
set_option maxHeartbeats 4000000
namespace Pu
open PySem PySem.Spec PyProof.Rows L2 GxR
section
variable {S : List (Str × Nat)} {nm : List (Str × NameKind)} {T : Tab} {TB : Addr → Prop} {k : Nat} {X : Cx}
variable {x : Str} {i : Nat} {p : Pos}
/-! ### x.pop() of a list of one's own, as a statement -/
theorem reps_dropLast {K : PySem.W.Frag} {H : Hp} {A : Addr → Prop} : ∀ {ds : List PyData} {ys : List V}, Reps K H A ds ys → Reps K H A ds.dropLast ys.dropLast
  | [], _, r => by cases r; exact .nil
  | [_], _, r => by cases r with | cons r1 r2 => cases r2; exact .nil
  | d :: e :: ds, _, r => by
    cases r with
    | cons r1 r2 =>
      have := reps_dropLast r2
      cases r2 with
      | cons r3 r4 => exact .cons r1 this
def popO (i : Nat) (env : Sls) : Option Out := match env[i]? with
  | some (.ow (d :: ds)) => some (.nx (env.set i (.ow (d :: ds).dropLast)))
  | _ => none
instance purPop {px apos cpos : Pos} [SlotOf S x i] : PurS S nm T (.Expr (.Call (.Attribute (.Name x px) "pop" apos) [] [] cpos) p) (fun env => popO i env)
    (nameC S nm x i && (apos.endLine == cpos.line)) where
  run hc TB k X G := by
    simp only [Bool.and_eq_true] at hc
    obtain ⟨hc2, hc4⟩ := hc
    unfold nameC at hc2
    simp only [Bool.and_eq_true, decide_eq_true_eq, Bool.not_eq_true'] at hc2
    obtain ⟨⟨⟨n1, n2⟩, n3⟩, n4⟩ := hc2
    have px' : PE X (.Name x px) (tVar i) := pe_var (i := i) (by rw [G.N]; exact n1) (G.vis n2) n3 n4
    refine ⟨_, ps_expr (pe_bm0 PySem.F.plainAttrs_list PySem.F.slot_list_pop PySem.F.type_list_pop mt_pop px' rfl hc4) rfl, fun A H σ env o D E h q => ?_⟩
    unfold popO at h
    try dsimp only at h
    split at h
    · rename_i d ds eo
      cases h
      obtain ⟨a1, ys, t1, t2, _, _, t5⟩ := E.ow i (d :: ds) eo
      have W := E.write eo t1 t2 (reps_dropLast t5)
      have hy : ys.length = ds.length + 1 := by
        have := t5.length
        simpa using this.symm
      refine ⟨.ref a1, t1, .inl ⟨rfl, _, .inl (.inl t2)⟩, ?_⟩
      exact ⟨a1, ys, ys[ys.length - 1]'(by omega), rfl, rfl, t2, List.getElem?_eq_getElem _, q _ _ W.1 W.2⟩
    · cases h
variable {y : Str} {j : Nat} {a : Expr} {ms : List Nat} {f : Sls → Option PyData} {ca : Bool}
/-! ### y = x.pop(), y = x.pop(e) -/
def popAs (i j : Nat) (env : Sls) : Option Out := match env[i]? with
  | some (.ow (d :: ds)) => some (.nx ((env.set i (.ow (d :: ds).dropLast)).set j (.va ((d :: ds).getD ds.length .none))))
  | _ => none
def popAt (i j : Nat) (a : Option PyData) (env : Sls) : Option Out := match a with
  | some (.int n) => (match env[i]? with
    | some (.ow ds) => if 0 ≤ n ∧ n < ds.length ∧ n < 2 ^ 62 then some (.nx ((env.set i (.ow (ds.eraseIdx n.toNat))).set j (.va (ds.getD n.toNat .none)))) else none
    | _ => none)
  | _ => none
theorem reps_erase {K : PySem.W.Frag} {H : Hp} {A : Addr → Prop} : ∀ (n : Nat) {ds : List PyData} {ys : List V}, Reps K H A ds ys → Reps K H A (ds.eraseIdx n) (ys.eraseIdx n)
  | _, [], _, r => by cases r; exact .nil
  | 0, d :: ds, _, r => by
    cases r with
    | cons r1 r2 => exact r2
  | n + 1, d :: ds, _, r => by
    cases r with
    | cons r1 r2 => exact .cons r1 (reps_erase n r2)
theorem pop_put {K : PySem.W.Frag} {A : Addr → Prop} {H0 H : Hp} {σ : L2.St} {env : Sls} {ds ds' : List PyData} {a1 : Addr} {ys ys' : List V} {d : PyData} {v : V} (E : EnvRep K TB A H0 H σ env) (eo : env[i]? = some (.ow ds)) (t1 : σ[i]? = some (some (.ref a1))) (t2 : H a1 = some (.lst ys))
    (r : Reps K H (sel [] A env σ) ds' ys') (rd : Rep K H (sel [] A env σ) d v) : EnvRep K TB A H0 (upd H a1 (.lst ys')) (σ.set j (some v)) ((env.set i (.ow ds')).set j (.va d)) ∧ Evo env σ H ((env.set i (.ow ds')).set j (.va d)) (σ.set j (some v)) (upd H a1 (.lst ys')) := by
  have W := E.write eo t1 t2 r
  have nA : ¬ sel [] A env σ a1 := fun z => z.2 ⟨i, _, ⟨eo, rfl⟩, by simp, t1⟩
  have rd2 := (rep_write (o := .lst ys') t2 (.inl ⟨_, rfl⟩) nA).1 rd
  have rd3 : Rep K (upd H a1 (.lst ys')) (sel [] A (env.set i (.ow ds')) σ) d v := rd2.wide fun b z => ⟨z.1, fun w => by
    obtain ⟨j', s, ⟨e, hs⟩, n, q⟩ := w
    refine z.2 ?_
    by_cases hj : i = j'
    · subst hj
      exact ⟨i, _, ⟨eo, rfl⟩, n, q⟩
    · rw [List.getElem?_set_ne hj] at e
      exact ⟨j', s, ⟨e, hs⟩, n, q⟩⟩
  refine ⟨W.1.setVa j rd3, W.2.trans (.grow (.refl _) fun a z => .inl (owx_set_va z))⟩
instance (priority := high) purPopA {px py apos cpos : Pos} [SlotOf S x i] [SlotOf S y j] : PurS S nm T (.Assign [.Name y py] (.Call (.Attribute (.Name x px) "pop" apos) [] [] cpos) p) (fun env => popAs i j env)
    (nameC S nm x i && (apos.endLine == cpos.line) && locC S nm y j) where
  run hc TB k X G := by
    simp only [Bool.and_eq_true] at hc
    obtain ⟨⟨hc2, hc4⟩, hc5⟩ := hc
    unfold nameC at hc2
    simp only [Bool.and_eq_true, decide_eq_true_eq, Bool.not_eq_true'] at hc2
    obtain ⟨⟨⟨n1, n2⟩, n3⟩, n4⟩ := hc2
    obtain ⟨l1, l2, l3⟩ := G.lo hc5
    have px' : PE X (.Name x px) (tVar i) := pe_var (i := i) (by rw [G.N]; exact n1) (G.vis n2) n3 n4
    refine ⟨_, ps_set (i := j) G.nd l1 l2 (pe_bm0 PySem.F.plainAttrs_list PySem.F.slot_list_pop PySem.F.type_list_pop mt_pop px' rfl hc4) (swaps_of rfl _ _ _) l3, fun A H σ env o D E h q => ?_⟩
    unfold popAs at h
    try dsimp only at h
    split at h
    · rename_i d ds eo
      cases h
      obtain ⟨a1, ys, t1, t2, _, _, t5⟩ := E.ow i (d :: ds) eo
      have hy : ys.length = ds.length + 1 := by
        have := t5.length
        simpa using this.symm
      have hg : (d :: ds)[ds.length]? = some ((d :: ds).getD ds.length .none) := by
        rw [List.getD_eq_getElem?_getD, List.getElem?_eq_getElem (by simp)]; rfl
      obtain ⟨v, hv, rv⟩ := t5.get hg
      have W := pop_put (j := j) E eo t1 t2 (reps_dropLast t5) rv
      refine ⟨.ref a1, t1, .inl ⟨rfl, _, .inl (.inl t2)⟩, ?_⟩
      exact ⟨a1, ys, v, rfl, rfl, t2, by rw [hy]; exact hv, q _ _ W.1 W.2⟩
    · cases h
instance (priority := high) purPopB {px py apos cpos : Pos} [SlotOf S x i] [SlotOf S y j] [h1 : PurE S nm T a ms f ca] : PurS S nm T (.Assign [.Name y py] (.Call (.Attribute (.Name x px) "pop" apos) [a] [] cpos) p) (fun env => popAt i j (f env) env)
    (ca && nameC S nm x i && notStar a && (apos.endLine == cpos.line) && locC S nm y j) where
  run hc TB k X G := by
    simp only [Bool.and_eq_true] at hc
    obtain ⟨⟨⟨⟨hc1, hc2⟩, hc3⟩, hc4⟩, hc5⟩ := hc
    obtain ⟨ta, ha, qa⟩ := h1.run hc1 TB k X G
    unfold nameC at hc2
    simp only [Bool.and_eq_true, decide_eq_true_eq, Bool.not_eq_true'] at hc2
    obtain ⟨⟨⟨n1, n2⟩, n3⟩, n4⟩ := hc2
    obtain ⟨l1, l2, l3⟩ := G.lo hc5
    have px' : PE X (.Name x px) (tVar i) := pe_var (i := i) (by rw [G.N]; exact n1) (G.vis n2) n3 n4
    refine ⟨_, ps_set (i := j) G.nd l1 l2 (pe_bm PySem.F.plainAttrs_list PySem.F.slot_list_pop PySem.F.type_list_pop mt_popAt px' (pa_cons ha pa_nil (star_of hc3)) rfl (few1 hc3) hc4 (star_of hc3) rfl) (swaps_of rfl _ _ _) l3, fun A H σ env o D E h q => ?_⟩
    unfold popAt at h
    try dsimp only at h
    split at h
    · rename_i n e
      split at h
      · rename_i ds eo
        split at h
        · rename_i hn
          cases h
          obtain ⟨a0, ys0, s1, s2, _⟩ := E.ow i ds eo
          refine ⟨.ref a0, s1, .inl ⟨rfl, _, .inl (.inl s2)⟩, ?_⟩
          refine qa A X.H_0 H σ env (.int n) _ E e fun u H1 g1 r1 => ?_
          cases r1
          obtain ⟨a1, ys, t1, t2, _, _, t5⟩ := (E.up g1).ow i ds eo
          rw [s1] at t1; cases t1
          have hg : ds[n.toNat]? = some (ds.getD n.toNat .none) := by
            rw [List.getD_eq_getElem?_getD, List.getElem?_eq_getElem (by omega)]; rfl
          obtain ⟨v, hv, rv⟩ := t5.get hg
          have hl := t5.length
          have W := pop_put (j := j) (E.up g1) eo s1 t2 (reps_erase n.toNat t5) rv
          refine ⟨a0, ys, n, n.toNat, v, rfl, rfl, t2, by omega, by omega, ?_, hv, q _ _ W.1 (.trans (.grow g1 fun a z => .inl z) W.2)⟩
          unfold seqIndex?
          have z1 : ¬ n < 0 := by omega
          have z2 : 0 ≤ n := by omega
          have z3 : n < (ys.length : Int) := by omega
          simp [z1, z2, z3]
        · cases h
      · cases h
    · cases h
end
/-! ### evaluated -/
def popS : Sl → Option Sl
  | .ow (d :: ds) => some (.ow (d :: ds).dropLast)
  | _ => none
theorem popO_eq (i : Nat) (env : Sls) : popO i env = nxO (atE popS i env) := by
  rw [atE_eq]
  unfold popO
  cases env[i]? with
  | none => rfl
  | some s =>
    cases s with
    | ow ds => cases ds <;> rfl
    | _ => rfl
@[simp] theorem popS_map {α : Type} {f : α → PyData} {xs : List α} (h : xs ≠ []) : popS (.ow (xs.map f)) = some (.ow (xs.dropLast.map f)) := by
  cases xs with
  | nil => exact absurd rfl h
  | cons x r =>
    show some (Sl.ow ((x :: r).map f).dropLast) = _
    rw [List.map_dropLast]
end Pu

set_option Elab.async false
set_option linter.all false
set_option autoImplicit false
set_option maxRecDepth 100000
set_option maxHeartbeats 4000000
namespace Pu
open PySem PySem.Spec PyProof.Rows L2 GxR
section
variable {S : List (Str × Nat)} {nm : List (Str × NameKind)} {T : Tab} {TB : Addr → Prop} {k : Nat} {X : Cx}
variable {a b : Expr} {p : Pos} {ms ns : List Nat} {f g : Sls → Option PyData} {ca cb : Bool}
/-! ### x.index(e), of a text or a list -/
theorem pe_union {e : Expr} {t1 t2 : TE} (h1 : PE X e t1) (h2 : PE X e t2) : PE X e (fun σ H Q => t1 σ H Q ∨ t2 σ H Q) :=
  ⟨fun pins s σ H Q I h => h.elim (h1.run pins s σ H Q I) (h2.run pins s σ H Q I)⟩
def IxC (ds : List PyData) (e : PyData) : Prop := PyData.plainAll ds = true ∧ e.plain = true ∧ SeqAt.shaped (.list ds) = true ∧ SeqAt.shaped e = true
noncomputable instance (ds : List PyData) (e : PyData) : Decidable (IxC ds e) := Classical.propDecidable _
noncomputable def idxF (d e : PyData) : Option PyData := match d with
  | .list ds => if IxC ds e then (match ds.findIdx? (fun z => PyData.eqv z e) with | some j => some (.int (j : Nat)) | none => none) else none
  | _ => indexF d e
instance purIdx {apos pos : Pos} [h1 : PurE S nm T a ms f ca] [h2 : PurE S nm T b ns g cb] : PurE S nm T (.Call (.Attribute a "index" apos) [b] [] pos) (ms ++ ns) (fun env => bind2 idxF (f env) (g env))
    (ca && cb && notSuper a && notStar b && (apos.endLine == pos.line)) where
  run hc TB k X G := by
    simp only [Bool.and_eq_true] at hc
    obtain ⟨⟨⟨⟨hc1, hc2⟩, hc3⟩, hc4⟩, hc5⟩ := hc
    obtain ⟨ta, ha, qa⟩ := h1.run hc1 TB k X G
    obtain ⟨tb, hb, qb⟩ := h2.run hc2 TB k X G
    have hr := G.room
    refine ⟨_, pe_union (pe_m1 F.slot_str_index F.type_str_index (MtP.rule (name := "index") X) ha hb (star_of hc4) (base_of hc3 _ _ _) hc5)
      (pe_bm PySem.F.plainAttrs_list PySem.F.slot_list_index PySem.F.type_list_index (mt_indexD (by have := hr.un; omega)) ha (pa_cons hb pa_nil (star_of hc4)) (base_of hc3 _ _ _) (few1 hc4) hc5 (star_of hc4) rfl), fun A H0 H σ env d Q E hf q => ?_⟩
    obtain ⟨x, y, e1, e2, e3⟩ := bind2_some hf
    unfold idxF at e3
    split at e3
    · rename_i ds
      split at e3
      · rename_i ix
        split at e3
        · rename_i j hj
          cases e3
          refine .inr (qa A H0 H σ env _ _ E e1 fun u H1 g1 r1 => ?_)
          obtain ⟨i1, i2, i3, i4⟩ := ix
          cases r1 with
          | lst h2 h3 =>
            rename_i a0 ys
            refine ⟨.inl ⟨rfl, _, h2.sql⟩, ?_⟩
            refine qb A H0 H1 σ env y _ (E.up g1) e2 fun v H2 g2 r2 => ?_
            have r3 : Rep X.K H2 (sel ms A env σ) (.list ds) (.ref a0) := (Rep.lst h2 h3).up g2
            have hd := List.findIdx?_eq_some_iff_getElem.mp hj
            obtain ⟨hjl, hje, hjn⟩ := hd
            refine ⟨a0, v, y, ds, j, ds[j], rfl, rfl, r3.dp (by rw [PyData.plain]; exact i1), r2.dp i2, i3, i4, List.getElem?_eq_getElem hjl, hje, fun m z' hm hz => ?_, q _ _ (g1.trans g2) (.int _)⟩
            have hml : m < ds.length := by omega
            rw [List.getElem?_eq_getElem hml] at hz
            injection hz with hz
            have := hjn m hm
            rw [hz] at this
            simpa using this
        · cases e3
      · cases e3
    · rename_i nl
      refine .inl (qa A H0 H σ env _ _ E e1 fun u H1 g1 r1 => ?_)
      have hz : ∃ z, x = .str z := MtP.str (name := "index") _ _ _ e3
      obtain ⟨z, rfl⟩ := hz
      refine ⟨by cases r1; exact ⟨_, rfl⟩, ?_⟩
      refine qb A H0 H1 σ env y _ (E.up g1) e2 fun v H2 g2 r2 => ?_
      exact ⟨v, sel (ms ++ ns) A env σ, _, y, d, rfl, (E.up (g1.trans g2)).selfree _, (r1.up g2).wide fun a z => z.l, r2.wide fun a z => z.r, e3, fun z H' g r => q z H' ((g1.trans g2).trans g) r⟩
end
/-! ### evaluated -/
@[simp] theorem idxF_str (z : Str) (e : PyData) : idxF (.str z) e = indexF (.str z) e := id rfl
theorem lay_map {α : Type} {f : α → PyData} : ∀ xs : List α, (∀ a ∈ xs, (f a).canLay0 = true) → PyData.canLayAll0 (xs.map f) = true
  | [], _ => by simp [PyData.canLayAll0]
  | x :: r, hf => by
    rw [List.map_cons]
    simp [PyData.canLayAll0, hf x (by simp), lay_map r fun a ha => hf a (by simp [ha])]
/-- the place of an item in a list of leaves -/
theorem idxF_map {α : Type} [DecidableEq α] {f : α → PyData} {xs : List α} {x : α} (hx : x ∈ xs) (hf : ∀ a ∈ xs, (f a).canLay0 = true ∧ (f a).depth ≤ 1 ∧ (f a).plain = true) (he : ∀ a b, PyData.eqv (f a) (f b) = true ↔ a = b) :
    ∃ j : Nat, ∃ hj : j < xs.length, idxF (.list (xs.map f)) (f x) = some (.int (j : Nat)) ∧ xs[j] = x ∧ ∀ i (hi : i < j), xs[i]'(by omega) ≠ x := by
  have ix : IxC (xs.map f) (f x) := by
    refine ⟨plainAll_of fun d hd => ?_, (hf x hx).2.2, ?_, ?_⟩
    · obtain ⟨a, ha, rfl⟩ := List.mem_map.mp hd
      exact (hf a ha).2.2
    · have h1 : PyData.depthAll (xs.map f) ≤ 1 := depthAll_le fun d hd => by
        obtain ⟨a, ha, rfl⟩ := List.mem_map.mp hd
        exact (hf a ha).2.1
      have h2 := lay_map xs fun a ha => (hf a ha).1
      unfold SeqAt.shaped
      simp [PyData.canLay0, PyData.depth, h2]
      omega
    · unfold SeqAt.shaped
      have := (hf x hx).2.1
      simp [(hf x hx).1]
      omega
  obtain ⟨j, hj, e1, e2⟩ : ∃ j : Nat, ∃ hj : j < xs.length, xs[j] = x ∧ ∀ i (hi : i < j), xs[i]'(by omega) ≠ x := by
    refine ⟨xs.idxOf x, List.idxOf_lt_length_of_mem hx, List.getElem_idxOf _, fun i hi e => ?_⟩
    have := List.not_of_lt_findIdx (p := (· == x)) (xs := xs) hi
    simp [e] at this
  refine ⟨j, hj, ?_, e1, e2⟩
  show (if IxC (xs.map f) (f x) then (match (xs.map f).findIdx? (fun z => PyData.eqv z (f x)) with | some j => some (PyData.int (j : Nat)) | none => none) else none) = _
  have hf2 : (xs.map f).findIdx? (fun z => PyData.eqv z (f x)) = some j := by
    rw [List.findIdx?_eq_some_iff_getElem]
    refine ⟨by simpa using hj, ?_, fun i hi => ?_⟩
    · rw [List.getElem_map, he]; exact e1
    · rw [List.getElem_map, he]; exact e2 i hi
  rw [if_pos ix, hf2]
end Pu

set_option Elab.async false
set_option linter.all false
set_option autoImplicit false
set_option maxRecDepth 100000
set_option maxHeartbeats 4000000
namespace Pu
open PySem PySem.Spec PyProof.Rows L2 GxR
/-! ### [x.pop(a) for t in it], x a list of one's own: an expression that changes a slot -/
abbrev XSp (X : Cx) (TB : Addr → Prop) (F : Sls → Option (PyData × Sls)) (t : TE) : Prop := ∀ (A : Addr → Prop) (H0 H : Hp) (σ : L2.St) (env : Sls) (d : PyData) (env' : Sls) (Q : VK), EnvRep X.K TB A H0 H σ env → F env = some (d, env') →
    (∀ x H', EnvRep X.K TB A H0 H' σ env' → Evo env σ H env' σ H' → Rep X.K H' (sel [] A env' σ) d x → Q x H') → t σ H Q
class PurX (S : List (Str × Nat)) (nm : List (Str × NameKind)) (T : Tab) (e : Expr) (f : outParam (Sls → Option (PyData × Sls))) (c : outParam Bool) : Prop where
  run : c = true → ∀ (TB : Addr → Prop) (k : Nat) (X : Cx), Good S nm T TB k X → ∃ t, PE X e t ∧ XSp X TB f t
def popStep (i : Nat) (gt : PyData → Sls → Option Sls) (a : Sls → Option PyData) (envb : Sls) (d : PyData) (ds : List PyData) : Option (PyData × List PyData) :=
  match gt d (envb.set i (.ow ds)) with
  | some env1 => (match a env1 with
    | some (.int n) => if 0 ≤ n ∧ n < ds.length ∧ n < 2 ^ 62 then some (ds.getD n.toNat .none, ds.eraseIdx n.toNat) else none
    | _ => none)
  | none => none
def popC (step : PyData → List PyData → Option (PyData × List PyData)) : List PyData → List PyData → Option (List PyData × List PyData)
  | [], ds => some ([], ds)
  | x :: r, ds => match step x ds with
    | some (y, ds1) => (match popC step r ds1 with
      | some (ys, ds2) => some (y :: ys, ds2)
      | none => none)
    | none => none
def lcpV (items : Option (List PyData)) (i : Nat) (tl : List Nat) (gt : PyData → Sls → Option Sls) (a : Sls → Option PyData) (env : Sls) : Option (PyData × Sls) :=
  match items with
  | none => none
  | some xs => if xs.length ≤ LIM ∧ i ∉ tl then (match env[i]? with
    | some (.ow ds) => (match popC (popStep i gt a (wipeE tl env)) xs ds with
      | some (ys, ds') => some (.list ys, env.set i (.ow ds'))
      | none => none)
    | _ => none) else none

section
variable {S : List (Str × Nat)} {nm : List (Str × NameKind)} {T : Tab} {TB : Addr → Prop} {k : Nat} {X : Cx}
theorem owx_set_same {ms : List Nat} {i : Nat} {ds ds' : List PyData} {env : Sls} {σ : L2.St} {a : Addr} (h : env[i]? = some (.ow ds)) : OWx ms (env.set i (.ow ds')) σ a ↔ OWx ms env σ a := by
  have hl : i < env.length := (List.getElem?_eq_some_iff.mp h).1
  constructor
  · rintro ⟨j, s, ⟨e, hs⟩, n, q⟩
    by_cases hj : i = j
    · subst hj; exact ⟨i, _, ⟨h, rfl⟩, n, q⟩
    · rw [List.getElem?_set_ne hj] at e; exact ⟨j, s, ⟨e, hs⟩, n, q⟩
  · rintro ⟨j, s, ⟨e, hs⟩, n, q⟩
    by_cases hj : i = j
    · subst hj; exact ⟨i, .ow ds', ⟨List.getElem?_set_self hl, rfl⟩, n, q⟩
    · exact ⟨j, s, ⟨by rw [List.getElem?_set_ne hj]; exact e, hs⟩, n, q⟩
theorem evo_aside {env env' : Sls} {σ σ' : L2.St} {H1 H : Hp} {D : Addr} {xs ys : List V} (ev : Evo env σ H1 env' σ' H) (h1 : H1 D = none) (hD : H D = some (.lst xs)) : Evo env σ H1 env' σ' (upd H D (.lst ys)) :=
  ⟨fun b o n nt e => by rw [upd_ne (ne_of_none e h1)]; exact ev.stay b o n nt e, ev.ow, fun b e => by
    by_cases hb : b = D
    · rw [hb, upd_same] at e; cases e
    · rw [upd_ne hb] at e; exact ev.fresh b e, fun b e => by
    obtain ⟨ps, q, t⟩ := ev.tab b e
    have ne : b ≠ D := fun z => by rw [z, hD] at q; cases q
    exact ⟨ps, by rw [upd_ne ne]; exact q, t⟩⟩
theorem EnvRep.wideA {K : PySem.W.Frag} {A A' : Addr → Prop} {H0 H : Hp} {σ : L2.St} {env : Sls} (E : EnvRep K TB A H0 H σ env) (w : ∀ a, A a → A' a) : EnvRep K TB A' H0 H σ env := by
  refine ⟨E.len, fun i d e => ?_, fun i s e hs => ?_, E.injs, E.grow, fun a e => w a (E.free a e), E.tabs⟩
  · obtain ⟨x, h1, h2⟩ := E.va i d e
    exact ⟨x, h1, h2.wide fun a z => ⟨w a z.1, z.2⟩⟩
  · obtain ⟨a, h1, h2, h3, h4⟩ := E.ows i s e hs
    exact ⟨a, h1, h2.wide fun a z => ⟨w a z.1, z.2⟩, w a h3, h4⟩
theorem pop_read {wi : TI} {gT : TG} {tt : TT} {ta : TE} {ma tl : List Nat} {i : Nat} {fi : Sls → Option (List PyData)} {gt : PyData → Sls → Option Sls} {fa : Sls → Option PyData}
    (qi : ISp X TB [] fi wi) (qg : GSp X TB gt tl gT) (off : ∀ d env env', gt d env = some env' → ∀ (i : Nat), i ∉ tl → env'[i]? = env[i]?) (qt : TSp X TB (fun _ => some true) tt) (qa : ESp X TB ma fa ta)
    {A : Addr → Prop} {H0 H : Hp} {σ : L2.St} {env env' : Sls} {d : PyData} {Q : VK} (E : EnvRep X.K TB A H0 H σ env) (hf : lcpV (fi env) i tl gt fa env = some (d, env'))
    (q : ∀ x H', EnvRep X.K TB A H0 H' σ env' → Evo env σ H env' σ H' → Rep X.K H' (sel [] A env' σ) d x → Q x H') : tLc wi gT tt (tBM X.K "list" rPopAt (tVar i) (tCons ta tNil)) tl σ H Q := by
  unfold lcpV at hf
  split at hf
  · cases hf
  · rename_i items e0
    split at hf
    · rename_i hlen
      obtain ⟨hlen, hitl⟩ := hlen
      split at hf
      · rename_i ds0 eo0
        split at hf
        · rename_i ysd dsd hc0
          cases hf
          refine qi A H0 H σ env items (OWx [] env σ) _ E e0 (fun b z => let ⟨ys, e, _⟩ := E.owl z; ⟨ys, e⟩) (fun a z => z.2) fun J H1 g1 IT D hD => ?_
          have E1 := E.up g1
          have hil : i < env.length := (List.getElem?_eq_some_iff.mp eo0).1
          generalize henvb : wipeE tl env = envb at hc0
          generalize hσb : wipe σ tl = σb
          let A1 : Addr → Prop := fun a => A a ∧ a ≠ D
          let A' : Addr → Prop := fun a => (A a ∧ a ≠ D) ∧ ¬ Wi tl env σ a
          have EA : EnvRep X.K TB A1 H0 (upd H1 D (.lst [])) σ env := E1.beside (o := .lst []) hD
          have EB : EnvRep X.K TB A' H0 (upd H1 D (.lst [])) σb envb := by
            have z := EA.wipe tl
            rw [henvb, hσb] at z
            exact z
          have eob : envb[i]? = some (.ow ds0) := by rw [← henvb, wipeE_out hitl]; exact eo0
          have hilb : i < envb.length := (List.getElem?_eq_some_iff.mp eob).1
          have H0D : H0 D = none := E1.grow.fresh D hD
          have nA : ¬ A' D := fun z => z.1.2 rfl
          have nA1 : ¬ A1 D := fun z => z.2 rfl
          have sfA : env.set i (.ow ds0) = env := by
            apply List.ext_getElem?
            intro j
            by_cases hj : i = j
            · subst hj; rw [List.getElem?_set_self hil, eo0]
            · rw [List.getElem?_set_ne hj]
          have sfB : envb.set i (.ow ds0) = envb := by
            apply List.ext_getElem?
            intro j
            by_cases hj : i = j
            · subst hj; rw [List.getElem?_set_self hilb, eob]
            · rw [List.getElem?_set_ne hj]
          refine ⟨fun j m Hi => m = items.length - j ∧ j ≤ items.length ∧ ∃ (accd : List PyData) (acc : List V) (dsc : List PyData) (rest : List PyData), popC (popStep i gt fa envb) (items.drop j) dsc = some (rest, dsd) ∧ accd ++ rest = ysd ∧ acc.length ≤ j ∧ Hi D = some (.lst acc) ∧
            Reps X.K Hi (sel [] A1 env σ) accd acc ∧ EnvRep X.K TB A' H0 Hi σb (envb.set i (.ow dsc)) ∧ EnvRep X.K TB A1 H0 Hi σ (env.set i (.ow dsc)) ∧ Evo env σ H1 (env.set i (.ow dsc)) σ Hi,
            ⟨items.length, rfl, Nat.zero_le _, [], [], ds0, ysd, hc0, rfl, Nat.le_refl _, upd_same, .nil, by rw [sfB]; exact EB, by rw [sfA]; exact EA, by rw [sfA]; exact .grow (.new hD) fun a z => .inl z⟩, ?_⟩
          rintro j m Hi ⟨rfl, hj, accd, acc, dsc, rest, hc, hd, hal, hiD, hr, Eb, Ea, ev⟩
          have st : Stay (OWx [] env σ) H1 Hi := ⟨fun b o' n nt e => ev.stay b o' n nt e, ev.fresh, ev.tab⟩
          obtain ⟨it1, it2⟩ := IT j Hi st
          by_cases hlt : j < items.length
          · have ei : items[j]? = some items[j] := List.getElem?_eq_getElem hlt
            obtain ⟨go, yl⟩ := it1 _ ei
            rw [List.drop_eq_getElem_cons hlt, popC] at hc
            split at hc
            · rename_i y dsn hst
              split at hc
              · rename_i ys2 ds2 hcr
                cases hc
                refine .inr ⟨go, fun Hi => ∃ (accd : List PyData) (acc : List V) (dsc : List PyData) (rest : List PyData), popC (popStep i gt fa envb) (items.drop (j + 1)) dsc = some (rest, dsd) ∧ accd ++ rest = ysd ∧ acc.length ≤ j + 1 ∧ Hi D = some (.lst acc) ∧
                  Reps X.K Hi (sel [] A1 env σ) accd acc ∧ EnvRep X.K TB A' H0 Hi σb (envb.set i (.ow dsc)) ∧ EnvRep X.K TB A1 H0 Hi σ (env.set i (.ow dsc)) ∧ Evo env σ H1 (env.set i (.ow dsc)) σ Hi, fun H' h => ⟨items.length - (j + 1), by omega, rfl, hlt, h⟩, fun x H2 y' => ?_⟩
                obtain ⟨g2, rx⟩ := yl x H2 y'
                have rx2 : Rep X.K H2 (sel [] A' (envb.set i (.ow dsc)) σb) items[j] x := rx.wide fun a ⟨h1, h2⟩ => by
                  have n1 : ¬ OWx [] env σ a := h1.2
                  refine ⟨⟨⟨h1.1, fun z => h2 (z ▸ hD)⟩, fun ⟨j, es, _, e1, e2⟩ => n1 ⟨j, es, e1, by simp, e2⟩⟩, fun z => ?_⟩
                  have z2 := (owx_set_same eob).mp z
                  rw [← henvb, ← hσb] at z2
                  exact n1 (OW_wipe z2)
                unfold popStep at hst
                split at hst
                · rename_i env1 eg
                  split at hst
                  · rename_i n ea
                    split at hst
                    · rename_i hn
                      cases hst
                      refine qg A' H0 H2 σb (envb.set i (.ow dsc)) env1 _ x _ (Eb.up g2) rx2 eg fun σ2 E3 ev3 ag ln => ⟨?_, ?_⟩
                      · have hl2 : σ2.length = σ.length := by rw [ln, ← hσb, wipe_length]
                        rw [← hσb] at ag
                        rw [← hσb]
                        exact wipe_eq hl2 fun j hj => ag j hj
                      · refine qt A' H0 H2 σ2 env1 true _ E3 rfl fun H3 g3 => ?_
                        rw [if_pos rfl]
                        have eo1 : env1[i]? = some (.ow dsc) := by rw [off _ _ _ eg i hitl, List.getElem?_set_self hilb]
                        obtain ⟨a0, ys0, s1, s2, _⟩ := (E3.up g3).ow i dsc eo1
                        refine ⟨.ref a0, s1, .inl ⟨rfl, _, .inl (.inl s2)⟩, ?_⟩
                        refine qa A' H0 H3 σ2 env1 (.int n) _ (E3.up g3) ea fun u H4 g4 r4 => ?_
                        cases r4
                        have g24 := (g2.trans g3).trans g4
                        have sb : σb[i]? = some (some (.ref a0)) := by rw [← ag i hitl]; exact s1
                        have sa : σ[i]? = some (some (.ref a0)) := by rw [← hσb, wipe_out hitl] at sb; exact sb
                        have Ea4 := Ea.up g24
                        have Eb4 := Eb.up g24
                        have eoA : (env.set i (.ow dsc))[i]? = some (.ow dsc) := List.getElem?_set_self hil
                        have eoB : (envb.set i (.ow dsc))[i]? = some (.ow dsc) := List.getElem?_set_self hilb
                        obtain ⟨a1, ys, t1, t2, t3, _, t5⟩ := Ea4.ow i dsc eoA
                        rw [sa] at t1; cases t1
                        obtain ⟨a1, ys', t1', t2', _, _, t5'⟩ := Eb4.ow i dsc eoB
                        rw [sb] at t1'; cases t1'
                        rw [t2] at t2'; cases t2'
                        have hg : dsc[n.toNat]? = some (dsc.getD n.toNat .none) := by
                          rw [List.getD_eq_getElem?_getD, List.getElem?_eq_getElem (by omega)]; rfl
                        obtain ⟨v, hv, rv⟩ := t5.get hg
                        have hl := t5.length
                        have WA := Ea4.write eoA sa t2 (reps_erase n.toNat t5)
                        have WB := Eb4.write eoB sb t2 (reps_erase n.toNat t5')
                        have neD : a0 ≠ D := t3.2
                        have d4 : H4 D = some (.lst acc) := g24.same _ _ (fun _ => HO.noConfusion) hiD
                        have d5 : upd H4 a0 (.lst (ys.eraseIdx n.toNat)) D = some (.lst acc) := by rw [upd_ne (Ne.symm neD)]; exact d4
                        have nS : ¬ sel [] A1 env σ a0 := fun z => z.2 ⟨i, _, ⟨eo0, rfl⟩, by simp, sa⟩
                        have nSD : ¬ sel [] A1 env σ D := fun z => nA1 z.1
                        refine ⟨a0, ys, n, n.toNat, v, rfl, rfl, t2, by omega, by omega, ?_, hv, acc, d5, by rw [← lim_line]; omega, ?_⟩
                        · unfold seqIndex?
                          have z1 : ¬ n < 0 := by omega
                          have z2 : 0 ≤ n := by omega
                          have z3 : n < (ys.length : Int) := by omega
                          simp [z1, z2, z3]
                        · have r6 := (hr.up g24).append (.cons (rv.wide fun a z => ⟨z.1, fun w => z.2 ((owx_set_same eo0).mpr w)⟩) .nil)
                          have r7 := (rep_write (o := .lst (ys.eraseIdx n.toNat)) t2 (.inl ⟨_, rfl⟩) nS).2 r6
                          have r8 := (rep_write (o := .lst (acc ++ [v])) d5 (.inl ⟨_, rfl⟩) nSD).2 r7
                          have s1 : (env.set i (.ow dsc)).set i (.ow (dsc.eraseIdx n.toNat)) = env.set i (.ow (dsc.eraseIdx n.toNat)) := List.set_set ..
                          have s2 : (envb.set i (.ow dsc)).set i (.ow (dsc.eraseIdx n.toNat)) = envb.set i (.ow (dsc.eraseIdx n.toNat)) := List.set_set ..
                          rw [s1] at WA
                          rw [s2] at WB
                          refine ⟨accd ++ [dsc.getD n.toNat .none], acc ++ [v], dsc.eraseIdx n.toNat, ys2, hcr, by rw [List.append_assoc]; exact hd, by rw [List.length_append]; simp; omega, upd_same, r8, WB.1.aside d5 nA H0D, WA.1.aside d5 nA1 H0D, ?_⟩
                          exact evo_aside ((ev.trans (.grow g24 fun a z => .inl z)).trans WA.2) hD d5
                    · cases hst
                  · cases hst
                · cases hst
              · cases hc
            · cases hc
          · have ee : j = items.length := by omega
            refine .inl ⟨it2 ee, ?_⟩
            rw [ee, List.drop_length, popC] at hc
            cases hc
            rw [List.append_nil] at hd
            subst hd
            have EF : EnvRep X.K TB A H0 Hi σ (env.set i (.ow dsd)) := Ea.wideA fun a z => z.1
            refine q _ _ EF ((Evo.grow (env := env) (σ := σ) g1 fun a z => .inl z).trans ev) (.lst (.inl ⟨⟨E1.free D hD, fun z => ?_⟩, .inl hiD⟩) (hr.wide fun a z => ⟨z.1.1, fun w => z.2 ((owx_set_same eo0).mp w)⟩))
            obtain ⟨o, _, w, _⟩ := Ea.owl z
            exact nA1 w
        · cases hf
      · cases hf
    · cases hf
variable {x y : Str} {i j : Nat} {a e tg iter : Expr} {ms mi tl : List Nat} {f fa : Sls → Option PyData} {ca ci cg cx : Bool} {fi : Sls → Option (List PyData)} {gt : PyData → Sls → Option Sls} {scope : Scope} {F : Sls → Option (PyData × Sls)}
theorem pop_parts {px apos cpos : Pos} [SlotOf S x i] [h1 : PurI S nm T tg iter mi fi ci] [h2 : PurG S scope.names T tg gt tl cg] [h4 : PurE S scope.names T a ms fa ca]
    (hc : (ci && cg && ca && nameC S scope.names x i && notStar a && (apos.endLine == cpos.line) && blkP S nm scope tl && decide (mi = [])) = true) (G : Good S nm T TB k X) :
    ∃ wi, PI X tg iter wi ∧ (∀ env x, foldedSetIterable iter env x = pure x) ∧ ISp X TB [] fi wi ∧ BlkOk X.N X.env.scope scope (ownOf S tl) ∧ (ownOf S tl).map (·.2) = tl ∧
      (∀ (s : Shared) (H : Hp) (C : Addr) (cl : List (Str × Addr)) (fp : List Addr), PG (X.blk s H scope (compEnvC scope cl C X.env) fp) tg (canG X.K TB gt tl)) ∧
      (∀ (s : Shared) (H : Hp) (C : Addr) (cl : List (Str × Addr)) (fp : List Addr), PTs (X.blk s H scope (compEnvC scope cl C X.env) fp) [] (canT X.K TB fun _ => some true)) ∧
      (∀ (s : Shared) (H : Hp) (C : Addr) (cl : List (Str × Addr)) (fp : List Addr), PE (X.blk s H scope (compEnvC scope cl C X.env) fp) (.Call (.Attribute (.Name x px) "pop" apos) [a] [] cpos) (tBM X.K "list" rPopAt (tVar i) (tCons (canE X.K TB ms fa) tNil))) ∧
      (∀ d env env', gt d env = some env' → ∀ (i : Nat), i ∉ tl → env'[i]? = env[i]?) := by
  simp only [Bool.and_eq_true, decide_eq_true_eq] at hc
  obtain ⟨⟨⟨⟨⟨⟨⟨hc1, hc2⟩, hc3⟩, hc4⟩, hc5⟩, hc6⟩, hc7⟩, rfl⟩ := hc
  obtain ⟨wi, hi, hs, qi⟩ := h1.run hc1 TB k X G
  obtain ⟨bo, eo⟩ := G.blk hc7
  have t0 : PurTs S scope.names T [] (fun _ => some true) true := inferInstance
  unfold nameC at hc4
  simp only [Bool.and_eq_true, decide_eq_true_eq, Bool.not_eq_true'] at hc4
  obtain ⟨⟨⟨n1, n2⟩, n3⟩, n4⟩ := hc4
  refine ⟨wi, hi, hs, qi, bo, eo, fun s H C cl fp => canG_of (h2.run hc2 TB k _ (G.inBlk scope bo.kind s H C cl fp)), fun s H C cl fp => canTs_of (t0.run rfl TB k _ (G.inBlk scope bo.kind s H C cl fp)), fun s H C cl fp => ?_, h2.off⟩
  have G' := G.inBlk scope bo.kind s H C cl fp
  have px' : PE (X.blk s H scope (compEnvC scope cl C X.env) fp) (.Name x px) (tVar i) := pe_var (i := i) (by rw [G'.N]; exact n1) (G'.vis n2) n3 n4
  exact pe_bm PySem.F.plainAttrs_list PySem.F.slot_list_pop PySem.F.type_list_pop mt_popAt px' (pa_cons (canE_of (h4.run hc3 TB k _ G')) pa_nil (star_of hc5)) rfl (few1 hc5) hc6 (star_of hc5) rfl
instance purPopX {px apos cpos p : Pos} [SlotOf S x i] [h1 : PurI S nm T tg iter mi fi ci] [h2 : PurG S scope.names T tg gt tl cg] [h4 : PurE S scope.names T a ms fa ca] :
    PurX S nm T (.ListComp (.Call (.Attribute (.Name x px) "pop" apos) [a] [] cpos) [⟨tg, iter, [], 0⟩] scope p) (fun env => lcpV (fi env) i tl gt fa env)
      (ci && cg && ca && nameC S scope.names x i && notStar a && (apos.endLine == cpos.line) && blkP S nm scope tl && decide (mi = [])) where
  run hc TB k X G := by
    obtain ⟨wi, hi, hs, qi, bo, eo, hg, ht, he, off⟩ := pop_parts (px := px) (tg := tg) (iter := iter) (a := a) hc G
    refine ⟨_, pe_lc G.calm G.nd hi bo hg ht he (hs _), fun A H0 H σ env d env' Q E hf q => ?_⟩
    rw [eo]
    exact pop_read qi canG_sp off canT_sp canE_sp E hf q
/-- x = [..] -/
def setX (j : Nat) (r : Option (PyData × Sls)) : Option Out := match r with | some (d, env) => some (.nx (env.set j (.va d))) | none => none
theorem setX_read {te : TE} (qx : XSp X TB F te) {A : Addr → Prop} {H : Hp} {σ : L2.St} {env : Sls} {o : Out} {D : Ends} (E : EnvRep X.K TB A X.H_0 H σ env) (h : setX j (F env) = some o) (q : OutOk X TB A env σ H D o) : tAsg te (gName j) D σ H := by
  unfold setX at h
  split at h
  · rename_i d env' e
    cases h
    exact qx A X.H_0 H σ env d env' _ E e fun x H1 E1 ev r => q _ H1 (E1.setVa j r) (ev.trans (.grow (.refl _) fun a z => .inl (owx_set_va z)))
  · cases h
instance purSetPop {py px apos cpos p lp : Pos} [SlotOf S y j] [SlotOf S x i] [h1 : PurI S nm T tg iter mi fi ci] [h2 : PurG S scope.names T tg gt tl cg] [h4 : PurE S scope.names T a ms fa ca] :
    PurS S nm T (.Assign [.Name y py] (.ListComp (.Call (.Attribute (.Name x px) "pop" apos) [a] [] cpos) [⟨tg, iter, [], 0⟩] scope lp) p) (fun env => setX j (lcpV (fi env) i tl gt fa env))
      ((ci && cg && ca && nameC S scope.names x i && notStar a && (apos.endLine == cpos.line) && blkP S nm scope tl && decide (mi = [])) && locC S nm y j) where
  run hc TB k X G := by
    rw [Bool.and_eq_true] at hc
    obtain ⟨hc1, hc2⟩ := hc
    obtain ⟨l1, l2, l3⟩ := G.lo hc2
    obtain ⟨wi, hi, hs, qi, bo, eo, hg, ht, he, off⟩ := pop_parts (px := px) (tg := tg) (iter := iter) (a := a) hc1 G
    have rd : XSp X TB (fun env => lcpV (fi env) i tl gt fa env) (tLc wi (canG X.K TB gt tl) (canT X.K TB fun _ => some true) (tBM X.K "list" rPopAt (tVar i) (tCons (canE X.K TB ms fa) tNil)) ((ownOf S tl).map (·.2))) := fun A H0 H σ env d env' Q E hf q => by
      rw [eo]
      exact pop_read qi canG_sp off canT_sp canE_sp E hf q
    have sw : ∃ bb : Bool, swapsWith (.ListComp (.Call (.Attribute (.Name x px) "pop" apos) [a] [] cpos) [⟨tg, iter, [], 0⟩] scope lp) (some (.Name y py)) p.line X.env = pure bb ∧ (bb = true → X.env.scope.names.lookup y = some .local) := by
      refine ⟨_, rfl, fun h => ?_⟩
      simp only [Bool.and_eq_true, beq_iff_eq] at h
      exact h.1.1.2
    obtain ⟨bb, sw, hl⟩ := sw
    cases bb with
    | true => exact ⟨_, ps_setLc (i := j) G.calm G.nd l1 (hl rfl) sw hi bo hg ht he (hs _), fun A H σ env o D E h q => setX_read (F := fun env => lcpV (fi env) i tl gt fa env) rd E h q⟩
    | false => exact ⟨_, ps_set (i := j) G.nd l1 l2 (pe_lc G.calm G.nd hi bo hg ht he (hs _)) sw l3, fun A H σ env o D E h q => setX_read (F := fun env => lcpV (fi env) i tl gt fa env) rd E h q⟩
instance (priority := low) purSetX {py p : Pos} [SlotOf S y j] [h1 : PurX S nm T e F cx] : PurS S nm T (.Assign [.Name y py] e p) (fun env => setX j (F env)) (cx && locC S nm y j && notComp e) where
  run hc TB k X G := by
    simp only [Bool.and_eq_true] at hc
    obtain ⟨ta, ha, qa⟩ := h1.run hc.1.1 TB k X G
    obtain ⟨l1, l2, l3⟩ := G.lo hc.1.2
    exact ⟨_, ps_set (i := j) G.nd l1 l2 ha (swaps_of hc.2 _ _ _) l3, fun A H σ env o D E h q => setX_read qa E h q⟩
def retX (r : Option (PyData × Sls)) : Option Out := match r with | some (d, _) => some (.rt d) | none => none
instance (priority := low) purRetX {p : Pos} [h1 : PurX S nm T e F cx] : PurS S nm T (.Return (some e) p) (fun env => retX (F env)) cx where
  run hc TB k X G := by
    obtain ⟨ta, ha, qa⟩ := h1.run hc TB k X G
    refine ⟨_, ps_ret ha, fun A H σ env o D E h q => ?_⟩
    unfold retX at h
    try dsimp only at h
    split at h
    · rename_i d env' e
      cases h
      exact qa A X.H_0 H σ env d env' _ E e fun x H1 E1 ev r1 => q x H1 E1.grow (r1.wide fun a z => z.1)
    · cases h
def mapX (G : PyData → Option PyData) (r : Option (PyData × Sls)) : Option (PyData × Sls) := match r with
  | some (d, env) => (match G d with | some d' => some (d', env) | none => none)
  | none => none
theorem mapX_some {G : PyData → Option PyData} {r : Option (PyData × Sls)} {d : PyData} {env : Sls} (h : mapX G r = some (d, env)) : ∃ d1, r = some (d1, env) ∧ G d1 = some d := by
  unfold mapX at h
  split at h
  · split at h
    · cases h; exact ⟨_, rfl, by assumption⟩
    · cases h
  · cases h
instance purTupX {gn : Str} {id : String} {B : Fn} {pn p : Pos} [hB : BtP gn id B] [h1 : PurX S nm T e F cx] : PurX S nm T (.Call (.Name gn pn) [e] [] p) (fun env => mapX (fun d => B [d]) (F env)) (cx && bltC nm T gn && notStar e) where
  run hc TB k X G := by
    simp only [Bool.and_eq_true] at hc
    obtain ⟨⟨hc1, hc2⟩, hc3⟩ := hc
    obtain ⟨ta, ha, qa⟩ := h1.run hc1 TB k X G
    obtain ⟨g1, g2⟩ := G.bl hc2
    refine ⟨_, pe_callTy (hB.rule X k G.calm G.room) g1 g2 hB.boot (pa_cons ha pa_nil (star_of hc3)) hB.dbg.1 hB.dbg.2 (star_of hc3) (stars_of rfl), fun A H0 H σ env d env' Q E hf q => ?_⟩
    obtain ⟨d1, e1, e2⟩ := mapX_some hf
    refine qa A H0 H σ env d1 env' _ E e1 fun v H1 E1 ev r1 => ?_
    exact ⟨sel [] A env' σ, [d1], d, E1.selfree _, .cons r1 .nil, e2, fun x H' g2 r2 => q x H' (E1.up g2) (ev.trans (.grow g2 fun a z => .inl z)) r2⟩
instance purMtX {name : Str} {id : String} {M : PyData → PyData → Option PyData} {apos pos : Pos} [hM : MtP name id M] [h1 : PurE S nm T a [] f ca] [h2 : PurX S nm T e F cx] : PurX S nm T (.Call (.Attribute a name apos) [e] [] pos) (fun env => match f env with | some x => mapX (M x) (F env) | none => none)
    (ca && cx && notSuper a && notStar e && (apos.endLine == pos.line)) where
  run hc TB k X G := by
    simp only [Bool.and_eq_true] at hc
    obtain ⟨⟨⟨⟨hc1, hc2⟩, hc3⟩, hc4⟩, hc5⟩ := hc
    obtain ⟨ta, ha, qa⟩ := h1.run hc1 TB k X G
    obtain ⟨tb, hb, qb⟩ := h2.run hc2 TB k X G
    refine ⟨_, pe_m1 hM.slot hM.ty (hM.rule X) ha hb (star_of hc4) (base_of hc3 _ _ _) hc5, fun A H0 H σ env d env' Q E hf q => ?_⟩
    try dsimp only at hf
    split at hf
    · rename_i x ex
      obtain ⟨y, e1, e2⟩ := mapX_some hf
      obtain ⟨z, rfl⟩ := hM.str _ _ _ e2
      refine qa A H0 H σ env _ _ E ex fun u H1 g1 r1 => ⟨by cases r1; exact ⟨_, rfl⟩, ?_⟩
      refine qb A H0 H1 σ env y env' _ (E.up g1) e1 fun v H2 E2 ev r2 => ?_
      refine ⟨v, sel [] A env' σ, _, y, d, rfl, E2.selfree _, by cases r1; exact .str _, r2, e2, fun z H' g r => q z H' (E2.up g) (.trans (.grow g1 fun a z => .inl z) (ev.trans (.grow g fun a z => .inl z))) r⟩
    · cases hf
end

/-! ### evaluated -/
theorem erase_map {α β : Type} (f : α → β) : ∀ (l : List α) (i : Nat), (l.map f).eraseIdx i = (l.eraseIdx i).map f
  | [], _ => rfl
  | _ :: _, 0 => rfl
  | x :: l, i + 1 => by rw [List.map_cons, List.eraseIdx_cons_succ, List.eraseIdx_cons_succ, List.map_cons, erase_map f l i]
theorem erase_perm {α : Type} : ∀ (l : List α) (i : Nat) (h : i < l.length), (l[i] :: l.eraseIdx i).Perm l
  | _ :: _, 0, _ => .refl _
  | x :: l, i + 1, h => by
    rw [List.eraseIdx_cons_succ, List.getElem_cons_succ]
    exact (List.Perm.swap x _ _).trans ((erase_perm l i (by simpa using h)).cons x)
theorem popC_ex {α : Type} [Inhabited α] {f : α → PyData} {step : PyData → List PyData → Option (PyData × List PyData)} {L : List α} {m : Int} : ∀ (j : Nat) (a : Int) (C : List α), 0 ≤ a → a + j = m → a + C.length = L.length → m ≤ L.length → (∀ c ∈ C, c ∈ L) →
    (∀ (a : Int) (C : List α), 0 ≤ a → a < m → a + C.length = L.length → (∀ c ∈ C, c ∈ L) → ∃ k : Int, 0 ≤ k ∧ k < C.length ∧ step (.int a) (C.map f) = some ((C.map f).getD k.toNat .none, (C.map f).eraseIdx k.toNat)) →
    ∃ P R : List α, (P ++ R).Perm C ∧ P.length = j ∧ popC step ((rg a m).map .int) (C.map f) = some (P.map f, R.map f)
  | 0, a, C, h0, h1, h2, h3, h4, h5 => ⟨[], C, .refl _, rfl, by rw [rg_eq_nil (by omega)]; rfl⟩
  | j + 1, a, C, h0, h1, h2, h3, h4, h5 => by
    obtain ⟨k, k0, k1, e⟩ := h5 a C h0 (by omega) h2 h4
    have hk : k.toNat < C.length := by omega
    have e1 : (C.map f).getD k.toNat .none = f C[k.toNat] := by
      rw [List.getD_eq_getElem?_getD, List.getElem?_map, List.getElem?_eq_getElem hk]; rfl
    have e2 : (C.map f).eraseIdx k.toNat = (C.eraseIdx k.toNat).map f := erase_map f C _
    rw [e1, e2] at e
    have hl : (C.eraseIdx k.toNat).length = C.length - 1 := List.length_eraseIdx_of_lt hk
    obtain ⟨P, R, p1, p2, p3⟩ := popC_ex j (a + 1) (C.eraseIdx k.toNat) (by omega) (by omega) (by omega) h3 (fun c hc => h4 c (List.mem_of_mem_eraseIdx hc)) h5
    refine ⟨C[k.toNat] :: P, R, ?_, by simp [p2], ?_⟩
    · have q := erase_perm C k.toNat hk
      exact (List.Perm.cons _ p1).trans q
    · rw [rg_cons (by omega), List.map_cons, popC, e]
      dsimp only
      rw [p3]
      rfl
/-- m numbers popped, each at a place that is there: K of what comes -/
theorem lcpV_ex {α : Type} [Inhabited α] {f : α → PyData} {L : List α} {m : Int} {i : Nat} {tl : List Nat} {gt : PyData → Sls → Option Sls} {a : Sls → Option PyData} {env : Sls} {K : Option (PyData × Sls) → Prop} (hm0 : 0 ≤ m) (hm : m ≤ L.length) (hL : L.length ≤ 16777216) (he : env[i]? = some (.ow (L.map f))) (hi : i ∉ tl)
    (h : ∀ (t : Int) (C : List α), 0 ≤ t → t < m → t + C.length = L.length → (∀ c ∈ C, c ∈ L) → ∃ (e1 : Sls) (k : Int), gt (.int t) ((wipeE tl env).set i (.ow (C.map f))) = some e1 ∧ a e1 = some (.int k) ∧ 0 ≤ k ∧ k < C.length)
    (hq : ∀ P R : List α, (P ++ R).Perm L → (P.length : Int) = m → K (some (.list (P.map f), env.set i (.ow (R.map f))))) : K (lcpV (some ((rg 0 m).map .int)) i tl gt a env) := by
  obtain ⟨P, R, p1, p2, p3⟩ := popC_ex (f := f) (step := popStep i gt a (wipeE tl env)) (L := L) (m := m) m.toNat 0 L (Int.le_refl 0) (by omega) (by omega) hm (fun c h => h) fun t C h0 h1 h2 h3 => by
    obtain ⟨e1, k, g1, g2, g3, g4⟩ := h t C h0 h1 h2 h3
    refine ⟨k, g3, g4, ?_⟩
    unfold popStep
    rw [g1]
    dsimp only
    rw [g2]
    dsimp only
    rw [if_pos ⟨g3, by rw [List.length_map]; exact g4, by omega⟩]
  have := hq P R p1 (by omega)
  unfold lcpV
  dsimp only
  rw [if_pos ⟨by simp; omega, hi⟩, he]
  dsimp only
  rw [p3]
  exact this
@[simp] theorem setX_some (j : Nat) (d : PyData) (env : Sls) : setX j (some (d, env)) = some (.nx (env.set j (.va d))) := id rfl
@[simp] theorem retX_some (d : PyData) (env : Sls) : retX (some (d, env)) = some (.rt d) := id rfl
@[simp] theorem mapX_eq (G : PyData → Option PyData) (d : PyData) (env : Sls) : mapX G (some (d, env)) = (G d).bind fun d' => some (d', env) := by
  unfold mapX
  dsimp only
  cases G d <;> rfl
end Pu

set_option Elab.async false
set_option linter.all false
set_option autoImplicit false
set_option maxRecDepth 100000
set_option maxHeartbeats 4000000
namespace Pu
open PySem PySem.Spec PyProof.Rows L2 GxR
/-! ### x.rstrip(signs) -/
noncomputable def rstripF : PyData → PyData → Option PyData
  | .str a, .str b => if a.length ≤ LIM then some (.str (Txt.rstripChars a b)) else none
  | _, _ => none
instance : MtP "rstrip" "str.rstrip" rstripF where
  slot := F.slot_str_rstrip
  ty := F.type_str_rstrip
  str d e r h := by
    unfold rstripF at h
    split at h
    · exact ⟨_, rfl⟩
    · cases h
  rule X := by
    intro pins s σ H x xs v us Q I rx rs h
    obtain ⟨y, A, d, e, res, rfl, hA, rd, re, hf, q⟩ := h
    unfold rstripF at hf
    split at hf
    · split at hf
      · rename_i hl
        cases hf
        cases rd
        cases re
        exact mt_rstripChars pins s σ H _ _ v us Q I rx rs ⟨_, _, rfl, rfl, by rw [← lim_line]; exact hl, q _ _ (.refl H) (.str _)⟩
      · cases hf
    · cases hf
end Pu

set_option Elab.async false
set_option linter.all false
set_option autoImplicit false
set_option maxRecDepth 100000
set_option maxHeartbeats 4000000
namespace Pu
open PySem PySem.Spec PyProof.Rows L2 GxR
section
variable {S : List (Str × Nat)} {nm : List (Str × NameKind)} {T : Tab} {TB : Addr → Prop} {k : Nat} {X : Cx}
variable {a b c e : Expr} {p : Pos} {ms ns ls qs : List Nat} {f g h j : Sls → Option PyData} {ca cb cc ce : Bool}
/-! ### a op b op' c op'' e -/
def tChain3 (r r' r'' : R2) (ta tb tc td : TE) : TE := fun σ H Q => ta σ H fun x H1 => tb σ H1 fun y H2 => r x y H2 fun z H3 => ∃ k, z = .bl k ∧
  (if k = true then tc σ H3 fun w H4 => r' y w H4 fun z' H5 => ∃ k', z' = .bl k' ∧ (if k' = true then td σ H5 fun v H6 => r'' w v H6 Q else Q (.bl false) H5) else Q (.bl false) H3)
theorem pe_chain3 {op op' op'' : CmpOp} {r r' r'' : R2} {ta tb tc td : TE} (ho : OpR X (compareOp op) r) (ho' : OpR X (compareOp op') r') (ho'' : OpR X (compareOp op'') r'') (ha : PE X a ta) (hb : PE X b tb) (hc : PE X c tc) (hd : PE X e td)
    (hm : lastMarks [op, op', op''] [b, c, e] = false) : PE X (.Compare a [op, op', op''] [b, c, e] p) (tChain3 r r' r'' ta tb tc td) := by
  refine ⟨fun pins s σ H Q I h => ?_⟩
  refine Compare_chain (thn (ha.run pins s σ H _ I h) fun v s1 ⟨x, H1, I1, r1, q1⟩ => chain_link (thn (hb.run pins s1 σ H1 _ I1 q1) fun u s2 ⟨y, H2, I2, r2, q2⟩ =>
    thn (ho pins s2 σ H2 x y v u _ I2 r1 r2 q2) fun d s3 ⟨z, H3, I3, r3, k, e, q3⟩ => ?_)) hm
  subst e
  cases r3
  refine wpAny_truthy_bool ?_
  cases k with
  | false => exact ite_ff ⟨.bl false, H3, I3, rfl, q3⟩
  | true =>
    refine ite_tt (chain_link (thn (hc.run pins s3 σ H3 _ I3 q3) fun w' s4 ⟨z', H4, I4, r4, q4⟩ => thn (ho' pins s4 σ H4 y z' u w' _ I4 r2 r4 q4) fun d' s5 ⟨z2, H5, I5, r5, k2, e2, q5⟩ => ?_))
    subst e2
    cases r5
    refine wpAny_truthy_bool ?_
    cases k2 with
    | false => exact ite_ff ⟨.bl false, H5, I5, rfl, q5⟩
    | true => exact ite_tt (chain_last (thn (hd.run pins s5 σ H5 _ I5 q5) fun w2 s6 ⟨z6, H6, I6, r6, q6⟩ => ho'' pins s6 σ H6 z' z6 w' w2 Q I6 r4 r6 q6))
def chain3P (F F' F'' : PyData → PyData → Option PyData) (a b c d : Option PyData) : Option PyData := match a with
  | some x => (match b with
    | some y => (match F x y with
      | some (.bool true) => chainP F' F'' (some y) c d
      | some (.bool false) => some (.bool false)
      | _ => none)
    | none => none)
  | none => none
theorem chain3_bool {F F' F'' : PyData → PyData → Option PyData} (hF : ∀ d e r, F'' d e = some r → ∃ b, r = .bool b) {a b c e : Option PyData} {d : PyData} (h : chain3P F F' F'' a b c e = some d) : ∃ k, d = .bool k := by
  unfold chain3P at h
  split at h
  · split at h
    · split at h
      · exact chain_bool hF h
      · cases h; exact ⟨_, rfl⟩
      · cases h
    · cases h
  · cases h
theorem chain3_rule {F F' F'' : PyData → PyData → Option PyData} {ta tb tc td : TE} (qa : ESp X TB ms f ta) (qb : ESp X TB ns g tb) (qc : ESp X TB ls h tc) (qd : ESp X TB qs j td)
    {A : Addr → Prop} {H0 H : Hp} {σ : L2.St} {env : Sls} {d : PyData} {Q : VK} (E : EnvRep X.K TB A H0 H σ env) (hf : chain3P F F' F'' (f env) (g env) (h env) (j env) = some d)
    (q : ∀ x H', Grow H H' → Rep X.K H' (fun _ => True) d x → Q x H') : tChain3 (rOp X.K F) (rOp X.K F') (rOp X.K F'') ta tb tc td σ H Q := by
  unfold chain3P at hf
  split at hf
  · rename_i x e1
    split at hf
    · rename_i y e2
      refine qa A H0 H σ env x _ E e1 fun u H1 g1 r1 => ?_
      refine qb A H0 H1 σ env y _ (E.up g1) e2 fun v H2 g2 r2 => ?_
      have E2 := E.up (g1.trans g2)
      split at hf
      · rename_i e3
        refine ⟨sel (ms ++ ns) A env σ, x, y, _, E2.selfree _, (r1.up g2).wide fun a z => z.l, r2.wide fun a z => z.r, e3, fun w H3 g3 r3 => ?_⟩
        cases r3
        refine ⟨true, rfl, ?_⟩
        rw [if_pos rfl]
        unfold chainP at hf
        dsimp only at hf
        split at hf
        · rename_i z e4
          refine qc A H0 H3 σ env z _ (E2.up g3) e4 fun w4 H4 g4 r4 => ?_
          have E4 := (E2.up g3).up g4
          have g14 := ((g1.trans g2).trans g3).trans g4
          split at hf
          · rename_i e5
            split at hf
            · rename_i y4 e6
              refine ⟨fun _ => True, y, z, _, fun _ _ => trivial, ((r2.up g3).up g4).wide fun _ _ => trivial, r4.wide fun _ _ => trivial, e5, fun w5 H5 g5 r5 => ?_⟩
              cases r5
              refine ⟨true, rfl, ?_⟩
              rw [if_pos rfl]
              refine qd A H0 H5 σ env y4 _ (E4.up g5) e6 fun w6 H6 g6 r6 => ?_
              exact ⟨fun _ => True, z, y4, d, fun _ _ => trivial, ((r4.up g5).up g6).wide fun _ _ => trivial, r6.wide fun _ _ => trivial, hf, fun w7 H7 g7 r7 => q _ _ (((g14.trans g5).trans g6).trans g7) r7⟩
            · cases hf
          · rename_i e5
            cases hf
            refine ⟨fun _ => True, y, z, _, fun _ _ => trivial, ((r2.up g3).up g4).wide fun _ _ => trivial, r4.wide fun _ _ => trivial, e5, fun w5 H5 g5 r5 => ?_⟩
            cases r5
            refine ⟨false, rfl, ?_⟩
            rw [if_neg Bool.false_ne_true]
            exact q _ _ (g14.trans g5) (.bl _)
          · cases hf
        · cases hf
      · rename_i e3
        cases hf
        refine ⟨sel (ms ++ ns) A env σ, x, y, _, E2.selfree _, (r1.up g2).wide fun a z => z.l, r2.wide fun a z => z.r, e3, fun w H3 g3 r3 => ?_⟩
        cases r3
        refine ⟨false, rfl, ?_⟩
        rw [if_neg Bool.false_ne_true]
        exact q _ _ ((g1.trans g2).trans g3) (.bl _)
      · cases hf
    · cases hf
  · cases hf
theorem last3 {op op' op'' : CmpOp} (h1 : notSet b = true) (h2 : notSet c = true) (h : notSet e = true) : lastMarks [op, op', op''] [b, c, e] = false := by
  have := marks_of (op := op'') h
  simp [lastMarks, this]
instance purChain3 {op op' op'' : CmpOp} {F F' F'' : PyData → PyData → Option PyData} [hC : CmpP op F] [hC' : CmpP op' F'] [hC'' : CmpP op'' F''] [h1 : PurE S nm T a ms f ca] [h2 : PurE S nm T b ns g cb] [h3 : PurE S nm T c ls h cc] [h4 : PurE S nm T e qs j ce] :
    PurE S nm T (.Compare a [op, op', op''] [b, c, e] p) [] (fun env => chain3P F F' F'' (f env) (g env) (h env) (j env)) (ca && cb && cc && ce && notSet b && notSet c && notSet e) where
  run hc TB k X G := by
    simp only [Bool.and_eq_true] at hc
    obtain ⟨⟨⟨⟨⟨⟨hc1, hc2⟩, hc3⟩, hc4⟩, hc5⟩, hc6⟩, hc7⟩ := hc
    obtain ⟨ta, ha, qa⟩ := h1.run hc1 TB k X G
    obtain ⟨tb, hb, qb⟩ := h2.run hc2 TB k X G
    obtain ⟨tc, hcc, qc⟩ := h3.run hc3 TB k X G
    obtain ⟨td, hdd, qd⟩ := h4.run hc4 TB k X G
    refine ⟨_, pe_chain3 (hC.rule X k G.room) (hC'.rule X k G.room) (hC''.rule X k G.room) ha hb hcc hdd (last3 hc5 hc6 hc7), fun A H0 H σ env d Q E hf q => chain3_rule qa qb qc qd E hf fun x H' g r => q x H' g (r.flat ?_)⟩
    obtain ⟨k, rfl⟩ := chain3_bool hC''.bool hf
    rfl
end
/-! evaluated -/
theorem chain3P_eq {F F' F'' : PyData → PyData → Option PyData} {x y : PyData} {c e : Option PyData} {b : Bool} (h : F x y = some (.bool b)) : chain3P F F' F'' (some x) (some y) c e = if b = true then chainP F' F'' (some y) c e else some (.bool false) := by
  unfold chain3P
  dsimp only
  rw [h]
  cases b <;> rfl
@[simp] theorem chain3_lelelt (a b c d : Int) : chain3P leP leP ltP (some (.int a)) (some (.int b)) (some (.int c)) (some (.int d)) = some (.bool (decide (a ≤ b ∧ b ≤ c ∧ c < d))) := by
  rw [chain3P_eq (leP_int a b), chainP_lelt]
  by_cases q : a ≤ b <;> simp [q]
end Pu

set_option Elab.async false
set_option linter.all false
set_option autoImplicit false
set_option maxRecDepth 100000
set_option maxHeartbeats 4000000
namespace Pu
open PySem PySem.Spec PyProof.Rows L2 GxR
section
variable {S : List (Str × Nat)} {nm : List (Str × NameKind)} {T : Tab} {TB : Addr → Prop} {k : Nat} {X : Cx}
variable {a b : Expr} {p : Pos} {ms ns : List Nat} {f g : Sls → Option PyData} {ca cb : Bool}
/-! ### list(x), of a text too -/
def chV (z : Str) : List V := z.cps.toList.map fun c => .str ⟨#[c]⟩
theorem reps_ch {K : PySem.W.Frag} {H : Hp} {A : Addr → Prop} (z : Str) : Reps K H A (chars z) (chV z) := by
  have : ∀ l : List Nat, Reps K H A (l.map fun c => PyData.str ⟨#[c]⟩) (l.map fun c => V.str ⟨#[c]⟩) := fun l => by
    induction l with
    | nil => exact .nil
    | cons x r ih => exact .cons (.str _) ih
  exact this _
def rListS : List V → Hp → VK → Prop := fun xs H Q => ∃ z : Str, xs = [.str z] ∧ z.cps.size ≤ sizeLine ∧ ∀ l, H l = none → Q (.ref l) (upd H l (.lst (chV z)))
theorem vals_ch {z : Str} {acc : Array Value} (h : ItemsOf (SignAt z) acc z.cps.size) : Vals (chV z) acc.toList := by
  obtain ⟨h1, h2⟩ := h
  refine vals_of_at (by simp [chV, h1]) fun j x u hx hu => ?_
  obtain ⟨c, t, hc, rfl⟩ := h2 j u (by rw [← Array.getElem?_toList]; exact hu)
  unfold chV at hx
  rw [List.getElem?_map, Array.getElem?_toList, hc] at hx
  cases hx
  exact ⟨t, rfl⟩
theorem call_listS (hc : X.calm = true) : CallR X (.type "list") rListS := by
  intro pins s σ H xs us Q I r h
  obtain ⟨z, rfl, hz, q⟩ := h
  obtain ⟨u, rfl, t, rfl⟩ := vals1 r
  refine call_list_str (I.ok.hd hc) z t (fun h' tk acc' c' hk hS' hacc => ?_) hz
  exact ⟨.ref s.heap.objs.size, _, I.laid (t' := tk) hk (Nat.le_refl _) (show ObjOk X.prog X.w _ h' _ (.lst (chV z)) from ⟨by simpa [chV] using hz, acc'.toList, c', vals_ch hacc, hS'⟩), rfl, q _ (I.hok.fresh (Nat.le_refl _))⟩
noncomputable def listS (a : Option PyData) : Option (List PyData) := match a with
  | some (.str z) => if z.cps.size ≤ sizeLine then some (chars z) else none
  | o => listF o
instance (priority := 150) purListS {pn : Pos} [h1 : PurE S nm T a ms f ca] : PurF S nm T (.Call (.Name "list" pn) [a] [] p) ms (fun env => listS (f env)) (ca && bltC nm T "list" && notStar a) where
  run hc TB k X G := by
    simp only [Bool.and_eq_true] at hc
    obtain ⟨⟨hc1, hc2⟩, hc3⟩ := hc
    obtain ⟨ta, ha, qa⟩ := h1.run hc1 TB k X G
    obtain ⟨g1, g2⟩ := G.bl hc2
    refine ⟨_, pe_callTy (callR_or (call_listS G.calm) (callR_or call_list_of (call_listD G.calm))) g1 g2 boot_list' (pa_cons ha pa_nil (star_of hc3)) (by decide) (by decide) (star_of hc3) rfl, fun A H0 H σ env d Q E hf q => ?_⟩
    unfold listS at hf
    try dsimp only at hf
    split at hf
    · rename_i z e
      split at hf
      · rename_i hz
        cases hf
        refine qa A H0 H σ env _ _ E e fun x H1 g1 r1 => ?_
        cases r1
        exact .inl ⟨z, rfl, hz, fun l nl => q l _ _ (g1.trans (.new nl)) (g1.fresh l nl) upd_same (reps_ch z)⟩
      · cases hf
    · unfold listF at hf
      split at hf
      · rename_i xs e
        cases hf
        refine qa A H0 H σ env _ _ E e fun x H1 g1 r1 => ?_
        cases r1 with
        | lst h2 h3 => exact .inr (.inl ⟨_, _, rfl, .inl h2.sql, fun l nl => q l _ _ (g1.trans (.new nl)) (g1.fresh l nl) upd_same ((h3.away nl).up (.new nl))⟩)
      · rename_i xs e
        cases hf
        refine qa A H0 H σ env _ _ E e fun x H1 g1 r1 => ?_
        cases r1 with
        | tup h2 h3 => exact .inr (.inl ⟨_, _, rfl, .inr h2.sqt, fun l nl => q l _ _ (g1.trans (.new nl)) (g1.fresh l nl) upd_same ((h3.away nl).up (.new nl))⟩)
      · rename_i kvs e
        cases hf
        refine qa A H0 H σ env _ _ E e fun x H1 g1 r1 => ?_
        cases r1 with
        | dct h1 h2 h3 => exact .inr (.inr ⟨_, _, _, rfl, h2, fun kv l hk nl => q l _ _ (g1.trans (.new nl)) (g1.fresh l nl) upd_same (((hk X.K _).away nl).up (.new nl))⟩)
      · cases hf
@[simp] theorem listS_list (xs : List PyData) : listS (some (.list xs)) = some xs := id rfl
@[simp] theorem listS_tuple (xs : List PyData) : listS (some (.tuple xs)) = some xs := id rfl
@[simp] theorem listS_dict (kvs : List (PyData × PyData)) : listS (some (.dict kvs)) = some (kvs.map (·.1)) := id rfl
theorem listS_mk {l : List Nat} (h : l.length ≤ 16777216) : listS (some (.str (mkS l))) = some (l.map fun c => .str (mkS [c])) := by
  have hz : (mkS l).cps.size ≤ sizeLine := by
    have e : (mkS l).cps.size = l.length := mkS_length l
    rw [e]; exact h
  show (if (mkS l).cps.size ≤ sizeLine then some (chars (mkS l)) else none) = _
  rw [if_pos hz, chars_mkS]
end
end Pu

set_option Elab.async false
set_option linter.all false
set_option autoImplicit false
set_option maxRecDepth 100000
set_option maxHeartbeats 4000000
set_option warn.classDefReducibility false
set_option synthInstance.maxHeartbeats 4000000
set_option synthInstance.maxSize 100000
namespace Pu
open PySem PySem.Spec PyProof.Rows L2
noncomputable section
def topS (i : Nat) : Stmt := PySem.Challenge.pw_shadehall_k47_whole_rows_alike_from_both.main.body.getD i (.Pass ⟨0, 0, 0, 0⟩)
abbrev bl : List Str := ["abs", "all", "any", "bool", "int", "isinstance", "len", "max", "min", "range", "sorted", "str", "tuple"]
abbrev ma : List (Str × String) := []
abbrev L_0 : List (Str × Nat × Fn) := []
/-! is_two_sided -/
abbrev Sf_is_two_sided : List (Str × Nat) := [("row", 0)]
def Bf_is_two_sided := mkB (S := Sf_is_two_sided) (nm := (defScope (topS 1)).names) (T := ⟨L_0, bl, ma, false⟩) (topS 1) rfl
def Ff_is_two_sided : Fn := fnV (topS 1) rfl Bf_is_two_sided
abbrev Lf_is_two_sided : List (Str × Nat × Fn) := ("is_two_sided", 1, Ff_is_two_sided) :: L_0
/-! told_split -/
abbrev Sf_told_split : List (Str × Nat) := [("row", 0), ("n", 1), ("best", 2), ("begin", 3), ("found", 4), ("end", 5), ("number", 6), ("split", 7)]
def Bf_told_split := mkB (S := Sf_told_split) (nm := (defScope (topS 2)).names) (T := ⟨Lf_is_two_sided, bl, ma, false⟩) (topS 2) rfl
def Ff_told_split : Fn := fnV (topS 2) rfl Bf_told_split
abbrev Lf_told_split : List (Str × Nat × Fn) := ("told_split", 1, Ff_told_split) :: Lf_is_two_sided
/-! sided_stretches -/
abbrev Sf_sided_stretches : List (Str × Nat) := [("row", 0), ("found", 1), ("begin", 2), ("end", 3)]
def Bf_sided_stretches := mkB (S := Sf_sided_stretches) (nm := (defScope (topS 3)).names) (T := ⟨Lf_told_split, bl, ma, false⟩) (topS 3) rfl
def Ff_sided_stretches : Fn := fnV (topS 3) rfl Bf_sided_stretches
abbrev Lf_sided_stretches : List (Str × Nat × Fn) := ("sided_stretches", 1, Ff_sided_stretches) :: Lf_told_split
/-! longest_behind -/
abbrev Sf_longest_behind : List (Str × Nat) := [("row", 0), ("begin", 1)]
def Bf_longest_behind := mkB (S := Sf_longest_behind) (nm := (defScope (topS 4)).names) (T := ⟨Lf_sided_stretches, bl, ma, false⟩) (topS 4) rfl
def Ff_longest_behind : Fn := fnV (topS 4) rfl Bf_longest_behind
abbrev Lf_longest_behind : List (Str × Nat × Fn) := ("longest_behind", 1, Ff_longest_behind) :: Lf_sided_stretches
/-! told_poor -/
abbrev Sf_told_poor : List (Str × Nat) := [("row", 0), ("place", 1)]
def Bf_told_poor := mkB (S := Sf_told_poor) (nm := (defScope (topS 5)).names) (T := ⟨Lf_longest_behind, bl, ma, false⟩) (topS 5) rfl
def Ff_told_poor : Fn := fnV (topS 5) rfl Bf_told_poor
abbrev Lf_told_poor : List (Str × Nat × Fn) := ("told_poor", 1, Ff_told_poor) :: Lf_longest_behind
/-! is_rich -/
abbrev Sf_is_rich : List (Str × Nat) := [("row", 0)]
def Bf_is_rich := mkB (S := Sf_is_rich) (nm := (defScope (topS 6)).names) (T := ⟨Lf_told_poor, bl, ma, false⟩) (topS 6) rfl
def Ff_is_rich : Fn := fnV (topS 6) rfl Bf_is_rich
abbrev Lf_is_rich : List (Str × Nat × Fn) := ("is_rich", 1, Ff_is_rich) :: Lf_told_poor
/-! fewest_changes -/
abbrev Sf_fewest_changes : List (Str × Nat) := [("row", 0), ("at", 1)]
def Bf_fewest_changes := mkB (S := Sf_fewest_changes) (nm := (defScope (topS 7)).names) (T := ⟨Lf_is_rich, bl, ma, false⟩) (topS 7) rfl
def Ff_fewest_changes : Fn := fnV (topS 7) rfl Bf_fewest_changes
abbrev Lf_fewest_changes : List (Str × Nat × Fn) := ("fewest_changes", 1, Ff_fewest_changes) :: Lf_is_rich
/-! _law_cell -/
abbrev Sf_law_cell : List (Str × Nat) := [("script", 0), ("k", 1)]
def Bf_law_cell := mkB (S := Sf_law_cell) (nm := (defScope (topS 9)).names) (T := ⟨Lf_fewest_changes, bl, ma, false⟩) (topS 9) rfl
def Ff_law_cell : Fn := fnV (topS 9) rfl Bf_law_cell
abbrev Lf_law_cell : List (Str × Nat × Fn) := ("_law_cell", 2, Ff_law_cell) :: Lf_fewest_changes
/-! _law_draws -/
abbrev Sf_law_draws : List (Str × Nat) := [("cell", 0), ("count", 1), ("rest", 2), ("digits", 3), ("seed", 4), ("draws", 5), ("k", 6), ("mixed", 7)]
def Bf_law_draws := mkB (S := Sf_law_draws) (nm := (defScope (topS 10)).names) (T := ⟨Lf_law_cell, bl, ma, false⟩) (topS 10) rfl
def Ff_law_draws : Fn := fnV (topS 10) rfl Bf_law_draws
abbrev Lf_law_draws : List (Str × Nat × Fn) := ("_law_draws", 2, Ff_law_draws) :: Lf_law_cell
/-! _law_is_integer -/
abbrev Sf_law_is_integer : List (Str × Nat) := [("value", 0)]
def Bf_law_is_integer := mkB (S := Sf_law_is_integer) (nm := (defScope (topS 11)).names) (T := ⟨Lf_law_draws, bl, ma, false⟩) (topS 11) rfl
def Ff_law_is_integer : Fn := fnV (topS 11) rfl Bf_law_is_integer
abbrev Lf_law_is_integer : List (Str × Nat × Fn) := ("_law_is_integer", 1, Ff_law_is_integer) :: Lf_law_draws
/-! _law_is -/
abbrev Sf_law_is : List (Str × Nat) := [("value", 0), ("due", 1), ("at", 2)]
def Bf_law_is (R : Fn) := mkB (S := Sf_law_is) (nm := (defScope (topS 12)).names) (T := ⟨("_law_is", 2, R) :: Lf_law_is_integer, bl, ma, false⟩) (topS 12) rfl
def Gf_law_is (R : Fn) : Fn := fnV (topS 12) rfl (Bf_law_is R)
def Ff_law_is : Nat → Fn := recV Gf_law_is
abbrev Lf_law_is : List (Str × Nat × Fn) := ("_law_is", 2, Ff_law_is 8) :: Lf_law_is_integer
/-! _law_row -/
abbrev Sf_law_row : List (Str × Nat) := [("draws", 0), ("size", 1), ("signs", 2), ("at", 3), ("shape", 4), ("part", 5)]
def Bf_law_row := mkB (S := Sf_law_row) (nm := (defScope (topS 13)).names) (T := ⟨Lf_law_is, bl, ma, false⟩) (topS 13) rfl
def Ff_law_row : Fn := fnV (topS 13) rfl Bf_law_row
abbrev Lf_law_row : List (Str × Nat × Fn) := ("_law_row", 2, Ff_law_row) :: Lf_law_is
/-! _law_split -/
abbrev Sf_law_split : List (Str × Nat) := [("row", 0), ("n", 1), ("number", 2), ("after", 3), ("begin", 4), ("end", 5), ("part", 6), ("split", 7), ("turn", 8)]
def Bf_law_split := mkB (S := Sf_law_split) (nm := (defScope (topS 14)).names) (T := ⟨Lf_law_row, bl, ma, false⟩) (topS 14) rfl
def Ff_law_split : Fn := fnV (topS 14) rfl Bf_law_split
abbrev Lf_law_split : List (Str × Nat × Fn) := ("_law_split", 1, Ff_law_split) :: Lf_law_row
/-! _law_stretches -/
abbrev Sf_law_stretches : List (Str × Nat) := [("row", 0), ("found", 1), ("middle", 2), ("low", 3), ("high", 4), ("turn", 5)]
def Bf_law_stretches := mkB (S := Sf_law_stretches) (nm := (defScope (topS 15)).names) (T := ⟨Lf_law_split, bl, ma, false⟩) (topS 15) rfl
def Ff_law_stretches : Fn := fnV (topS 15) rfl Bf_law_stretches
abbrev Lf_law_stretches : List (Str × Nat × Fn) := ("_law_stretches", 1, Ff_law_stretches) :: Lf_law_split
/-! _law_poor -/
abbrev Sf_law_poor : List (Str × Nat) := [("row", 0), ("poor", 1), ("place", 2), ("longest", 3), ("begin", 4), ("part", 5), ("at", 6)]
def Bf_law_poor := mkB (S := Sf_law_poor) (nm := (defScope (topS 16)).names) (T := ⟨Lf_law_stretches, bl, ma, false⟩) (topS 16) rfl
def Ff_law_poor : Fn := fnV (topS 16) rfl Bf_law_poor
abbrev Lf_law_poor : List (Str × Nat × Fn) := ("_law_poor", 1, Ff_law_poor) :: Lf_law_stretches
/-! law -/
abbrev Sf_law : List (Str × Nat) := [("script", 0), ("k", 1), ("draws", 2), ("row", 3), ("n", 4), ("changes", 5), ("at", 6), ("poor", 7), ("stretches", 8), ("part", 9)]
def Bf_law := mkB (S := Sf_law) (nm := (defScope (topS 17)).names) (T := ⟨Lf_law_poor, bl, ma, false⟩) (topS 17) rfl
def Ff_law : Fn := fnV (topS 17) rfl Bf_law
abbrev Lf_law : List (Str × Nat × Fn) := ("law", 1, Ff_law) :: Lf_law_poor
/-! the chain -/
theorem cf_is_two_sided {P : Program} {w : PySem.World} {K : PySem.W.Frag} {mg : Str → Option Value} {base : Heap} {TB : Addr → Prop} (wL_0 : World P w K mg base TB ⟨L_0, bl, ma, false⟩ 0) (lf_is_two_sided : LinkD K mg "is_two_sided" (topS 1) ["row"]) : World P w K mg base TB ⟨Lf_is_two_sided, bl, ma, false⟩ 1 :=
  World.stepN wL_0 (okD_of lf_is_two_sided wL_0 rfl Bf_is_two_sided (by decide +kernel) (by decide +kernel)) (by decide)
theorem cf_told_split {P : Program} {w : PySem.World} {K : PySem.W.Frag} {mg : Str → Option Value} {base : Heap} {TB : Addr → Prop} (wLf_is_two_sided : World P w K mg base TB ⟨Lf_is_two_sided, bl, ma, false⟩ 1) (lf_told_split : LinkD K mg "told_split" (topS 2) ["row"]) : World P w K mg base TB ⟨Lf_told_split, bl, ma, false⟩ 2 :=
  World.stepN wLf_is_two_sided (okD_of lf_told_split wLf_is_two_sided rfl Bf_told_split (by decide +kernel) (by decide +kernel)) (by decide)
theorem cf_sided_stretches {P : Program} {w : PySem.World} {K : PySem.W.Frag} {mg : Str → Option Value} {base : Heap} {TB : Addr → Prop} (wLf_told_split : World P w K mg base TB ⟨Lf_told_split, bl, ma, false⟩ 2) (lf_sided_stretches : LinkD K mg "sided_stretches" (topS 3) ["row"]) : World P w K mg base TB ⟨Lf_sided_stretches, bl, ma, false⟩ 3 :=
  World.stepN wLf_told_split (okD_of lf_sided_stretches wLf_told_split rfl Bf_sided_stretches (by decide +kernel) (by decide +kernel)) (by decide)
theorem cf_longest_behind {P : Program} {w : PySem.World} {K : PySem.W.Frag} {mg : Str → Option Value} {base : Heap} {TB : Addr → Prop} (wLf_sided_stretches : World P w K mg base TB ⟨Lf_sided_stretches, bl, ma, false⟩ 3) (lf_longest_behind : LinkD K mg "longest_behind" (topS 4) ["row"]) : World P w K mg base TB ⟨Lf_longest_behind, bl, ma, false⟩ 4 :=
  World.stepN wLf_sided_stretches (okD_of lf_longest_behind wLf_sided_stretches rfl Bf_longest_behind (by decide +kernel) (by decide +kernel)) (by decide)
theorem cf_told_poor {P : Program} {w : PySem.World} {K : PySem.W.Frag} {mg : Str → Option Value} {base : Heap} {TB : Addr → Prop} (wLf_longest_behind : World P w K mg base TB ⟨Lf_longest_behind, bl, ma, false⟩ 4) (lf_told_poor : LinkD K mg "told_poor" (topS 5) ["row"]) : World P w K mg base TB ⟨Lf_told_poor, bl, ma, false⟩ 5 :=
  World.stepN wLf_longest_behind (okD_of lf_told_poor wLf_longest_behind rfl Bf_told_poor (by decide +kernel) (by decide +kernel)) (by decide)
theorem cf_is_rich {P : Program} {w : PySem.World} {K : PySem.W.Frag} {mg : Str → Option Value} {base : Heap} {TB : Addr → Prop} (wLf_told_poor : World P w K mg base TB ⟨Lf_told_poor, bl, ma, false⟩ 5) (lf_is_rich : LinkD K mg "is_rich" (topS 6) ["row"]) : World P w K mg base TB ⟨Lf_is_rich, bl, ma, false⟩ 6 :=
  World.stepN wLf_told_poor (okD_of lf_is_rich wLf_told_poor rfl Bf_is_rich (by decide +kernel) (by decide +kernel)) (by decide)
theorem cf_fewest_changes {P : Program} {w : PySem.World} {K : PySem.W.Frag} {mg : Str → Option Value} {base : Heap} {TB : Addr → Prop} (wLf_is_rich : World P w K mg base TB ⟨Lf_is_rich, bl, ma, false⟩ 6) (lf_fewest_changes : LinkD K mg "fewest_changes" (topS 7) ["row"]) : World P w K mg base TB ⟨Lf_fewest_changes, bl, ma, false⟩ 7 :=
  World.stepN wLf_is_rich (okD_of lf_fewest_changes wLf_is_rich rfl Bf_fewest_changes (by decide +kernel) (by decide +kernel)) (by decide)
theorem cf_law_cell {P : Program} {w : PySem.World} {K : PySem.W.Frag} {mg : Str → Option Value} {base : Heap} {TB : Addr → Prop} (wLf_fewest_changes : World P w K mg base TB ⟨Lf_fewest_changes, bl, ma, false⟩ 7) (lf_law_cell : LinkD K mg "_law_cell" (topS 9) ["script", "k"]) : World P w K mg base TB ⟨Lf_law_cell, bl, ma, false⟩ 8 :=
  World.stepN wLf_fewest_changes (okD_of lf_law_cell wLf_fewest_changes rfl Bf_law_cell (by decide +kernel) (by decide +kernel)) (by decide)
theorem cf_law_draws {P : Program} {w : PySem.World} {K : PySem.W.Frag} {mg : Str → Option Value} {base : Heap} {TB : Addr → Prop} (wLf_law_cell : World P w K mg base TB ⟨Lf_law_cell, bl, ma, false⟩ 8) (lf_law_draws : LinkD K mg "_law_draws" (topS 10) ["cell", "count"]) : World P w K mg base TB ⟨Lf_law_draws, bl, ma, false⟩ 9 :=
  World.stepN wLf_law_cell (okD_of lf_law_draws wLf_law_cell rfl Bf_law_draws (by decide +kernel) (by decide +kernel)) (by decide)
theorem cf_law_is_integer {P : Program} {w : PySem.World} {K : PySem.W.Frag} {mg : Str → Option Value} {base : Heap} {TB : Addr → Prop} (wLf_law_draws : World P w K mg base TB ⟨Lf_law_draws, bl, ma, false⟩ 9) (lf_law_is_integer : LinkD K mg "_law_is_integer" (topS 11) ["value"]) : World P w K mg base TB ⟨Lf_law_is_integer, bl, ma, false⟩ 10 :=
  World.stepN wLf_law_draws (okD_of lf_law_is_integer wLf_law_draws rfl Bf_law_is_integer (by decide +kernel) (by decide +kernel)) (by decide)
theorem cf_law_is {P : Program} {w : PySem.World} {K : PySem.W.Frag} {mg : Str → Option Value} {base : Heap} {TB : Addr → Prop} (wLf_law_is_integer : World P w K mg base TB ⟨Lf_law_is_integer, bl, ma, false⟩ 10) (lf_law_is : LinkD K mg "_law_is" (topS 12) ["value", "due"]) : World P w K mg base TB ⟨Lf_law_is, bl, ma, false⟩ 18 :=
  World.stepN wLf_law_is_integer (okD_rec (P := P) (w := w) (base := base) (TB := TB) (k := 10) lf_law_is wLf_law_is_integer (rfl : defBody (topS 12) = _) Bf_law_is (by decide +kernel) (by decide +kernel) 8) (by decide)
theorem cf_law_row {P : Program} {w : PySem.World} {K : PySem.W.Frag} {mg : Str → Option Value} {base : Heap} {TB : Addr → Prop} (wLf_law_is : World P w K mg base TB ⟨Lf_law_is, bl, ma, false⟩ 18) (lf_law_row : LinkD K mg "_law_row" (topS 13) ["draws", "size"]) : World P w K mg base TB ⟨Lf_law_row, bl, ma, false⟩ 19 :=
  World.stepN wLf_law_is (okD_of lf_law_row wLf_law_is rfl Bf_law_row (by decide +kernel) (by decide +kernel)) (by decide)
theorem cf_law_split {P : Program} {w : PySem.World} {K : PySem.W.Frag} {mg : Str → Option Value} {base : Heap} {TB : Addr → Prop} (wLf_law_row : World P w K mg base TB ⟨Lf_law_row, bl, ma, false⟩ 19) (lf_law_split : LinkD K mg "_law_split" (topS 14) ["row"]) : World P w K mg base TB ⟨Lf_law_split, bl, ma, false⟩ 20 :=
  World.stepN wLf_law_row (okD_of lf_law_split wLf_law_row rfl Bf_law_split (by decide +kernel) (by decide +kernel)) (by decide)
theorem cf_law_stretches {P : Program} {w : PySem.World} {K : PySem.W.Frag} {mg : Str → Option Value} {base : Heap} {TB : Addr → Prop} (wLf_law_split : World P w K mg base TB ⟨Lf_law_split, bl, ma, false⟩ 20) (lf_law_stretches : LinkD K mg "_law_stretches" (topS 15) ["row"]) : World P w K mg base TB ⟨Lf_law_stretches, bl, ma, false⟩ 21 :=
  World.stepN wLf_law_split (okD_of lf_law_stretches wLf_law_split rfl Bf_law_stretches (by decide +kernel) (by decide +kernel)) (by decide)
theorem cf_law_poor {P : Program} {w : PySem.World} {K : PySem.W.Frag} {mg : Str → Option Value} {base : Heap} {TB : Addr → Prop} (wLf_law_stretches : World P w K mg base TB ⟨Lf_law_stretches, bl, ma, false⟩ 21) (lf_law_poor : LinkD K mg "_law_poor" (topS 16) ["row"]) : World P w K mg base TB ⟨Lf_law_poor, bl, ma, false⟩ 22 :=
  World.stepN wLf_law_stretches (okD_of lf_law_poor wLf_law_stretches rfl Bf_law_poor (by decide +kernel) (by decide +kernel)) (by decide)
structure Links (K : PySem.W.Frag) (mg : Str → Option Value) : Prop where
  blt : ∀ x ∈ bl, mg x = none
  mat : ∀ p ∈ ma, mg p.1 = some (maV p.2)
  lf_is_two_sided : LinkD K mg "is_two_sided" (topS 1) ["row"]
  lf_told_split : LinkD K mg "told_split" (topS 2) ["row"]
  lf_sided_stretches : LinkD K mg "sided_stretches" (topS 3) ["row"]
  lf_longest_behind : LinkD K mg "longest_behind" (topS 4) ["row"]
  lf_told_poor : LinkD K mg "told_poor" (topS 5) ["row"]
  lf_is_rich : LinkD K mg "is_rich" (topS 6) ["row"]
  lf_fewest_changes : LinkD K mg "fewest_changes" (topS 7) ["row"]
  lf_law_cell : LinkD K mg "_law_cell" (topS 9) ["script", "k"]
  lf_law_draws : LinkD K mg "_law_draws" (topS 10) ["cell", "count"]
  lf_law_is_integer : LinkD K mg "_law_is_integer" (topS 11) ["value"]
  lf_law_is : LinkD K mg "_law_is" (topS 12) ["value", "due"]
  lf_law_row : LinkD K mg "_law_row" (topS 13) ["draws", "size"]
  lf_law_split : LinkD K mg "_law_split" (topS 14) ["row"]
  lf_law_stretches : LinkD K mg "_law_stretches" (topS 15) ["row"]
  lf_law_poor : LinkD K mg "_law_poor" (topS 16) ["row"]
theorem world_all {P : Program} {w : PySem.World} {K : PySem.W.Frag} {mg : Str → Option Value} {base : Heap} {TB : Addr → Prop} (l : Links K mg) : World P w K mg base TB ⟨Lf_law_poor, bl, ma, false⟩ 22 :=
  have wL_0 : World P w K mg base TB ⟨L_0, bl, ma, false⟩ 0 := ⟨l.blt, l.mat, fun q hq => by cases hq⟩
  have wLf_is_two_sided := cf_is_two_sided wL_0 l.lf_is_two_sided
  have wLf_told_split := cf_told_split wLf_is_two_sided l.lf_told_split
  have wLf_sided_stretches := cf_sided_stretches wLf_told_split l.lf_sided_stretches
  have wLf_longest_behind := cf_longest_behind wLf_sided_stretches l.lf_longest_behind
  have wLf_told_poor := cf_told_poor wLf_longest_behind l.lf_told_poor
  have wLf_is_rich := cf_is_rich wLf_told_poor l.lf_is_rich
  have wLf_fewest_changes := cf_fewest_changes wLf_is_rich l.lf_fewest_changes
  have wLf_law_cell := cf_law_cell wLf_fewest_changes l.lf_law_cell
  have wLf_law_draws := cf_law_draws wLf_law_cell l.lf_law_draws
  have wLf_law_is_integer := cf_law_is_integer wLf_law_draws l.lf_law_is_integer
  have wLf_law_is := cf_law_is wLf_law_is_integer l.lf_law_is
  have wLf_law_row := cf_law_row wLf_law_is l.lf_law_row
  have wLf_law_split := cf_law_split wLf_law_row l.lf_law_split
  have wLf_law_stretches := cf_law_stretches wLf_law_split l.lf_law_stretches
  have wLf_law_poor := cf_law_poor wLf_law_stretches l.lf_law_poor
  wLf_law_poor
theorem all_links {K : PySem.W.Frag} {mg : Str → Option Value} {h : Heap} (X : K.In h) (G : h.Ns mainGlobals mg)
    (z_abs : PySem.W.nsIn K mainGlobals "abs" = some none)
    (z_all : PySem.W.nsIn K mainGlobals "all" = some none)
    (z_any : PySem.W.nsIn K mainGlobals "any" = some none)
    (z_bool : PySem.W.nsIn K mainGlobals "bool" = some none)
    (z_int : PySem.W.nsIn K mainGlobals "int" = some none)
    (z_isinstance : PySem.W.nsIn K mainGlobals "isinstance" = some none)
    (z_len : PySem.W.nsIn K mainGlobals "len" = some none)
    (z_max : PySem.W.nsIn K mainGlobals "max" = some none)
    (z_min : PySem.W.nsIn K mainGlobals "min" = some none)
    (z_range : PySem.W.nsIn K mainGlobals "range" = some none)
    (z_sorted : PySem.W.nsIn K mainGlobals "sorted" = some none)
    (z_str : PySem.W.nsIn K mainGlobals "str" = some none)
    (z_tuple : PySem.W.nsIn K mainGlobals "tuple" = some none)
    (df_is_two_sided : DefAt K "is_two_sided" (topS 1))
    (df_told_split : DefAt K "told_split" (topS 2))
    (df_sided_stretches : DefAt K "sided_stretches" (topS 3))
    (df_longest_behind : DefAt K "longest_behind" (topS 4))
    (df_told_poor : DefAt K "told_poor" (topS 5))
    (df_is_rich : DefAt K "is_rich" (topS 6))
    (df_fewest_changes : DefAt K "fewest_changes" (topS 7))
    (df_law_cell : DefAt K "_law_cell" (topS 9))
    (df_law_draws : DefAt K "_law_draws" (topS 10))
    (df_law_is_integer : DefAt K "_law_is_integer" (topS 11))
    (df_law_is : DefAt K "_law_is" (topS 12))
    (df_law_row : DefAt K "_law_row" (topS 13))
    (df_law_split : DefAt K "_law_split" (topS 14))
    (df_law_stretches : DefAt K "_law_stretches" (topS 15))
    (df_law_poor : DefAt K "_law_poor" (topS 16))
    : Links K mg where
  blt x hx := by
    simp only [bl, List.mem_cons, List.not_mem_nil, or_false] at hx
    rcases hx with rfl | rfl | rfl | rfl | rfl | rfl | rfl | rfl | rfl | rfl | rfl | rfl | rfl
    · exact PySem.W.mg_none_of X G z_abs
    · exact PySem.W.mg_none_of X G z_all
    · exact PySem.W.mg_none_of X G z_any
    · exact PySem.W.mg_none_of X G z_bool
    · exact PySem.W.mg_none_of X G z_int
    · exact PySem.W.mg_none_of X G z_isinstance
    · exact PySem.W.mg_none_of X G z_len
    · exact PySem.W.mg_none_of X G z_max
    · exact PySem.W.mg_none_of X G z_min
    · exact PySem.W.mg_none_of X G z_range
    · exact PySem.W.mg_none_of X G z_sorted
    · exact PySem.W.mg_none_of X G z_str
    · exact PySem.W.mg_none_of X G z_tuple
  mat p hp := by cases hp
  lf_is_two_sided := df_is_two_sided.link X G fun _ _ _ _ _ _ us hl => match us, hl with | [_], _ => rfl
  lf_told_split := df_told_split.link X G fun _ _ _ _ _ _ us hl => match us, hl with | [_], _ => rfl
  lf_sided_stretches := df_sided_stretches.link X G fun _ _ _ _ _ _ us hl => match us, hl with | [_], _ => rfl
  lf_longest_behind := df_longest_behind.link X G fun _ _ _ _ _ _ us hl => match us, hl with | [_], _ => rfl
  lf_told_poor := df_told_poor.link X G fun _ _ _ _ _ _ us hl => match us, hl with | [_], _ => rfl
  lf_is_rich := df_is_rich.link X G fun _ _ _ _ _ _ us hl => match us, hl with | [_], _ => rfl
  lf_fewest_changes := df_fewest_changes.link X G fun _ _ _ _ _ _ us hl => match us, hl with | [_], _ => rfl
  lf_law_cell := df_law_cell.link X G fun _ _ _ _ _ _ us hl => match us, hl with | [_, _], _ => rfl
  lf_law_draws := df_law_draws.link X G fun _ _ _ _ _ _ us hl => match us, hl with | [_, _], _ => rfl
  lf_law_is_integer := df_law_is_integer.link X G fun _ _ _ _ _ _ us hl => match us, hl with | [_], _ => rfl
  lf_law_is := df_law_is.link X G fun _ _ _ _ _ _ us hl => match us, hl with | [_, _], _ => rfl
  lf_law_row := df_law_row.link X G fun _ _ _ _ _ _ us hl => match us, hl with | [_, _], _ => rfl
  lf_law_split := df_law_split.link X G fun _ _ _ _ _ _ us hl => match us, hl with | [_], _ => rfl
  lf_law_stretches := df_law_stretches.link X G fun _ _ _ _ _ _ us hl => match us, hl with | [_], _ => rfl
  lf_law_poor := df_law_poor.link X G fun _ _ _ _ _ _ us hl => match us, hl with | [_], _ => rfl
end
end Pu


set_option Elab.async false
set_option linter.all false
set_option autoImplicit false
set_option maxRecDepth 100000
set_option maxHeartbeats 4000000
namespace Pu
open PySem PySem.Spec PyProof.Rows L2
local macro_rules | `(tactic| walk_at "pd") => `(tactic| (have hLIM : LIM = 16777216 := LIM_eq; first | omega | assumption | (refine id ?_; (try simp [B62, LIM_eq]) <;> omega)))

theorem e_cell {ns : List Int} {k : Int} (h : 0 ≤ k) : ∃ c : Int, Ff_law_cell [.list (ns.map .int), .int k] = some (.int c) := by
  unfold Ff_law_cell fnV
  by_cases h2 : k < ns.length
  · exact ⟨nth ns k, by simp (disch := walk_at "pd") [h2]⟩
  · exact ⟨5 * k + 3, by simp (disch := walk_at "pd") [h2]⟩
theorem e_draws_ex {c n : Int} (h : 0 ≤ n) (h2 : n ≤ 100000) : ∃ d, Ff_law_draws [.int c, .int n] = some d ∧ ∃ ds : List Int, d = .list (ds.map .int) ∧ (ds.length : Int) = n ∧ ∀ x ∈ ds, 0 ≤ x ∧ x < 5040 := by
  unfold Ff_law_draws fnV
  refine give_of ?_
  simp (disch := walk_at "pd")
  generalize (if c < 0 then -c else c) = sd
  generalize decide (1000000000000000000 ≤ sd) = b
  refine wp_range (fun i e => ∃ (rest : Int) (acc : List Int) (s6 s7 : Sl), e = [.va (.int c), .va (.int n), .va (.int rest), .va (.bool b), .va (.int sd), .ow (acc.map .int), s6, s7] ∧ (acc.length : Int) = i ∧ ∀ x ∈ acc, 0 ≤ x ∧ x < 5040)
    ⟨sd, [], .un, .un, rfl, rfl, by simp⟩ ?_ ?_
  · rintro i e h0 hi ⟨rest, acc, s6, s7, rfl, hl, ha⟩
    simp (disch := walk_at "pd") [-ifO_nx]
    have fin : ∀ y : Int, 0 ≤ y ∧ y < 5040 → ∃ l : List Int, acc.map PyData.int ++ [PyData.int y] = l.map .int ∧ (l.length : Int) = i + 1 ∧ ∀ x ∈ l, 0 ≤ x ∧ x < 5040 := fun y hy => ⟨acc ++ [y], by simp, by simp; omega, fun x hx => by
      rcases List.mem_append.mp hx with hx | hx
      · exact ha x hx
      · rw [List.mem_singleton.mp hx]; exact hy⟩
    refine ⟨fun _ _ => ?_, fun _ => ?_⟩
    · obtain ⟨l, h1, h2⟩ := fin (rest % 5040) (by omega)
      exact ⟨_, l, ⟨rfl, h1⟩, h2⟩
    · obtain ⟨l, h1, h2⟩ := fin _ ⟨Int.emod_nonneg _ (by decide), Int.emod_lt_of_pos _ (by decide)⟩
      exact ⟨_, l, ⟨rfl, h1⟩, h2⟩
  · rintro e ⟨rest, acc, s6, s7, rfl, hl, ha⟩
    simp (disch := walk_at "pd")
    exact ⟨by omega, ha⟩
noncomputable def drawsL (c n : Int) : List Int := if h : 0 ≤ n ∧ n ≤ 100000 then Classical.choose (Classical.choose_spec (e_draws_ex (c := c) h.1 h.2)).2 else []
theorem drawsL_spec {c n : Int} (h : 0 ≤ n) (h2 : n ≤ 100000) : Ff_law_draws [.int c, .int n] = some (.list ((drawsL c n).map .int)) ∧ ((drawsL c n).length : Int) = n ∧ ∀ x ∈ drawsL c n, 0 ≤ x ∧ x < 5040 := by
  have e := Classical.choose_spec (e_draws_ex (c := c) h h2)
  have e2 := Classical.choose_spec e.2
  unfold drawsL
  rw [dif_pos ⟨h, h2⟩]
  exact ⟨e.1.trans (congrArg some e2.1), e2.2⟩
@[simp] theorem e_draws {c n : Int} (h : 0 ≤ n) (h2 : n ≤ 100000) : Ff_law_draws [.int c, .int n] = some (.list ((drawsL c n).map .int)) := (drawsL_spec h h2).1
theorem drawsL_len {c n : Int} (h : 0 ≤ n) (h2 : n ≤ 100000) : ((drawsL c n).length : Int) = n := (drawsL_spec h h2).2.1
theorem drawsL_nth {c n i : Int} : 0 ≤ nth (drawsL c n) i ∧ nth (drawsL c n) i < 5040 := by
  by_cases h : 0 ≤ n ∧ n ≤ 100000
  · unfold nth
    cases e : (drawsL c n)[i.toNat]? with
    | none => exact ⟨by decide, by decide⟩
    | some x => exact (drawsL_spec h.1 h.2).2.2 x (List.mem_of_getElem? e)
  · unfold drawsL nth
    rw [dif_neg h]
    exact ⟨Int.le_refl 0, by show (0 : Int) < 5040; decide⟩
theorem draws_dr (c : Int) {n : Int} (h : 0 ≤ n) (h2 : n ≤ 100000) : ∃ ds : List Int, DR ds n ∧ Ff_law_draws [.int c, .int n] = some (.list (ds.map .int)) := ⟨drawsL c n, ⟨drawsL_len h h2, (drawsL_spec h h2).2.2⟩, e_draws h h2⟩
/-! ### _law_is -/
@[simp] theorem e_isint (v : PyData) : Ff_law_is_integer [v] = some (.bool (match v with | .int _ => true | _ => false)) := by
  unfold Ff_law_is_integer fnV
  cases v <;> simp
def okD : Nat → PyData → Prop
  | n + 1, .tuple xs => xs.length ≤ LIM ∧ ∀ x ∈ xs, okD n x
  | n + 1, .none => True
  | n + 1, .bool _ => True
  | n + 1, .int _ => True
  | n + 1, .str _ => True
  | _, _ => False
@[simp] theorem okD_none (n : Nat) : okD (n + 1) .none := trivial
@[simp] theorem okD_bool (n : Nat) (b : Bool) : okD (n + 1) (.bool b) := trivial
@[simp] theorem okD_int (n : Nat) (b : Int) : okD (n + 1) (.int b) := trivial
@[simp] theorem okD_str (n : Nat) (b : Str) : okD (n + 1) (.str b) := trivial
@[simp] theorem okD_tuple (n : Nat) (xs : List PyData) : okD (n + 1) (.tuple xs) ↔ xs.length ≤ LIM ∧ ∀ x ∈ xs, okD n x := Iff.rfl
open Classical in
theorem e_is (n : Nat) : ∀ (v d : PyData), okD n d → Ff_law_is n [v, d] = some (.bool (decide (v = d))) := by
  induction n with
  | zero => intro v d h; unfold okD at h; exact h.elim
  | succ n ih =>
    intro v d h
    have e0 : Ff_law_is (n + 1) = Gf_law_is (Ff_law_is n) := recV_succ _ _
    rw [e0]
    unfold Gf_law_is fnV
    cases d with
    | list ys => unfold okD at h; exact h.elim
    | dict ys => unfold okD at h; exact h.elim
    | none => cases v <;> simp
    | bool b => cases v <;> simp
    | int b => cases v <;> simp
    | str b => cases v <;> simp
    | tuple xs =>
      unfold okD at h
      cases v with
      | tuple ys =>
        by_cases hl : ys.length = xs.length
        · have hl2 : (ys.length : Int) = xs.length := by omega
          have hL : (LIM : Nat) = 16777216 := LIM_eq
          obtain ⟨h, h0⟩ := h
          simp (disch := walk_at "pd") [hl2]
          rw [lcV_all (fun i => .bool (decide (nth ys i = nth xs i))) (by simp; omega) fun i hi => by
            rw [mem_rg] at hi
            simp (disch := walk_at "pd") [ih _ _ (h0 _ (nth_mem (xs := xs) (i := i) (by omega) (by omega)))]]
          simp
          rw [Bool.eq_iff_iff]
          simp
          constructor
          · intro z
            exact ext_nth hl fun i h0 h1 => z i (by omega) (by omega)
          · rintro rfl _ _ _; rfl
        · have hl2 : ¬ (ys.length : Int) = xs.length := by omega
          have hl3 : ¬ ys = xs := fun z => hl (z ▸ rfl)
          simp (disch := walk_at "pd") [hl2, hl3]
      | _ => simp
end Pu

set_option Elab.async false
set_option linter.all false
set_option autoImplicit false
set_option maxRecDepth 100000
set_option maxHeartbeats 4000000
namespace Pu
open PySem PySem.Spec PyProof.Rows L2
local macro_rules | `(tactic| walk_at "pd") => `(tactic| (have hLIM : LIM = 16777216 := LIM_eq; first | omega | assumption | (refine id ?_; (try simp [B62, LIM_eq]) <;> omega)))
local macro_rules | `(tactic| walk_at "ll") => `(tactic| ((try simp only [List.length_map, rg_length, List.length_reverse, List.length_append]) <;> (try rw [LIM_eq]) <;> omega))
abbrev mk (R : List Nat) : PyData := .str (mkS R)
theorem mk_inj {a b : List Nat} : (mk a = mk b) ↔ a = b := ⟨fun h => KyF.inj (f := fun l : List Nat => PyData.str (mkS l)) a b h, fun h => by rw [h]⟩
theorem rg_lt (a b : Int) : (rg a b).Pairwise (· < ·) := by
  unfold rg
  rw [List.pairwise_map]
  exact List.pairwise_lt_range.imp fun h => by omega
/-! plain: stretches of a row -/
def sg (R : List Nat) (b e : Int) : List Nat := sliceL R (some b) (some e)
theorem sg_nat {R : List Nat} {b e : Int} (b0 : 0 ≤ b) (e0 : 0 ≤ e) : sg R b e = (R.drop b.toNat).take (e.toNat - b.toNat) := sliceL_both b0 e0
theorem sg_len {R : List Nat} {b e : Int} (b0 : 0 ≤ b) (be : b ≤ e) (en : e ≤ R.length) : ((sg R b e).length : Int) = e - b := by
  rw [sg_nat b0 (by omega), List.length_take, List.length_drop]; omega
theorem sg_get {R : List Nat} {b e : Int} (b0 : 0 ≤ b) (en : e ≤ R.length) {k : Nat} (hk : b + k < e) : (sg R b e)[k]? = some (nth R (b + k)) := by
  rw [sg_nat b0 (by omega), List.getElem?_take, if_pos (by omega), List.getElem?_drop]
  have h := nth_eq (xs := R) (i := b + k) (by omega) (by omega)
  rw [← h]
  congr 1
  omega
theorem sg_ext {R : List Nat} {b e : Int} (b0 : 0 ≤ b) (be : b ≤ e) (en : e ≤ R.length) {U : List Nat} (hl : (U.length : Int) = e - b) (h : ∀ k : Nat, b + k < e → U[k]? = some (nth R (b + k))) : sg R b e = U := by
  have h1 := sg_len b0 be en
  apply List.ext_getElem?
  intro k
  by_cases q : b + k < e
  · rw [sg_get b0 en q, h k q]
  · rw [List.getElem?_eq_none (by omega), List.getElem?_eq_none (by omega)]
/-- reads alike from both ends -/
def Pl (R : List Nat) (b e : Int) : Prop := ∀ i, b ≤ i → i < e → nth R i = nth R (b + e - 1 - i)
theorem pl_iff {R : List Nat} {b e : Int} (b0 : 0 ≤ b) (be : b ≤ e) (en : e ≤ R.length) : sg R b e = (sg R b e).reverse ↔ Pl R b e := by
  have hl := sg_len b0 be en
  constructor
  · intro h i i0 i1
    have h1 := sg_get b0 en (k := (i - b).toNat) (by omega)
    rw [h, List.getElem?_reverse (by omega)] at h1
    have h2 := sg_get b0 en (k := (sg R b e).length - 1 - (i - b).toNat) (by omega)
    rw [h1] at h2
    injection h2 with h2
    rw [show b + ((i - b).toNat : Int) = i by omega, show b + (((sg R b e).length - 1 - (i - b).toNat : Nat) : Int) = b + e - 1 - i by omega] at h2
    exact h2
  · intro h
    refine sg_ext b0 be en (by rw [List.length_reverse]; exact hl) fun k hk => ?_
    rw [List.getElem?_reverse (by omega), sg_get b0 en (by omega), h (b + k) (by omega) hk]
    congr 2
    omega
theorem sg_eq {R : List Nat} {b e b' e' : Int} (b0 : 0 ≤ b) (be : b ≤ e) (en : e ≤ R.length) (b0' : 0 ≤ b') (be' : b' ≤ e') (en' : e' ≤ R.length) : sg R b e = sg R b' e' ↔ e - b = e' - b' ∧ ∀ k, 0 ≤ k → k < e - b → nth R (b + k) = nth R (b' + k) := by
  have hl := sg_len b0 be en
  have hl' := sg_len b0' be' en'
  constructor
  · intro h
    have h3 : e - b = e' - b' := by rw [h] at hl; omega
    refine ⟨h3, fun k k0 k1 => ?_⟩
    have h1 := sg_get b0 en (k := k.toNat) (by omega)
    have h2 := sg_get b0' en' (k := k.toNat) (by omega)
    rw [h, h2] at h1
    injection h1 with h1
    rw [show ((k.toNat : Nat) : Int) = k by omega] at h1
    exact h1.symm
  · rintro ⟨h1, h2⟩
    refine sg_ext b0 be en (by omega) fun k hk => ?_
    rw [sg_get b0' en' (by omega), h2 k (by omega) (by omega)]
def palB (U : List Nat) : Bool := decide (U = U.reverse)
def plB (R : List Nat) (b e : Int) : Bool := palB (sg R b e)
theorem plB_iff {R : List Nat} {b e : Int} (b0 : 0 ≤ b) (be : b ≤ e) (en : e ≤ R.length) : plB R b e = true ↔ Pl R b e := by
  unfold plB palB
  rw [decide_eq_true_eq, pl_iff b0 be en]
theorem pl_one (R : List Nat) (b : Int) : Pl R b (b + 1) := fun i h1 h2 => by rw [show b + (b + 1) - 1 - i = i by omega]
/-- the least begin of a stretch alike from both ends that ends here -/
def lbF (R : List Nat) (e : Int) : Int := ((rg 0 e).find? fun b => plB R b e).getD 0
structure IsLb (R : List Nat) (e b : Int) : Prop where
  ge : 0 ≤ b
  lt : b < e
  pl : Pl R b e
  low : ∀ c, 0 ≤ c → c < b → ¬ Pl R c e
theorem lb_ok {R : List Nat} {e : Int} (e0 : 0 < e) (en : e ≤ R.length) : IsLb R e (lbF R e) := by
  unfold lbF
  cases h : (rg 0 e).find? fun b => plB R b e with
  | none =>
    rw [List.find?_eq_none] at h
    have := h (e - 1) (by rw [mem_rg]; omega)
    have h2 := (plB_iff (R := R) (b := e - 1) (e := e) (by omega) (by omega) en).mpr (by have := pl_one R (e - 1); rw [show e - 1 + 1 = e by omega] at this; exact this)
    exact absurd h2 this
  | some b =>
    have h1 := List.find?_some h
    have h2 := List.mem_of_find?_eq_some h
    rw [mem_rg] at h2
    show IsLb R e b
    refine ⟨h2.1, h2.2, (plB_iff h2.1 (by omega) en).mp h1, fun c c0 cb hc => ?_⟩
    have hc2 := (plB_iff c0 (by omega) en).mpr hc
    obtain ⟨_, as, bs, e1, e2⟩ := List.find?_eq_some_iff_append.mp h
    have hm : c ∈ as := by
      have hmem : c ∈ rg 0 e := by rw [mem_rg]; omega
      rw [e1] at hmem
      rcases List.mem_append.mp hmem with q | q
      · exact q
      · exfalso
        have hs := rg_lt 0 e
        rw [e1, List.pairwise_append] at hs
        rcases List.mem_cons.mp q with q | q
        · omega
        · have := (List.pairwise_cons.mp hs.2.1).1 c q
          omega
    have := e2 c hm
    rw [hc2] at this
    exact absurd this (by decide)
theorem IsLb.uniq {R : List Nat} {e b b' : Int} (h : IsLb R e b) (h' : IsLb R e b') : b = b' := by
  rcases Int.lt_trichotomy b b' with q | q | q
  · exact absurd h.pl (h'.low b h.ge q)
  · exact q
  · exact absurd h'.pl (h.low b' h'.ge q)
/-! walks -/
theorem e_two {U : List Nat} (hU : U.length ≤ 1000) : Ff_is_two_sided [mk U] = some (.bool (palB U)) := by
  unfold Ff_is_two_sided fnV
  refine out_of ?_
  simp (disch := walk_at "pd") [palB, mk_inj]
abbrev TL := List (List Nat)
abbrev txE (F : TL) : List PyData := F.map fun l => .str (mkS l)
structure Kt (M : List (List Nat × Unit)) (P : List Nat → Prop) : Prop where
  nd : (M.map (·.1)).Nodup
  mem : ∀ x, x ∈ M.map (·.1) ↔ P x
theorem Kt.put {M : List (List Nat × Unit)} {P : List Nat → Prop} (h : Kt M P) (x : List Nat) : Kt (putM M x ()) fun y => P y ∨ y = x :=
  ⟨keys_put_nodup h.nd x (), fun y => by rw [mem_keys_put, h.mem]; exact Or.comm⟩
theorem Kt.of {M : List (List Nat × Unit)} {P Q : List Nat → Prop} (h : Kt M P) (hq : ∀ x, P x ↔ Q x) : Kt M Q := ⟨h.nd, fun x => (h.mem x).trans (hq x)⟩
abbrev dcT (M : List (List Nat × Unit)) : List (PyData × PyData) := dcD (fun l : List Nat => PyData.str (mkS l)) (fun _ => .bool true) M
/-- the stretches alike from both ends, of places allowed -/
def InP (R : List Nat) (C : Int → Int → Prop) (x : List Nat) : Prop := ∃ b e : Int, 0 ≤ b ∧ b < e ∧ e ≤ R.length ∧ Pl R b e ∧ C b e ∧ x = sg R b e
theorem inP_of {R : List Nat} {C D : Int → Int → Prop} (h : ∀ b e : Int, 0 ≤ b → b < e → e ≤ R.length → Pl R b e → (C b e ↔ D b e)) (x : List Nat) : InP R C x ↔ InP R D x := by
  constructor
  · rintro ⟨b, e, h1, h2, h3, h4, h5, h6⟩
    exact ⟨b, e, h1, h2, h3, h4, (h b e h1 h2 h3 h4).mp h5, h6⟩
  · rintro ⟨b, e, h1, h2, h3, h4, h5, h6⟩
    exact ⟨b, e, h1, h2, h3, h4, (h b e h1 h2 h3 h4).mpr h5, h6⟩
theorem inP_put {R : List Nat} {C D : Int → Int → Prop} {b0 e0 : Int} (h0 : 0 ≤ b0) (h1 : b0 < e0) (h2 : e0 ≤ R.length) (hp : Pl R b0 e0) (h : ∀ b e : Int, 0 ≤ b → b < e → e ≤ R.length → Pl R b e → (D b e ↔ C b e ∨ (b = b0 ∧ e = e0))) (x : List Nat) : (InP R C x ∨ x = sg R b0 e0) ↔ InP R D x := by
  constructor
  · rintro (⟨b, e, g1, g2, g3, g4, g5, g6⟩ | rfl)
    · exact ⟨b, e, g1, g2, g3, g4, (h b e g1 g2 g3 g4).mpr (.inl g5), g6⟩
    · exact ⟨b0, e0, h0, h1, h2, hp, (h b0 e0 h0 h1 h2 hp).mpr (.inr ⟨rfl, rfl⟩), rfl⟩
  · rintro ⟨b, e, g1, g2, g3, g4, g5, g6⟩
    rcases (h b e g1 g2 g3 g4).mp g5 with q | ⟨rfl, rfl⟩
    · exact .inl ⟨b, e, g1, g2, g3, g4, q, g6⟩
    · exact .inr g6
/-- the sorted keys -/
structure KS (R : List Nat) (K : TL) : Prop where
  nd : K.Nodup
  so : K.Pairwise fun a b => Ord1.le a b = true
  mem : ∀ x, x ∈ K ↔ InP R (fun _ _ => True) x
  len : K.length ≤ 4000
theorem KS.uniq {R : List Nat} {K K' : TL} (h : KS R K) (h' : KS R K') : K = K' :=
  List.Perm.eq_of_pairwise (fun a b _ _ => Ord1.anti a b) h.so h'.so ((List.perm_ext_iff_of_nodup h.nd h'.nd).mpr fun x => by rw [h.mem, h'.mem])
theorem ks_of {R : List Nat} {M : List (List Nat × Unit)} (hl : M.length ≤ 4000) (h : Kt M (InP R fun _ _ => True)) : ∃ K, KS R K ∧ sortL (some (.dict (dcT M))) = some (txE K) := by
  have pm := List.mergeSort_perm (M.map (·.1)) Ord1.le
  refine ⟨(M.map (·.1)).mergeSort Ord1.le, ⟨pm.symm.nodup h.nd, List.pairwise_mergeSort Ord1.trans Ord1.total _, fun x => by rw [pm.mem_iff, h.mem], by rw [pm.length_eq, List.length_map]; exact hl⟩, ?_⟩
  show sortL (some (.list ((dcT M).map (·.1)))) = _
  rw [dcD_keys]
  exact sortL_ord (α := List Nat) fun x _ => trivial
theorem e_stret {R : List Nat} (hR : R.length ≤ 30) : ∃ K, KS R K ∧ Ff_sided_stretches [mk R] = some (.tuple (txE K)) := by
  unfold Ff_sided_stretches fnV
  suffices hh : ∃ d, outV _ = some d ∧ ∃ K, KS R K ∧ d = .tuple (txE K) by
    obtain ⟨d, h1, K, h2, rfl⟩ := hh
    exact ⟨K, h2, h1⟩
  refine give_of ?_
  simp (disch := walk_at "pd") [-Wp_ite]
  refine wp_range (a := 0) (b := R.length) (fun i e => ∃ (M : List (List Nat × Unit)) (s2 s3 : Sl), e = [.va (mk R), .od (dcT M), s2, s3] ∧ (M.length : Int) ≤ 100 * i ∧ Kt M (InP R fun b e => b < i)) ⟨[], _, _, rfl, by simp, ⟨by simp, fun x => by
    refine ⟨fun h => (by simp at h), ?_⟩
    rintro ⟨b, e, h1, h2, h3, h4, h5, h6⟩
    omega⟩⟩ ?_ ?_
  · rintro b e b0 hb ⟨M, s2, s3, rfl, hl, hk⟩
    simp (disch := walk_at "pd") [-Wp_ite]
    refine wp_range (a := b + 1) (b := R.length + 1) (fun j e => ∃ (M : List (List Nat × Unit)) (s3 : Sl), e = [.va (mk R), .od (dcT M), .va (.int b), s3] ∧ (M.length : Int) ≤ 100 * b + j ∧ Kt M (InP R fun b' e' => b' < b ∨ (b' = b ∧ e' < j))) ⟨M, _, rfl, by omega, hk.of fun x => inP_of (fun b' e' h1 h2 h3 _ => by constructor <;> omega) x⟩ ?_ ?_
    · rintro j e j0 hj ⟨M, s3, rfl, hl, hk⟩
      have hsl : sliceD (some b) (some j) (mk R) = some (mk (sg R b j)) := sliceD_mkS (by have := LIM_eq; omega)
      have hsn := sg_len b0 (show b ≤ j by omega) (show j ≤ R.length by omega)
      have e2 := e_two (U := sg R b j) (by omega)
      rw [show palB (sg R b j) = plB R b j from rfl] at e2
      have hst : putD (dcT M) (mk (sg R b j)) (.bool true) = dcT (putM M (sg R b j) ()) := putD_dc (f := fun l : List Nat => PyData.str (mkS l)) (g := fun _ : Unit => PyData.bool true) M (sg R b j) ()
      have hok := okK_dc (f := fun l : List Nat => PyData.str (mkS l)) (g := fun _ : Unit => PyData.bool true) M (sg R b j)
      have hpl := putM_len M (sg R b j) ()
      have hp := hk.put (sg R b j)
      have hpi := plB_iff (R := R) b0 (show b ≤ j by omega) (show j ≤ R.length by omega)
      have hpi2 : plB R b j = false → ¬ Pl R b j := fun h z => by rw [hpi.mpr z] at h; cases h
      have hpi3 : plB R b j = true → Pl R b j := hpi.mp
      generalize plB R b j = pb at *
      cases pb with
      | true =>
        have hpl1 := hpi3 rfl
        simp (disch := walk_at "pd") [-Wp_ite, hsl, e2, hst]
        exact ⟨_, rfl, by omega, hp.of (inP_put b0 (by omega) (by omega) hpl1 fun b' e' h1 h2 h3 _ => by omega)⟩
      | false =>
        have hpl1 := hpi2 rfl
        simp (disch := walk_at "pd") [-Wp_ite, hsl, e2]
        exact ⟨M, rfl, by omega, hk.of (inP_of fun b' e' h1 h2 h3 h4 => by
          constructor
          · rintro (q | ⟨q1, q2⟩)
            · exact .inl q
            · exact .inr ⟨q1, by omega⟩
          · rintro (q | ⟨q1, q2⟩)
            · exact .inl q
            · refine .inr ⟨q1, ?_⟩
              refine Classical.byContradiction fun z => ?_
              have : e' = j := by omega
              subst this q1
              exact hpl1 h4)⟩
    · rintro e ⟨M, s3, rfl, hl, hk⟩
      exact ⟨M, ⟨_, _, rfl⟩, by omega, hk.of (inP_of fun b' e' h1 h2 h3 h4 => by omega)⟩
  · rintro e ⟨M, s2, s3, rfl, hl, hk⟩
    obtain ⟨K, hK, hs⟩ := ks_of (M := M) (by omega) (hk.of (inP_of fun b' e' h1 h2 h3 h4 => by constructor <;> intro _ <;> first | trivial | omega))
    simp (disch := walk_at "pd") [-Wp_ite, hs]
    exact ⟨K, hK, rfl⟩
theorem e_lstret {R : List Nat} (hR : R.length ≤ 30) : ∃ K, KS R K ∧ Ff_law_stretches [mk R] = some (.tuple (txE K)) := by
  unfold Ff_law_stretches fnV
  suffices hh : ∃ d, outV _ = some d ∧ ∃ K, KS R K ∧ d = .tuple (txE K) by
    obtain ⟨d, h1, K, h2, rfl⟩ := hh
    exact ⟨K, h2, h1⟩
  refine give_of ?_
  simp (disch := walk_at "pd") [-Wp_ite]
  refine wp_range (a := 0) (b := 2 * R.length) (fun i e => ∃ (M : List (List Nat × Unit)) (s2 s3 s4 s5 : Sl), e = [.va (mk R), .od (dcT M), s2, s3, s4, s5] ∧ (M.length : Int) ≤ 60 * i ∧ Kt M (InP R fun b e => b + e - 1 < i)) ⟨[], _, _, _, _, rfl, by simp, ⟨by simp, fun x => by
    refine ⟨fun h => (by simp at h), ?_⟩
    rintro ⟨b, e, h1, h2, h3, h4, h5, h6⟩
    omega⟩⟩ ?_ ?_
  · rintro m e m0 hm ⟨M, s2, s3, s4, s5, rfl, hl, hk⟩
    have lh : m / 2 + (m / 2 + m % 2) = m := by omega
    simp (disch := walk_at "pd") [-Wp_ite]
    generalize hlo : m / 2 = lo at *
    generalize hhi : lo + m % 2 = hi at *
    have hlh : lo ≤ hi ∧ hi ≤ lo + 1 := by omega
    refine Wp_via (Q' := fun o => ∃ (M : List (List Nat × Unit)) (s3 s4 s5 : Sl), o = .nx [.va (mk R), .od (dcT M), .va (.int m), s3, s4, s5] ∧ (M.length : Int) ≤ 60 * (m + 1) ∧ Kt M (InP R fun b e => b + e - 1 < m + 1)) ?_ fun o h => ?_
    · refine wp_range (a := 0) (b := R.length) (fun t e => ∃ (M : List (List Nat × Unit)) (low high : Int) (s5 : Sl), e = [.va (mk R), .od (dcT M), .va (.int m), .va (.int low), .va (.int high), s5] ∧ (low = lo - t ∧ high = hi + t) ∧ (M.length : Int) ≤ 60 * m + t ∧ Pl R (lo - t + 1) (hi + t) ∧ Kt M (InP R fun b e => b + e - 1 < m ∨ (b + e - 1 = m ∧ lo - t < b))) ⟨M, _, _, _, rfl, by omega, by omega, fun i h1 h2 => by omega, hk.of (inP_of fun b' e' h1 h2 h3 h4 => by omega)⟩ ?_ ?_
      · rintro t e t0 ht ⟨M, low, high, s5, rfl, ⟨rfl, rfl⟩, hl, hpl, hk⟩
        by_cases q : 0 ≤ lo - t ∧ hi + t < R.length ∧ nth R (lo - t) = nth R (hi + t)
        · obtain ⟨q1, q2, q3⟩ := q
          have hsl : sliceD (some (lo - t)) (some (hi + t + 1)) (mk R) = some (mk (sg R (lo - t) (hi + t + 1))) := sliceD_mkS (by have := LIM_eq; omega)
          have hst : putD (dcT M) (mk (sg R (lo - t) (hi + t + 1))) (.bool true) = dcT (putM M (sg R (lo - t) (hi + t + 1)) ()) := putD_dc (f := fun l : List Nat => PyData.str (mkS l)) (g := fun _ : Unit => PyData.bool true) M (sg R (lo - t) (hi + t + 1)) ()
          have hok := okK_dc (f := fun l : List Nat => PyData.str (mkS l)) (g := fun _ : Unit => PyData.bool true) M (sg R (lo - t) (hi + t + 1))
          have hpm := putM_len M (sg R (lo - t) (hi + t + 1)) ()
          have hp := hk.put (sg R (lo - t) (hi + t + 1))
          have hpl2 : Pl R (lo - t) (hi + t + 1) := fun i h1 h2 => by
            by_cases z1 : i = lo - t
            · rw [z1, q3]; congr 1; omega
            · by_cases z2 : i = hi + t
              · rw [z2, ← q3]; congr 1; omega
              · rw [hpl i (by omega) (by omega)]; congr 1; omega
          simp (disch := walk_at "pd") [-Wp_ite, q1, show t ≤ lo by omega, q2, q3, hsl, hst]
          refine ⟨_, _, _, ⟨rfl, rfl, rfl⟩, ⟨by omega, by omega⟩, by omega, ?_, hp.of (inP_put q1 (by omega) (by omega) hpl2 fun b' e' h1 h2 h3 _ => by omega)⟩
          rw [show lo - (t + 1) + 1 = lo - t by omega, show hi + (t + 1) = hi + t + 1 by omega]
          exact hpl2
        · have hno : ∀ b' e' : Int, 0 ≤ b' → b' < e' → e' ≤ R.length → Pl R b' e' → b' + e' - 1 = m → lo - t < b' := fun b' e' h1 h2 h3 h4 h5 => by
            refine Classical.byContradiction fun z => q ⟨by omega, by omega, ?_⟩
            rw [h4 (lo - t) (by omega) (by omega)]
            congr 1
            omega
          have fin : ∃ M' : List (List Nat × Unit), dcT M = dcT M' ∧ (M'.length : Int) ≤ 60 * (m + 1) ∧ Kt M' (InP R fun b e => b + e - 1 < m + 1) := ⟨M, rfl, by omega, hk.of (inP_of fun b' e' h1 h2 h3 h4 => by
            constructor
            · rintro (z | z) <;> omega
            · intro z
              by_cases z2 : b' + e' - 1 = m
              · exact .inr ⟨z2, hno b' e' h1 h2 h3 h4 z2⟩
              · exact .inl (by omega))⟩
          by_cases q1 : 0 ≤ lo - t
          · by_cases q2 : hi + t < R.length
            · have q3 : ¬ nth R (lo - t) = nth R (hi + t) := fun z => q ⟨q1, q2, z⟩
              simp (disch := walk_at "pd") [-Wp_ite, q1, show t ≤ lo by omega, q2, q3, mk_inj]
              exact fin
            · simp (disch := walk_at "pd") [-Wp_ite, q1, show t ≤ lo by omega, q2]
              exact fin
          · simp (disch := walk_at "pd") [-Wp_ite, q1, show ¬ t ≤ lo by omega]
            exact fin
      · rintro e ⟨M, low, high, s5, rfl, _, hl, hpl, hk⟩
        refine ⟨M, _, _, _, rfl, by omega, hk.of (inP_of fun b' e' h1 h2 h3 h4 => by omega)⟩
    · obtain ⟨M, s3, s4, s5, rfl, hl, hk⟩ := h
      exact ⟨M, ⟨_, _, _, _, rfl⟩, hl, hk⟩
  · rintro e ⟨M, s2, s3, s4, s5, rfl, hl, hk⟩
    obtain ⟨K, hK, hs⟩ := ks_of (M := M) (by omega) (hk.of (inP_of fun b' e' h1 h2 h3 h4 => by constructor <;> intro _ <;> first | trivial | omega))
    simp (disch := walk_at "pd") [-Wp_ite, hs]
    exact ⟨K, hK, rfl⟩
theorem lb_find {R : List Nat} {e : Int} (e0 : 0 < e) (en : e ≤ R.length) : (rg 0 e).find? (fun b => plB R b e) = some (lbF R e) := by
  unfold lbF
  cases h : (rg 0 e).find? fun b => plB R b e with
  | none =>
    rw [List.find?_eq_none] at h
    have := h (e - 1) (by rw [mem_rg]; omega)
    have h2 := (plB_iff (R := R) (b := e - 1) (e := e) (by omega) (by omega) en).mpr (by have := pl_one R (e - 1); rw [show e - 1 + 1 = e by omega] at this; exact this)
    exact absurd h2 this
  | some b => rfl
theorem take_sg {R : List Nat} {e : Int} (e0 : 0 ≤ e) : sliceL R none (some e) = R.take e.toNat := sliceL_none e0
theorem drop_sg {R : List Nat} {b e : Int} (b0 : 0 ≤ b) (e0 : 0 ≤ e) : sliceL (R.take e.toNat) (some b) none = sg R b e := by
  rw [sliceL_some b0, sg_nat b0 e0, List.drop_take]
/-- the place's longest stretch stands earlier too -/
def poorB (R : List Nat) (p : Int) : Bool := (rg 0 (lbF R (p + 1))).any fun a => decide (sg R a (a + (p + 1 - lbF R (p + 1))) = sg R (lbF R (p + 1)) (p + 1))
def lwF (R : List Nat) (p : Int) : List Nat := sg R (lbF R (p + 1)) (p + 1)
theorem poor_sub {R : List Nat} {p : Int} (p0 : 0 ≤ p) (pn : p < R.length) : subL (lwF R p) (R.take p.toNat) = poorB R p := by
  have hb := lb_ok (R := R) (e := p + 1) (by omega) (by omega)
  have b0 := hb.ge
  have bl := hb.lt
  have hl : ((lwF R p).length : Int) = p + 1 - lbF R (p + 1) := sg_len b0 (by omega) (by omega)
  unfold poorB
  rw [Bool.eq_iff_iff, subL_iff, List.any_eq_true]
  constructor
  · rintro ⟨i, h1, h2⟩
    rw [List.length_take] at h1
    refine ⟨i, by rw [mem_rg]; omega, ?_⟩
    rw [decide_eq_true_eq]
    show _ = lwF R p
    rw [List.drop_take, List.take_take, show min (lwF R p).length (p.toNat - i) = (lwF R p).length by omega] at h2
    rw [sg_nat (by omega) (by omega), ← h2]
    congr 1
    omega
  · rintro ⟨a, ha, h⟩
    rw [mem_rg] at ha
    rw [decide_eq_true_eq] at h
    have h' : sg R a (a + (p + 1 - lbF R (p + 1))) = lwF R p := h
    refine ⟨a.toNat, by rw [List.length_take]; omega, ?_⟩
    rw [List.drop_take, List.take_take, show min (lwF R p).length (p.toNat - a.toNat) = (lwF R p).length by omega, ← h', sg_nat (by omega) (by omega)]
    congr 1
    rw [List.length_take, List.length_drop]
    omega
theorem e_longest {R : List Nat} (hR : R.length ≤ 30) {e : Int} (e0 : 0 < e) (en : e ≤ R.length) : Ff_longest_behind [mk (R.take e.toNat)] = some (mk (sg R (lbF R e) e)) := by
  have hb := lb_ok (R := R) e0 en
  have b0 := hb.ge
  have bl := hb.lt
  unfold Ff_longest_behind fnV
  refine out_of ?_
  simp (disch := walk_at "pd") [-Wp_ite]
  have hsl : ∀ b : Int, 0 ≤ b → sliceD (some b) none (mk (R.take e.toNat)) = some (mk (sg R b e)) := fun b hb0 => by
    rw [← drop_sg hb0 (by omega)]
    exact sliceD_mkS (by have := LIM_eq; rw [List.length_take]; omega)
  refine wp_while (fun m en => ∃ b : Int, en = [.va (mk (R.take e.toNat)), .va (.int b)] ∧ (0 ≤ b ∧ b ≤ lbF R e) ∧ b + m = lbF R e) ?_ (n := (lbF R e).toNat) ⟨0, rfl, by omega, by omega⟩ (by have := FUEL_eq; omega)
  rintro m en2 ⟨b, rfl, ⟨h0, h1⟩, hm⟩
  have hs := hsl b h0
  have hn := sg_len h0 (show b ≤ e by omega) en
  have e2 := e_two (U := sg R b e) (by omega)
  rw [show palB (sg R b e) = plB R b e from rfl] at e2
  have hpi := plB_iff (R := R) h0 (show b ≤ e by omega) en
  by_cases q : b = lbF R e
  · have hp : plB R b e = true := hpi.mpr (q ▸ hb.pl)
    rw [hp] at e2
    refine ⟨false, by simp (disch := walk_at "pd") [hs, e2], (fun h => nomatch h), fun _ => ?_⟩
    simp (disch := walk_at "pd") [hs, q]
    rw [← q, hs]
    simp
  · have hp : plB R b e = false := by
      cases z : plB R b e with
      | false => rfl
      | true => exact absurd (hpi.mp z) (hb.low b h0 (by omega))
    rw [hp] at e2
    refine ⟨true, by simp (disch := walk_at "pd") [hs, e2], fun _ => ?_, fun h => nomatch h⟩
    simp (disch := walk_at "pd")
    exact ⟨m - 1, by omega, by omega, by omega⟩
def poO (R : List Nat) : Option Int := (rg 0 R.length).find? (poorB R)
def intO (o : Option Int) : PyData := match o with | none => .none | some x => .int x
theorem find_first {P : Int → Bool} {a n i : Int} (ai : a ≤ i) (hi : i < n) (hp : P i = true) (hl : ∀ j, a ≤ j → j < i → P j = false) : (rg a n).find? P = some i := by
  rw [rg_append (m := i) ai (by omega), List.find?_append, List.find?_eq_none.mpr (fun j hj => by rw [mem_rg] at hj; rw [hl j hj.1 hj.2]; decide), rg_cons hi, List.find?_cons, hp]
  rfl
theorem e_poor1 {R : List Nat} (hR : R.length ≤ 30) : Ff_told_poor [mk R] = some (intO (poO R)) := by
  unfold Ff_told_poor fnV
  refine out_of ?_
  simp (disch := walk_at "pd") [-Wp_ite]
  refine wp_range (a := 0) (b := R.length) (fun i e => ∃ (s1 : Sl), e = [.va (mk R), s1] ∧ ∀ j, 0 ≤ j → j < i → poorB R j = false) ⟨_, rfl, fun j h1 h2 => by omega⟩ ?_ ?_
  · rintro p e p0 hp ⟨s1, rfl, hn⟩
    have el := e_longest hR (e := p + 1) (by omega) (by omega)
    have hs1 : sliceD none (some (p + 1)) (mk R) = some (mk (R.take (p + 1).toNat)) := by
      rw [← take_sg (by omega)]; exact sliceD_mkS (by have := LIM_eq; omega)
    have hs2 : sliceD none (some p) (mk R) = some (mk (R.take p.toNat)) := by
      rw [← take_sg (by omega)]; exact sliceD_mkS (by have := LIM_eq; omega)
    have hin := inP_text (R.take p.toNat) (lwF R p)
    rw [poor_sub p0 hp] at hin
    rw [show sg R (lbF R (p + 1)) (p + 1) = lwF R p from rfl] at el
    cases q : poorB R p with
    | true =>
      have hf : poO R = some p := find_first p0 hp q hn
      rw [q] at hin
      simp (disch := walk_at "pd") [-Wp_ite, hs1, hs2, el, hin, hf, intO]
    | false =>
      rw [q] at hin
      simp (disch := walk_at "pd") [-Wp_ite, hs1, hs2, el, hin]
      intro j h1 h2
      by_cases z : j = p
      · rw [z]; exact q
      · exact hn j h1 (by omega)
  · rintro e ⟨s1, rfl, hn⟩
    have hf : poO R = none := List.find?_eq_none.mpr fun j hj => by
      rw [mem_rg] at hj
      rw [hn j hj.1 (by omega)]
      decide
    simp (disch := walk_at "pd") [hf, intO]
def lgO (R : List Nat) (i e : Int) : List Nat := match (rg i e).find? (fun b => plB R b e) with | some b => sg R b e | none => []
theorem e_lpoor {R : List Nat} (hR : R.length ≤ 30) : Ff_law_poor [mk R] = some (.list (((rg 0 R.length).filter (poorB R)).map .int)) := by
  unfold Ff_law_poor fnV
  refine out_of ?_
  simp (disch := walk_at "pd") [-Wp_ite, lit_empty]
  refine wp_range (a := 0) (b := R.length) (fun i e => ∃ (F : List Int) (s2 s3 s4 s5 s6 : Sl), e = [.va (mk R), .ow (F.map .int), s2, s3, s4, s5, s6] ∧ F = (rg 0 i).filter (poorB R)) ⟨[], _, _, _, _, _, rfl, by rw [rg_eq_nil (Int.le_refl _)]; rfl⟩ ?_ ?_
  · rintro p e p0 hp ⟨F, s2, s3, s4, s5, s6, rfl, hF⟩
    have hFl : F.length ≤ 30 := by
      rw [hF]
      have := List.length_filter_le (poorB R) (rg 0 p)
      rw [rg_length] at this
      omega
    simp (disch := walk_at "pd") [-Wp_ite]
    refine wp_down (a := 0) (b := p + 1) (by omega) (fun i e => ∃ (s4 s5 : Sl), e = [.va (mk R), .ow (F.map .int), .va (.int p), .va (mk (lgO R i (p + 1))), s4, s5, s6]) ⟨_, _, by unfold lgO; rw [rg_eq_nil (Int.le_refl _)]; rfl⟩ ?_ ?_
    · rintro b e b0 hb ⟨s4, s5, rfl⟩
      have hsl : sliceD (some b) (some (p + 1)) (mk R) = some (mk (sg R b (p + 1))) := sliceD_mkS (by have := LIM_eq; omega)
      have hsn := sg_len b0 (show b ≤ p + 1 by omega) (show p + 1 ≤ R.length by omega)
      have hlg : lgO R b (p + 1) = if plB R b (p + 1) = true then sg R b (p + 1) else lgO R (b + 1) (p + 1) := by
        unfold lgO
        rw [rg_cons hb, List.find?_cons]
        cases plB R b (p + 1) <;> rfl
      rw [hlg]
      generalize lgO R (b + 1) (p + 1) = Z at *
      have hpb : plB R b (p + 1) = decide (sg R b (p + 1) = (sg R b (p + 1)).reverse) := rfl
      rw [hpb]
      clear hlg hpb
      generalize sg R b (p + 1) = U at *
      by_cases q : U = U.reverse
      · have q2 : decide (U = U.reverse) = true := decide_eq_true q
        rw [q2]
        simp (disch := walk_at "pd") [-Wp_ite, hsl, mk_inj, ← q]
      · have q2 : decide (U = U.reverse) = false := decide_eq_false q
        rw [q2]
        simp (disch := walk_at "pd") [-Wp_ite, hsl, mk_inj, q]
    · rintro e ⟨s4, s5, rfl⟩
      have hlg : lgO R 0 (p + 1) = lwF R p := by
        unfold lgO
        rw [lb_find (by omega) (by omega)]
        rfl
      rw [hlg]
      have hb := lb_ok (R := R) (e := p + 1) (by omega) (by omega)
      have b0 := hb.ge
      have bl := hb.lt
      have hl : ((lwF R p).length : Int) = p + 1 - lbF R (p + 1) := sg_len b0 (by omega) (by omega)
      have hpo : poorB R p = (rg 0 (p + 1 - (lwF R p).length)).any fun a => decide (sg R a (a + (lwF R p).length) = lwF R p) := by
        unfold poorB
        rw [hl, show p + 1 - (p + 1 - lbF R (p + 1)) = lbF R (p + 1) by omega]
        rfl
      have hFs : (rg 0 (p + 1)).filter (poorB R) = F ++ (if poorB R p = true then [p] else []) := by
        rw [rg_snoc (by omega), List.filter_append, ← hF]
        congr 1
        by_cases h : poorB R p = true <;> simp [h]
      rw [hFs, hpo]
      generalize lwF R p = W at *
      have hWl : W.length ≤ 30 := by omega
      simp (disch := walk_at "pd") [-Wp_ite]
      rw [lcV_all (fun a => .bool (decide (sg R a (a + W.length) = W))) (by walk_at "ll") fun a ha => by
        rw [mem_rg] at ha
        have hsl : sliceD (some a) (some (a + W.length)) (mk R) = some (mk (sg R a (a + W.length))) := sliceD_mkS (by have := LIM_eq; omega)
        simp (disch := walk_at "pd") [hsl, mk_inj]]
      have han : anyF [.list ((rg 0 (p + 1 - W.length)).map fun a => .bool (decide (sg R a (a + W.length) = W)))] = some (.bool ((rg 0 (p + 1 - W.length)).any fun a => decide (sg R a (a + W.length) = W))) := anyF_map _ _
      have hml : ((rg 0 (p + 1 - W.length)).map fun a => PyData.bool (decide (sg R a (a + W.length) = W))).length ≤ 1000 := by rw [List.length_map, rg_length]; omega
      generalize ((rg 0 (p + 1 - W.length)).map fun a => PyData.bool (decide (sg R a (a + W.length) = W))) = B at *
      generalize ((rg 0 (p + 1 - W.length)).any fun a => decide (sg R a (a + W.length) = W)) = v at *
      cases v with
      | true =>
        simp (disch := walk_at "pd") [-Wp_ite, han]
      | false =>
        simp (disch := walk_at "pd") [-Wp_ite, han]
  · rintro e ⟨F, s2, s3, s4, s5, s6, rfl, hF⟩
    rw [show max 0 (R.length : Int) = R.length by omega] at hF
    rw [← hF]
    simp (disch := walk_at "pd") [-Wp_ite]
/-! as many stretches as places not poor -/
theorem first_end {R w : List Nat} : ∀ (n : Nat) (b e : Int), e ≤ n → 0 ≤ b → b < e → e ≤ R.length → Pl R b e → w = sg R b e → ∃ b e : Int, 0 ≤ b ∧ b < e ∧ e ≤ R.length ∧ Pl R b e ∧ w = sg R b e ∧ ∀ b' e' : Int, 0 ≤ b' → b' < e' → e' < e → w ≠ sg R b' e' := fun n => by
  induction n with
  | zero => intro b e h1 h2 h3; omega
  | succ n ih =>
    intro b e h1 h2 h3 h4 h5 h6
    by_cases q : ∃ b' e' : Int, 0 ≤ b' ∧ b' < e' ∧ e' < e ∧ w = sg R b' e'
    · obtain ⟨b', e', g1, g2, g3, g4⟩ := q
      refine ih b' e' (by omega) g1 g2 (by omega) ?_ g4
      rw [← pl_iff g1 (by omega) (by omega), ← g4, h6]
      exact (pl_iff h2 (by omega) h4).mpr h5
    · exact ⟨b, e, h2, h3, h4, h5, h6, fun b' e' g1 g2 g3 g4 => q ⟨b', e', g1, g2, g3, g4⟩⟩
theorem count_all {R : List Nat} {K : TL} (hK : KS R K) : K.length + ((rg 0 R.length).filter (poorB R)).length = R.length := by
  have hp : K.Perm (((rg 0 R.length).filter fun p => !poorB R p).map (lwF R)) := by
    refine (List.perm_ext_iff_of_nodup hK.nd ?_).mpr fun x => ?_
    · unfold List.Nodup
      rw [List.pairwise_map]
      refine List.Pairwise.imp_of_mem (fun {p q} hp hq hpq he => ?_) ((rg_lt 0 R.length).filter _)
      rw [List.mem_filter, mem_rg] at hp hq
      have bp := lb_ok (R := R) (e := p + 1) (by omega) (by omega)
      have bq := lb_ok (R := R) (e := q + 1) (by omega) (by omega)
      have g1 := bp.ge; have g2 := bp.lt; have g3 := bq.ge; have g4 := bq.lt
      have hl : ((lwF R p).length : Int) = p + 1 - lbF R (p + 1) := sg_len g1 (by omega) (by omega)
      have hl2 : ((lwF R q).length : Int) = q + 1 - lbF R (q + 1) := sg_len g3 (by omega) (by omega)
      rw [he] at hl
      have hpoor : poorB R q = true := by
        unfold poorB
        rw [List.any_eq_true]
        refine ⟨lbF R (p + 1), by rw [mem_rg]; omega, ?_⟩
        rw [decide_eq_true_eq, show lbF R (p + 1) + (q + 1 - lbF R (q + 1)) = p + 1 by omega]
        exact he
      rw [hpoor] at hq
      exact absurd hq.2 (by decide)
    · rw [hK.mem, List.mem_map]
      constructor
      · rintro ⟨b, e, h1, h2, h3, h4, _, h6⟩
        obtain ⟨b, e, h1, h2, h3, h4, h6, h7⟩ := first_end e.toNat b e (by omega) h1 h2 h3 h4 h6
        have be := lb_ok (R := R) (e := e) (by omega) h3
        have g1 := be.ge; have g2 := be.lt
        have hbl : lbF R e = b := by
          refine Classical.byContradiction fun z => ?_
          have hlt : lbF R e < b := by
            refine Classical.byContradiction fun z2 => be.low b h1 (by omega) h4
          refine h7 (lbF R e) (lbF R e + (e - b)) g1 (by omega) (by omega) ?_
          rw [h6, sg_eq h1 (by omega) h3 g1 (by omega) (by omega)]
          refine ⟨by omega, fun k k0 k1 => ?_⟩
          rw [h4 (b + k) (by omega) (by omega), be.pl _ (by omega) (by omega)]
          congr 1
          omega
        have el : lwF R (e - 1) = x := by
          unfold lwF
          rw [show e - 1 + 1 = e by omega, hbl, h6]
        refine ⟨e - 1, ?_, el⟩
        rw [List.mem_filter, mem_rg]
        refine ⟨by omega, ?_⟩
        cases hq : poorB R (e - 1) with
        | false => rfl
        | true =>
          exfalso
          unfold poorB at hq
          rw [List.any_eq_true] at hq
          obtain ⟨a, ha, hd⟩ := hq
          rw [mem_rg, show e - 1 + 1 = e by omega, hbl] at ha
          rw [decide_eq_true_eq, show e - 1 + 1 = e by omega, hbl] at hd
          exact h7 a (a + (e - b)) ha.1 (by omega) (by omega) (h6.trans hd.symm)
      · rintro ⟨p, hp, rfl⟩
        rw [List.mem_filter, mem_rg] at hp
        have bp := lb_ok (R := R) (e := p + 1) (by omega) (by omega)
        exact ⟨lbF R (p + 1), p + 1, bp.ge, bp.lt, by omega, bp.pl, trivial, rfl⟩
  have h1 := hp.length_eq
  rw [List.length_map] at h1
  have h2 : ∀ L : List Int, (L.filter fun p => !poorB R p).length + (L.filter (poorB R)).length = L.length := fun L => by
    induction L with
    | nil => rfl
    | cons a L ih =>
      rw [List.filter_cons, List.filter_cons]
      cases poorB R a <;> simp <;> omega
  have h3 := h2 (rg 0 R.length)
  rw [rg_length] at h3
  omega
theorem e_rich {R : List Nat} (hR : R.length ≤ 30) : Ff_is_rich [mk R] = some (.bool (decide (((rg 0 R.length).filter (poorB R)).length = 0))) := by
  obtain ⟨K, hK, e1⟩ := e_stret hR
  have hc := count_all hK
  have hKl := hK.len
  generalize ((rg 0 R.length).filter (poorB R)).length = c at *
  unfold Ff_is_rich fnV
  refine out_of ?_
  simp (disch := walk_at "pd") [-Wp_ite, e1]
  omega
abbrev SV := Int × TL
structure Bst (R : List Nat) (i : Int) (B : Int → SV) (A : Int → Int) : Prop where
  fin : B R.length = (0, [])
  gt : ∀ b, i ≤ b → b < R.length → b < A b ∧ A b ≤ R.length
  pl : ∀ b, i ≤ b → b < R.length → plB R b (A b) = true
  eq : ∀ b, i ≤ b → b < R.length → B b = ((B (A b)).1 + 1, sg R b (A b) :: (B (A b)).2)
  low : ∀ b, i ≤ b → b < R.length → ∀ e, b < e → e ≤ R.length → plB R b e = true → (B (A b)).1 ≤ (B e).1 ∧ (e < A b → (B (A b)).1 < (B e).1)
theorem min_ex (f : Int → Int) : ∀ L : List Int, L ≠ [] → ∃ x ∈ L, ∀ y ∈ L, f x ≤ f y ∧ (y < x → f x < f y)
  | [], h => absurd rfl h
  | [a], _ => ⟨a, by simp, fun y hy => by simp at hy; subst hy; omega⟩
  | a :: b :: L, _ => by
    obtain ⟨x, hx, h⟩ := min_ex f (b :: L) (by simp)
    by_cases q : f a < f x ∨ (f a = f x ∧ a < x)
    · refine ⟨a, by simp, fun y hy => ?_⟩
      rcases List.mem_cons.mp hy with rfl | hy
      · omega
      · have := h y hy; omega
    · refine ⟨x, List.mem_cons_of_mem _ hx, fun y hy => ?_⟩
      rcases List.mem_cons.mp hy with rfl | hy
      · omega
      · exact h y hy
theorem bst_ex (R : List Nat) : ∀ k : Nat, (k : Int) ≤ R.length → ∃ B A, Bst R (R.length - k) B A := fun k => by
  induction k with
  | zero =>
    intro _
    exact ⟨fun _ => (0, []), fun _ => 0, rfl, fun b h1 h2 => by omega, fun b h1 h2 => by omega, fun b h1 h2 => by omega, fun b h1 h2 => by omega⟩
  | succ k ih =>
    intro hk
    obtain ⟨B, A, h⟩ := ih (by omega)
    generalize hb : (R.length : Int) - ((k + 1 : Nat) : Int) = b at *
    have hne : (rg (b + 1) (R.length + 1)).filter (plB R b) ≠ [] := fun z => by
      have : b + 1 ∈ (rg (b + 1) (R.length + 1)).filter (plB R b) := by
        rw [List.mem_filter, mem_rg]
        exact ⟨by omega, (plB_iff (by omega) (by omega) (by omega)).mpr (pl_one R b)⟩
      rw [z] at this
      cases this
    obtain ⟨a, ha, hm⟩ := min_ex (fun e => (B e).1) _ hne
    rw [List.mem_filter, mem_rg] at ha
    have hB : ∀ x : Int, x ≠ b → (fun x => if x = b then ((B a).1 + 1, sg R b a :: (B a).2) else B x) x = B x := fun x hx => if_neg hx
    have hBb : (fun x => if x = b then ((B a).1 + 1, sg R b a :: (B a).2) else B x) b = ((B a).1 + 1, sg R b a :: (B a).2) := if_pos rfl
    have hA : ∀ x : Int, x ≠ b → (fun x => if x = b then a else A x) x = A x := fun x hx => if_neg hx
    have hAb : (fun x => if x = b then a else A x) b = a := if_pos rfl
    refine ⟨fun x => if x = b then ((B a).1 + 1, sg R b a :: (B a).2) else B x, fun x => if x = b then a else A x, ?_⟩
    generalize (fun x => if x = b then ((B a).1 + 1, sg R b a :: (B a).2) else B x) = B' at *
    generalize (fun x => if x = b then a else A x) = A' at *
    refine ⟨?_, fun c h1 h2 => ?_, fun c h1 h2 => ?_, fun c h1 h2 => ?_, fun c h1 h2 e g1 g2 g3 => ?_⟩
    · rw [hB _ (by omega)]; exact h.fin
    · by_cases q : c = b
      · subst q; rw [hAb]; omega
      · rw [hA _ q]; exact h.gt c (by omega) h2
    · by_cases q : c = b
      · subst q; rw [hAb]; exact ha.2
      · rw [hA _ q]; exact h.pl c (by omega) h2
    · by_cases q : c = b
      · subst q; rw [hAb, hBb, hB a (by omega)]
      · have := h.gt c (by omega) h2
        rw [hA _ q, hB _ q, hB (A c) (by omega)]; exact h.eq c (by omega) h2
    · by_cases q : c = b
      · subst q
        rw [hAb, hB a (by omega), hB e (by omega)]
        exact hm e (by rw [List.mem_filter, mem_rg]; exact ⟨by omega, g3⟩)
      · have := h.gt c (by omega) h2
        rw [hA _ q, hB (A c) (by omega), hB e (by omega)]
        exact h.low c (by omega) h2 e g1 g2 g3
theorem Bst.size {R : List Nat} {B : Int → SV} {A : Int → Int} (h : Bst R 0 B A) : ∀ (k : Nat) (b : Int), 0 ≤ b → b + k = R.length → (0 ≤ (B b).1 ∧ (B b).1 ≤ k) ∧ (B b).2.length ≤ k := fun k => by
  induction k using Nat.strongRecOn with
  | _ k ih =>
    intro b b0 hb
    by_cases q : k = 0
    · subst q
      have : b = R.length := by omega
      rw [this, h.fin]
      simp
    · have g := h.gt b b0 (by omega)
      have e := h.eq b b0 (by omega)
      have l := h.low b b0 (by omega) (b + 1) (by omega) (by omega) ((plB_iff b0 (by omega) (by omega)).mpr (pl_one R b))
      have i1 := ih (k - 1) (by omega) (b + 1) (by omega) (by omega)
      have i2 := ih (R.length - A b).toNat (by omega) (A b) (by omega) (by omega)
      rw [e, List.length_cons]
      show (0 ≤ (B (A b)).1 + 1 ∧ _) ∧ _
      have : (B (A b)).1 + 1 ≤ k := by omega
      exact ⟨⟨by omega, this⟩, by omega⟩
theorem pre_lt : ∀ {u v : List Nat}, v ≠ [] → u < u ++ v
  | [], v, h => by
    cases v with
    | nil => exact absurd rfl h
    | cons x r => exact List.nil_lt_cons x r
  | x :: u, v, h => by
    rw [List.cons_append, List.cons_lt_cons_iff]
    exact .inr ⟨rfl, pre_lt h⟩
theorem sg_lt {R : List Nat} {b e e' : Int} (b0 : 0 ≤ b) (be : b ≤ e) (h : e < e') (en : e' ≤ R.length) : sg R b e < sg R b e' := by
  have h1 : sg R b e' = sg R b e ++ sg R e e' := by
    rw [sg_nat b0 (by omega), sg_nat b0 (by omega), sg_nat (by omega) (by omega)]
    have e1 : e'.toNat - b.toNat = (e.toNat - b.toNat) + (e'.toNat - e.toNat) := by omega
    rw [e1, List.take_add, List.drop_drop]
    congr 3
    omega
  rw [h1]
  refine pre_lt fun z => ?_
  have := sg_len (R := R) (b := e) (e := e') (by omega) (by omega) en
  rw [z] at this
  simp at this
  omega
def cnd (R : List Nat) (B : Int → SV) (b e : Int) : SV := ((B e).1 + 1, sg R b e :: (B e).2)
theorem cnd_min {R : List Nat} {B : Int → SV} {A : Int → Int} (h : Bst R 0 B A) {b : Int} (b0 : 0 ≤ b) (bn : b < R.length) {m : SV} (hm : m ∈ ((rg (b + 1) (R.length + 1)).filter (plB R b)).map (cnd R B b)) (hl : ∀ y ∈ ((rg (b + 1) (R.length + 1)).filter (plB R b)).map (cnd R B b), ¬ OrdD.lt y m) : m = B b := by
  have g := h.gt b b0 bn
  refine ord_min_uniq hm hl (m' := B b) ?_ fun y hy => ?_
  · rw [h.eq b b0 bn]
    refine List.mem_map.mpr ⟨A b, ?_, rfl⟩
    rw [List.mem_filter, mem_rg]
    exact ⟨by omega, h.pl b b0 bn⟩
  · obtain ⟨e, he, rfl⟩ := List.mem_map.mp hy
    rw [List.mem_filter, mem_rg] at he
    have l := h.low b b0 bn e (by omega) (by omega) he.2
    rw [h.eq b b0 bn]
    rintro (z | ⟨z1, z⟩)
    · have z' : (B e).1 + 1 < (B (A b)).1 + 1 := z
      omega
    · have z1' : (B e).1 + 1 = (B (A b)).1 + 1 := z1
      by_cases q : e = A b
      · rw [q] at z
        exact ltL_irr _ z
      · have ea : A b < e := by omega
        have hlt := sg_lt (R := R) b0 (show b ≤ A b by omega) ea (by omega)
        rcases z with z | ⟨z2, _⟩
        · exact List.lt_irrefl _ (List.lt_trans (show sg R b e < sg R b (A b) from z) hlt)
        · have z2' : sg R b e = sg R b (A b) := z2
          rw [z2'] at hlt
          exact List.lt_irrefl _ hlt
abbrev spD (v : SV) : PyData := .tuple [.int v.1, .tuple (txE v.2)]
abbrev dcS (M : List (Int × SV)) : List (PyData × PyData) := dcD PyData.int spD M
structure Bd (n i : Int) (B : Int → SV) (M : List (Int × SV)) : Prop where
  lk : ∀ e, lkM M e = if i ≤ e ∧ e ≤ n then some (B e) else none
  len : (M.length : Int) ≤ n - i + 1
theorem disp_int (a : Int) (v : PyData) : dispV (some (.int a)) (some v) = some [(.int a, v)] := by
  simp [dispV, keyK, leafK]
theorem settle_sp (ms : List Nat) (k : PyData) (i : Int) (env : Sls) : settleD ms [(k, .tuple [.int i, .tuple []])] env = env := by
  simp [settleD, settleL]
theorem e_split {R : List Nat} (hR : R.length ≤ 30) {B : Int → SV} {A : Int → Int} (h : Bst R 0 B A) : Ff_told_split [mk R] = some (.tuple (txE (B 0).2)) := by
  unfold Ff_told_split fnV
  refine out_of ?_
  simp (disch := walk_at "pd") [-Wp_ite, disp_int, settle_sp]
  refine wp_down (a := 0) (b := R.length) (by omega) (fun i e => ∃ (M : List (Int × SV)) (s3 s4 s5 s6 s7 : Sl), e = [.va (mk R), .va (.int R.length), .od (dcS M), s3, s4, s5, s6, s7] ∧ Bd R.length i B M) ⟨[((R.length : Int), (0, []))], _, _, _, _, _, rfl, ⟨fun e => by
    rw [lkM_cons, lkM_nil]
    by_cases q : e = R.length
    · rw [if_pos q.symm, if_pos (by omega), q, h.fin]
    · rw [if_neg (fun z => q z.symm), if_neg (by omega)], by simp⟩⟩ ?_ ?_
  · rintro b e b0 hb ⟨M, s3, s4, s5, s6, s7, rfl, hM⟩
    have hMl := hM.len
    simp (disch := walk_at "pd") [-Wp_ite]
    refine wp_range (a := b + 1) (b := R.length + 1) (fun j e => ∃ (F : List SV) (s5 s6 s7 : Sl), e = [.va (mk R), .va (.int R.length), .od (dcS M), .va (.int b), .ow (F.map spD), s5, s6, s7] ∧ F = ((rg (b + 1) j).filter (plB R b)).map (cnd R B b)) ⟨[], _, _, _, rfl, by rw [rg_eq_nil (Int.le_refl _)]; rfl⟩ ?_ ?_
    · rintro j e j0 hj ⟨F, s5, s6, s7, rfl, hF⟩
      have hFl : F.length ≤ 40 := by
        rw [hF, List.length_map]
        have := List.length_filter_le (plB R b) (rg (b + 1) j)
        rw [rg_length] at this
        omega
      have hsl : sliceD (some b) (some j) (mk R) = some (mk (sg R b j)) := sliceD_mkS (by have := LIM_eq; omega)
      have hsn := sg_len b0 (show b ≤ j by omega) (show j ≤ R.length by omega)
      have e2 := e_two (U := sg R b j) (by omega)
      rw [show palB (sg R b j) = plB R b j from rfl] at e2
      have hFs : ((rg (b + 1) (j + 1)).filter (plB R b)).map (cnd R B b) = F ++ (if plB R b j = true then [cnd R B b j] else []) := by
        rw [rg_snoc (by omega), List.filter_append, List.map_append, ← hF]
        congr 1
        by_cases h : plB R b j = true <;> simp [h]
      have hlk : itemD (.dict (dcS M)) (.int j) = some (spD (B j)) := by
        rw [itemD_dc (f := PyData.int) (g := spD) M j, hM.lk, if_pos (by omega)]
        rfl
      have hsz := h.size (R.length - j).toNat j (by omega) (by omega)
      rw [hFs]
      have hcnd : cnd R B b j = ((B j).1 + 1, sg R b j :: (B j).2) := rfl
      rw [hcnd]
      clear hFs hcnd
      generalize B j = v at *
      generalize sg R b j = U at *
      generalize plB R b j = pb at *
      cases pb with
      | true =>
        simp (disch := walk_at "pd") [-Wp_ite, hsl, e2, hlk]
        skip
      | false =>
        simp (disch := walk_at "pd") [-Wp_ite, hsl, e2]
        skip
    · rintro e ⟨F, s5, s6, s7, rfl, hF⟩
      rw [show max (b + 1) ((R.length : Int) + 1) = R.length + 1 by omega] at hF
      have hne : F ≠ [] := fun z => by
        have g := h.gt b b0 hb
        have : B b ∈ F := by
          rw [hF, h.eq b b0 hb]
          refine List.mem_map.mpr ⟨A b, ?_, rfl⟩
          rw [List.mem_filter, mem_rg]
          exact ⟨by omega, h.pl b b0 hb⟩
        rw [z] at this
        cases this
      obtain ⟨m, hm1, hm2, hm3, _⟩ := minV_ord (α := SV) (by decide) hne
      rw [hF] at hm1 hm2
      have hmb := cnd_min h b0 hb hm1 hm2
      have hm4 : minV [.list (F.map spD)] = some (spD (B b)) := by rw [← hmb]; exact hm3
      have hst : putD (dcS M) (.int b) (spD (B b)) = dcS (putM M b (B b)) := putD_dc (f := PyData.int) (g := spD) M b (B b)
      have hok := okK_dc (f := PyData.int) (g := spD) M b
      have hpl := putM_len M b (B b)
      have hlk := fun c => lkM_put M b c (B b)
      simp (disch := walk_at "pd") [-Wp_ite, hm4, hst]
      refine ⟨_, rfl, ⟨fun e => ?_, by omega⟩⟩
      rw [hlk, hM.lk]
      by_cases q : e = b
      · rw [if_pos q, if_pos (by omega), q]
      · rw [if_neg q]
        by_cases q2 : b + 1 ≤ e ∧ e ≤ R.length
        · rw [if_pos q2, if_pos (by omega)]
        · rw [if_neg q2, if_neg (by omega)]
  · rintro e ⟨M, s3, s4, s5, s6, s7, rfl, hM⟩
    have hlk : itemD (.dict (dcS M)) (.int 0) = some (spD (B 0)) := by
      rw [itemD_dc (f := PyData.int) (g := spD) M 0, hM.lk, if_pos (by omega)]
      rfl
    simp (disch := walk_at "pd") [-Wp_ite, hlk]
theorem nth_setI {P : List Int} {k v x : Int} (k0 : 0 ≤ k) (hk : k < P.length) (x0 : 0 ≤ x) : nth (P.set k.toNat v) x = if x = k then v else nth P x := by
  unfold nth
  rw [List.getElem?_set]
  by_cases q : x = k
  · subst q
    rw [if_pos rfl, if_pos rfl, if_pos (by omega)]; rfl
  · rw [if_neg q, if_neg (by omega)]
structure LS (R : List Nat) (B : Int → SV) (A : Int → Int) (i : Int) (N F : List Int) : Prop where
  l1 : (N.length : Int) = R.length + 1
  l2 : (F.length : Int) = R.length + 1
  num : ∀ e, i ≤ e → e ≤ R.length → nth N e = (B e).1
  aft : ∀ e, i ≤ e → e < R.length → nth F e = A e
/-- the best so far at b, of the ends before j -/
def Cur (R : List Nat) (B : Int → SV) (b j v a : Int) : Prop :=
  (v = R.length + 1 ∧ ∀ e, b < e → e < j → plB R b e = false) ∨
  ((b < a ∧ a < j) ∧ plB R b a = true ∧ v = (B a).1 + 1 ∧ ∀ e, b < e → e < j → plB R b e = true → (B a).1 ≤ (B e).1 ∧ (e < a → (B a).1 < (B e).1))
theorem Cur.skip {R : List Nat} {B : Int → SV} {b j v a : Int} (h : Cur R B b j v a) (hp : plB R b j = false) : Cur R B b (j + 1) v a := by
  rcases h with ⟨h1, h2⟩ | ⟨h1, h2, h3, h4⟩
  · refine .inl ⟨h1, fun e e0 e1 => ?_⟩
    by_cases q : e = j
    · rw [q]; exact hp
    · exact h2 e e0 (by omega)
  · refine .inr ⟨⟨h1.1, by omega⟩, h2, h3, fun e e0 e1 e2 => ?_⟩
    by_cases q : e = j
    · rw [q, hp] at e2; cases e2
    · exact h4 e e0 (by omega) e2
theorem Cur.keep {R : List Nat} {B : Int → SV} {b j v a : Int} (h : Cur R B b j v a) (hj : (B j).1 < R.length) (hn : ¬ (B j).1 + 1 < v) : Cur R B b (j + 1) v a := by
  rcases h with ⟨h1, h2⟩ | ⟨h1, h2, h3, h4⟩
  · omega
  · refine .inr ⟨⟨h1.1, by omega⟩, h2, h3, fun e e0 e1 e2 => ?_⟩
    by_cases q : e = j
    · subst q; omega
    · exact h4 e e0 (by omega) e2
theorem Cur.put {R : List Nat} {B : Int → SV} {b j v a : Int} (h : Cur R B b j v a) (bj : b < j) (hp : plB R b j = true) (hn : (B j).1 + 1 < v) : Cur R B b (j + 1) ((B j).1 + 1) j := by
  refine .inr ⟨⟨bj, by omega⟩, hp, rfl, fun e e0 e1 e2 => ?_⟩
  by_cases q : e = j
  · subst q; omega
  · rcases h with ⟨h1, h2⟩ | ⟨h1, h2, h3, h4⟩
    · rw [h2 e e0 (by omega)] at e2; cases e2
    · have := h4 e e0 (by omega) e2
      omega
theorem Cur.done {R : List Nat} {B : Int → SV} {A : Int → Int} (h : Bst R 0 B A) {b v a : Int} (b0 : 0 ≤ b) (bn : b < R.length) (hc : Cur R B b (R.length + 1) v a) : a = A b ∧ v = (B b).1 := by
  have g := h.gt b b0 bn
  have p := h.pl b b0 bn
  rcases hc with ⟨h1, h2⟩ | ⟨h1, h2, h3, h4⟩
  · rw [h2 (A b) g.1 (by omega)] at p; cases p
  · have i1 := h4 (A b) g.1 (by omega) p
    have i2 := h.low b b0 bn a h1.1 (by omega) h2
    have : a = A b := by omega
    refine ⟨this, ?_⟩
    rw [h3, this, h.eq b b0 bn]
theorem e_lsplit {R : List Nat} (hR : R.length ≤ 30) {B : Int → SV} {A : Int → Int} (h : Bst R 0 B A) : Ff_law_split [mk R] = some (.tuple (txE (B 0).2)) := by
  unfold Ff_law_split fnV
  refine out_of ?_
  have hr : repL (some [.int 0]) (some (.int ((R.length : Int) + 1))) = some ((List.replicate (R.length + 1) (0 : Int)).map .int) := by
    rw [repL_some (by have := LIM_eq; simp; omega) (by omega), rep_one]
    simp
  have h00 : ∀ e : Int, 0 ≤ e → e ≤ R.length → nth (List.replicate (R.length + 1) (0 : Int)) e = 0 := fun e e0 e1 => by
    unfold nth
    rw [List.getElem?_replicate, if_pos (by omega)]; rfl
  simp (disch := walk_at "pd") [-Wp_ite, hr, -List.reduceReplicate, -List.map_replicate]
  refine wp_down (a := 0) (b := R.length) (by omega) (fun i e => ∃ (N F : List Int) (s4 s5 s6 s7 s8 : Sl), e = [.va (mk R), .va (.int R.length), .ow (N.map .int), .ow (F.map .int), s4, s5, s6, s7, s8] ∧ LS R B A i N F) ⟨List.replicate (R.length + 1) 0, List.replicate (R.length + 1) 0, _, _, _, _, _, rfl, ⟨by simp, by simp, fun e e0 e1 => by
    have : e = R.length := by omega
    rw [h00 e (by omega) e1, this, h.fin], fun e e0 e1 => by omega⟩⟩ ?_ ?_
  · rintro b e b0 hb ⟨N, F, s4, s5, s6, s7, s8, rfl, hL⟩
    have hl1 := hL.l1
    have hl2 := hL.l2
    simp (disch := walk_at "pd") [-Wp_ite, -List.map_set]
    refine wp_range (a := b + 1) (b := R.length + 1) (fun j e => ∃ (N F : List Int) (s5 s6 : Sl), e = [.va (mk R), .va (.int R.length), .ow (N.map .int), .ow (F.map .int), .va (.int b), s5, s6, s7, s8] ∧ LS R B A (b + 1) N F ∧ Cur R B b j (nth N b) (nth F b)) ⟨N.set b.toNat (R.length + 1), F, s5, s6, by first | rfl | simp [List.map_set], ⟨by rw [List.length_set]; exact hl1, hl2, fun e e0 e1 => by
      rw [nth_setI b0 (by omega) (by omega), if_neg (by omega)]; exact hL.num e e0 e1, hL.aft⟩, .inl ⟨by rw [nth_setI b0 (by omega) b0, if_pos rfl], fun e e0 e1 => by omega⟩⟩ ?_ ?_
    · rintro j e j0 hj ⟨N, F, s5, s6, rfl, hL, hC⟩
      have hl1 := hL.l1
      have hl2 := hL.l2
      have hsl : sliceD (some b) (some j) (mk R) = some (mk (sg R b j)) := sliceD_mkS (by have := LIM_eq; omega)
      have hsn := sg_len b0 (show b ≤ j by omega) (show j ≤ R.length by omega)
      have hpb : plB R b j = decide (sg R b j = (sg R b j).reverse) := rfl
      have hnj := hL.num j (by omega) (by omega)
      have hsz := (h.size (R.length - j).toNat j (by omega) (by omega)).1
      generalize sg R b j = U at *
      by_cases q : U = U.reverse
      · rw [decide_eq_true q] at hpb
        by_cases q2 : (B j).1 + 1 < nth N b
        · have hC2 := hC.put (by omega) hpb q2
          have hw : ∀ e, b + 1 ≤ e → e ≤ R.length → nth (N.set b.toNat ((B j).1 + 1)) e = nth N e := fun e e0 e1 => by
            rw [nth_setI b0 (by omega) (by omega), if_neg (by omega)]
          have hw2 : ∀ e, b + 1 ≤ e → e ≤ R.length → nth (F.set b.toNat j) e = nth F e := fun e e0 e1 => by
            rw [nth_setI b0 (by omega) (by omega), if_neg (by omega)]
          have hLn : LS R B A (b + 1) (N.set b.toNat ((B j).1 + 1)) (F.set b.toNat j) := ⟨by rw [List.length_set]; exact hl1, by rw [List.length_set]; exact hl2, fun e e0 e1 => by rw [hw e e0 e1]; exact hL.num e e0 e1, fun e e0 e1 => by rw [hw2 e e0 (by omega)]; exact hL.aft e e0 e1⟩
          have hv1 : nth (N.set b.toNat ((B j).1 + 1)) b = (B j).1 + 1 := by rw [nth_setI b0 (by omega) b0, if_pos rfl]
          have hv2 : nth (F.set b.toNat j) b = j := by rw [nth_setI b0 (by omega) b0, if_pos rfl]
          simp (disch := walk_at "pd") [-Wp_ite, hsl, mk_inj, ← q, hnj, q2, -List.map_set]
          refine ⟨N.set b.toNat ((B j).1 + 1), F.set b.toNat j, ?_, hLn, by rw [hv1, hv2]; exact hC2⟩
          first | exact ⟨rfl, rfl⟩ | simp [List.map_set]
        · have hC2 := hC.keep (by omega) q2
          simp (disch := walk_at "pd") [-Wp_ite, hsl, mk_inj, ← q, hnj, q2, -List.map_set]
          exact ⟨N, F, ⟨rfl, rfl⟩, hL, hC2⟩
      · rw [decide_eq_false q] at hpb
        have hC2 := hC.skip hpb
        simp (disch := walk_at "pd") [-Wp_ite, hsl, mk_inj, q, -List.map_set]
        exact ⟨N, F, ⟨rfl, rfl⟩, hL, hC2⟩
    · rintro e ⟨N, F, s5, s6, rfl, hL, hC⟩
      rw [show max (b + 1) ((R.length : Int) + 1) = R.length + 1 by omega] at hC
      obtain ⟨h1, h2⟩ := hC.done h b0 hb
      refine ⟨N, F, ⟨_, _, _, _, _, rfl⟩, hL.l1, hL.l2, fun e e0 e1 => ?_, fun e e0 e1 => ?_⟩
      · by_cases q : e = b
        · rw [q]; exact h2
        · exact hL.num e (by omega) e1
      · by_cases q : e = b
        · rw [q]; exact h1
        · exact hL.aft e (by omega) e1
  · rintro e ⟨N, F, s4, s5, s6, s7, s8, rfl, hL⟩
    have hl2 := hL.l2
    simp (disch := walk_at "pd") [-Wp_ite]
    refine wp_range (a := 0) (b := R.length) (fun t e => ∃ (P : TL) (c : Int) (s8 : Sl), e = [.va (mk R), .va (.int R.length), .ow (N.map .int), .ow (F.map .int), .va (.int c), s5, s6, .ow (txE P), s8] ∧ ((0 ≤ c ∧ c ≤ R.length) ∧ (t ≤ c ∨ c = R.length)) ∧ P ++ (B c).2 = (B 0).2 ∧ (P.length : Int) ≤ t) ⟨[], 0, _, rfl, by omega, rfl, by simp⟩ ?_ ?_
    · rintro t e t0 ht ⟨P, c, s8, rfl, ⟨⟨c0, cn⟩, hc⟩, hP, hPl⟩
      by_cases q : c < R.length
      · have g := h.gt c c0 q
        have ha := hL.aft c c0 q
        have he := h.eq c c0 q
        have hsl : sliceD (some c) (some (A c)) (mk R) = some (mk (sg R c (A c))) := sliceD_mkS (by have := LIM_eq; omega)
        simp (disch := walk_at "pd") [-Wp_ite, q, ha, hsl]
        refine ⟨P ++ [sg R c (A c)], A c, ⟨rfl, by simp⟩, by omega, ?_, by rw [List.length_append, List.length_singleton]; omega⟩
        rw [he] at hP
        rw [List.append_assoc]
        exact hP
      · simp (disch := walk_at "pd") [-Wp_ite, q]
        exact ⟨P, c, ⟨rfl, rfl⟩, by omega, hP, by omega⟩
    · rintro e ⟨P, c, s8, rfl, ⟨⟨c0, cn⟩, hc⟩, hP, hPl⟩
      have : c = R.length := by omega
      rw [this, h.fin, List.append_nil] at hP
      rw [← hP]
      simp (disch := walk_at "pd") [-Wp_ite]
theorem lit_dx : (".x" : Str) = mkS [46, 120] := by decide +kernel
theorem lit_pat : ("..x.xx.." : Str) = mkS [46, 46, 120, 46, 120, 120, 46, 46] := by decide +kernel
theorem e_lrow {ds : List Int} (dr : DR ds 28) {n : Int} (n0 : 0 ≤ n) (n24 : n ≤ 24) : ∃ R : List Nat, (R.length : Int) ≤ 24 ∧ Ff_law_row [.list (ds.map .int), .int n] = some (mk R) := by
  have hl := dr.len
  unfold Ff_law_row fnV
  suffices hh : ∃ d, outV _ = some d ∧ ∃ R : List Nat, (R.length : Int) ≤ 24 ∧ d = mk R by
    obtain ⟨d, h1, R, h2, rfl⟩ := hh
    exact ⟨R, h2, h1⟩
  refine give_of ?_
  simp (disch := walk_at "pd") [-Wp_ite]
  rw [lcV_all (fun j => .str (mkS [nth [46, 120] (nth ds (2 + j) / 5 % 2)])) (by walk_at "ll") fun j hj => by
    rw [mem_rg] at hj
    have x0 := Int.emod_nonneg (nth ds (2 + j) / 5) (show (2 : Int) ≠ 0 by decide)
    have x1 := Int.emod_lt_of_pos (nth ds (2 + j) / 5) (show (0 : Int) < 2 by decide)
    simp (disch := walk_at "pd") [lit_dx]]
  have ej := joinF_chars (ys := rg 0 n) (f := fun j => nth [46, 120] (nth ds (2 + j) / 5 % 2)) (by rw [rg_length]; omega)
  obtain ⟨G, eG⟩ : ∃ G, G = (rg 0 n).map fun j => nth [46, 120] (nth ds (2 + j) / 5 % 2) := ⟨_, rfl⟩
  have hG : (G.length : Int) = n := by rw [eG, List.length_map, rg_length]; omega
  rw [← eG] at ej
  have st0 := Int.emod_nonneg (nth ds 1) (show n + 1 ≠ 0 by omega)
  have st1 := Int.emod_lt_of_pos (nth ds 1) (show 0 < n + 1 by omega)
  have f0 := Int.emod_nonneg (nth ds 1) (show (4 : Int) ≠ 0 by decide)
  have f1 := Int.emod_lt_of_pos (nth ds 1) (show (0 : Int) < 4 by decide)
  have cut : ∀ W : List Nat, W.length ≤ 100000 → sliceD none (some n) (mk W) = some (mk (sliceL W none (some n))) ∧ ((sliceL W none (some n)).length : Int) ≤ 24 := fun W hW => ⟨sliceD_mkS (by have := LIM_eq; omega), by
    rw [sliceL_none n0, List.length_take]; omega⟩
  simp (disch := walk_at "pd") [-Wp_ite, lit_empty, ej]
  clear ej
  generalize ha : nth ds 1 % (n + 1) = a at *
  generalize hb : nth ds 1 % 4 = b at *
  by_cases q1 : nth ds 0 % 4 = 1 ∧ 0 < n
  · obtain ⟨q1, q2⟩ := q1
    have hs : sliceD none (some (1 + b)) (mk G) = some (mk (sliceL G none (some (1 + b)))) := sliceD_mkS (by have := LIM_eq; omega)
    have hsl : (sliceL G none (some (1 + b))).length ≤ 24 := by rw [sliceL_none (by omega), List.length_take]; omega
    generalize sliceL G none (some (1 + b)) = P at *
    have hrep : ∀ k : Nat, (List.replicate k P).flatten.length = k * P.length := fun k => by
      induction k with
      | zero => simp
      | succ k ih => rw [List.replicate_succ, List.flatten_cons, List.length_append, ih, Nat.succ_mul]; omega
    have hm : mulP (mk P) (.int 24) = some (mk (List.replicate 24 P).flatten) := mulP_mkS (by decide) (by decide) (by have := LIM_eq; simp; omega)
    have hml : (List.replicate 24 P).flatten.length ≤ 100000 := by rw [hrep]; omega
    obtain ⟨c1, c2⟩ := cut _ hml
    generalize (List.replicate 24 P).flatten = W at *
    generalize sliceL W none (some n) = Z at *
    simp (disch := walk_at "pd") [-Wp_ite, q1, q2, hs, hm, c1, hb]
    exact c2
  · rw [if_neg q1]
    by_cases q2 : nth ds 0 % 4 = 2
    · have hs : sliceD none (some a) (mk G) = some (mk (sliceL G none (some a))) := sliceD_mkS (by have := LIM_eq; omega)
      have hs2 : sliceD (some a) none (mk G) = some (mk (sliceL G (some a) none)) := sliceD_mkS (by have := LIM_eq; omega)
      have hn1 := sliceL_len G none (some a)
      have hn2 := sliceL_len G (some a) none
      generalize sliceL G none (some a) = P at *
      generalize sliceL G (some a) none = P2 at *
      obtain ⟨c1, c2⟩ := cut (P ++ [46, 46, 120, 46, 120, 120, 46, 46] ++ P2) (by simp; omega)
      simp only [List.append_assoc, List.cons_append, List.nil_append] at c1 c2
      generalize hW : P ++ 46 :: 46 :: 120 :: 46 :: 120 :: 120 :: 46 :: 46 :: P2 = W at *
      generalize sliceL W none (some n) = Z at *
      simp (disch := walk_at "pd") [-Wp_ite, q2, hs, hs2, ha, lit_pat]
      rw [hW, c1]
      simp
      exact c2
    · simp (disch := walk_at "pd") [-Wp_ite, q2]
      omega
/-- the places at odds with their mirror -/
def odd (R : List Nat) (i : Int) : Bool := decide (¬ nth R i = nth R (R.length - 1 - i))
def cnt (R : List Nat) (a b : Int) : Nat := ((rg a b).filter (odd R)).length
theorem cnt_up {R : List Nat} : ∀ h : Nat, (h : Int) ≤ R.length → cnt R (R.length - h) R.length = cnt R 0 h := fun h => by
  induction h with
  | zero => intro _; unfold cnt; rw [rg_eq_nil (by omega), rg_eq_nil (by omega)]
  | succ h ih =>
    intro hh
    have i1 := ih (by omega)
    unfold cnt at i1 ⊢
    rw [rg_cons (a := (R.length : Int) - ((h + 1 : Nat) : Int)) (by omega), show (R.length : Int) - ((h + 1 : Nat) : Int) + 1 = R.length - h by omega, show ((h + 1 : Nat) : Int) = (h : Int) + 1 by omega, rg_snoc (by omega), List.filter_append, List.length_append, ← i1, List.filter_cons]
    have e : odd R (R.length - ((h : Int) + 1)) = odd R h := by
      unfold odd
      rw [show (R.length : Int) - 1 - (R.length - ((h : Int) + 1)) = h by omega, show (R.length : Int) - ((h : Int) + 1) = R.length - 1 - h by omega]
      rw [decide_eq_decide]
      exact ⟨fun z w => z w.symm, fun z w => z w.symm⟩
    rw [e, List.filter_cons]
    cases odd R h <;> simp <;> omega
theorem cnt_all (R : List Nat) : cnt R 0 R.length = 2 * cnt R 0 ((R.length : Int) / 2) := by
  have h := cnt_up (R := R) (R.length / 2) (by omega)
  rw [show ((R.length / 2 : Nat) : Int) = (R.length : Int) / 2 by omega] at h
  generalize hh : (R.length : Int) / 2 = m at *
  have e1 : cnt R 0 R.length = cnt R 0 m + cnt R m R.length := by
    unfold cnt
    rw [rg_append (a := 0) (m := m) (b := R.length) (by omega) (by omega), List.filter_append, List.length_append]
  by_cases q : (R.length : Int) - m = m
  · rw [e1, ← h, q]; omega
  · have e2 : cnt R m R.length = cnt R (R.length - m) R.length := by
      unfold cnt
      rw [rg_cons (a := m) (by omega), List.filter_cons, show (R.length : Int) - m = m + 1 by omega]
      have : odd R m = false := by
        unfold odd
        rw [show (R.length : Int) - 1 - m = m by omega]
        simp
      rw [this]
      rfl
    rw [e1, e2, h]; omega
theorem cnt_zero (R : List Nat) : cnt R 0 R.length = 0 ↔ palB R = true := by
  have h := plB_iff (R := R) (b := 0) (e := R.length) (Int.le_refl 0) (by omega) (Int.le_refl _)
  have e : sg R 0 R.length = R := by rw [sg_nat (by omega) (by omega)]; simp
  unfold plB at h
  rw [e] at h
  rw [h]
  unfold cnt
  rw [List.length_eq_zero_iff, List.filter_eq_nil_iff]
  constructor
  · intro g i i0 i1
    have := g i (by rw [mem_rg]; omega)
    unfold odd at this
    rw [show 0 + (R.length : Int) - 1 - i = R.length - 1 - i by omega]
    simpa using this
  · intro g i hi
    rw [mem_rg] at hi
    have := g i hi.1 hi.2
    rw [show 0 + (R.length : Int) - 1 - i = R.length - 1 - i by omega] at this
    unfold odd
    simpa using this
theorem odd_step {R : List Nat} (hR : R.length ≤ 100) {i : Int} (i0 : 0 ≤ i) (i1 : i < R.length) : neP (mk [nth R i]) (mk [nth R (R.length - 1 - i)]) = some (.bool (odd R i)) := by
  unfold odd
  simp [mk_inj]
theorem e_changes {R : List Nat} (hR : R.length ≤ 100) : Ff_fewest_changes [mk R] = some (.int (cnt R 0 ((R.length : Int) / 2))) := by
  unfold Ff_fewest_changes fnV
  refine out_of ?_
  simp (disch := walk_at "pd") [-Wp_ite]
  rw [lcV_map (odd R) .int (by walk_at "ll") fun i hi => by
    rw [mem_rg] at hi
    have h1 := odd_step hR (i := i) (by omega) (by omega)
    generalize odd R i = o at *
    simp (disch := walk_at "pd") [h1]]
  unfold cnt
  have hl := List.length_filter_le (odd R) (rg 0 ((R.length : Int) / 2))
  rw [rg_length] at hl
  generalize (rg 0 ((R.length : Int) / 2)).filter (odd R) = G at *
  simp (disch := walk_at "pd")
theorem ok_tx {F : TL} (h : F.length ≤ 4000) : okD 8 (.tuple (txE F)) := by
  rw [okD_tuple, List.length_map]
  refine ⟨by have := LIM_eq; omega, fun x hx => ?_⟩
  obtain ⟨i, _, rfl⟩ := List.mem_map.mp hx
  exact okD_str 6 _
theorem ok_intO (o : Option Int) : okD 8 (intO o) := by cases o with | none => exact okD_none 7 | some x => exact okD_int 7 x
theorem e_part {P : List Nat} (hP : P.length ≤ 30) : ∃ F : TL, F.length ≤ 30 ∧ Ff_told_split [mk P] = some (.tuple (txE F)) ∧ Ff_law_split [mk P] = some (.tuple (txE F)) := by
  obtain ⟨B, A, h⟩ := bst_ex P P.length (Int.le_refl _)
  rw [show (P.length : Int) - P.length = 0 by omega] at h
  have hs := h.size P.length 0 (by omega) (by omega)
  exact ⟨(B 0).2, by omega, e_split hP h, e_lsplit hP h⟩
theorem e_law {ns : List Int} (hns : ns.length ≤ 63) : Ff_law [.list (ns.map .int)] = some (.bool true) := by
  unfold Ff_law fnV
  refine out_of ?_
  simp (disch := walk_at "pd") [-Wp_ite]
  refine wp_range (a := 0) (b := 3) (fun i e => ∃ (s1 s2 s3 s4 s5 s6 s7 s8 s9 : Sl), e = [.va (.list (ns.map .int)), s1, s2, s3, s4, s5, s6, s7, s8, s9]) ⟨_, _, _, _, _, _, _, _, _, rfl⟩ ?_ ?_
  · rintro k e k0 hk ⟨s1, s2, s3, s4, s5, s6, s7, s8, s9, rfl⟩
    obtain ⟨c, hc⟩ := e_cell (ns := ns) (k := k) (by omega)
    obtain ⟨ds, dr, hd⟩ := draws_dr c (n := 28) (by decide) (by decide)
    have hl := dr.len
    have hm : ∃ m : Int, itemD (.tuple [.int 25, .int 15, .int 9]) (.int k) = some (.int m) ∧ 1 ≤ m ∧ m ≤ 25 := by
      have : k = 0 ∨ k = 1 ∨ k = 2 := by omega
      rcases this with rfl | rfl | rfl <;> exact ⟨_, rfl, by decide, by decide⟩
    obtain ⟨m, hm, m1, m2⟩ := hm
    have z0 := Int.emod_nonneg (nth ds 27) (show m ≠ 0 by omega)
    have z1 := Int.emod_lt_of_pos (nth ds 27) (show 0 < m by omega)
    obtain ⟨R, hR, er⟩ := e_lrow dr (n := nth ds 27 % m) z0 (by omega)
    have t1 := e_two (U := R) (by omega)
    have t2 := e_two (U := R ++ R.reverse) (by rw [List.length_append, List.length_reverse]; omega)
    rw [show palB (R ++ R.reverse) = true by unfold palB; simp] at t2
    have ch := e_changes (R := R) (by omega)
    have c2 := cnt_all R
    have c3 := cnt_zero R
    have po := e_lpoor (R := R) (by omega)
    have p1 := e_poor1 (R := R) (by omega)
    have ri := e_rich (R := R) (by omega)
    obtain ⟨K, hK, k1⟩ := e_stret (R := R) (by omega)
    obtain ⟨K', hK', k2⟩ := e_lstret (R := R) (by omega)
    have hKK := hK'.uniq hK
    subst hKK
    have hKl := hK.len
    have hco := count_all hK
    have okK := ok_tx hKl
    have hpal : palB R = decide (R = R.reverse) := rfl
    rw [hpal] at t1 c3
    rw [decide_eq_true_eq] at c3
    have ok1 := okD_bool 7 (decide (R = R.reverse))
    have ok2 := okD_bool 7 true
    have hpo : poO R = ((rg 0 R.length).filter (poorB R)).head? := by unfold poO; rw [List.head?_filter]
    have hpl := List.length_filter_le (poorB R) (rg 0 R.length)
    rw [rg_length] at hpl
    simp (disch := walk_at "pd") [-Wp_ite, hc, hd, hm, er, t1, t2, e_is 8 _ _ ok1, e_is 8 _ _ ok2]
    rw [lcV_map (odd R) .int (by walk_at "ll") fun i hi => by
      rw [mem_rg] at hi
      have h1 := odd_step (R := R) (by omega) (i := i) (by omega) (by omega)
      generalize odd R i = o at *
      simp (disch := walk_at "pd") [h1]]
    have hcl : ((rg 0 R.length).filter (odd R)).length = cnt R 0 R.length := rfl
    have hcn := List.length_filter_le (odd R) (rg 0 R.length)
    rw [rg_length] at hcn
    generalize (rg 0 R.length).filter (odd R) = OD at *
    have hhalf : (OD.length : Int) / 2 = cnt R 0 ((R.length : Int) / 2) := by omega
    generalize cnt R 0 ((R.length : Int) / 2) = cc at *
    have hz : (R = R.reverse) ↔ cc = 0 := by rw [← c3]; omega
    have okc := okD_int 7 (cc : Int)
    have h0G : (rg 0 R.length).filter (poorB R) = [] ∨ ∃ a r, (rg 0 R.length).filter (poorB R) = a :: r := by
      cases (rg 0 R.length).filter (poorB R) with
      | nil => exact .inl rfl
      | cons a r => exact .inr ⟨a, r, rfl⟩
    generalize (rg 0 R.length).filter (poorB R) = G at *
    have okp := ok_intO G.head?
    rw [hpo] at p1
    have okr := okD_bool 7 (decide (G = []))
    simp (disch := walk_at "pd") [-Wp_ite, hhalf, ch, e_is 8 _ _ okc, hz, po, k1, k2, e_is 8 _ _ okK]
    rw [if_pos (show ((K'.length : Nat) : Int) = R.length - G.length by omega)]
    have hD : (if 0 < G.length then some (PyData.int (nth G 0)) else some PyData.none) = some (intO G.head?) := by
      rcases h0G with z | ⟨a, r, z⟩
      · rw [z]; rfl
      · rw [z]; rfl
    rw [hD]
    clear hD h0G
    generalize intO G.head? = PD at *
    have s1 : sliceD none (some 14) (mk R) = some (mk (sliceL R none (some 14))) := sliceD_mkS (by have := LIM_eq; omega)
    have s2 : sliceD none (some 7) (mk R) = some (mk (sliceL R none (some 7))) := sliceD_mkS (by have := LIM_eq; omega)
    have s3 : ∀ a : Int, sliceD (some a) none (mk R) = some (mk (sliceL R (some a) none)) := fun a => sliceD_mkS (by have := LIM_eq; omega)
    have l1 := sliceL_len R none (some 14)
    have l2 : (sliceL R none (some 7)).length ≤ 7 := by
      rw [sliceL_none (by decide)]
      exact List.length_take_le _ _
    have l3 : ∀ a : Int, (sliceL R (some a) none).length ≤ R.length := fun a => sliceL_len R _ _
    simp (disch := walk_at "pd") [-Wp_ite, p1, ri, e_is 8 _ _ okp, e_is 8 _ _ okr, s1, s2, s3]
    have l4 := l3 (if 9 < (R.length : Int) then (R.length : Int) - 9 else 0)
    generalize sliceL R (some (if 9 < (R.length : Int) then (R.length : Int) - 9 else 0)) none = X3 at *
    generalize sliceL R none (some 7) = X2 at *
    generalize sliceL R none (some 14) = X1 at *
    rw [show [mk X1, PyData.str (mkS (X2 ++ X2.reverse)), mk X3] = [X1, X2 ++ X2.reverse, X3].map mk from rfl]
    have hall : ∀ x ∈ [X1, X2 ++ X2.reverse, X3], x.length ≤ 30 := fun x hx => by
      simp only [List.mem_cons, List.not_mem_nil, or_false] at hx
      rcases hx with rfl | rfl | rfl
      · omega
      · rw [List.length_append, List.length_reverse]; omega
      · omega
    refine wp_map (fun dn r e => ∃ s9 : Sl, e = [.va (.list (ns.map .int)), .va (.int k), .va (.list (ds.map .int)), .va (mk R), .va (.int R.length), .va (.int cc), s6, .va (.list (G.map .int)), .va (.tuple (txE K')), s9]) ⟨_, rfl⟩ ?_ ?_
    · rintro dn x r e hx ⟨s9, rfl⟩
      have hxl := hall x (by rw [hx]; simp)
      obtain ⟨F, hF, f1, f2⟩ := e_part hxl
      have okF := ok_tx (F := F) (by omega)
      simp (disch := walk_at "pd") [-Wp_ite, f1, f2, e_is 8 _ _ okF]
    · rintro e ⟨s9, rfl⟩
      exact ⟨_, _, _, _, _, _, _, _, _, rfl⟩
  · rintro e ⟨s1, s2, s3, s4, s5, s6, s7, s8, s9, rfl⟩
    simp (disch := walk_at "pd") [-Wp_ite]
end Pu

namespace Pu
open PySem PySem.Spec PyProof.Rows L2
theorem law_fd {l : PySem.W.OpenLaw} {w : PySem.World} {K : PySem.W.Frag} {h : Heap} {mg : Str → Option Value} {fa : Addr} (X : K.In h) (G : h.Ns mainGlobals mg) (hfa : mg "law" = some (.ref fa))
    (z_abs : PySem.W.nsIn K mainGlobals "abs" = some none)
    (z_all : PySem.W.nsIn K mainGlobals "all" = some none)
    (z_any : PySem.W.nsIn K mainGlobals "any" = some none)
    (z_bool : PySem.W.nsIn K mainGlobals "bool" = some none)
    (z_int : PySem.W.nsIn K mainGlobals "int" = some none)
    (z_isinstance : PySem.W.nsIn K mainGlobals "isinstance" = some none)
    (z_len : PySem.W.nsIn K mainGlobals "len" = some none)
    (z_max : PySem.W.nsIn K mainGlobals "max" = some none)
    (z_min : PySem.W.nsIn K mainGlobals "min" = some none)
    (z_range : PySem.W.nsIn K mainGlobals "range" = some none)
    (z_sorted : PySem.W.nsIn K mainGlobals "sorted" = some none)
    (z_str : PySem.W.nsIn K mainGlobals "str" = some none)
    (z_tuple : PySem.W.nsIn K mainGlobals "tuple" = some none)
    (df_is_two_sided : DefAt K "is_two_sided" (topS 1))
    (df_told_split : DefAt K "told_split" (topS 2))
    (df_sided_stretches : DefAt K "sided_stretches" (topS 3))
    (df_longest_behind : DefAt K "longest_behind" (topS 4))
    (df_told_poor : DefAt K "told_poor" (topS 5))
    (df_is_rich : DefAt K "is_rich" (topS 6))
    (df_fewest_changes : DefAt K "fewest_changes" (topS 7))
    (df_law_cell : DefAt K "_law_cell" (topS 9))
    (df_law_draws : DefAt K "_law_draws" (topS 10))
    (df_law_is_integer : DefAt K "_law_is_integer" (topS 11))
    (df_law_is : DefAt K "_law_is" (topS 12))
    (df_law_row : DefAt K "_law_row" (topS 13))
    (df_law_split : DefAt K "_law_split" (topS 14))
    (df_law_stretches : DefAt K "_law_stretches" (topS 15))
    (df_law_poor : DefAt K "_law_poor" (topS 16))
    (df_law : DefAt K "law" (topS 17))
    : ∃ fd : FuncData, (∀ (s : Shared) (u : Value), BindsTo s fd ⟨[u], []⟩ [("script", u)]) ∧ ∀ base : Heap, K.In base → base.Ns mainGlobals mg → FnOk l.prog w K mg base CX0 23 fa fd ["script"] (spF K (fun _ => False) 1 Ff_law) := by
  have lk := all_links X G z_abs z_all z_any z_bool z_int z_isinstance z_len z_max z_min z_range z_sorted z_str z_tuple df_is_two_sided df_told_split df_sided_stretches df_longest_behind df_told_poor df_is_rich df_fewest_changes df_law_cell df_law_draws df_law_is_integer df_law_is df_law_row df_law_split df_law_stretches df_law_poor
  exact law_end hfa df_law X G (fun _ _ _ _ _ _ s v => .of_eq rfl) rfl Bf_law (by decide +kernel) (by decide +kernel) fun base => world_all lk
end Pu
open PySem PySem.W PyProof.Rows
set_option maxHeartbeats 0 in
theorem PySem.Challenge.cw_shadehall_k47_whole_rows_alike_from_both_holds : PySem.Challenge.rw_shadehall_k47_whole_rows_alike_from_both.Holds := by
  w_on; o_law; k_head; (case hw => w_witness2)
  k_fill
  refine L2.walk_of (l := PySem.Challenge.rw_shadehall_k47_whole_rows_alike_from_both) (n := 63) (k := 23) (x := "script") (CX := fun _ => L2.CX0) (sp := fun w => Pu.spF _ (fun _ => False) 1 Pu.Ff_law) rfl (by decide) rfl ⟨rfl, by decide, by decide⟩ (fun w h Y => PySem.W.kIn_of Y) ?F (fun _ H a ns hl hO hS => Pu.script_end hO hS (Pu.e_law hl)) (fun _ _ _ _ _ h => h)
  case F =>
    intro w mg fa h KX G hmg
    refine' Pu.law_fd KX G hmg ?z_abs ?z_all ?z_any ?z_bool ?z_int ?z_isinstance ?z_len ?z_max ?z_min ?z_range ?z_sorted ?z_str ?z_tuple (Pu.defAt_mk ?af_is_two_sided ?lf_is_two_sided ?cf_is_two_sided ?kf_is_two_sided) (Pu.defAt_mk ?af_told_split ?lf_told_split ?cf_told_split ?kf_told_split) (Pu.defAt_mk ?af_sided_stretches ?lf_sided_stretches ?cf_sided_stretches ?kf_sided_stretches) (Pu.defAt_mk ?af_longest_behind ?lf_longest_behind ?cf_longest_behind ?kf_longest_behind) (Pu.defAt_mk ?af_told_poor ?lf_told_poor ?cf_told_poor ?kf_told_poor) (Pu.defAt_mk ?af_is_rich ?lf_is_rich ?cf_is_rich ?kf_is_rich) (Pu.defAt_mk ?af_fewest_changes ?lf_fewest_changes ?cf_fewest_changes ?kf_fewest_changes) (Pu.defAt_mk ?af_law_cell ?lf_law_cell ?cf_law_cell ?kf_law_cell) (Pu.defAt_mk ?af_law_draws ?lf_law_draws ?cf_law_draws ?kf_law_draws) (Pu.defAt_mk ?af_law_is_integer ?lf_law_is_integer ?cf_law_is_integer ?kf_law_is_integer) (Pu.defAt_mk ?af_law_is ?lf_law_is ?cf_law_is ?kf_law_is) (Pu.defAt_mk ?af_law_row ?lf_law_row ?cf_law_row ?kf_law_row) (Pu.defAt_mk ?af_law_split ?lf_law_split ?cf_law_split ?kf_law_split) (Pu.defAt_mk ?af_law_stretches ?lf_law_stretches ?cf_law_stretches ?kf_law_stretches) (Pu.defAt_mk ?af_law_poor ?lf_law_poor ?cf_law_poor ?kf_law_poor) (Pu.defAt_mk ?af_law ?lf_law ?cf_law ?kf_law)
    (case z_abs => k_is)
    (case z_all => k_is)
    (case z_any => k_is)
    (case z_bool => k_is)
    (case z_int => k_is)
    (case z_isinstance => k_is)
    (case z_len => k_is)
    (case z_max => k_is)
    (case z_min => k_is)
    (case z_range => k_is)
    (case z_sorted => k_is)
    (case z_str => k_is)
    (case z_tuple => k_is)
    (case af_is_two_sided => k_is); (case lf_is_two_sided => k_is); (case cf_is_two_sided => k_is); (case kf_is_two_sided => k_is)
    (case af_told_split => k_is); (case lf_told_split => k_is); (case cf_told_split => k_is); (case kf_told_split => k_is)
    (case af_sided_stretches => k_is); (case lf_sided_stretches => k_is); (case cf_sided_stretches => k_is); (case kf_sided_stretches => k_is)
    (case af_longest_behind => k_is); (case lf_longest_behind => k_is); (case cf_longest_behind => k_is); (case kf_longest_behind => k_is)
    (case af_told_poor => k_is); (case lf_told_poor => k_is); (case cf_told_poor => k_is); (case kf_told_poor => k_is)
    (case af_is_rich => k_is); (case lf_is_rich => k_is); (case cf_is_rich => k_is); (case kf_is_rich => k_is)
    (case af_fewest_changes => k_is); (case lf_fewest_changes => k_is); (case cf_fewest_changes => k_is); (case kf_fewest_changes => k_is)
    (case af_law_cell => k_is); (case lf_law_cell => k_is); (case cf_law_cell => k_is); (case kf_law_cell => k_is)
    (case af_law_draws => k_is); (case lf_law_draws => k_is); (case cf_law_draws => k_is); (case kf_law_draws => k_is)
    (case af_law_is_integer => k_is); (case lf_law_is_integer => k_is); (case cf_law_is_integer => k_is); (case kf_law_is_integer => k_is)
    (case af_law_is => k_is); (case lf_law_is => k_is); (case cf_law_is => k_is); (case kf_law_is => k_is)
    (case af_law_row => k_is); (case lf_law_row => k_is); (case cf_law_row => k_is); (case kf_law_row => k_is)
    (case af_law_split => k_is); (case lf_law_split => k_is); (case cf_law_split => k_is); (case kf_law_split => k_is)
    (case af_law_stretches => k_is); (case lf_law_stretches => k_is); (case cf_law_stretches => k_is); (case kf_law_stretches => k_is)
    (case af_law_poor => k_is); (case lf_law_poor => k_is); (case cf_law_poor => k_is); (case kf_law_poor => k_is)
    (case af_law => k_is); (case lf_law => k_is); (case cf_law => k_is); (case kf_law => k_is)

